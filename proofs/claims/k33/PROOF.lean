import PyProof.Rows.All
import Wide.All
import OpenK.AllK
import Wide.FinOn
import Lean
import KE.KStateDown
import HandS.ForMost
import HandS.Exc
import HandS.TryOnly
import HandS.ExcOwn
import HandS.WordsExc
import HandS.ExcInit
import HandS.ExcField
import HandS.ExcIs
import HandS.Star
import HandS.Defaults
import HandS.MakeKw
import HandS.ClsMeth
import HandS.Property
import HandS.CallLocal
import HandS.CallSlots
import HandS.Lambda
import HandS.IsInst
import HandS.Strs
import HandS.SetFor
import HandS.TupAny
import HandS.Wide
import HandS.Zip
import HandS.Flow
import HandS.HeadHook4
import HandS.HeadWalk
import HandS.EndTab
import HandS.Head0
import HandS.Head1
import HandS.Head2
import HandS.SortKw
import KE.KMinKey
import KE.GoesMore
import KE.GoesEnum
import HandS.HeadNt
import HandS.Steps
import KE.OsArith
import KE.BitLaws
import PySem.Challenge.RW_usualdays_k33_whole_derivations_made
set_option Elab.async false
set_option linter.all false
set_option maxRecDepth 100000
set_option maxHeartbeats 4000000
namespace K33
open PySem PySem.Spec PyProof.Rows L2

/-! ## calls by a positional promise -/
/-- the def named x of the module keeps sp, at most k deep -/
structure Fnc (P : Program) (w : World) (K : PySem.W.Frag) (mg : Str → Option Value) (base : Heap) (k : Nat) (x : Str) (sp : Sp) : Prop where
  run : FnR P w K mg base (L2.CX P w) k (He.ga K x) sp
  mg : mg x = some (.ref (He.ga K x))
  kp : PySem.W.keepIn K (.ref (He.ga K x)) = true
/-- the reading of a call -/
def tCl (sp : Sp) (E : XK) (t : TA) : TE := fun σ H Q => t σ H fun vs H1 => sp vs H1 Q E
section
variable {X : Cx} {k j : Nat} {x : Str} {sp : Sp} {E : XK} {t : TA} {e : Expr} {es : List Expr} {p pos : Pos}
theorem pe_f (c : Fnc X.prog X.w X.K X.mg X.base k x sp) (hr : Room j X.A) (hk : k ≤ j) (hg : Gl X x) (hx : Passes (L2.CX X.prog X.w) X E) (ha : PA X (e :: es) t) (hdb : (x == ("__debug__" : Str)) = false := by decide)
    (he : starEach (e :: es) X.env = (false, eval e X.env) :: starEach es X.env := by rfl) (hpl : (backTo pos (starEach es X.env)).any (·.1) = false := by rfl) :
    PE X (.Call (.Name x p) (e :: es) [] pos) (tCl sp E t) := by
  refine ⟨fun pins s σ H Q I h => ?_⟩
  have step : ∀ us s1, AP X pins σ (fun vs H1 => sp vs H1 Q E) us s1 → X.K.In s1.heap ∧ wpAny (model X.prog X.w) X.A (call (.ref (He.ga X.K x)) us) (EP X pins σ Q) X.xe s1 := by
    rintro us s1 ⟨vs, H1, I1, r, q⟩
    exact ⟨I1.kIn, wpAny_call (run_fnR c.run (hr.mono hk) hx I1 r q)⟩
  exact wpAny_Call_Name_kw (ld_glob I hg c.mg (PySem.W.callWith_K (h₀ := X.base) I.ok.mod.kin c.kp (thn (ha.run pos pins s σ H _ I h) step) he hpl) hdb)
/-- the same without arguments -/
theorem pe_f0 (c : Fnc X.prog X.w X.K X.mg X.base k x sp) (hr : Room j X.A) (hk : k ≤ j) (hg : Gl X x) (hx : Passes (L2.CX X.prog X.w) X E) (hdb : (x == ("__debug__" : Str)) = false := by decide) :
    PE X (.Call (.Name x p) [] [] pos) (tCl sp E tNil) := by
  refine ⟨fun pins s σ H Q I h => ?_⟩
  exact wpAny_Call_Name_kw (ld_glob I hg c.mg (PySem.W.callWith_K0 I.kIn c.kp (wpAny_call (run_fnR c.run (hr.mono hk) hx I (us := []) .nil h))) hdb)
end

/-! ## own __getitem__, __len__, __add__ -/
section
variable {X : Cx} {pins : List (Addr × Obj)} {σ : L2.St} {H : Hp} {s : Shared} {k j : Nat} {f C : Addr} {sp : Sp} {E : XK} {Q : VK}
/-- a promise run one level in -/
theorem run_in (F : FnR X.prog X.w X.K X.mg X.base (L2.CX X.prog X.w) k f sp) (hr : Room (k + 1) X.A) (hx : Passes (L2.CX X.prog X.w) X E) (I : Inv X pins σ H s) {us : List Value} {vs : List V} (r : Vals vs us) (h : sp vs H Q E) :
    wpAny (model X.prog X.w) X.A.in1 (call (.ref f) us) (EP X pins σ Q) X.xe s := by
  refine wpAny_call (codeAny_mono (F X.A.in1 X.stack s H us vs Q E hr.in1 I.env0.in1 r h) fun z s' hq => ?_)
  match z, hq with
  | .error _, hq => exact hx _ _ _ _ _ _ I hq
  | .ok (.ret _), hq => exact I.after hq
/-- what the class must have for o[i] by its own def at f -/
structure OwnSub (K : PySem.W.Frag) (C f : Addr) : Prop where
  at_ : PySem.W.findIn K (.ref C) "__getitem__" = some (some (.ref f))
  fn : PySem.W.fnIn K f = true
  isf : PySem.W.isFn K (.ref f) = true
def rSubO (C : Addr) (sp : Sp) (E : XK) : R2 := fun x y H Q => ∃ a dx fs, x = .ref a ∧ H a = some (.ins C dx fs) ∧ sp [.ref a, y] H Q E
theorem inst_of (I : Inv X pins σ H s) {a dx : Addr} {fs : List (Str × V)} (ea : H a = some (.ins C dx fs)) : ∃ od, PySem.W.InstAt s.heap a (PySem.W.instObj C dx) C (some od) := by
  obtain ⟨_, O, _⟩ := ins_get I.hok ea
  obtain ⟨od, J, _⟩ := O.look
  exact ⟨od, J⟩
theorem pe_subO {a b : Expr} {ta tb : TE} {pos : Pos} (o : OwnSub X.K C f) (F : FnR X.prog X.w X.K X.mg X.base (L2.CX X.prog X.w) k f sp) (hr : Room j X.A) (hk : k + 1 ≤ j) (hx : Passes (L2.CX X.prog X.w) X E) (ha : PE X a ta) (hb : PE X b tb)
    (hs : ∀ o i, subscripted b true o i = runValue (.builtin "lifetime.subscript" ⟨[o, i], []⟩) := by intro _ _; with_unfolding_all rfl) : PE X (.Subscript a b pos) (tOp (rSubO C sp E) ta tb) := by
  refine ⟨fun pins s σ H Q I h => ?_⟩
  refine Subscript_ (binT ha hb I h fun v u s2 x y H2 I2 rx ry q => ?_)
  obtain ⟨p, dx, fs, ex, ea, q⟩ := q
  subst ex
  obtain rfl : v = Value.ref p := rx
  obtain ⟨od, J⟩ := inst_of I2 ea
  obtain ⟨m, fr⟩ := I2.fr
  exact PySem.W.sub_K fr I2.ok.mod.kin J o.at_ o.fn o.isf (run_in F (hr.mono hk) hx I2 (us := [.ref p, u]) (vs := [.ref p, y]) (.cons rfl (.cons ry .nil)) q) (hs _ _)
/-- len(o) by the class's own def at f -/
def rLenO (C : Addr) (sp : Sp) (E : XK) : List V → Hp → VK → Prop := fun vs H Q => ∃ a dx fs, vs = [V.ref a] ∧ H a = some (.ins C dx fs) ∧ sp [.ref a] H (fun v H' => ∃ n : Nat, v = .int n ∧ n < 1000000 ∧ Q (.int n) H') E
theorem cr_lenO (hs : PySem.W.findIn X.K (.ref C) "__len__" = some (some (.ref f))) (hf : PySem.W.isFn X.K (.ref f) = true) (F : FnR X.prog X.w X.K X.mg X.base (L2.CX X.prog X.w) k f sp) (hr : Room j X.A) (hk : k + 1 ≤ j) (hx : Passes (L2.CX X.prog X.w) X E) :
    CallR X (.builtin "len") (rLenO C sp E) := by
  intro pins s σ H vs us Q I r h
  obtain ⟨a, dx, fs, ev, ea, q⟩ := h
  subst ev
  obtain ⟨u, rfl, ru⟩ := vals1 r
  obtain rfl : u = Value.ref a := ru
  obtain ⟨od, J⟩ := inst_of I ea
  obtain ⟨m, fr⟩ := I.fr
  refine PySem.W.len_K fr I.ok.mod.kin J hs hf (thn (run_in F (hr.mono hk) hx I (us := [.ref a]) (vs := [.ref a]) (.cons rfl .nil) q) fun v s' hv => ?_)
  obtain ⟨z, H1, I1, rz, n, ez, hn, q1⟩ := hv
  subst ez
  obtain ⟨t, rfl⟩ := rz
  exact ⟨⟨by omega, by omega⟩, ⟨.int n, H1, I1.tok _, ⟨_, rfl⟩, q1⟩⟩
/-- o + p by the class's own def at f, both of the class at C -/
structure OwnBin (K : PySem.W.Frag) (C f : Addr) (op : Operator) : Prop where
  first : PySem.W.selfFirst K C = true
  at_ : PySem.W.findIn K (.ref C) (PySem.dunder op.info.2) = some (some (.ref f))
  isf : PySem.W.isFn K (.ref f) = true
def rBinO (C : Addr) (sp : Sp) (E : XK) : R2 := fun x y H Q => ∃ a b dx dy fs gs, x = .ref a ∧ y = .ref b ∧ H a = some (.ins C dx fs) ∧ H b = some (.ins C dy gs) ∧ sp [.ref a, .ref b] H (fun v H' => (∃ p, v = .ref p) ∧ Q v H') E
theorem op_own {op : Operator} (o : OwnBin X.K C f op) (F : FnR X.prog X.w X.K X.mg X.base (L2.CX X.prog X.w) k f sp) (hr : Room j X.A) (hk : k + 1 ≤ j) (hx : Passes (L2.CX X.prog X.w) X E) : OpR X (binaryOp op) (rBinO C sp E) := by
  intro pins s σ H x y v u Q I rx ry h
  obtain ⟨a, b, dx, dy, fs, gs, ex, ey, ea, eb, q⟩ := h
  subst ex ey
  obtain rfl : v = Value.ref a := rx
  obtain rfl : u = Value.ref b := ry
  obtain ⟨od, J⟩ := inst_of I ea
  obtain ⟨od2, J2⟩ := inst_of I eb
  obtain ⟨m, fr⟩ := I.fr
  refine PySem.W.binop_K fr I.ok.mod.kin J J2.type o.first o.at_ o.isf (wpAny_call (codeAny_mono (run_fnR F (hr.mono (Nat.le_of_succ_le hk)) hx I (us := [.ref a, .ref b]) (vs := [.ref a, .ref b]) (.cons rfl (.cons rfl .nil)) q) fun z s' hq => ?_))
  match z, hq with
  | .error _, hq => exact hq
  | .ok (.ret u), hq =>
    obtain ⟨v, H1, I1, rv, ⟨p, ev⟩, q1⟩ := hq
    subst ev
    obtain rfl : u = Value.ref p := rv
    exact ⟨.ref p, H1, I1, rfl, q1⟩
end

/-! ## a new instance by a positional promise of its class's __init__ -/
/-- the class named x: instances are made by its __init__, which keeps sp -/
structure Kls (P : Program) (w : World) (K : PySem.W.Frag) (mg : Str → Option Value) (base : Heap) (k : Nat) (x : Str) (sp : Sp) : Prop where
  run : FnR P w K mg base (L2.CX P w) k (He.ma K (He.ga K x) "__init__") sp
  mkr : Mk K (He.ga K x) (He.ma K (He.ga K x) "__init__")
  mg : mg x = some (.ref (He.ga K x))
section
variable {X : Cx} {k j : Nat} {x : Str} {sp : Sp} {E : XK} {t : TA} {e : Expr} {es : List Expr} {p pos : Pos}
theorem pe_k (c : Kls X.prog X.w X.K X.mg X.base k x sp) (hr : Room j X.A) (hk : k + 1 ≤ j) (hg : Gl X x) (hx : Passes (L2.CX X.prog X.w) X E) (ha : PA X (e :: es) t) (hdb : (x == ("__debug__" : Str)) = false := by decide)
    (he : starEach (e :: es) X.env = (false, eval e X.env) :: starEach es X.env := by rfl) (hpl : (backTo pos (starEach es X.env)).any (·.1) = false := by rfl) :
    PE X (.Call (.Name x p) (e :: es) [] pos) (StX.tMakeR (He.ga X.K x) sp E t) := StX.pe_makeR c.mkr c.run (hr.mono hk) hg c.mg hx ha hdb he hpl
end

/-! ## a method by a positional promise -/
structure Mth (P : Program) (w : World) (K : PySem.W.Frag) (mg : Str → Option Value) (base : Heap) (k : Nat) (x m : Str) (sp : Sp) : Prop where
  run : FnR P w K mg base (L2.CX P w) k (He.ma K (He.ga K x) m) sp
  cl : Cls K (He.ga K x)
  mt : Meth K (He.ga K x) m (He.ma K (He.ga K x) m)
section
variable {X : Cx} {k j : Nat} {x m : Str} {sp : Sp} {E : XK} {t : TA} {o e : Expr} {es : List Expr} {pos apos : Pos} {ta : TE} {pl : Sem Bool}
theorem pe_m (he : PE X o ta) (c : Mth X.prog X.w X.K X.mg X.base k x m sp) (hr : Room j X.A) (hk : k ≤ j) (hx : Passes (L2.CX X.prog X.w) X E) (ha : PA X (e :: es) t)
    (hst : starEach (e :: es) X.env = (false, eval e X.env) :: starEach es X.env := by rfl) (hpl : (backTo pos (starEach es X.env)).any (·.1) = false := by rfl)
    (ht : eval (.Call (.Attribute o m apos) (e :: es) [] pos) X.env = (do
      let ov ← eval o X.env
      standAt apos.atName
      let (f, first) ← holding [ov] (getMethod ov m pl)
      callWith pos f first (backTo pos (starEach (e :: es) X.env)) (backToKw pos (keywordEach [] X.env))) := by rfl) :
    PE X (.Call (.Attribute o m apos) (e :: es) [] pos) (tMethR (He.ga X.K x) m sp E ta t) := pe_methR (pl := pl) he c.cl c.mt c.run (hr.mono hk) hx ha hst hpl ht
def tM0 (C : Addr) (m : Str) (sp : Sp) (E : XK) (ta : TE) : TE := fun σ H Q => ta σ H fun x H1 => ∃ a dx fs, x = .ref a ∧ H1 a = some (.ins C dx fs) ∧ fs.lookup m = none ∧ sp [x] H1 Q E
theorem pe_m0 (he : PE X o ta) (c : Mth X.prog X.w X.K X.mg X.base k x m sp) (hr : Room j X.A) (hk : k ≤ j) (hx : Passes (L2.CX X.prog X.w) X E)
    (ht : eval (.Call (.Attribute o m apos) [] [] pos) X.env = (do
      let ov ← eval o X.env
      standAt apos.atName
      let (f, first) ← holding [ov] (getMethod ov m pl)
      callWith pos f first (backTo pos (starEach [] X.env)) (backToKw pos (keywordEach [] X.env))) := by rfl) :
    PE X (.Call (.Attribute o m apos) [] [] pos) (tM0 (He.ga X.K x) m sp E ta) := by
  refine ⟨fun pins s σ H Q I h => ?_⟩
  refine PySem.W.methodCall_KW (pl := pl) (thn (he.run pins s σ H _ I h) fun u s1 ep => ?_) ht
  obtain ⟨y, H1, I1, ry, a, dx, fs, ey, ea, l, q⟩ := ep
  subst ey
  obtain rfl : u = Value.ref a := ry
  exact getmeth_ok I1 ea c.cl c.mt l (PySem.W.callWith_K0 (first := [.ref a]) I1.kIn c.mt.kp (wpAny_call (run_fnR (us := [.ref a]) (vs := [.ref a]) c.run (hr.mono hk) hx I1 (.cons rfl .nil) q)))
/-- C.m(..), m a classmethod -/
structure Cmt (P : Program) (w : World) (K : PySem.W.Frag) (mg : Str → Option Value) (base : Heap) (k : Nat) (x m : Str) (mc : Value) (p g : Addr) (sp : Sp) : Prop where
  run : FnR P w K mg base (L2.CX P w) k g sp
  rd : ClX.CRead K (He.ga K x) mc
  mt : ClX.CMet K (He.ga K x) mc m p g
def tC0 (C : Addr) (sp : Sp) (E : XK) (ta : TE) : TE := fun σ H Q => ta σ H fun x H1 => x = .ref C ∧ sp [.ref C] H1 Q E
theorem pe_cm {mc : Value} {q g : Addr} (he : PE X o ta) (c : Cmt X.prog X.w X.K X.mg X.base k x m mc q g sp) (hr : Room j X.A) (hk : k ≤ j) (hx : Passes (L2.CX X.prog X.w) X E) (ha : PA X (e :: es) t)
    (hst : starEach (e :: es) X.env = (false, eval e X.env) :: starEach es X.env := by rfl) (hpl : (backTo pos (starEach es X.env)).any (·.1) = false := by rfl)
    (ht : eval (.Call (.Attribute o m apos) (e :: es) [] pos) X.env = (do
      let ov ← eval o X.env
      standAt apos.atName
      let (f, first) ← holding [ov] (getMethod ov m pl)
      callWith pos f first (backTo pos (starEach (e :: es) X.env)) (backToKw pos (keywordEach [] X.env))) := by rfl) :
    PE X (.Call (.Attribute o m apos) (e :: es) [] pos) (ClX.tCMeth (He.ga X.K x) sp E ta t) := ClX.pe_cmeth (pl := pl) he c.rd c.mt c.run (hr.mono hk) hx ha hst hpl ht
theorem pe_cm0 {mc : Value} {q g : Addr} (he : PE X o ta) (c : Cmt X.prog X.w X.K X.mg X.base k x m mc q g sp) (hr : Room j X.A) (hk : k ≤ j) (hx : Passes (L2.CX X.prog X.w) X E)
    (ht : eval (.Call (.Attribute o m apos) [] [] pos) X.env = (do
      let ov ← eval o X.env
      standAt apos.atName
      let (f, first) ← holding [ov] (getMethod ov m pl)
      callWith pos f first (backTo pos (starEach [] X.env)) (backToKw pos (keywordEach [] X.env))) := by rfl) :
    PE X (.Call (.Attribute o m apos) [] [] pos) (tC0 (He.ga X.K x) sp E ta) := by
  refine ⟨fun pins s σ H Q I h => ?_⟩
  refine PySem.W.methodCall_KW (pl := pl) (thn (he.run pins s σ H _ I h) fun u s1 ep => ?_) ht
  obtain ⟨y, H1, I1, ry, ey, z⟩ := ep
  subst ey
  obtain rfl : u = Value.ref (He.ga X.K x) := ry
  refine ClX.getmethcm_ok I1 c.rd c.mt fun s2 I2 => ?_
  exact PySem.W.callWith_M0 (first := []) ⟨ClX.pin_at I2, I2.kIn⟩ c.mt.fi (ClX.run_cm (us := []) (vs := []) c.run (hr.mono hk) hx I2 .nil z)
end

/-! ## set(xs) of ints -/
section
variable {X : Cx}
def rSetI (K : PySem.W.Frag) (w : World) : List V → Hp → VK → Prop := fun vs H Q => ∃ (l : Addr) (ns : List Int), vs = [V.ref l] ∧ SqL K H l (ns.map V.int) ∧ ns.length < 60 ∧
  ∀ (p : Addr) (c : Nat), c ≤ ns.length → H p = none → Q (.ref p) (upd H p (SetO w p (fun k => decide (k ∈ ns)) c))
end
end K33
namespace K33
open PySem PySem.Spec PyProof.Rows L2
section
variable {P : Program} {w : World} {A : Around} {E : Value → Shared → Prop} {s : Shared}
/-- the set object as it is made -/
def set0 (w : World) : Obj := { cls := .type "set", dict := none, data := .set #[] 0 (.fresh 0 0 (!w.params.followText "set-order")) }
/-- what the filling of a new set from a list of ints leaves -/
def Filled (w : World) (s : Shared) (ns : List Int) (s' : Shared) : Prop :=
  ∃ (h' : Heap) (tk c : Nat), s' = { s with heap := h', toks := tk } ∧ SetR w h' s.heap.objs.size (fun j => decide (j ∈ ns)) c ∧ c ≤ ns.length ∧ ∀ b o, s.heap.get? b = some o → h'.get? b = some o
set_option maxHeartbeats 6400000 in
theorem fill_set {l : Addr} {items : Array Value} (ns : List Int) (hh : A.handled = none) (hl : s.heap.IsList l items) (hit : IntsAre items.toList ns) (hb : ns.length + 1 < scanBound) :
    codeAny (model P w) A (.call (.builtin "set.__init__") ⟨[.ref s.heap.objs.size, .ref l], []⟩) (wants (fun r s2 => r = .none ∧ Filled w s ns s2) E) { s with heap := s.heap.push (set0 w) } := by
  have hisz : items.size = ns.length := by
    rw [← Array.length_toList]
    exact IntsAre.length hit
  have got : (s.heap.push (set0 w)).get? s.heap.objs.size = some (set0 w) := Heap.get?_push_size _ rfl
  have hT : Shared.TypeIs { s with heap := s.heap.push (set0 w) } (.ref s.heap.objs.size) "set" := ⟨_, got, rfl⟩
  refine codeAny_call_builtin F.called_set.init.plain F.entry_set_init (check_set_init_1 hT ?_)
  obtain ⟨⟨cl, dd, dt, sl⟩, hol, hcl, nl, hdl⟩ := hl
  dsimp only at hcl hdl
  subst hcl hdl
  have hol2 : (s.heap.push (set0 w)).get? l = some { cls := .type "list", dict := dd, data := .seq items nl, slots := sl } := Heap.get?_push_of_some _ hol
  have isl : (s.heap.push (set0 w)).IsList l items := ⟨_, hol2, rfl, nl, rfl⟩
  have q1 := F.sub_list_set
  have q2 := F.sub_list_frozenset
  have q3 : (Value.type "list" == Value.type "dict") = false := by decide
  unfold Builtin.«set.__init__» noKeywords Builtin.Frozenset.updateFrom
  generalize hPI : pyIter = PI
  wp_walk
  subst hPI
  refine wpAny_pyIter_list isl ?_
  refine wpAny_bind (wpAny_runValue ?_)
  have lt : l < s.heap.objs.size := Heap.lt_size hol
  have sz : (s.heap.push (set0 w)).objs.size = s.heap.objs.size + 1 := Heap.size_push ..
  have ne1 : l ≠ (s.heap.push (set0 w)).objs.size := by
    rw [sz]
    exact Nat.ne_of_lt (Nat.lt_succ_of_lt lt)
  have nf : s.heap.objs.size ∉ [(s.heap.push (set0 w)).objs.size, l] := by
    rw [sz]
    simp only [List.mem_cons, List.not_mem_nil, or_false, not_or]
    exact ⟨Nat.ne_of_lt (Nat.lt_succ_self _), Nat.ne_of_gt lt⟩
  have val : ∀ (i : Nat) (v : Value), items[i]? = some v → ∃ k t, ns[i]? = some k ∧ v = .int k t := fun i v hv => by
    have hi : i < ns.length := by
      rw [← hisz]
      exact (Array.getElem?_eq_some_iff.mp hv).1
    obtain ⟨t, e⟩ := PyProof.Rows.IntsAre.int_at hit i v (by rw [Array.getElem?_toList]; exact hv)
    refine ⟨ns[i], t, List.getElem?_eq_getElem hi, ?_⟩
    rw [e, List.getD_eq_getElem?_getD, List.getElem?_eq_getElem hi]
    rfl
  have hh3 : A.in1.in1.handled = none := by simp [hh]
  refine set_update_ints ((Walks.list hh3 _ l ne1 items).toS) s.heap.objs.size nf ns hisz hb val (items.size - 0) 0 _ (by omega) (Nat.zero_le _) ?_ ?_ ?_
  · exact ⟨⟨_, Heap.get?_push_size _ rfl, rfl, rfl⟩, (isl.push _)⟩
  · exact ⟨0, Nat.le_refl 0, setR_new_at (Heap.get?_push_of_some _ got)⟩
  · intro s2 c hm hc hS
    obtain ⟨h2, g2, d2, t2, o2⟩ := s2
    obtain rfl : g2 = s.gens := hm.gens
    obtain rfl : d2 = s.drawn := hm.drawn
    obtain rfl : o2 = s.os := hm.os
    show wpAny _ _ _ _ _ _
    refine wpAny_pure ?_
    show wpAny _ _ (ret Value.none) _ _ _
    refine wpAny_pure ⟨rfl, h2, t2, c, rfl, hS, by omega, fun b o e => ?_⟩
    have b0 : b < s.heap.objs.size := Heap.lt_size e
    refine hm.heap b o ?_ (Heap.get?_push_of_some _ (Heap.get?_push_of_some _ e))
    rw [sz]
    simp only [List.mem_cons, List.not_mem_nil, or_false, not_or]
    exact ⟨Nat.ne_of_lt b0, Nat.ne_of_lt (Nat.lt_succ_of_lt b0)⟩
theorem new_set (a : Value) {Q : Value → Shared → Prop} (h : Q (.ref s.heap.objs.size) { s with heap := s.heap.push (set0 w) }) :
    codeAny (model P w) A (.call (.builtin "set.__new__") ⟨[.type "set", a], []⟩) (wants Q E) s := code_set_led1 a h
set_option maxHeartbeats 6400000 in
/-- set(xs), xs a list of ints -/
theorem call_set_lstI {l : Addr} {items : Array Value} (ns : List Int) {Q : Value → Shared → Prop} (hh : A.handled = none) (hl : s.heap.IsList l items) (hit : IntsAre items.toList ns) (hb : ns.length + 1 < scanBound)
    (h : ∀ s2, Filled w s ns s2 → Q (.ref s.heap.objs.size) s2) : wpAny (model P w) A (call (.type "set") [.ref l]) Q E s := by
  obtain ⟨c, tl, hmro⟩ := F.called_set.mro
  have m1 := F.called_set.made
  have m2 := F.called_set.sub
  have m3 := F.called_set.notType
  have m4 := F.called_set.canCreate
  have m5 := F.typeCall_set_1 (.ref l)
  refine wpAny_call (codeAny_of_tree ?_)
  show wpAny _ _ (callAny (.type "set") _) _ _ _
  refine wpAny_pure ⟨Code.quiet_builtin _ (by decide +kernel), codeAny_builtin F.entry_type_call ?_⟩
  rw [Around.under_plain (weight_type_call_type "set" [.ref l] []) rfl]
  repeat (any_goals (first | assumption | wp_step))
  refine codeAny_mono (new_set (.ref l) (E := E) (Q := fun o s1 => o = .ref s.heap.objs.size ∧ s1 = { s with heap := s.heap.push (set0 w) }) ⟨rfl, rfl⟩) fun r s1 hr => ?_
  match r, hr with
  | .error e, hr => exact hr
  | .ok (.ret obj), hr =>
    obtain ⟨e1, e2⟩ := hr
    subst e1 e2
    have got : (s.heap.push (set0 w)).get? s.heap.objs.size = some (set0 w) := Heap.get?_push_size _ rfl
    have hT : Shared.TypeIs { s with heap := s.heap.push (set0 w) } (.ref s.heap.objs.size) "set" := ⟨_, got, rfl⟩
    have hli := F.called_set.init.lookup
    have hbi := F.called_set.init.bind (.ref s.heap.objs.size)
    repeat (any_goals (first | assumption | wp_step))
    refine codeAny_mono (fill_set (A := _) (E := E) ns (by simp [hh]) hl hit hb) fun r2 s2 hr2 => ?_
    match r2, hr2 with
    | .error e, hr2 => exact hr2
    | .ok (.ret u), hr2 =>
      obtain ⟨e3, hf⟩ := hr2
      subst e3
      repeat (any_goals (first | assumption | wp_step))
      exact h _ hf
end
section
variable {X : Cx}
theorem cr_setI (hc : X.calm = true) : CallR X (.type "set") (rSetI X.K X.w) := by
  intro pins s σ H vs us Q I r h
  obtain ⟨l, ns, ev, hS, hz, q⟩ := h
  subst ev
  obtain ⟨u, rfl, ru⟩ := vals1 r
  obtain rfl : u = Value.ref l := ru
  obtain ⟨its, rv, pl, hl⟩ := I.list hS
  have hi : IntsAre its.toArray.toList ns := by
    have e : its.toArray.toList = its := by simp
    rw [e]
    exact intsAre_of rv
  refine call_set_lstI ns (I.ok.hd hc) pl.isList hi (by show ns.length + 1 < scanBound; unfold scanBound; omega) fun s2 hf => ?_
  obtain ⟨h2, tk, c, e, hR, hcn, kp⟩ := hf
  subst e
  have hn : H s.heap.objs.size = none := I.hok.fresh (Nat.le_refl _)
  exact ⟨.ref s.heap.objs.size, _, I.laid (t' := tk) kp (Nat.le_refl _) (setO_new hR), rfl, q _ c hcn hn⟩
end
end K33
namespace K33
open PySem PySem.Spec PyProof.Rows L2
section
variable {P : Program} {w : World} {A : Around} {E : Value → Shared → Prop} {s : Shared}
theorem min_dargs (a : Value) : argsOk "min" ⟨[a], [(Str.ofString "default", .none)]⟩ := by
  unfold argsOk
  kernel_rfl
theorem min_empty {l : Addr} {Q : Value → Shared → Prop} (hh : A.handled = none) (hl : s.heap.IsList l #[]) (h : ∀ (h2 : Heap) (tk : Nat), (∀ b o, s.heap.get? b = some o → h2.get? b = some o) → Q .none { s with heap := h2, toks := tk }) :
    wpAny (model P w) A (call (.builtin "min") [.ref l] [(Str.ofString "default", .none)]) Q E s := by
  have nm : (toString "min" ++ toString ".loop" : String) = "min.loop" := by decide
  obtain ⟨ol, hol, rest⟩ := id hl
  have lt : l < s.heap.objs.size := Heap.lt_size hol
  refine kmk_tree PySem.F.kind_min PySem.F.plain_min PySem.F.entry_min (min_dargs _) ?_
  show wpAny _ A.in1 (Builtin.Builtins.bindParams "min" ["key", "default"] 0 ⟨[], [(Str.ofString "default", Value.none)]⟩ >>= _) _ _ s
  refine wpAny_bind (wpAny_of_eq (show Builtin.Builtins.bindParams "min" ["key", "default"] 0 ⟨[], [(Str.ofString "default", Value.none)]⟩ = pure [none, some Value.none] from rfl) ?_)
  refine wpAny_bind (wpAny_pure ?_)
  refine wpAny_bind (wpAny_pyIter_list hl ?_)
  refine wpAny_bind (wpAny_newList ?_ (Nat.zero_le _))
  rw [nm]
  refine wpAny_pure ⟨plainId_quiet PySem.F.plain_min_loop _, ?_⟩
  refine codeAny_builtin PySem.F.entry_min_loop ?_
  rw [Around.under_plainId PySem.F.plain_min_loop _]
  have sz : (s.heap.push { cls := .type "list_iterator", data := .fields #[.ref l, .int 0 0] }).objs.size = s.heap.objs.size + 1 := Heap.size_push ..
  have gI : ((s.heap.push { cls := .type "list_iterator", data := .fields #[.ref l, .int 0 0] }).push (seqObj "list" #[] 0)).get? s.heap.objs.size = some { cls := .type "list_iterator", data := .fields #[.ref l, .int 0 0] } :=
    Heap.get?_push_of_some _ (Heap.get?_push_size _ rfl)
  have gS : ((s.heap.push { cls := .type "list_iterator", data := .fields #[.ref l, .int 0 0] }).push (seqObj "list" #[] 0)).get? (s.heap.push { cls := .type "list_iterator", data := .fields #[.ref l, .int 0 0] }).objs.size = some (seqObj "list" #[] 0) := Heap.get?_push_size _ rfl
  have W := Walks.list (prog := P) (w := w) (A := A.in1) hh s.heap.objs.size l (Nat.ne_of_lt lt) #[]
  show wpAny _ A.in1 (seqItems? (.ref _) >>= _) _ _ _
  refine wpAny_bind (wpAny_seqItems gS rfl ?_)
  show wpAny _ A.in1 (tryCatch (pyNext (.ref s.heap.objs.size)) _ >>= _) _ _ _
  refine wpAny_bind (wpAny_tryCatch (W.done _ _ _ ⟨⟨_, gI, rfl, rfl⟩, (hl.push _).push _⟩ fun h2 tk hk => ?_))
  show wpAny _ A.in1 (rule _ >>= _) _ _ _
  refine wpAny_bind (wpAny_rule (wpAny_pure ?_))
  refine h h2 tk fun b o e => hk b o ?_ (Heap.get?_push_of_some _ (Heap.get?_push_of_some _ e))
  have lb := Heap.lt_size e
  simp only [List.mem_cons, List.not_mem_nil, or_false]
  exact Nat.ne_of_lt lb
end
section
variable {X : Cx}
/-- min(xs, default=None), xs an empty list -/
def rMinD (K : PySem.W.Frag) : List V → List V → Hp → VK → Prop := fun vs zs H Q => ∃ l : Addr, vs = [V.ref l] ∧ zs = [.non] ∧ SqL K H l [] ∧ Q .non H
theorem cr_minD (hc : X.calm = true) : CallRK X (.builtin "min") ["default"] (rMinD X.K) := by
  intro pins s σ H xs zs us ws Q I r rz h
  obtain ⟨l, e1, e2, hS, q⟩ := h
  subst e1 e2
  obtain ⟨u, rfl, ru⟩ := vals1 r
  obtain rfl : u = Value.ref l := ru
  obtain ⟨z, rfl, rz1⟩ := vals1 rz
  obtain rfl : z = Value.none := rz1
  obtain ⟨its, rv, pl, _⟩ := I.list hS
  have e : its = [] := by
    cases rv
    rfl
  subst e
  exact min_empty (I.ok.hd hc) pl.isList fun h2 tk kp => ⟨.non, H, I.kept kp, rfl, q⟩
end
end K33
namespace K33
open PySem PySem.Spec PyProof.Rows L2
/-! ## D.__init__(self, ..), D an own class under ValueError that has none of its own -/
structure DeI (K : PySem.W.Frag) (D : Addr) (mc : Value) : Prop where
  rd : ClX.CRead K D mc
  at_ : PySem.W.findCls K (.ref D) mc "__init__" = some (.val (.builtin "ValueError.__init__"))
section
variable {X : Cx} {o e : Expr} {es : List Expr} {ta : TE} {t : TA} {D : Addr} {mc : Value} {pos apos : Pos} {pl : Sem Bool}
def tDeI (K : PySem.W.Frag) (D : Addr) (ta : TE) (t : TA) : TE := fun σ H Q => ta σ H fun x H0 => x = .ref D ∧ t σ H0 fun vs H1 => ∃ (a C : Addr) (ws : List V), vs = .ref a :: ws ∧ ws.length ≤ 1000 ∧ OexC K C ∧ H1 a = some (exo a C none) ∧ Q .non H1
theorem pe_deinit (he : PE X o ta) (c : DeI X.K D mc) (ha : PA X (e :: es) t)
    (hst : starEach (e :: es) X.env = (false, eval e X.env) :: starEach es X.env := by rfl) (hpl : (backTo pos (starEach es X.env)).any (·.1) = false := by rfl)
    (ht : eval (.Call (.Attribute o "__init__" apos) (e :: es) [] pos) X.env = (do
      let ov ← eval o X.env
      standAt apos.atName
      let (f, first) ← holding [ov] (getMethod ov "__init__" pl)
      callWith pos f first (backTo pos (starEach (e :: es) X.env)) (backToKw pos (keywordEach [] X.env))) := by rfl) :
    PE X (.Call (.Attribute o "__init__" apos) (e :: es) [] pos) (tDeI X.K D ta t) := by
  refine ⟨fun pins s σ H Q I h => ?_⟩
  refine PySem.W.methodCall_KW (pl := pl) (thn (he.run pins s σ H _ I h) fun u s1 ep => ?_) ht
  obtain ⟨y, H1, I1, ry, ey, z⟩ := ep
  subst ey
  obtain rfl : u = Value.ref D := ry
  refine PySem.W.method_cls I1.kIn c.rd.ga (PySem.W.cls_value I1.kIn c.rd.rd c.at_ (by decide +kernel) ?_)
  show wpAny _ _ (callWith pos (Value.builtin "ValueError.__init__") [] (backTo pos (starEach (e :: es) X.env)) []) _ _ _
  refine PyProof.Rows.callWith_method1 (thn (ha.run pos pins _ σ H1 _ (I1.tok _) z) fun us s2 ep2 => ?_) hst hpl
  obtain ⟨vs, H2, I2, r2, a, C, ws, ev, hl, T, ea, q⟩ := ep2
  subst ev
  match us, r2 with
  | u0 :: ur, .cons ra rw2 =>
    obtain rfl : u0 = Value.ref a := ra
    have hlen : ur.length ≤ sizeLine := by
      rw [← Paired.length rw2, sizeLine_eq]
      omega
    exact oinit_ok T I2 ea hlen fun s3 J => ⟨.non, H2, J, rfl, q⟩
/-- C(..), C's own __init__ keeping sp, whatever the number of arguments -/
def tMkX (C : Addr) (sp : Sp) (t : TA) : L2.St → Hp → XK → Prop := fun σ H Q => t σ H fun vs H1 => vs.length ≤ 1000 ∧ ∀ a, H1 a = none → sp (.ref a :: vs) (upd H1 a (exo a C none))
  (fun v H2 => v = .non ∧ ∃ (d : Addr) (fs : List (Str × V)), H2 a = some (exo a C (some d)) ∧ H2 d = some (exd d fs) ∧ H1 d = none ∧ Q (.ref C) (some d) (upd (del H2 a) d (.xd fs))) (fun _ _ _ => False)
/-- an own error's class, at C, named x -/
structure Err (P : Program) (w : World) (K : PySem.W.Frag) (mg : Str → Option Value) (base : Heap) (k : Nat) (x : Str) (sp : Sp) : Prop where
  run : FnR P w K mg base (L2.CX P w) k (He.ma K (He.ga K x) "__init__") sp
  oc : OexC K (He.ga K x)
  ini : PySem.W.findIn K (.ref (He.ga K x)) "__init__" = some (some (.ref (He.ma K (He.ga K x) "__init__")))
  ty : PySem.W.typeIn K (.ref (He.ma K (He.ga K x) "__init__")) = some (.type "function")
  mg : mg x = some (.ref (He.ga K x))
variable {k j : Nat} {x : Str} {sp : Sp} {p : Pos}
/-- behind the arguments -/
theorem mk_run {pins : List (Addr × Obj)} {σ : L2.St} {H : Hp} {s : Shared} {Q : XK} {us : List Value} {vs : List V} (c : Err X.prog X.w X.K X.mg X.base k x sp) (hr : Room j X.A) (hk : k + 1 ≤ j) (I : Inv X pins σ H s) (r : Vals vs us) (hz : vs.length ≤ 1000)
    (q : ∀ a, H a = none → sp (.ref a :: vs) (upd H a (exo a (He.ga X.K x) none)) (fun v H2 => v = .non ∧ ∃ (d : Addr) (fs : List (Str × V)), H2 a = some (exo a (He.ga X.K x) (some d)) ∧ H2 d = some (exd d fs) ∧ H d = none ∧ Q (.ref (He.ga X.K x)) (some d) (upd (del H2 a) d (.xd fs))) (fun _ _ _ => False)) :
    wpAny (model X.prog X.w) X.A (call (.ref (He.ga X.K x)) us) (MkP X pins σ Q) X.xe s := by
  obtain ⟨nm, qn, N, bs, bm, sn, sub, ab, col, dd, k0, k1, k2, k3, k5, hC, hbm⟩ := c.oc.cls
  obtain ⟨hp, g, dr, tk, os⟩ := s
  have hsz : hp.objs.size ≤ hp.objs.size + 1 := Nat.le_succ _
  have hn : H (hp.objs.size + 1) = none := I.hok.fresh hsz
  have kk : ∀ b o, hp.get? b = some o → ((hp.push (PySem.W.kdv_tup us)).push (PySem.HandSPX.excO (He.ga X.K x) hp.objs.size)).get? b = some o := fun b o e => Heap.get?_push_of_some _ (Heap.get?_push_of_some _ e)
  have hget : ((hp.push (PySem.W.kdv_tup us)).push (PySem.HandSPX.excO (He.ga X.K x) hp.objs.size)).get? (hp.objs.size + 1) = some (PySem.HandSPX.excO (He.ga X.K x) hp.objs.size) := by heap_get
  have I2 : Inv X pins σ (upd H (hp.objs.size + 1) (exo (hp.objs.size + 1) (He.ga X.K x) none)) ⟨(hp.push (PySem.W.kdv_tup us)).push (PySem.HandSPX.excO (He.ga X.K x) hp.objs.size), g, dr, tk, os⟩ :=
    I.laid (t' := tk) kk hsz (exo_ok hget)
  have hus : us.length ≤ sizeLine := by
    rw [← Paired.length r, sizeLine_eq]
    omega
  refine wpAny_call (PySem.HandSPX.call_own F.excBase_ValueError (fun Y => PySem.HandSPX.refsVE_contains Y bm hbm) (I.kIn _ _ hC) (PySem.W.looks_findIn I.kIn c.ini) (fun self => PySem.W.bind_fn I.kIn self c.ty) hus
    (codeAny_mono (c.run _ X.stack _ _ (Value.ref (hp.objs.size + 1) :: us) (V.ref (hp.objs.size + 1) :: vs) _ (fun _ _ _ => False) ((hr.mono hk).make (He.ga X.K x) us []) (I2.env0.make (He.ga X.K x) us []) (.cons rfl r) (q _ hn)) fun z s' hq => ?_))
  match z, hq with
  | .error er, hq =>
    obtain ⟨_, _, _, _, _, _, _, _, _, _, _, _, y⟩ := hq
    exact y.elim
  | .ok (.ret u), hq =>
    obtain ⟨v, H2, os2, bare2, un2, hok2, rv, ev, d, fs, ea, ed, hd1, q2⟩ := hq
    subst ev
    obtain ⟨h2, g2, d2, t2, os'⟩ := s'
    exact ⟨rv, mk_end (raises_own c.oc.exC c.oc.tyC) I hsz kk un2 hok2 os2 bare2 ea ed hd1 q2⟩
theorem pmk_x (c : Err X.prog X.w X.K X.mg X.base k x sp) (hr : Room j X.A) (hk : k + 1 ≤ j) (hg : Gl X x) (ha : PA X (e :: es) t) (hdb : (x == ("__debug__" : Str)) = false := by decide)
    (he : starEach (e :: es) X.env = (false, eval e X.env) :: starEach es X.env := by rfl) (hpl : (backTo pos (starEach es X.env)).any (·.1) = false := by rfl) :
    PMk X (.Call (.Name x p) (e :: es) [] pos) (tMkX (He.ga X.K x) sp t) := by
  intro pins s σ H Q I h
  refine wpAny_Call_Name_kw (ld_glob I hg c.mg (PySem.W.callWith_K (h₀ := X.base) I.ok.mod.kin c.oc.kC (thn (ha.run pos pins s σ H _ I h) fun us s1 ep => ?_) he hpl) hdb)
  obtain ⟨vs, H1, I1, r1, hz, q⟩ := ep
  exact ⟨I1.kIn, mk_run c hr hk I1 r1 hz q⟩
theorem pmk_x0 (c : Err X.prog X.w X.K X.mg X.base k x sp) (hr : Room j X.A) (hk : k + 1 ≤ j) (hg : Gl X x) (hdb : (x == ("__debug__" : Str)) = false := by decide) :
    PMk X (.Call (.Name x p) [] [] pos) (tMkX (He.ga X.K x) sp tNil) := by
  intro pins s σ H Q I h
  obtain ⟨hz, q⟩ := h
  exact wpAny_Call_Name_kw (ld_glob I hg c.mg (PySem.W.callWith_K0 I.kIn c.oc.kC (mk_run (us := []) c hr hk I .nil hz q)) hdb)
end
end K33
namespace K33
open PySem PySem.Spec PyProof.Rows L2

/-- a value, all the way down -/
inductive D where
  | non | bl (b : Bool) | int (i : Int) | str (s : Str) | tup (xs : List D) | lst (xs : List D) | obj (c : Str) (ns : List Str) (xs : List D) | raw (v : V) | sq (ns : List Int) | dk (kvs : List (Key × V))
mutual
def Rep (K : PySem.W.Frag) (B : Hp) : D → V → Prop
  | .non, v => v = .non
  | .bl b, v => v = .bl b
  | .int i, v => v = .int i
  | .str s, v => v = .str s
  | .raw u, v => v = u
  | .sq ns, v => ∃ a, v = .ref a ∧ SqL K B a (ns.map V.int)
  | .dk kvs, v => ∃ a, v = .ref a ∧ B a = some (.dK kvs)
  | .tup ds, v => ∃ a vs, v = .ref a ∧ SqT K B a vs ∧ RepL K B ds vs
  | .lst ds, v => ∃ a vs, v = .ref a ∧ B a = some (.lst vs) ∧ RepL K B ds vs
  | .obj c ns ds, v => ∃ a dx vs, v = .ref a ∧ B a = some (.ins (He.ga K c) dx (ns.zip vs)) ∧ ns.length = ds.length ∧ RepL K B ds vs
def RepL (K : PySem.W.Frag) (B : Hp) : List D → List V → Prop
  | [], vs => vs = []
  | d :: ds, vs => ∃ v r, vs = v :: r ∧ Rep K B d v ∧ RepL K B ds r
end
theorem Same.sqT {K : PySem.W.Frag} {H H' : Hp} {a : Addr} {xs : List V} (e : Same H H') (h : SqT K H a xs) : SqT K H' a xs := by
  rcases h with (h | ⟨o, h⟩) | h
  · exact .inl (.inl (e _ _ h))
  · exact .inl (.inr ⟨o, e _ _ h⟩)
  · exact .inr h
section
variable {K : PySem.W.Frag} {B B' : Hp}
mutual
theorem Rep.mono (e : Same B B') : ∀ {d : D} {v : V}, Rep K B d v → Rep K B' d v
  | .non, _, h => h
  | .bl _, _, h => h
  | .int _, _, h => h
  | .str _, _, h => h
  | .raw _, _, h => h
  | .sq ns, _, h => by
    unfold Rep at h ⊢
    obtain ⟨a, h1, h2⟩ := h
    exact ⟨a, h1, e.seq h2⟩
  | .dk kvs, _, h => by
    unfold Rep at h ⊢
    obtain ⟨a, h1, h2⟩ := h
    exact ⟨a, h1, e _ _ h2⟩
  | .tup ds, _, h => by
    unfold Rep at h ⊢
    obtain ⟨a, vs, h1, h2, h3⟩ := h
    exact ⟨a, vs, h1, Same.sqT e h2, RepL.mono e h3⟩
  | .lst ds, _, h => by
    unfold Rep at h ⊢
    obtain ⟨a, vs, h1, h2, h3⟩ := h
    exact ⟨a, vs, h1, e _ _ h2, RepL.mono e h3⟩
  | .obj c ns ds, _, h => by
    unfold Rep at h ⊢
    obtain ⟨a, dx, vs, h1, h2, h3, h4⟩ := h
    exact ⟨a, dx, vs, h1, e _ _ h2, h3, RepL.mono e h4⟩
theorem RepL.mono (e : Same B B') : ∀ {ds : List D} {vs : List V}, RepL K B ds vs → RepL K B' ds vs
  | [], _, h => h
  | d :: ds, _, h => by
    unfold RepL at h ⊢
    obtain ⟨v, r, h1, h2, h3⟩ := h
    exact ⟨v, r, h1, Rep.mono e h2, RepL.mono e h3⟩
end
theorem RepL.nil : RepL K B [] [] := rfl
theorem RepL.cons {d : D} {ds : List D} {v : V} {vs : List V} (h : Rep K B d v) (t : RepL K B ds vs) : RepL K B (d :: ds) (v :: vs) := ⟨v, vs, rfl, h, t⟩
theorem RepL.len : ∀ {ds : List D} {vs : List V}, RepL K B ds vs → vs.length = ds.length
  | [], _, h => by cases h; rfl
  | d :: ds, _, h => by
    obtain ⟨v, r, rfl, _, h3⟩ := h
    show _ + 1 = _ + 1
    rw [RepL.len h3]
theorem RepL.get : ∀ {ds : List D} {vs : List V} {i : Nat} {d : D}, RepL K B ds vs → ds[i]? = some d → ∃ v, vs[i]? = some v ∧ Rep K B d v
  | [], _, i, d, _, e => by simp at e
  | d :: ds, _, 0, x, h, e => by
    obtain ⟨v, r, rfl, h2, h3⟩ := h
    simp at e
    subst e
    exact ⟨v, rfl, h2⟩
  | d :: ds, _, i + 1, x, h, e => by
    obtain ⟨v, r, rfl, h2, h3⟩ := h
    obtain ⟨u, a, b⟩ := RepL.get (i := i) (d := x) h3 (by simpa using e)
    exact ⟨u, by simpa using a, b⟩
theorem RepL.got : ∀ {ds : List D} {vs : List V} {i : Nat} {v : V}, RepL K B ds vs → vs[i]? = some v → ∃ d, ds[i]? = some d ∧ Rep K B d v
  | [], _, i, d, h, e => by cases h; simp at e
  | d :: ds, _, 0, x, h, e => by
    obtain ⟨v, r, rfl, h2, h3⟩ := h
    simp at e
    subst e
    exact ⟨d, rfl, h2⟩
  | d :: ds, _, i + 1, x, h, e => by
    obtain ⟨v, r, rfl, h2, h3⟩ := h
    obtain ⟨u, a, b⟩ := RepL.got (i := i) (v := x) h3 (by simpa using e)
    exact ⟨u, by simpa using a, b⟩
theorem RepL.append : ∀ {ds es : List D} {vs us : List V}, RepL K B ds vs → RepL K B es us → RepL K B (ds ++ es) (vs ++ us)
  | [], _, _, _, h, t => by cases h; exact t
  | d :: ds, _, _, _, h, t => by
    obtain ⟨v, r, rfl, h2, h3⟩ := h
    exact ⟨v, _, rfl, h2, RepL.append h3 t⟩
theorem RepL.set : ∀ {ds : List D} {vs : List V} {i : Nat} {d : D} {v : V}, RepL K B ds vs → Rep K B d v → RepL K B (ds.set i d) (vs.set i v)
  | [], _, i, d, v, h, t => by cases h; exact rfl
  | d :: ds, _, 0, x, u, h, t => by
    obtain ⟨v, r, rfl, h2, h3⟩ := h
    exact ⟨u, r, rfl, t, h3⟩
  | d :: ds, _, i + 1, x, u, h, t => by
    obtain ⟨v, r, rfl, h2, h3⟩ := h
    exact ⟨v, _, rfl, h2, RepL.set h3 t⟩
theorem RepL.take : ∀ {ds : List D} {vs : List V} (n : Nat), RepL K B ds vs → RepL K B (ds.take n) (vs.take n)
  | _, _, 0, _ => rfl
  | [], _, n + 1, h => by cases h; exact rfl
  | d :: ds, _, n + 1, h => by
    obtain ⟨v, r, rfl, h2, h3⟩ := h
    exact ⟨v, _, rfl, h2, RepL.take n h3⟩
theorem RepL.drop : ∀ {ds : List D} {vs : List V} (n : Nat), RepL K B ds vs → RepL K B (ds.drop n) (vs.drop n)
  | _, _, 0, h => h
  | [], _, n + 1, h => by cases h; exact rfl
  | d :: ds, _, n + 1, h => by
    obtain ⟨v, r, rfl, h2, h3⟩ := h
    exact RepL.drop n h3
theorem RepL.ints : ∀ {ns : List Int} {vs : List V}, RepL K B (ns.map D.int) vs → vs = ns.map V.int
  | [], _, h => h
  | n :: ns, _, h => by
    obtain ⟨v, r, rfl, h2, h3⟩ := h
    show v :: r = V.int n :: ns.map V.int
    rw [show v = V.int n from h2, RepL.ints h3]
theorem RepL.of_ints : ∀ {ns : List Int}, RepL K B (ns.map D.int) (ns.map V.int)
  | [] => rfl
  | n :: ns => ⟨.int n, _, rfl, rfl, RepL.of_ints⟩
theorem RepL.bls : ∀ {ns : List Bool} {vs : List V}, RepL K B (ns.map D.bl) vs → vs = ns.map V.bl
  | [], _, h => h
  | n :: ns, _, h => by
    obtain ⟨v, r, rfl, h2, h3⟩ := h
    show v :: r = V.bl n :: ns.map V.bl
    rw [show v = V.bl n from h2, RepL.bls h3]
/-- a field -/
theorem RepL.look {f : Str} : ∀ {ns : List Str} {ds : List D} {vs : List V} {d : D}, RepL K B ds vs → (ns.zip ds).lookup f = some d → ∃ v, (ns.zip vs).lookup f = some v ∧ Rep K B d v
  | [], _, _, _, _, e => by simp at e
  | n :: ns, [], _, _, _, e => by simp at e
  | n :: ns, d :: ds, _, x, h, e => by
    obtain ⟨v, r, rfl, h2, h3⟩ := h
    simp only [List.zip_cons_cons, List.lookup_cons] at e ⊢
    cases hb : f == n with
    | true =>
      rw [hb] at e
      simp at e
      subst e
      exact ⟨v, rfl, h2⟩
    | false =>
      rw [hb] at e
      exact RepL.look h3 e
end
/-! ## data with its own == -/
mutual
def D.data : D → Option PyData
  | .non => some .none
  | .bl b => some (.bool b)
  | .int i => some (.int i)
  | .str s => some (.str s)
  | .tup ds => (D.datas ds).map .tuple
  | .lst ds => (D.datas ds).map .list
  | _ => none
def D.datas : List D → Option (List PyData)
  | [] => some []
  | d :: ds => match D.data d, D.datas ds with
    | some x, some r => some (x :: r)
    | _, _ => none
end
section
variable {K : PySem.W.Frag} {B : Hp}
mutual
theorem Rep.dp : ∀ {d : D} {v : V} {p : PyData}, Rep K B d v → d.data = some p → Dp K B v p
  | .non, _, _, h, e => by cases h; cases e; exact .non
  | .bl _, _, _, h, e => by cases h; cases e; exact .bl _
  | .int _, _, _, h, e => by cases h; cases e; exact .int _
  | .str _, _, _, h, e => by cases h; cases e; exact .str _
  | .raw _, _, _, h, e => by cases e
  | .sq _, _, _, h, e => by cases e
  | .dk _, _, _, h, e => by cases e
  | .obj _ _ _, _, _, h, e => by cases e
  | .tup ds, _, p, h, e => by
    obtain ⟨a, vs, rfl, h2, h3⟩ := h
    unfold D.data at e
    cases q : D.datas ds with
    | none => rw [q] at e; cases e
    | some r =>
      rw [q] at e
      cases e
      exact .tup h2 (RepL.dp h3 q)
  | .lst ds, _, p, h, e => by
    obtain ⟨a, vs, rfl, h2, h3⟩ := h
    unfold D.data at e
    cases q : D.datas ds with
    | none => rw [q] at e; cases e
    | some r =>
      rw [q] at e
      cases e
      exact .lst (.inl (.inl h2)) (RepL.dp h3 q)
theorem RepL.dp : ∀ {ds : List D} {vs : List V} {ps : List PyData}, RepL K B ds vs → D.datas ds = some ps → DpAll K B vs ps
  | [], _, _, h, e => by cases h; cases e; exact .nil
  | d :: ds, _, ps, h, e => by
    obtain ⟨v, r, rfl, h2, h3⟩ := h
    unfold D.datas at e
    cases q1 : D.data d with
    | none => rw [q1] at e; cases e
    | some x =>
      cases q2 : D.datas ds with
      | none => rw [q1, q2] at e; cases e
      | some y =>
        rw [q1, q2] at e
        cases e
        exact .cons (Rep.dp h2 q1) (RepL.dp h3 q2)
end
end

/-! ## the frame of a def -/
inductive Exn | mk (c : Str) (d : Option D)
/-- what an exception that left is -/
def ExRep (K : PySem.W.Frag) (B H : Hp) : Exn → Value → Option Addr → Prop
  | .mk c none, cls, dx => cls = .ref (He.ga K c) ∧ dx = none
  | .mk c (some d), cls, dx => cls = .ref (He.ga K c) ∧ ∃ a v, dx = some a ∧ H a = some (.xd [("number", v)]) ∧ Rep K B d v
/-- K; what is known at the start (B0) of what stands (H0); the source, the instance under way (both may change) -/
structure Fm where
  K : PySem.W.Frag
  B0 : Hp
  H0 : Hp
  s : Option Addr
  me : Option Addr
  ms : List Addr
def SrcAt (H : Hp) (s : Addr) : Prop := ∃ c n k : Int, H s = some (.lst [.int c, .int n, .int k]) ∧ 0 ≤ n ∧ n < 2147483647
def hid (F : Fm) : Hp := fun b => if F.s = some b ∨ F.me = some b ∨ b ∈ F.ms then none else F.H0 b
structure Bs (F : Fm) (B H : Hp) : Prop where
  b0 : Same F.B0 B
  bh : Same B H
  fh : Same (hid F) H
  z : ∀ p, F.H0 p ≠ none → F.B0 p = none → p ∉ F.ms → B p = none
  al : ∀ p, F.H0 p ≠ none → H p ≠ none
  src : ∀ s, F.s = some s → SrcAt H s ∧ F.B0 s = none ∧ F.H0 s ≠ none
  me : ∀ s, F.me = some s → F.B0 s = none ∧ F.H0 s ≠ none
/-- what a Lifting holds -/
structure LSt where
  rows : D
  start : D
  layers : List D
  reasons : List D
  heights : List D
  known : Int
def lflds : List Str := ["rows", "start", "layers", "reasons", "heights", "known"]
/-- a Lifting at p, its lists at a, b, c -/
structure LftAt (K : PySem.W.Frag) (B H : Hp) (p a b c : Addr) (L : LSt) : Prop where
  at_ : ∃ dx v1 v2, H p = some (.ins (He.ga K "Lifting") dx (lflds.zip [v1, v2, .ref a, .ref b, .ref c, .int L.known])) ∧ Rep K B L.rows v1 ∧ Rep K B L.start v2
  la : ∃ vs, H a = some (.lst vs) ∧ RepL K B L.layers vs
  lb : ∃ vs, H b = some (.lst vs) ∧ RepL K B L.reasons vs
  lc : ∃ vs, H c = some (.lst vs) ∧ RepL K B L.heights vs
  nB : ∀ q ∈ [p, a, b, c], B q = none
  ab : a ≠ b
  ac : a ≠ c
  bc : b ≠ c
theorem LftAt.mem {K : PySem.W.Frag} {B H : Hp} {p a b c : Addr} {L : LSt} (h : LftAt K B H p a b c L) : ∀ q ∈ [p, a, b, c], H q ≠ none := fun q hq => by
  obtain ⟨dx, v1, v2, e, _⟩ := h.at_
  obtain ⟨va, ea, _⟩ := h.la
  obtain ⟨vb, eb, _⟩ := h.lb
  obtain ⟨vc, ec, _⟩ := h.lc
  simp only [List.mem_cons, List.not_mem_nil, or_false] at hq
  rcases hq with rfl | rfl | rfl | rfl
  · rw [e]; exact Option.some_ne_none _
  · rw [ea]; exact Option.some_ne_none _
  · rw [eb]; exact Option.some_ne_none _
  · rw [ec]; exact Option.some_ne_none _
theorem LftAt.mono {K : PySem.W.Frag} {B H B' H' : Hp} {p a b c : Addr} {L : LSt} (h : LftAt K B H p a b c L) (s : Same B B') (k : ∀ q ∈ [p, a, b, c], ∀ o, H q = some o → H' q = some o) (n : ∀ q ∈ [p, a, b, c], H q ≠ none → B q = none → B' q = none) : LftAt K B' H' p a b c L := by
  have hm := h.mem
  obtain ⟨⟨dx, v1, v2, e, r1, r2⟩, ⟨va, ea, ra⟩, ⟨vb, eb, rb⟩, ⟨vc, ec, rc⟩, nB, h1, h2, h3⟩ := h
  exact ⟨⟨dx, v1, v2, k p (by simp) _ e, r1.mono s, r2.mono s⟩, ⟨va, k a (by simp) _ ea, ra.mono s⟩, ⟨vb, k b (by simp) _ eb, rb.mono s⟩, ⟨vc, k c (by simp) _ ec, rc.mono s⟩, fun q hq => n q hq (hm q hq) (nB q hq), h1, h2, h3⟩
/-- a def's table of code objects at P: each bears the name q -/
def TabAt (B H : Hp) (P : Addr) (q : Str) : Prop := ∃ ps : Array Value, H P = some (.tbl ps) ∧ TriplesOk ps.toList ∧ ∀ (pos : Pos) (cv : Value), codeAmong pos ps.toList = some cv → ∃ c, cv = .ref c ∧ B c = some (LamX.CodeO c q)
theorem TabAt.mono {B H B' H' : Hp} {P : Addr} {q : Str} (h : TabAt B H P q) (s : Same B B') (k : ∀ o, H P = some o → H' P = some o) : TabAt B' H' P q := by
  obtain ⟨ps, h1, h2, h3⟩ := h
  refine ⟨ps, k _ h1, h2, fun pos cv e => ?_⟩
  obtain ⟨c, e1, e2⟩ := h3 pos cv e
  exact ⟨c, e1, s _ _ e2⟩
/-- what a slot holds -/
inductive Sl | un | val (d : D) | own (ds : List D) | ins (p : Addr) (c : Str) (ns : List Str) (ds : List D) | src (p : Addr) | lft (p a b c : Addr) (L : LSt) | tab (P : Addr) (q : Str)
def Sl.isOwn : Sl → Bool
  | .un => false
  | .val _ => false
  | .tab _ _ => false
  | _ => true
def SlOk (F : Fm) (B H : Hp) (x : Option (Option V)) : Sl → Prop
  | .un => True
  | .val d => ∃ v, x = some (some v) ∧ Rep F.K B d v
  | .own ds => ∃ p vs, x = some (some (.ref p)) ∧ H p = some (.lst vs) ∧ B p = none ∧ F.H0 p = none ∧ RepL F.K B ds vs
  | .ins p c ns ds => ∃ dx vs, x = some (some (.ref p)) ∧ H p = some (.ins (He.ga F.K c) dx (ns.zip vs)) ∧ B p = none ∧ F.me = some p ∧ ns.length = ds.length ∧ RepL F.K B ds vs
  | .src p => x = some (some (.ref p)) ∧ SrcAt H p ∧ B p = none ∧ hid F p = none ∧ F.me ≠ some p ∧ F.ms = []
  | .lft p a b c L => x = some (some (.ref p)) ∧ LftAt F.K B H p a b c L ∧ F.ms = [p, a, b, c] ∧ F.s = none ∧ F.me = none ∧ ∀ q ∈ F.ms, F.H0 q ≠ none ∧ F.B0 q = none
  | .tab P q => TabAt B H P q ∧ B P = none ∧ F.me = some P
structure EnvOk (F : Fm) (B H : Hp) (σ : L2.St) (ρ : List Sl) : Prop where
  bs : Bs F B H
  len : σ.length = ρ.length
  at_ : ∀ (i : Nat) (l : Sl), ρ[i]? = some l → SlOk F B H σ[i]? l
  inj : ∀ (i j : Nat) (l m : Sl) (p : Addr), ρ[i]? = some l → ρ[j]? = some m → l.isOwn = true → m.isOwn = true → σ[i]? = some (some (.ref p)) → σ[j]? = some (some (.ref p)) → i = j

/-- no object but a source is changed -/
def Keep (ρ : List Sl) (H H' : Hp) : Prop := ∀ b o, H b = some o → (∀ i : Nat, ρ[i]? ≠ some (.src b)) → H' b = some o
/-- from B, H to B', H', the slots as they were -/
structure Stp (F : Fm) (σ : L2.St) (ρ : List Sl) (B H B' H' : Hp) : Prop where
  env : EnvOk F B' H' σ ρ
  bb : Same B B'
  kp : Keep ρ H H'
  z : ∀ p, H p ≠ none → B p = none → B' p = none
  al : ∀ p, H p ≠ none → H' p ≠ none

/-! ## judgements -/
def EvD (F : Fm) (te : TE) (ρ : List Sl) (k : D → Prop) : Prop := ∀ B H σ, EnvOk F B H σ ρ → ∀ Q : VK, (∀ d v B' H', k d → Stp F σ ρ B H B' H' → Rep F.K B' d v → Q v H') → te σ H Q
/-- a new list -/
def EvN (F : Fm) (te : TE) (ρ : List Sl) (k : List D → Prop) : Prop := ∀ B H σ, EnvOk F B H σ ρ → ∀ Q : VK,
  (∀ ds p vs B' H', k ds → Stp F σ ρ B H B' H' → H p = none → B' p = none → H' p = some (.lst vs) → RepL F.K B' ds vs → Q (.ref p) H') → te σ H Q
def EvT (F : Fm) (tt : TT) (ρ : List Sl) (k : Bool → Prop) : Prop := ∀ B H σ, EnvOk F B H σ ρ → ∀ Q : Bool → Hp → Prop, (∀ b B' H', k b → Stp F σ ρ B H B' H' → Q b H') → tt σ H Q
def EvA (F : Fm) (ta : TA) (ρ : List Sl) (k : List D → Prop) : Prop := ∀ B H σ, EnvOk F B H σ ρ → ∀ Q : List V → Hp → Prop, (∀ ds vs B' H', k ds → Stp F σ ρ B H B' H' → RepL F.K B' ds vs → Q vs H') → ta σ H Q
def EvO (F : Fm) (to : TO) (ρ : List Sl) (k : Option Int → Prop) : Prop := ∀ B H σ, EnvOk F B H σ ρ → ∀ Q : Option Int → Hp → Prop, (∀ o B' H', k o → Stp F σ ρ B H B' H' → Q o H') → to σ H Q
/-- the turns of a loop: the items ds -/
def ItD (F : Fm) (B : Hp) (J : It) (ds : List D) : Prop := (∀ i H, i < ds.length → Same B H → J.go i H) ∧ (∀ H, Same B H → J.stop ds.length H) ∧
  ∀ i H x H', i < ds.length → Same B H → J.yld i H x H' → ∃ d, ds[i]? = some d ∧ ((H' = H ∧ ∀ B', Same B B' → Rep F.K B' d x) ∨ ∃ T o, H T = none ∧ H' = upd H T o ∧ ∀ B', Same B B' → B' T = some o → Rep F.K B' d x)
def EvI (F : Fm) (ti : TI) (ρ : List Sl) (k : List D → Prop) : Prop := ∀ B H σ, EnvOk F B H σ ρ → ∀ R : It → Hp → Prop, (∀ ds J B' H', k ds → Stp F σ ρ B H B' H' → ItD F B' J ds → R J H') → ti σ H R
/-- a statement: N of the slots behind it, R of what it returns -/
def SOk (F : Fm) (ts : TS) (ρ : List Sl) (N : List Sl → Prop) (R : D → Prop) : Prop := ∀ B H σ, EnvOk F B H σ ρ → ∀ En : Ends,
  (∀ ρ' B' H' σ', N ρ' → Same B B' → EnvOk F B' H' σ' ρ' → En.nx σ' H') → (∀ d v B' H', R d → Same B B' → Bs F B' H' → Rep F.K B' d v → En.rt v H') → ts En σ H
/-- an operator by values -/
def ROp (F : Fm) (r : R2) (ρ : List Sl) (x y : D) (k : D → Prop) : Prop := ∀ B H σ vx vy, EnvOk F B H σ ρ → Rep F.K B x vx → Rep F.K B y vy → ∀ Q : VK, (∀ d v B' H', k d → Stp F σ ρ B H B' H' → Rep F.K B' d v → Q v H') → r vx vy H Q
def ROu (F : Fm) (r : V → Hp → VK → Prop) (ρ : List Sl) (x : D) (k : D → Prop) : Prop := ∀ B H σ vx, EnvOk F B H σ ρ → Rep F.K B x vx → ∀ Q : VK, (∀ d v B' H', k d → Stp F σ ρ B H B' H' → Rep F.K B' d v → Q v H') → r vx H Q
def ROc (F : Fm) (r : List V → Hp → VK → Prop) (ρ : List Sl) (xs : List D) (k : D → Prop) : Prop := ∀ B H σ vs, EnvOk F B H σ ρ → RepL F.K B xs vs → ∀ Q : VK, (∀ d v B' H', k d → Stp F σ ρ B H B' H' → Rep F.K B' d v → Q v H') → r vs H Q

/-! ## heaps that grow -/
theorem Same.upd {H : Hp} {p : Addr} {o : HO} (h : H p = none) : Same H (upd H p o) := fun b u e => by
  rw [upd_ne (ne_of_none e h)]
  exact e
theorem Same.mut {B H : Hp} {p : Addr} {o : HO} (e : Same B H) (h : B p = none) : Same B (L2.upd H p o) := fun b u q => by
  rw [upd_ne (ne_of_none q h)]
  exact e b u q
section
variable {F : Fm} {B H : Hp} {σ : L2.St} {ρ : List Sl}
theorem hid_some {p : Addr} {o : HO} (h : hid F p = some o) : F.H0 p = some o := by
  unfold hid at h
  split at h
  · cases h
  · exact h
theorem hid_ms {p : Addr} {o : HO} (h : hid F p = some o) : p ∉ F.ms := fun z => by
  unfold hid at h
  rw [if_pos (.inr (.inr z))] at h
  cases h
theorem hid_none {p : Addr} (h : F.H0 p = none) : hid F p = none := by
  unfold hid
  split
  · rfl
  · exact h
theorem Bs.new (b : Bs F B H) {p : Addr} (h : H p = none) : F.H0 p = none := by
  cases q : F.H0 p with
  | none => rfl
  | some o => exact absurd h (b.al p (by rw [q]; exact Option.some_ne_none _))
theorem Bs.bnew (b : Bs F B H) {p : Addr} (h : H p = none) : B p = none := b.bh.free h
/-- the heap grows, B as it was -/
theorem Bs.grow (b : Bs F B H) {H' : Hp} (e : Same H H') : Bs F B H' := ⟨b.b0, b.bh.trans e, b.fh.trans e, b.z, fun p h => by
    cases q : H p with
    | none => exact absurd q (b.al p h)
    | some o =>
      rw [e p o q]
      exact Option.some_ne_none _,
  fun s hs => by
    obtain ⟨⟨c, n, k, h1, h2⟩, h3⟩ := b.src s hs
    exact ⟨⟨c, n, k, e _ _ h1, h2⟩, h3⟩, b.me⟩
theorem SlOk.grow {x : Option (Option V)} {l : Sl} {H' : Hp} (e : Same H H') (h : SlOk F B H x l) : SlOk F B H' x l := by
  cases l with
  | un => trivial
  | val d => exact h
  | own ds =>
    obtain ⟨p, vs, h1, h2, h3⟩ := h
    exact ⟨p, vs, h1, e _ _ h2, h3⟩
  | ins p c ns ds =>
    obtain ⟨dx, vs, h1, h2, h3⟩ := h
    exact ⟨dx, vs, h1, e _ _ h2, h3⟩
  | src p =>
    obtain ⟨h1, ⟨c, n, k, h2, h3⟩, h4⟩ := h
    exact ⟨h1, ⟨c, n, k, e _ _ h2, h3⟩, h4⟩
  | lft p a b c L =>
    obtain ⟨h1, h2, h3⟩ := h
    exact ⟨h1, h2.mono (Same.refl _) (fun q _ o => e q o) (fun q _ _ z => z), h3⟩
  | tab P q =>
    obtain ⟨h1, h2⟩ := h
    exact ⟨h1.mono (Same.refl _) (fun o => e P o), h2⟩
theorem EnvOk.grow (E : EnvOk F B H σ ρ) {H' : Hp} (e : Same H H') : EnvOk F B H' σ ρ := ⟨E.bs.grow e, E.len, fun i l h => (E.at_ i l h).grow e, E.inj⟩
/-- what stands new becomes known -/
theorem EnvOk.know (E : EnvOk F B H σ ρ) {p : Addr} {o : HO} (hB : B p = none) (h0 : F.H0 p = none) (hp : H p = some o) (hn : ∀ (i : Nat) (l : Sl), ρ[i]? = some l → l.isOwn = true → σ[i]? ≠ some (some (.ref p))) : EnvOk F (upd B p o) H σ ρ := by
  refine ⟨⟨E.bs.b0.trans (Same.upd hB), fun b u q => ?_, E.bs.fh, fun b h1 h2 h3 => ?_, E.bs.al, E.bs.src, E.bs.me⟩, E.len, fun i l h => ?_, E.inj⟩
  · by_cases hb : b = p
    · subst hb
      rw [upd_same] at q
      rw [← q]
      exact hp
    · rw [upd_ne hb] at q
      exact E.bs.bh b u q
  · have : b ≠ p := fun z => h1 (z ▸ h0)
    rw [upd_ne this]
    exact E.bs.z b h1 h2 h3
  · have g := E.at_ i l h
    have hi := hn i l h
    cases l with
    | un => trivial
    | val d =>
      obtain ⟨v, h1, h2⟩ := g
      exact ⟨v, h1, h2.mono (Same.upd hB)⟩
    | own ds =>
      obtain ⟨q, vs, h1, h2, h3, h4, h5⟩ := g
      have : q ≠ p := fun z => hi rfl (z ▸ h1)
      exact ⟨q, vs, h1, h2, by rw [upd_ne this]; exact h3, h4, h5.mono (Same.upd hB)⟩
    | ins q c ns ds =>
      obtain ⟨dx, vs, h1, h2, h3, h4, h5, h6⟩ := g
      have : q ≠ p := fun z => hi rfl (z ▸ h1)
      exact ⟨dx, vs, h1, h2, by rw [upd_ne this]; exact h3, h4, h5, h6.mono (Same.upd hB)⟩
    | src q =>
      obtain ⟨h1, h2, h3, h4⟩ := g
      have : q ≠ p := fun z => hi rfl (z ▸ h1)
      exact ⟨h1, h2, by rw [upd_ne this]; exact h3, h4⟩
    | lft q a b c L =>
      obtain ⟨h1, h2, h3, h4, h5, h6⟩ := g
      refine ⟨h1, h2.mono (Same.upd hB) (fun q _ o z => z) (fun x hx _ z => ?_), h3, h4, h5, h6⟩
      have : x ≠ p := fun z => (h6 x (h3 ▸ hx)).1 (z ▸ h0)
      rw [upd_ne this]
      exact z
    | tab P q =>
      obtain ⟨h1, h2, h3⟩ := g
      have : P ≠ p := fun z => (E.bs.me P h3).2 (z ▸ h0)
      exact ⟨h1.mono (Same.upd hB) (fun o z => z), by rw [upd_ne this]; exact h2, h3⟩
/-- no slot owns what is not yet there -/
theorem EnvOk.notown (E : EnvOk F B H σ ρ) {p : Addr} (hp : H p = none) : ∀ (i : Nat) (l : Sl), ρ[i]? = some l → l.isOwn = true → σ[i]? ≠ some (some (.ref p)) := fun i l h ho z => by
  have g := E.at_ i l h
  cases l with
  | un => cases ho
  | val d => cases ho
  | own ds =>
    obtain ⟨q, vs, h1, h2, h3, h4, h5⟩ := g
    rw [z] at h1
    cases h1
    rw [hp] at h2
    cases h2
  | ins q c ns ds =>
    obtain ⟨dx, vs, h1, h2, h3⟩ := g
    rw [z] at h1
    cases h1
    rw [hp] at h2
    cases h2
  | src q =>
    obtain ⟨h1, ⟨_, _, _, h2, _⟩, h3⟩ := g
    rw [z] at h1
    cases h1
    rw [hp] at h2
    cases h2
  | lft q a b c L =>
    obtain ⟨h1, h2, _⟩ := g
    rw [z] at h1
    cases h1
    exact h2.mem p (by simp) hp
  | tab P q => cases ho
/-- no source beside a Lifting -/
theorem EnvOk.nosrc (E : EnvOk F B H σ ρ) {i : Nat} {p a b c : Addr} {L : LSt} (h : ρ[i]? = some (.lft p a b c L)) : ∀ (j : Nat) (q : Addr), ρ[j]? ≠ some (.src q) := fun j q z => by
  obtain ⟨_, _, h3, _⟩ := E.at_ i _ h
  obtain ⟨_, _, _, _, _, g3⟩ := E.at_ j _ z
  rw [h3] at g3
  cases g3
/-- a new object -/
theorem EnvOk.new (E : EnvOk F B H σ ρ) {p : Addr} (o : HO) (hp : H p = none) : EnvOk F (L2.upd B p o) (L2.upd H p o) σ ρ :=
  (E.grow (Same.upd hp)).know (E.bs.bnew hp) (E.bs.new hp) upd_same (E.notown hp)
theorem EnvOk.sameB (E : EnvOk F B H σ ρ) {p : Addr} (o : HO) (hp : H p = none) : Same B (L2.upd B p o) := Same.upd (E.bs.bnew hp)
/-- a slot takes a value -/
theorem EnvOk.val (E : EnvOk F B H σ ρ) {i : Nat} {d : D} {v : V} (r : Rep F.K B d v) : EnvOk F B H (σ.set i (some v)) (ρ.set i (.val d)) := by
  refine ⟨E.bs, by rw [List.length_set, List.length_set]; exact E.len, fun j l h => ?_, fun j j' l m p h1 h2 o1 o2 e1 e2 => ?_⟩
  · by_cases hj : i = j
    · subst hj
      have hl : i < ρ.length := by
        have := (List.getElem?_eq_some_iff.mp h).1
        rwa [List.length_set] at this
      rw [List.getElem?_set_self hl] at h
      cases h
      exact ⟨v, List.getElem?_set_self (by rw [E.len]; exact hl), r⟩
    · rw [List.getElem?_set_ne hj] at h ⊢
      exact E.at_ j l h
  · have n1 : i ≠ j := fun z => by
      subst z
      have hl : i < ρ.length := by
        have := (List.getElem?_eq_some_iff.mp h1).1
        rwa [List.length_set] at this
      rw [List.getElem?_set_self hl] at h1
      cases h1
      cases o1
    have n2 : i ≠ j' := fun z => by
      subst z
      have hl : i < ρ.length := by
        have := (List.getElem?_eq_some_iff.mp h2).1
        rwa [List.length_set] at this
      rw [List.getElem?_set_self hl] at h2
      cases h2
      cases o2
    rw [List.getElem?_set_ne n1] at h1 e1
    rw [List.getElem?_set_ne n2] at h2 e2
    exact E.inj j j' l m p h1 h2 o1 o2 e1 e2
/-- a slot takes a new list of its own -/
theorem EnvOk.own (E : EnvOk F B H σ ρ) {i : Nat} {ds : List D} {p : Addr} {vs : List V} (hp : H p = some (.lst vs)) (hB : B p = none) (h0 : F.H0 p = none) (r : RepL F.K B ds vs) (hn : ∀ (i : Nat) (l : Sl), ρ[i]? = some l → l.isOwn = true → σ[i]? ≠ some (some (.ref p))) :
    EnvOk F B H (σ.set i (some (.ref p))) (ρ.set i (.own ds)) := by
  refine ⟨E.bs, by rw [List.length_set, List.length_set]; exact E.len, fun j l h => ?_, fun j j' l m q h1 h2 o1 o2 e1 e2 => ?_⟩
  · by_cases hj : i = j
    · subst hj
      have hl : i < ρ.length := by
        have := (List.getElem?_eq_some_iff.mp h).1
        rwa [List.length_set] at this
      rw [List.getElem?_set_self hl] at h
      cases h
      exact ⟨p, vs, List.getElem?_set_self (by rw [E.len]; exact hl), hp, hB, h0, r⟩
    · rw [List.getElem?_set_ne hj] at h ⊢
      exact E.at_ j l h
  · by_cases n1 : i = j
    · by_cases n2 : i = j'
      · rw [← n1, ← n2]
      · rw [List.getElem?_set_ne n2] at h2 e2
        subst n1
        have hl : i < σ.length := by
          have := (List.getElem?_eq_some_iff.mp e1).1
          rwa [List.length_set] at this
        rw [List.getElem?_set_self hl] at e1
        cases e1
        exact absurd e2 (hn j' m h2 o2)
    · rw [List.getElem?_set_ne n1] at h1 e1
      by_cases n2 : i = j'
      · subst n2
        have hl : i < σ.length := by
          have := (List.getElem?_eq_some_iff.mp e2).1
          rwa [List.length_set] at this
        rw [List.getElem?_set_self hl] at e2
        cases e2
        exact absurd e1 (hn j l h1 o1)
      · rw [List.getElem?_set_ne n2] at h2 e2
        exact E.inj j j' l m q h1 h2 o1 o2 e1 e2
theorem Stp.refl (E : EnvOk F B H σ ρ) : Stp F σ ρ B H B H := ⟨E, Same.refl B, fun _ _ h _ => h, fun _ _ h => h, fun _ h => h⟩
theorem Stp.trans {B1 H1 B2 H2 : Hp} (a : Stp F σ ρ B H B1 H1) (b : Stp F σ ρ B1 H1 B2 H2) : Stp F σ ρ B H B2 H2 :=
  ⟨b.env, a.bb.trans b.bb, fun p o h n => b.kp p o (a.kp p o h n) n, fun p h1 h2 => b.z p (a.al p h1) (a.z p h1 h2), fun p h => b.al p (a.al p h)⟩
theorem Stp.grow {B1 H1 H2 : Hp} (a : Stp F σ ρ B H B1 H1) (e : Same H1 H2) : Stp F σ ρ B H B1 H2 :=
  ⟨a.env.grow e, a.bb, fun p o h n => e p o (a.kp p o h n), a.z, fun p h => by
    cases q : H1 p with
    | none => exact absurd q (a.al p h)
    | some o =>
      rw [e p o q]
      exact Option.some_ne_none _⟩
/-- a new object -/
theorem Stp.new (E : EnvOk F B H σ ρ) {p : Addr} (o : HO) (hp : H p = none) : Stp F σ ρ B H (L2.upd B p o) (L2.upd H p o) :=
  ⟨E.new o hp, E.sameB o hp, fun b u h _ => Same.upd hp b u h, fun b h1 h2 => by
    have : b ≠ p := fun z => h1 (z ▸ hp)
    rw [upd_ne this]
    exact h2, fun b h => by
    by_cases hb : b = p
    · subst hb
      rw [upd_same]
      exact Option.some_ne_none _
    · rw [upd_ne hb]
      exact h⟩
/-- the slots as they stand at other places -/
theorem EnvOk.re {B' H' : Hp} {σ2 : L2.St} {ρ2 : List Sl} (E : EnvOk F B' H' σ2 ρ2) (hl : σ.length = ρ.length) (h : ∀ (j : Nat) (l : Sl), ρ[j]? = some l → l = .un ∨ (ρ2[j]? = some l ∧ σ2[j]? = σ[j]?)) : EnvOk F B' H' σ ρ := by
  refine ⟨E.bs, hl, fun i l e => ?_, fun i j l m p h1 h2 o1 o2 e1 e2 => ?_⟩
  · rcases h i l e with z | ⟨z1, z2⟩
    · subst z
      trivial
    · rw [← z2]
      exact E.at_ i l z1
  · rcases h i l h1 with z | ⟨z1, z2⟩
    · subst z
      cases o1
    · rcases h j m h2 with y | ⟨y1, y2⟩
      · subst y
        cases o2
      · exact E.inj i j l m p z1 y1 o1 o2 (by rw [z2]; exact e1) (by rw [y2]; exact e2)
end
end K33
namespace K33
open PySem PySem.Spec PyProof.Rows L2
section
variable {F : Fm} {ρ : List Sl} {k : D → Prop} {kl : List D → Prop} {kb : Bool → Prop} {ta tb tc te : TE} {tt tu : TT} {tas : TA}

theorem ev_var {i : Nat} {d : D} (h : ρ[i]? = some (.val d)) (q : k d) : EvD F (tVar i) ρ k := fun B H σ E Q hQ => by
  obtain ⟨v, h1, h2⟩ := E.at_ i _ h
  exact ⟨v, h1, hQ d v B H q (.refl E) h2⟩
theorem ev_src {i : Nat} {p : Addr} (h : ρ[i]? = some (.src p)) (q : k (.raw (.ref p))) : EvD F (tVar i) ρ k := fun B H σ E Q hQ => by
  obtain ⟨h1, h2⟩ := E.at_ i _ h
  exact ⟨_, h1, hQ _ _ B H q (.refl E) rfl⟩
theorem ev_int {i : Int} (q : k (.int i)) : EvD F (tC (.int i)) ρ k := fun B H σ E Q hQ => hQ _ _ B H q (.refl E) rfl
theorem ev_bl {i : Bool} (q : k (.bl i)) : EvD F (tC (.bl i)) ρ k := fun B H σ E Q hQ => hQ _ _ B H q (.refl E) rfl
theorem ev_str {i : Str} (q : k (.str i)) : EvD F (tC (.str i)) ρ k := fun B H σ E Q hQ => hQ _ _ B H q (.refl E) rfl
theorem ev_non (q : k .non) : EvD F (tC .non) ρ k := fun B H σ E Q hQ => hQ _ _ B H q (.refl E) rfl
theorem ev_rawc {v : V} (q : k (.raw v)) : EvD F (tC v) ρ k := fun B H σ E Q hQ => hQ _ _ B H q (.refl E) rfl
theorem EvD.imp {k' : D → Prop} (h : EvD F te ρ k) (i : ∀ d, k d → k' d) : EvD F te ρ k' := fun B H σ E Q hQ => h B H σ E Q fun d v B' H' q => hQ d v B' H' (i d q)
theorem EvT.imp {k' : Bool → Prop} (h : EvT F tt ρ kb) (i : ∀ d, kb d → k' d) : EvT F tt ρ k' := fun B H σ E Q hQ => h B H σ E Q fun d B' H' q => hQ d B' H' (i d q)
theorem ev_op {r : R2} (h : EvD F ta ρ fun x => EvD F tb ρ fun y => ROp F r ρ x y k) : EvD F (tOp r ta tb) ρ k := fun B H σ E Q hQ =>
  h B H σ E _ fun x vx B1 H1 g S1 r1 => g B1 H1 σ S1.env _ fun y vy B2 H2 g2 S2 r2 => g2 B2 H2 σ vx vy S2.env (r1.mono S2.bb) r2 Q fun d v B3 H3 q S3 r3 => hQ d v B3 H3 q ((S1.trans S2).trans S3) r3
theorem ev_un {r : V → Hp → VK → Prop} (h : EvD F ta ρ fun x => ROu F r ρ x k) : EvD F (tUn r ta) ρ k := fun B H σ E Q hQ =>
  h B H σ E _ fun x vx B1 H1 g S1 r1 => g B1 H1 σ vx S1.env r1 Q fun d v B3 H3 q S3 r3 => hQ d v B3 H3 q (S1.trans S3) r3
theorem ev_cb {r : List V → Hp → VK → Prop} (h : EvA F tas ρ fun xs => ROc F r ρ xs k) : EvD F (tCB r tas) ρ k := fun B H σ E Q hQ =>
  h B H σ E _ fun x vx B1 H1 g S1 r1 => g B1 H1 σ vx S1.env r1 Q fun d v B3 H3 q S3 r3 => hQ d v B3 H3 q (S1.trans S3) r3
theorem ea_nil (q : kl []) : EvA F tNil ρ kl := fun B H σ E Q hQ => hQ _ _ B H q (.refl E) rfl
theorem ea_cons {tr : TA} (h : EvD F ta ρ fun x => EvA F tr ρ fun xs => kl (x :: xs)) : EvA F (tCons ta tr) ρ kl := fun B H σ E Q hQ =>
  h B H σ E _ fun x vx B1 H1 g S1 r1 => g B1 H1 σ S1.env _ fun xs vs B2 H2 g2 S2 r2 => hQ _ _ B2 H2 g2 (S1.trans S2) (.cons (r1.mono S2.bb) r2)
theorem EvA.imp {k' : List D → Prop} (h : EvA F tas ρ kl) (i : ∀ d, kl d → k' d) : EvA F tas ρ k' := fun B H σ E Q hQ => h B H σ E Q fun d v B' H' q => hQ d v B' H' (i d q)
/-! ### tests -/
theorem et_test (h : EvD F te ρ fun d => ∃ b, d = .bl b ∧ kb b) : EvT F (tTest te) ρ kb := fun B H σ E Q hQ =>
  h B H σ E _ fun d v B1 H1 g S1 r1 => by
    obtain ⟨b, rfl, q⟩ := g
    cases r1
    exact ⟨b, rfl, hQ b B1 H1 q S1⟩
theorem et_B (h : EvD F te ρ fun d => ∃ b, d = .bl b ∧ kb b) : EvT F (tB te) ρ kb := fun B H σ E Q hQ =>
  h B H σ E _ fun d v B1 H1 g S1 r1 => by
    obtain ⟨b, rfl, q⟩ := g
    cases r1
    exact ⟨b, rfl, hQ b B1 H1 q S1⟩
theorem et_and (h : EvT F tt ρ fun b => if b = true then EvT F tu ρ kb else kb false) : EvT F (tAnd tt tu) ρ kb := fun B H σ E Q hQ =>
  h B H σ E _ fun b B1 H1 g S1 => by
    cases b with
    | true => exact (show EvT F tu ρ kb from g) B1 H1 σ S1.env Q fun b B2 H2 q S2 => hQ b B2 H2 q (S1.trans S2)
    | false => exact hQ false B1 H1 (show kb false from g) S1
theorem et_or (h : EvT F tt ρ fun b => if b = true then kb true else EvT F tu ρ kb) : EvT F (tOr tt tu) ρ kb := fun B H σ E Q hQ =>
  h B H σ E _ fun b B1 H1 g S1 => by
    cases b with
    | false => exact (show EvT F tu ρ kb from g) B1 H1 σ S1.env Q fun b B2 H2 q S2 => hQ b B2 H2 q (S1.trans S2)
    | true => exact hQ true B1 H1 (show kb true from g) S1
theorem et_not (h : EvT F tt ρ fun b => kb (!b)) : EvT F (tNot tt) ρ kb := fun B H σ E Q hQ => h B H σ E _ fun b B1 H1 g S1 => hQ _ B1 H1 g S1
theorem ev_and (h : EvD F ta ρ fun d => ∃ b, d = .bl b ∧ if b = true then EvD F tb ρ k else k (.bl false)) : EvD F (tAndV ta tb) ρ k := fun B H σ E Q hQ =>
  h B H σ E _ fun d v B1 H1 g S1 r1 => by
    obtain ⟨b, rfl, q⟩ := g
    cases r1
    refine ⟨b, rfl, ?_⟩
    cases b with
    | true => exact (show EvD F tb ρ k from q) B1 H1 σ S1.env Q fun d v B2 H2 q S2 => hQ d v B2 H2 q (S1.trans S2)
    | false => exact hQ _ _ B1 H1 (show k (.bl false) from q) S1 rfl
theorem ev_or (h : EvD F ta ρ fun d => ∃ b, d = .bl b ∧ if b = true then k (.bl true) else EvD F tb ρ k) : EvD F (tOrV ta tb) ρ k := fun B H σ E Q hQ =>
  h B H σ E _ fun d v B1 H1 g S1 r1 => by
    obtain ⟨b, rfl, q⟩ := g
    cases r1
    refine ⟨b, rfl, ?_⟩
    cases b with
    | false => exact (show EvD F tb ρ k from q) B1 H1 σ S1.env Q fun d v B2 H2 q S2 => hQ d v B2 H2 q (S1.trans S2)
    | true => exact hQ _ _ B1 H1 (show k (.bl true) from q) S1 rfl
theorem ev_notV (h : EvD F ta ρ fun d => ∃ b, d = .bl b ∧ k (.bl (!b))) : EvD F (tNotV ta) ρ k := fun B H σ E Q hQ =>
  h B H σ E _ fun d v B1 H1 g S1 r1 => by
    obtain ⟨b, rfl, q⟩ := g
    cases r1
    exact ⟨b, rfl, hQ _ _ B1 H1 q S1 rfl⟩
theorem ev_if (h : EvT F tt ρ fun b => if b = true then EvD F ta ρ k else EvD F tb ρ k) : EvD F (tIf tt ta tb) ρ k := fun B H σ E Q hQ =>
  h B H σ E _ fun b B1 H1 g S1 => by
    cases b with
    | true => exact (show EvD F ta ρ k from g) B1 H1 σ S1.env Q fun d v B2 H2 q S2 => hQ d v B2 H2 q (S1.trans S2)
    | false => exact (show EvD F tb ρ k from g) B1 H1 σ S1.env Q fun d v B2 H2 q S2 => hQ d v B2 H2 q (S1.trans S2)
theorem ev_chain {r r' : R2} (h : EvD F ta ρ fun x => EvD F tb ρ fun y => ROp F r ρ x y fun z => ∃ b, z = .bl b ∧ if b = true then EvD F tc ρ (fun w => ROp F r' ρ y w k) else k (.bl false)) : EvD F (tChain r r' ta tb tc) ρ k := fun B H σ E Q hQ =>
  h B H σ E _ fun x vx B1 H1 g S1 r1 => g B1 H1 σ S1.env _ fun y vy B2 H2 g2 S2 r2 => g2 B2 H2 σ vx vy S2.env (r1.mono S2.bb) r2 _ fun d v B3 H3 q S3 r3 => by
    obtain ⟨b, rfl, q⟩ := q
    cases r3
    refine ⟨b, rfl, ?_⟩
    cases b with
    | true => exact (show EvD F tc ρ (fun w => ROp F r' ρ y w k) from q) B3 H3 σ S3.env _ fun w vw B4 H4 g4 S4 r4 => g4 B4 H4 σ vy vw S4.env (r2.mono (S3.bb.trans S4.bb)) r4 Q fun d v B5 H5 q5 S5 r5 => hQ d v B5 H5 q5 ((((S1.trans S2).trans S3).trans S4).trans S5) r5
    | false => exact hQ _ _ B3 H3 (show k (.bl false) from q) ((S1.trans S2).trans S3) rfl
/-! ### displays -/
theorem sz5 {n : Nat} (h : n ≤ 100000) : n ≤ sizeLine := Nat.le_trans h (by decide)
theorem ev_tup (h : EvA F tas ρ fun ds => ds.length ≤ 100000 ∧ k (.tup ds)) : EvD F (tTup tas) ρ k := fun B H σ E Q hQ =>
  h B H σ E _ fun ds vs B1 H1 ⟨hl, q⟩ S1 r1 => ⟨sz5 (by rw [r1.len]; exact hl), fun p hp => hQ _ _ _ _ q (S1.trans (.new S1.env _ hp)) ⟨p, vs, rfl, .inl (.inl upd_same), r1.mono (S1.env.sameB _ hp)⟩⟩
theorem en_lst (h : EvA F tas ρ fun ds => ds.length ≤ 100000 ∧ kl ds) : EvN F (tLst tas) ρ kl := fun B H σ E Q hQ =>
  h B H σ E _ fun ds vs B1 H1 ⟨hl, q⟩ S1 r1 => ⟨sz5 (by rw [r1.len]; exact hl), fun p hp => hQ ds p vs B1 _ q (S1.grow (Same.upd hp)) (by
    cases z : H p with
    | none => rfl
    | some o => exact absurd hp (S1.al p (by rw [z]; exact Option.some_ne_none _))) (S1.env.bs.bnew hp) upd_same r1⟩
theorem EvN.ev (h : EvN F te ρ fun ds => k (.lst ds)) : EvD F te ρ k := fun B H σ E Q hQ =>
  h B H σ E Q fun ds p vs B' H' q S hp hB hH r => by
    refine hQ _ _ (upd B' p (.lst vs)) H' q ⟨S.env.know hB (E.bs.new hp) hH (E.notown hp), S.bb.trans (Same.upd hB), S.kp, fun b h1 h2 => ?_, S.al⟩ ⟨p, vs, rfl, upd_same, r.mono (Same.upd hB)⟩
    have : b ≠ p := fun z => h1 (z ▸ hp)
    rw [upd_ne this]
    exact S.z b h1 h2
theorem EvN.imp {k' : List D → Prop} (h : EvN F te ρ kl) (i : ∀ d, kl d → k' d) : EvN F te ρ k' := fun B H σ E Q hQ => h B H σ E Q fun d p v B' H' q => hQ d p v B' H' (i d q)
theorem ev_lst (h : EvA F tas ρ fun ds => ds.length ≤ 100000 ∧ k (.lst ds)) : EvD F (tLst tas) ρ k := (en_lst h).ev

/-! ### operators -/
theorem ro_v {r : R2} {x y d : D} (q : k d) (h : ∀ (B H : Hp) (vx vy : V) (Q : VK), Same B H → Rep F.K B x vx → Rep F.K B y vy → (∀ v, Rep F.K B d v → Q v H) → r vx vy H Q) : ROp F r ρ x y k := fun B H σ vx vy E rx ry Q hQ =>
  h B H vx vy Q E.bs.bh rx ry fun v rv => hQ d v B H q (.refl E) rv
theorem ro_I0 {g : Int → Int → Int} {i j : Int} (q : k (.int (g i j))) : ROp F (rI0 fun i j => .int (g i j)) ρ (.int i) (.int j) k := ro_v q fun B H vx vy Q _ rx ry hv => by
  cases rx
  cases ry
  exact ⟨i, j, rfl, rfl, hv _ rfl⟩
theorem ro_B0 {g : Int → Int → Bool} {i j : Int} (q : k (.bl (g i j))) : ROp F (rI0 fun i j => .bl (g i j)) ρ (.int i) (.int j) k := ro_v q fun B H vx vy Q _ rx ry hv => by
  cases rx
  cases ry
  exact ⟨i, j, rfl, rfl, hv _ rfl⟩
theorem ro_I {C : Int → Int → Prop} {g : Int → Int → Int} {i j : Int} (hc : C i j) (q : k (.int (g i j))) : ROp F (rI C fun i j => .int (g i j)) ρ (.int i) (.int j) k := ro_v q fun B H vx vy Q _ rx ry hv => by
  cases rx
  cases ry
  exact ⟨i, j, rfl, rfl, hc, hv _ rfl⟩
theorem ro_un {g : Int → Int} {i : Int} (q : k (.int (g i))) : ROu F (rU fun i => .int (g i)) ρ (.int i) k := fun B H σ vx E rx Q hQ => by
  cases rx
  exact ⟨i, rfl, hQ _ _ B H q (.refl E) rfl⟩
/-- a + b: ints, texts, tuples, lists -/
def rAddX (K : PySem.W.Frag) : R2 := fun x y H Q => (rI0 fun i j => .int (i + j)) x y H Q ∨ (∃ i j, x = .str i ∧ y = .str j ∧ i.length + j.length ≤ sizeLine ∧ Q (.str (i ++ j)) H) ∨ rCatA K x y H Q ∨ rCat x y H Q
theorem op_addX {X : Cx} : OpR X (binaryOp .Add) (rAddX X.K) := by
  intro pins s σ H x y v u Q I rx ry h
  rcases h with h | h | h | h
  · exact op_add pins s σ H x y v u Q I rx ry h
  · exact op_add_str pins s σ H x y v u Q I rx ry h
  · exact op_catA pins s σ H x y v u Q I rx ry h
  · exact op_cat pins s σ H x y v u Q I rx ry h
theorem ro_add {i j : Int} (q : k (.int (i + j))) : ROp F (rAddX F.K) ρ (.int i) (.int j) k := ro_v q fun B H vx vy Q _ rx ry hv => by
  cases rx
  cases ry
  exact .inl ⟨i, j, rfl, rfl, hv _ rfl⟩
theorem ro_adds {i j : Str} (h : i.length + j.length ≤ 100000) (q : k (.str (i ++ j))) : ROp F (rAddX F.K) ρ (.str i) (.str j) k := ro_v q fun B H vx vy Q _ rx ry hv => by
  cases rx
  cases ry
  exact .inr (.inl ⟨i, j, rfl, rfl, sz5 h, hv _ rfl⟩)
theorem ro_cat {xs ys : List D} (h : xs.length + ys.length ≤ 100000) (q : k (.lst (xs ++ ys))) : ROp F (rAddX F.K) ρ (.lst xs) (.lst ys) k := fun B H σ vx vy E rx ry Q hQ => by
  obtain ⟨a, us, rfl, h1, h2⟩ := rx
  obtain ⟨b, ws, rfl, h3, h4⟩ := ry
  refine .inr (.inr (.inr ⟨a, b, us, ws, rfl, rfl, E.bs.bh _ _ h1, E.bs.bh _ _ h3, sz5 (by rw [h2.len, h4.len]; exact h), fun p hp => ?_⟩))
  exact hQ _ _ _ _ q (.new E _ hp) ⟨p, _, rfl, upd_same, (h2.append h4).mono (E.sameB _ hp)⟩
theorem ro_catT {xs ys : List D} (h : xs.length + ys.length ≤ 100000) (q : k (.tup (xs ++ ys))) : ROp F (rAddX F.K) ρ (.tup xs) (.tup ys) k := fun B H σ vx vy E rx ry Q hQ => by
  obtain ⟨a, us, rfl, h1, h2⟩ := rx
  obtain ⟨b, ws, rfl, h3, h4⟩ := ry
  have z1 := h2.len
  have z2 := h4.len
  refine .inr (.inr (.inl ⟨a, b, us, ws, rfl, rfl, Same.sqT E.bs.bh h1, Same.sqT E.bs.bh h3, sz5 (by rw [h2.len, h4.len]; exact h), fun e => ?_, fun e1 e2 => ?_, fun e1 e2 p hp => ?_⟩))
  · subst e
    have : xs = [] := List.eq_nil_of_length_eq_zero z1.symm
    subst this
    exact hQ _ _ B H q (.refl E) ⟨b, ws, rfl, h3, h4⟩
  · subst e2
    have : ys = [] := List.eq_nil_of_length_eq_zero z2.symm
    subst this
    exact hQ _ _ B H q (.refl E) ⟨a, us, rfl, h1, by rw [List.append_nil]; exact h2⟩
  · exact hQ _ _ _ _ q (.new E _ hp) ⟨p, _, rfl, .inl (.inl upd_same), (h2.append h4).mono (E.sameB _ hp)⟩
/-- a * b: great ints, a list by an int -/
def rMulX : R2 := fun x y H Q => (rI CMulW fun i j => .int (i * j)) x y H Q ∨ (rI CMul fun i j => .int (i * j)) x y H Q ∨ rRep x y H Q
theorem op_mulX2 {X : Cx} : OpR X (binaryOp .Mult) rMulX := by
  intro pins s σ H x y v u Q I rx ry h
  rcases h with h | h | h
  · exact op_mulW pins s σ H x y v u Q I rx ry h
  · exact op_mul pins s σ H x y v u Q I rx ry h
  · exact op_rep pins s σ H x y v u Q I rx ry h
theorem ro_mul {i j : Int} (h : CMulW i j) (q : k (.int (i * j))) : ROp F rMulX ρ (.int i) (.int j) k := ro_v q fun B H vx vy Q _ rx ry hv => by
  cases rx
  cases ry
  exact .inl ⟨i, j, rfl, rfl, h, hv _ rfl⟩
theorem ro_mul1 {i j : Int} (h : CMul i j) (q : k (.int (i * j))) : ROp F rMulX ρ (.int i) (.int j) k := ro_v q fun B H vx vy Q _ rx ry hv => by
  cases rx
  cases ry
  exact .inr (.inl ⟨i, j, rfl, rfl, h, hv _ rfl⟩)
/-- a == b -/
def rEqX (K : PySem.W.Frag) : R2 := fun x y H Q => rEq x y H Q ∨ rEqD K x y H Q
def rNeX (K : PySem.W.Frag) : R2 := fun x y H Q => rNe x y H Q ∨ rNeD K x y H Q
theorem op_eqX {X : Cx} (hu : X.A.units + 64 < cLine) : OpR X (compareOp .Eq) (rEqX X.K) := by
  intro pins s σ H x y v u Q I rx ry h
  rcases h with h | h
  · exact op_eq pins s σ H x y v u Q I rx ry h
  · exact op_eqD hu pins s σ H x y v u Q I rx ry h
theorem op_neX {X : Cx} (hu : X.A.units + 64 < cLine) : OpR X (compareOp .NotEq) (rNeX X.K) := by
  intro pins s σ H x y v u Q I rx ry h
  rcases h with h | h
  · exact op_ne pins s σ H x y v u Q I rx ry h
  · exact op_neD hu pins s σ H x y v u Q I rx ry h
theorem ro_eq_i {i j : Int} (q : k (.bl (decide (i = j)))) : ROp F (rEqX F.K) ρ (.int i) (.int j) k := ro_v q fun B H vx vy Q _ rx ry hv => by
  cases rx
  cases ry
  exact .inl ⟨rfl, by
    rw [show decide (V.int i = V.int j) = decide (i = j) by simp]
    exact hv _ rfl⟩
theorem ro_eq_s {i j : Str} (q : k (.bl (decide (i = j)))) : ROp F (rEqX F.K) ρ (.str i) (.str j) k := ro_v q fun B H vx vy Q _ rx ry hv => by
  cases rx
  cases ry
  exact .inl ⟨rfl, by
    rw [show decide (V.str i = V.str j) = decide (i = j) by simp]
    exact hv _ rfl⟩
theorem ro_eq_b {i j : Bool} (q : k (.bl (decide (i = j)))) : ROp F (rEqX F.K) ρ (.bl i) (.bl j) k := ro_v q fun B H vx vy Q _ rx ry hv => by
  cases rx
  cases ry
  exact .inl ⟨rfl, by
    rw [show decide (V.bl i = V.bl j) = decide (i = j) by simp]
    exact hv _ rfl⟩
theorem ro_eq_d {x y : D} {p r : PyData} (hx : x.data = some p) (hy : y.data = some r) (sx : SeqAt.shaped p = true) (sy : SeqAt.shaped r = true) (q : k (.bl (PyData.eqv p r))) : ROp F (rEqX F.K) ρ x y k := fun B H σ vx vy E rx ry Q hQ =>
  .inr ⟨p, r, (rx.mono E.bs.bh).dp hx, (ry.mono E.bs.bh).dp hy, sx, sy, hQ _ _ B H q (.refl E) rfl⟩
theorem ro_ne_i {i j : Int} (q : k (.bl (!decide (i = j)))) : ROp F (rNeX F.K) ρ (.int i) (.int j) k := ro_v q fun B H vx vy Q _ rx ry hv => by
  cases rx
  cases ry
  exact .inl ⟨rfl, by
    rw [show decide (V.int i = V.int j) = decide (i = j) by simp]
    exact hv _ rfl⟩
theorem ro_ne_d {x y : D} {p r : PyData} (hx : x.data = some p) (hy : y.data = some r) (sx : SeqAt.shaped p = true) (sy : SeqAt.shaped r = true) (q : k (.bl (!PyData.eqv p r))) : ROp F (rNeX F.K) ρ x y k := fun B H σ vx vy E rx ry Q hQ =>
  .inr ⟨p, r, (rx.mono E.bs.bh).dp hx, (ry.mono E.bs.bh).dp hy, sx, sy, hQ _ _ B H q (.refl E) rfl⟩
/-- x is None -/
def D.isNon : D → Bool
  | .non => true
  | _ => false
/-- no value of the program's own that may be None unseen -/
def D.told : D → Bool
  | .raw _ => false
  | _ => true
theorem Rep.isNon {K : PySem.W.Frag} {B : Hp} {d : D} {v : V} (h : Rep K B d v) (t : d.told = true) : decide (v = .non) = d.isNon := by
  cases d with
  | non => cases h; rfl
  | bl b => cases h; rfl
  | int b => cases h; rfl
  | str b => cases h; rfl
  | raw b => cases t
  | sq b => obtain ⟨a, rfl, _⟩ := h; rfl
  | dk b => obtain ⟨a, rfl, _⟩ := h; rfl
  | tup xs => obtain ⟨a, vs, rfl, _⟩ := h; rfl
  | lst xs => obtain ⟨a, vs, rfl, _⟩ := h; rfl
  | obj c ns xs => obtain ⟨a, dx, vs, rfl, _⟩ := h; rfl
theorem ro_isN {x : D} (t : x.told = true) (q : k (.bl x.isNon)) : ROp F (fun x y H Q => y = .non ∧ Q (.bl (decide (x = .non))) H) ρ x .non k := ro_v q fun B H vx vy Q _ rx ry hv => by
  cases ry
  refine ⟨rfl, ?_⟩
  rw [rx.isNon t]
  exact hv _ rfl
theorem ro_notN {x : D} (t : x.told = true) (q : k (.bl (!x.isNon))) : ROp F (fun x y H Q => y = .non ∧ Q (.bl (!decide (x = .non))) H) ρ x .non k := ro_v q fun B H vx vy Q _ rx ry hv => by
  cases ry
  refine ⟨rfl, ?_⟩
  rw [rx.isNon t]
  exact hv _ rfl
/-! ### items -/
theorem RepL.at {K : PySem.W.Frag} {B : Hp} {ds : List D} {vs : List V} {i : Int} {d : D} (h : RepL K B ds vs) (e : atI ds i = some d) : ∃ v, atI vs i = some v ∧ Rep K B d v := by
  unfold atI at e ⊢
  rw [h.len]
  cases q : ixN ds.length i with
  | none => rw [q] at e; cases e
  | some j =>
    rw [q] at e
    exact h.get e
theorem ro_ixT {ds : List D} {i : Int} {d : D} (e : atI ds i = some d) (q : k d) : ROp F (rIx F.K) ρ (.tup ds) (.int i) k := fun B H σ vx vy E rx ry Q hQ => by
  obtain ⟨a, us, rfl, h1, h2⟩ := rx
  cases ry
  obtain ⟨v, h3, h4⟩ := h2.at e
  exact .inr (.inl ⟨a, us, i, v, rfl, rfl, Same.sqT E.bs.bh h1, h3, hQ _ _ B H q (.refl E) h4⟩)
theorem ro_ixL {ds : List D} {i : Int} {d : D} (e : atI ds i = some d) (q : k d) : ROp F (rIx F.K) ρ (.lst ds) (.int i) k := fun B H σ vx vy E rx ry Q hQ => by
  obtain ⟨a, us, rfl, h1, h2⟩ := rx
  cases ry
  obtain ⟨v, h3, h4⟩ := h2.at e
  exact .inl ⟨a, us, i, v, rfl, rfl, .inl (.inl (E.bs.bh _ _ h1)), h3, hQ _ _ B H q (.refl E) h4⟩
theorem ro_ixS {z : Str} {i : Int} {c : Nat} (hz : z.length ≤ 100000) (e : atI z.cps.toList i = some c) (q : k (.str ⟨#[c]⟩)) : ROp F (rIx F.K) ρ (.str z) (.int i) k := ro_v q fun B H vx vy Q _ rx ry hv => by
  cases rx
  cases ry
  exact .inr (.inr ⟨z, i, c, rfl, rfl, sz5 hz, e, hv _ rfl⟩)
/-- an item of a list of the def's own -/
theorem ev_ixO {i : Nat} {ds : List D} (h : ρ[i]? = some (.own ds)) (g : EvD F tb ρ fun y => ∃ n d, y = .int n ∧ atI ds n = some d ∧ k d) : EvD F (tOp (rIx F.K) (tVar i) tb) ρ k := fun B H σ E Q hQ => by
  obtain ⟨p, vs, h1, h2, h3, h4, h5⟩ := E.at_ i _ h
  refine ⟨_, h1, ?_⟩
  refine g B H σ E _ fun y vy B1 H1 ⟨n, d, ey, e, q⟩ S1 r1 => ?_
  subst ey
  cases r1
  obtain ⟨p', vs', a1, a2, a3, a4, a5⟩ := S1.env.at_ i _ h
  rw [h1] at a1
  cases a1
  obtain ⟨v, b1, b2⟩ := a5.at e
  exact .inl ⟨p, vs', n, v, rfl, rfl, .inl (.inl a2), b1, hQ _ _ B1 H1 q S1 b2⟩
/-- a field -/
def KC (K : PySem.W.Frag) (c f : Str) : Prop := Cls K (He.ga K c) ∧ NoAttr K (He.ga K c) f
theorem ev_fld {f : Str} (h : EvD F ta ρ fun x => ∃ c ns xs d, x = .obj c ns xs ∧ KC F.K c f ∧ (ns.zip xs).lookup f = some d ∧ k d) : EvD F (tFld F.K ta f) ρ k := fun B H σ E Q hQ =>
  h B H σ E _ fun x vx B1 H1 ⟨c, ns, xs, d, ex, kc, l, q⟩ S1 r1 => by
    subst ex
    obtain ⟨a, dx, vs, rfl, h1, h2, h3⟩ := r1
    obtain ⟨v, a1, a2⟩ := h3.look l
    exact ⟨a, _, dx, _, v, rfl, S1.env.bs.bh _ _ h1, kc.1, kc.2, a1, hQ _ _ B1 H1 q S1 a2⟩
/-- a field of the instance under way -/
theorem ev_fldM {i : Nat} {f : Str} {p : Addr} {c : Str} {ns : List Str} {xs : List D} {d : D} (h : ρ[i]? = some (.ins p c ns xs)) (kc : KC F.K c f) (l : (ns.zip xs).lookup f = some d) (q : k d) : EvD F (tFld F.K (tVar i) f) ρ k := fun B H σ E Q hQ => by
  obtain ⟨dx, vs, h1, h2, h3, h4, h5, h6⟩ := E.at_ i _ h
  obtain ⟨v, a1, a2⟩ := h6.look l
  exact ⟨_, h1, p, _, dx, _, v, rfl, h2, kc.1, kc.2, a1, hQ _ _ B H q (.refl E) a2⟩
/-! ### slices -/
theorem eo_no {ko : Option Int → Prop} (q : ko none) : EvO F tNoPart ρ ko := fun B H σ E Q hQ => hQ _ B H q (.refl E)
theorem eo_some {ko : Option Int → Prop} (h : EvD F te ρ fun d => ∃ i, d = .int i ∧ ko (some i)) : EvO F (tPart te) ρ ko := fun B H σ E Q hQ =>
  h B H σ E _ fun d v B1 H1 ⟨i, ed, q⟩ S1 r1 => by
    subst ed
    cases r1
    exact ⟨i, rfl, hQ _ B1 H1 q S1⟩
def cutD (xs : List D) (lo hi : Option Int) : List D := (xs.drop (HT.sIx xs.length 0 lo)).take (HT.sIx xs.length xs.length hi - HT.sIx xs.length 0 lo)
theorem en_sl {tl th : TO} (h : EvD F te ρ fun x => ∃ ds, x = .lst ds ∧ EvO F tl ρ fun lo => EvO F th ρ fun hi => kl (cutD ds lo hi)) : EvN F (tSl (rSlL F.K) te tl th) ρ kl := fun B H σ E Q hQ =>
  h B H σ E _ fun x vx B1 H1 ⟨ds, ex, g⟩ S1 r1 => g B1 H1 σ S1.env _ fun lo B2 H2 g2 S2 => g2 B2 H2 σ S2.env _ fun hi B3 H3 q S3 => by
    subst ex
    obtain ⟨a, us, rfl, h1, h2⟩ := r1
    refine ⟨a, us, rfl, .inl (.inl (S3.env.bs.bh _ _ (S3.bb _ _ (S2.bb _ _ h1)))), fun p hp => ?_⟩
    have S := (S1.trans S2).trans S3
    refine hQ _ p _ B3 _ q (S.grow (Same.upd hp)) (by
      cases z : H p with
      | none => rfl
      | some o => exact absurd hp (S.al p (by rw [z]; exact Option.some_ne_none _))) (S.env.bs.bnew hp) upd_same ?_
    unfold cutV cutD
    rw [h2.len]
    exact ((h2.mono (S2.bb.trans S3.bb)).drop _).take _
/-! ### a list of the def's own, read where it stands -/
def D.scalar : D → Bool
  | .non => true
  | .bl _ => true
  | .int _ => true
  | .str _ => true
  | _ => false
theorem Rep.scalar {K : PySem.W.Frag} {B B' : Hp} {d : D} {v : V} (h : Rep K B d v) (s : d.scalar = true) : Rep K B' d v := by
  cases d with
  | non => exact h
  | bl b => exact h
  | int b => exact h
  | str b => exact h
  | raw b => cases s
  | sq b => cases s
  | dk b => cases s
  | tup xs => cases s
  | lst xs => cases s
  | obj c ns xs => cases s
section
variable {B H : Hp} {σ : L2.St} {i : Nat} {ds : List D}
theorem EnvOk.freeze (E : EnvOk F B H σ ρ) (h : ρ[i]? = some (.own ds)) : ∃ p vs, σ[i]? = some (some (.ref p)) ∧ B p = none ∧ H p = some (.lst vs) ∧ RepL F.K B ds vs ∧ F.H0 p = none ∧ EnvOk F (upd B p (.lst vs)) H σ (ρ.set i (.val (.lst ds))) := by
  obtain ⟨p, vs, h1, h2, h3, h4, h5⟩ := E.at_ i _ h
  have hi : i < ρ.length := (List.getElem?_eq_some_iff.mp h).1
  refine ⟨p, vs, h1, h3, h2, h5, h4, ?_⟩
  have oth : ∀ (j : Nat) (l : Sl), j ≠ i → ρ[j]? = some l → l.isOwn = true → σ[j]? ≠ some (some (.ref p)) := fun j l n e o z => n (E.inj j i l _ p e h o rfl z h1)
  have E0 : EnvOk F B H σ (ρ.set i .un) := by
    refine ⟨E.bs, by rw [List.length_set]; exact E.len, fun j l e => ?_, fun j j' l m q e1 e2 o1 o2 f1 f2 => ?_⟩
    · by_cases hj : i = j
      · subst hj
        rw [List.getElem?_set_self hi] at e
        cases e
        trivial
      · rw [List.getElem?_set_ne hj] at e
        exact E.at_ j l e
    · have n1 : i ≠ j := fun z => by
        subst z
        rw [List.getElem?_set_self hi] at e1
        cases e1
        cases o1
      have n2 : i ≠ j' := fun z => by
        subst z
        rw [List.getElem?_set_self hi] at e2
        cases e2
        cases o2
      rw [List.getElem?_set_ne n1] at e1
      rw [List.getElem?_set_ne n2] at e2
      exact E.inj j j' l m q e1 e2 o1 o2 f1 f2
  have E1 := E0.know h3 h4 h2 (fun j l e o => by
    by_cases hj : i = j
    · subst hj
      rw [List.getElem?_set_self hi] at e
      cases e
      cases o
    · rw [List.getElem?_set_ne hj] at e
      exact oth j l (fun z => hj z.symm) e o)
  have E2 := E1.val (i := i) (d := .lst ds) (v := .ref p) ⟨p, vs, rfl, upd_same, h5.mono (Same.upd h3)⟩
  have es : σ.set i (some (V.ref p)) = σ := by
    apply List.ext_getElem?
    intro j
    by_cases hj : i = j
    · subst hj
      rw [List.getElem?_set_self (by rw [E.len]; exact hi), h1]
    · rw [List.getElem?_set_ne hj]
  rw [es, List.set_set] at E2
  exact E2
theorem Stp.thaw (E : EnvOk F B H σ ρ) (h : ρ[i]? = some (.own ds)) {p : Addr} {vs : List V} (h1 : σ[i]? = some (some (.ref p))) (hB : B p = none) (hH : H p = some (.lst vs)) (h0 : F.H0 p = none) {B' H' : Hp}
    (S : Stp F σ (ρ.set i (.val (.lst ds))) (upd B p (.lst vs)) H B' H') : Stp F σ ρ B H (fun b => if b = p then none else B' b) H' := by
  have hi : i < ρ.length := (List.getElem?_eq_some_iff.mp h).1
  have ss : Same B fun b => if b = p then none else B' b := fun b o e => by
    show (if b = p then none else B' b) = some o
    rw [if_neg (ne_of_none e hB)]
    exact S.bb b o (by rw [upd_ne (ne_of_none e hB)]; exact e)
  have srcs : ∀ b, (∀ j : Nat, ρ[j]? ≠ some (.src b)) → ∀ j : Nat, (ρ.set i (.val (.lst ds)))[j]? ≠ some (.src b) := fun b n j z => by
    by_cases hj : i = j
    · subst hj
      rw [List.getElem?_set_self hi] at z
      cases z
    · rw [List.getElem?_set_ne hj] at z
      exact n j z
  have kp : Keep ρ H H' := fun b o e n => S.kp b o e (srcs b n)
  have nsrc : ∀ (j : Nat) (l : Sl) (q : Addr), ρ[j]? = some l → l.isOwn = true → (∀ q, l ≠ .src q) → σ[j]? = some (some (.ref q)) → ∀ j' : Nat, ρ[j']? ≠ some (.src q) := fun j l q e o ns f j' z => by
    have g := (E.at_ j' _ z).1
    have := E.inj j j' l _ q e z o rfl f g
    subst this
    rw [e] at z
    exact ns q (Option.some.inj z)
  have E' := S.env
  refine ⟨⟨⟨E.bs.b0.trans ss, fun b o e => ?_, E'.bs.fh, fun b n1 n2 n3 => ?_, E'.bs.al, E'.bs.src, E'.bs.me⟩, E.len, fun j l e => ?_, E.inj⟩, ss, kp, fun b n1 n2 => ?_, S.al⟩
  · by_cases hb : b = p
    · have : (if b = p then none else B' b) = some o := e
      rw [if_pos hb] at this
      cases this
    · have : (if b = p then none else B' b) = some o := e
      rw [if_neg hb] at this
      exact E'.bs.bh b o this
  · show (if b = p then none else B' b) = none
    by_cases hb : b = p
    · rw [if_pos hb]
    · rw [if_neg hb]
      exact E'.bs.z b n1 n2 n3
  · have g := E.at_ j l e
    have bn : ∀ q, B q = none → H q ≠ none → (if q = p then none else B' q) = none := fun q e1 e2 => by
      by_cases hb : q = p
      · rw [if_pos hb]
      · rw [if_neg hb]
        exact S.z q e2 (by rw [upd_ne hb]; exact e1)
    cases l with
    | un => trivial
    | val d =>
      obtain ⟨v, a1, a2⟩ := g
      exact ⟨v, a1, a2.mono ss⟩
    | own es =>
      obtain ⟨q, us, a1, a2, a3, a4, a5⟩ := g
      exact ⟨q, us, a1, kp q _ a2 (nsrc j _ q e rfl (fun _ z => by cases z) a1), bn q a3 (by rw [a2]; exact Option.some_ne_none _), a4, a5.mono ss⟩
    | ins q c ns es =>
      obtain ⟨dx, us, a1, a2, a3, a4, a5, a6⟩ := g
      exact ⟨dx, us, a1, kp q _ a2 (nsrc j _ q e rfl (fun _ z => by cases z) a1), bn q a3 (by rw [a2]; exact Option.some_ne_none _), a4, a5, a6.mono ss⟩
    | src q =>
      have hj : i ≠ j := fun z => by
        subst z
        rw [h] at e
        cases e
      obtain ⟨a1, a2, a3, a4⟩ := g
      obtain ⟨c1, c2, c3, c4⟩ := E'.at_ j (.src q) (by rw [List.getElem?_set_ne hj]; exact e)
      exact ⟨a1, c2, bn q a3 (by
        obtain ⟨_, _, _, z, _⟩ := a2
        rw [z]
        exact Option.some_ne_none _), a4⟩
    | lft q a b c L =>
      obtain ⟨a1, a2, a3⟩ := g
      exact ⟨a1, a2.mono ss (fun x _ o z => kp x o z fun j' => E.nosrc e j' x) (fun x _ z1 z2 => bn x z2 z1), a3⟩
    | tab P q =>
      obtain ⟨a1, a2, a3⟩ := g
      refine ⟨a1.mono ss (fun o z => kp P o z fun j' z' => ?_), bn P a2 (by obtain ⟨_, z, _⟩ := a1; rw [z]; exact Option.some_ne_none _), a3⟩
      obtain ⟨_, _, _, _, n, _⟩ := E.at_ j' _ z'
      exact n a3
  · show (if b = p then none else B' b) = none
    by_cases hb : b = p
    · rw [if_pos hb]
    · rw [if_neg hb]
      exact S.z b n1 (by rw [upd_ne hb]; exact n2)
end
theorem ev_freeze (i : Nat) {ds : List D} (h : ρ[i]? = some (.own ds)) (g : EvD F te (ρ.set i (.val (.lst ds))) fun d => d.scalar = true ∧ k d) : EvD F te ρ k := fun B H σ E Q hQ => by
  obtain ⟨p, vs, h1, hB, hH, hr, h0, E2⟩ := E.freeze h
  refine g _ H σ E2 Q fun d v B' H' ⟨sc, q⟩ S r => ?_
  exact hQ d v _ H' q (Stp.thaw E h h1 hB hH h0 S) (r.scalar sc)
/-- a op x, x a list of the def's own; the answer is no object -/
theorem ev_opO {r : R2} {i : Nat} {ds : List D} (h : ρ[i]? = some (.own ds)) (g : EvD F ta ρ fun x => ROp F r (ρ.set i (.val (.lst ds))) x (.lst ds) fun d => d.scalar = true ∧ k d) : EvD F (tOp r ta (tVar i)) ρ k := fun B H σ E Q hQ =>
  g B H σ E _ fun x vx B1 H1 g1 S1 r1 => by
    obtain ⟨p, vs, h1, hB, hH, hr, h0, E2⟩ := S1.env.freeze h
    refine ⟨_, h1, g1 _ H1 σ vx (.ref p) E2 (r1.mono (Same.upd hB)) ⟨p, vs, rfl, upd_same, hr.mono (Same.upd hB)⟩ Q fun d v B' H' ⟨sc, q⟩ S r => ?_⟩
    exact hQ d v _ H' q (S1.trans (Stp.thaw S1.env h h1 hB hH h0 S)) (r.scalar sc)
/-- f(x) -/
theorem ev_cbO {r : List V → Hp → VK → Prop} {i : Nat} {ds : List D} (h : ρ[i]? = some (.own ds)) (g : ROc F r (ρ.set i (.val (.lst ds))) [.lst ds] fun d => d.scalar = true ∧ k d) : EvD F (tCB r (tCons (tVar i) tNil)) ρ k := fun B H σ E Q hQ => by
  obtain ⟨p, vs, h1, hB, hH, hr, h0, E2⟩ := E.freeze h
  refine ⟨_, h1, g _ H σ _ E2 (.cons ⟨p, vs, rfl, upd_same, hr.mono (Same.upd hB)⟩ RepL.nil) Q fun d v B' H' ⟨sc, q⟩ S r => ?_⟩
  exact hQ d v _ H' q (Stp.thaw E h h1 hB hH h0 S) (r.scalar sc)
theorem et_freeze (i : Nat) {ds : List D} (h : ρ[i]? = some (.own ds)) (g : EvT F tt (ρ.set i (.val (.lst ds))) kb) : EvT F tt ρ kb := fun B H σ E Q hQ => by
  obtain ⟨p, vs, h1, hB, hH, hr, h0, E2⟩ := E.freeze h
  exact g _ H σ E2 Q fun b B' H' q S => hQ b _ H' q (S.thaw E h h1 hB hH h0)
end
end K33
namespace K33
open PySem PySem.Spec PyProof.Rows L2
/-! ### targets -/
def putS (σ : L2.St) : List (Nat × V) → L2.St
  | [] => σ
  | a :: r => putS (σ.set a.1 (some a.2)) r
def putE (ρ : List Sl) : List (Nat × D) → List Sl
  | [] => ρ
  | a :: r => putE (ρ.set a.1 (.val a.2)) r
def GOk (F : Fm) (g : TG) (d : D) (as : List (Nat × D)) : Prop := ∀ (B H : Hp) (σ : L2.St) (v : V) (Q : L2.St → Hp → Prop), Same B H → Rep F.K B d v → (∀ us : List (Nat × V), us.map Prod.fst = as.map Prod.fst → RepL F.K B (as.map Prod.snd) (us.map Prod.snd) → Q (putS σ us) H) → g v σ H Q
def GOks (F : Fm) (g : TGs) (ds : List D) (as : List (Nat × D)) : Prop := ∀ (B H : Hp) (σ : L2.St) (vs : List V) (Q : L2.St → Hp → Prop), Same B H → RepL F.K B ds vs → (∀ us : List (Nat × V), us.map Prod.fst = as.map Prod.fst → RepL F.K B (as.map Prod.snd) (us.map Prod.snd) → Q (putS σ us) H) → g vs σ H Q
theorem putS_app {σ : L2.St} : ∀ {us ws : List (Nat × V)}, putS σ (us ++ ws) = putS (putS σ us) ws
  | [], _ => rfl
  | a :: r, ws => putS_app (us := r)
section
variable {F : Fm} {ρ : List Sl} {B H : Hp} {σ : L2.St}
theorem g_name {i : Nat} {d : D} : GOk F (gName i) d [(i, d)] := fun B H σ v Q _ r h => h [(i, v)] rfl (.cons r .nil)
theorem g_tup {n : Nat} {t : TGs} {ds : List D} {as : List (Nat × D)} (hl : ds.length = n) (h : GOks F t ds as) : GOk F (gTup F.K n t) (.tup ds) as := fun B H σ v Q e r k => by
  obtain ⟨a, vs, rfl, h1, h2⟩ := r
  exact ⟨a, vs, rfl, Same.sqT e h1, by rw [h2.len]; exact hl, h B H σ vs Q e h2 k⟩
theorem gs_nil : GOks F gNil [] [] := fun B H σ v Q e r k => ⟨r, k [] rfl rfl⟩
theorem gs_cons {g : TG} {t : TGs} {d : D} {ds : List D} {as bs : List (Nat × D)} (hg : GOk F g d as) (ht : GOks F t ds bs) : GOks F (gCons g t) (d :: ds) (as ++ bs) := fun B H σ vs Q e r k => by
  obtain ⟨v, r, rfl, h1, h2⟩ := r
  refine ⟨v, r, rfl, hg B H σ v _ e h1 fun us e1 r1 => ht B H _ r Q e h2 fun ws e2 r2 => ?_⟩
  rw [← putS_app]
  exact k (us ++ ws) (by rw [List.map_append, List.map_append, e1, e2]) (by rw [List.map_append, List.map_append]; exact r1.append r2)
theorem EnvOk.put : ∀ {as : List (Nat × D)} {us : List (Nat × V)} {ρ : List Sl} {σ : L2.St}, EnvOk F B H σ ρ → us.map Prod.fst = as.map Prod.fst → RepL F.K B (as.map Prod.snd) (us.map Prod.snd) → EnvOk F B H (putS σ us) (putE ρ as)
  | [], [], _, _, E, _, _ => E
  | [], _ :: _, _, _, _, e, _ => by cases e
  | _ :: _, [], _, _, _, e, _ => by cases e
  | a :: as, u :: us, ρ, σ, E, e, r => by
    obtain ⟨v, t, e1, r1, r2⟩ := r
    injection e with e2 e3
    injection e1 with e4 e5
    have := E.val (i := a.1) r1
    rw [← e4, ← e2] at this
    have g := EnvOk.put (as := as) (us := us) this e3 (by rw [e5]; exact r2)
    rw [e2] at g
    show EnvOk F B H (putS (σ.set u.1 (some u.2)) us) (putE (ρ.set a.1 (.val a.2)) as)
    rw [e2]
    exact g
theorem putE_src : ∀ {as : List (Nat × D)} {ρ : List Sl} {i : Nat} {b : Addr}, (putE ρ as)[i]? = some (.src b) → ρ[i]? = some (.src b)
  | [], _, _, _, h => h
  | a :: as, ρ, i, b, h => by
    have g := putE_src (as := as) (ρ := ρ.set a.1 (.val a.2)) h
    by_cases hi : a.1 = i
    · subst hi
      have hl : a.1 < ρ.length := by
        have := (List.getElem?_eq_some_iff.mp g).1
        rwa [List.length_set] at this
      rw [List.getElem?_set_self hl] at g
      cases g
    · rwa [List.getElem?_set_ne hi] at g
theorem putE_un : ∀ {as : List (Nat × D)} {ρ : List Sl} {i : Nat}, (∀ a ∈ as, a.1 ≠ i) → (putE ρ as)[i]? = ρ[i]?
  | [], _, _, _ => rfl
  | a :: as, ρ, i, h => by
    show (putE (ρ.set a.1 (.val a.2)) as)[i]? = _
    rw [putE_un (as := as) fun b hb => h b (List.mem_cons_of_mem _ hb), List.getElem?_set_ne (h a (List.mem_cons_self ..))]
theorem putS_un : ∀ {as : List (Nat × V)} {σ : L2.St} {i : Nat}, (∀ a ∈ as, a.1 ≠ i) → (putS σ as)[i]? = σ[i]?
  | [], _, _, _ => rfl
  | a :: as, σ, i, h => by
    show (putS (σ.set a.1 (some a.2)) as)[i]? = _
    rw [putS_un (as := as) fun b hb => h b (List.mem_cons_of_mem _ hb), List.getElem?_set_ne (h a (List.mem_cons_self ..))]
theorem putS_len : ∀ {as : List (Nat × V)} {σ : L2.St}, (putS σ as).length = σ.length
  | [], _ => rfl
  | a :: as, σ => by
    show (putS (σ.set a.1 (some a.2)) as).length = _
    rw [putS_len, List.length_set]
theorem wipe_at {σ : L2.St} : ∀ {vs : List Nat} {i : Nat}, (wipe σ vs)[i]? = if i ∈ vs then σ[i]?.map (fun _ => none) else σ[i]?
  | [], i => by simp [wipe]
  | v :: vs, i => by
    unfold wipe
    by_cases hi : v = i
    · subst hi
      rw [if_pos (List.mem_cons_self ..)]
      by_cases hl : v < (wipe σ vs).length
      · rw [List.getElem?_set_self hl]
        rw [wipe_length] at hl
        rw [List.getElem?_eq_getElem hl]
        rfl
      · rw [List.getElem?_eq_none (by rw [List.length_set]; omega)]
        rw [wipe_length] at hl
        rw [List.getElem?_eq_none (by omega)]
        rfl
    · rw [List.getElem?_set_ne hi, wipe_at]
      have : (i ∈ v :: vs) ↔ i ∈ vs := by
        rw [List.mem_cons]
        constructor
        · rintro (h | h)
          · exact absurd h.symm hi
          · exact h
        · exact .inr
      simp only [this]
theorem wipe_put {us : List (Nat × V)} {vs : List Nat} (h : ∀ a ∈ us, a.1 ∈ vs) : wipe (putS (wipe σ vs) us) vs = wipe σ vs := by
  apply List.ext_getElem?
  intro i
  rw [wipe_at, wipe_at]
  by_cases hi : i ∈ vs
  · rw [if_pos hi, if_pos hi]
    have e1 : (putS (wipe σ vs) us).length = σ.length := by rw [putS_len, wipe_length]
    by_cases hl : i < σ.length
    · rw [List.getElem?_eq_getElem (by rw [e1]; exact hl), List.getElem?_eq_getElem hl]
      rfl
    · rw [List.getElem?_eq_none (by rw [e1]; omega), List.getElem?_eq_none (by omega)]
  · rw [if_neg hi, if_neg hi, putS_un (fun a ha (z : a.1 = i) => hi (z ▸ h a ha)), wipe_at, if_neg hi]
/-- the slots of a block -/
theorem EnvOk.block (E : EnvOk F B H σ ρ) {vs : List Nat} (hu : ∀ j ∈ vs, ρ[j]? = some .un) : EnvOk F B H (wipe σ vs) ρ :=
  E.re (by rw [wipe_length]; exact E.len) fun j l e => by
    by_cases hj : j ∈ vs
    · left
      have := hu j hj
      rw [e] at this
      exact Option.some.inj this
    · right
      exact ⟨e, by rw [wipe_at, if_neg hj]⟩
theorem EnvOk.unblock {B' H' : Hp} {as : List (Nat × D)} {us : List (Nat × V)} {vs : List Nat} (E : EnvOk F B' H' (putS (wipe σ vs) us) (putE ρ as)) (hl : σ.length = ρ.length) (hu : ∀ j ∈ vs, ρ[j]? = some .un) (ha : ∀ a ∈ as, a.1 ∈ vs) (hs : ∀ a ∈ us, a.1 ∈ vs) : EnvOk F B' H' σ ρ :=
  E.re hl fun j l e => by
    by_cases hj : j ∈ vs
    · left
      have := hu j hj
      rw [e] at this
      exact Option.some.inj this
    · right
      exact ⟨by rw [putE_un (fun a h (z : a.1 = j) => hj (z ▸ ha a h))]; exact e, by rw [putS_un (fun a h (z : a.1 = j) => hj (z ▸ hs a h)), wipe_at, if_neg hj]⟩
theorem fst_mem {α β : Type} {us : List (Nat × α)} {as : List (Nat × β)} {vs : List Nat} (e : us.map Prod.fst = as.map Prod.fst) (h : ∀ a ∈ as, a.1 ∈ vs) : ∀ a ∈ us, a.1 ∈ vs := fun a ha => by
  have : a.1 ∈ as.map Prod.fst := by
    rw [← e]
    exact List.mem_map.mpr ⟨a, ha, rfl⟩
  obtain ⟨b, hb, eb⟩ := List.mem_map.mp this
  rw [← eb]
  exact h b hb
theorem Stp.unblock {B' H' : Hp} {as : List (Nat × D)} {us : List (Nat × V)} {vs : List Nat} (S : Stp F (putS (wipe σ vs) us) (putE ρ as) B H B' H') (hl : σ.length = ρ.length) (hu : ∀ j ∈ vs, ρ[j]? = some .un) (ha : ∀ a ∈ as, a.1 ∈ vs) (hs : ∀ a ∈ us, a.1 ∈ vs) : Stp F σ ρ B H B' H' :=
  ⟨S.env.unblock hl hu ha hs, S.bb, fun b o h n => S.kp b o h fun i z => n i (putE_src z), S.z, S.al⟩
/-- an object that no slot owns and nothing knows may change -/
theorem EnvOk.mutate (E : EnvOk F B H σ ρ) {p : Addr} {o : HO} (hB : B p = none) (h0 : F.H0 p = none) (hp : H p ≠ none) (hn : ∀ (i : Nat) (l : Sl), ρ[i]? = some l → l.isOwn = true → σ[i]? ≠ some (some (.ref p))) : EnvOk F B (upd H p o) σ ρ := by
  refine ⟨⟨E.bs.b0, Same.mut E.bs.bh hB, Same.mut E.bs.fh (hid_none h0), E.bs.z, fun b h => ?_, fun s hs => ?_, E.bs.me⟩, E.len, fun i l e => ?_, E.inj⟩
  · by_cases hb : b = p
    · subst hb
      rw [upd_same]
      exact Option.some_ne_none _
    · rw [upd_ne hb]
      exact E.bs.al b h
  · obtain ⟨⟨c, n, k, h1, h2⟩, h3, h4⟩ := E.bs.src s hs
    have : s ≠ p := fun z => h4 (z ▸ h0)
    exact ⟨⟨c, n, k, by rw [upd_ne this]; exact h1, h2⟩, h3, h4⟩
  · have g := E.at_ i l e
    have hi := hn i l e
    cases l with
    | un => trivial
    | val d => exact g
    | own ds =>
      obtain ⟨q, vs, h1, h2, h3, h4, h5⟩ := g
      have : q ≠ p := fun z => hi rfl (z ▸ h1)
      exact ⟨q, vs, h1, by rw [upd_ne this]; exact h2, h3, h4, h5⟩
    | ins q c ns ds =>
      obtain ⟨dx, vs, h1, h2, h3⟩ := g
      have : q ≠ p := fun z => hi rfl (z ▸ h1)
      exact ⟨dx, vs, h1, by rw [upd_ne this]; exact h2, h3⟩
    | src q =>
      obtain ⟨h1, ⟨c, n, k, h2, h3⟩, h4⟩ := g
      have : q ≠ p := fun z => hi rfl (z ▸ h1)
      exact ⟨h1, ⟨c, n, k, by rw [upd_ne this]; exact h2, h3⟩, h4⟩
    | lft q a b c L =>
      obtain ⟨h1, h2, h3, h4, h5, h6⟩ := g
      refine ⟨h1, h2.mono (Same.refl _) (fun x hx o z => ?_) (fun x _ _ z => z), h3, h4, h5, h6⟩
      have : x ≠ p := fun z => (h6 x (h3 ▸ hx)).1 (z ▸ h0)
      rw [upd_ne this]
      exact z
    | tab P q =>
      obtain ⟨h1, h2, h3⟩ := g
      have : P ≠ p := fun z => (E.bs.me P h3).2 (z ▸ h0)
      exact ⟨h1.mono (Same.refl _) (fun o z => by rw [upd_ne this]; exact z), h2, h3⟩
/-- a slot's own list changes -/
theorem EnvOk.mutOwn (E : EnvOk F B H σ ρ) {i : Nat} {ds es : List D} {p : Addr} {ws : List V} (h : ρ[i]? = some (.own ds)) (hp : σ[i]? = some (some (.ref p))) (r : RepL F.K B es ws) : EnvOk F B (upd H p (.lst ws)) σ (ρ.set i (.own es)) := by
  obtain ⟨p', vs, h1, h2, h3, h4, h5⟩ := E.at_ i _ h
  rw [hp] at h1
  cases h1
  have hi : i < ρ.length := (List.getElem?_eq_some_iff.mp h).1
  have oth : ∀ (j : Nat) (l : Sl), j ≠ i → ρ[j]? = some l → l.isOwn = true → σ[j]? ≠ some (some (.ref p)) := fun j l n e o z => n (E.inj j i l _ p e h o rfl z hp)
  have E0 : EnvOk F B H σ (ρ.set i .un) := by
    refine ⟨E.bs, by rw [List.length_set]; exact E.len, fun j l e => ?_, fun j j' l m q e1 e2 o1 o2 f1 f2 => ?_⟩
    · by_cases hj : i = j
      · subst hj
        rw [List.getElem?_set_self hi] at e
        cases e
        trivial
      · rw [List.getElem?_set_ne hj] at e
        exact E.at_ j l e
    · have n1 : i ≠ j := fun z => by
        subst z
        rw [List.getElem?_set_self hi] at e1
        cases e1
        cases o1
      have n2 : i ≠ j' := fun z => by
        subst z
        rw [List.getElem?_set_self hi] at e2
        cases e2
        cases o2
      rw [List.getElem?_set_ne n1] at e1
      rw [List.getElem?_set_ne n2] at e2
      exact E.inj j j' l m q e1 e2 o1 o2 f1 f2
  have hn : ∀ (j : Nat) (l : Sl), (ρ.set i .un)[j]? = some l → l.isOwn = true → σ[j]? ≠ some (some (.ref p)) := fun j l e o => by
    by_cases hj : i = j
    · subst hj
      rw [List.getElem?_set_self hi] at e
      cases e
      cases o
    · rw [List.getElem?_set_ne hj] at e
      exact oth j l (fun z => hj z.symm) e o
  have E1 := E0.mutate (o := .lst ws) h3 h4 (by rw [h2]; exact Option.some_ne_none _) hn
  have E2 := E1.own (i := i) (ds := es) upd_same h3 h4 r hn
  have es' : σ.set i (some (V.ref p)) = σ := by
    apply List.ext_getElem?
    intro j
    by_cases hj : i = j
    · subst hj
      rw [List.getElem?_set_self (by rw [E.len]; exact hi), hp]
    · rw [List.getElem?_set_ne hj]
  rw [es', List.set_set] at E2
  exact E2
end
section
variable {F : Fm} {ρ : List Sl} {k : D → Prop} {kl : List D → Prop} {kb : Bool → Prop} {ta tb tc te : TE} {tt : TT} {tas : TA} {ts tu : TS} {N : List Sl → Prop} {R : D → Prop}
/-! ### statements -/
theorem s_seq (h : SOk F ts ρ (fun ρ' => SOk F tu ρ' N R) R) : SOk F (tSeq ts tu) ρ N R := fun B H σ E En hn hr =>
  h B H σ E { En with nx := tu En } (fun ρ' B' H' σ' g e E' => g B' H' σ' E' En (fun ρ2 B2 H2 σ2 n e2 E2 => hn ρ2 B2 H2 σ2 n (e.trans e2) E2) (fun d v B2 H2 r e2 => hr d v B2 H2 r (e.trans e2))) (fun d v B' H' => hr d v B' H')
theorem s_next (h : N ρ) : SOk F tNext ρ N R := fun B H σ E En hn hr => hn ρ B H σ h (Same.refl B) E
theorem s_asg {i : Nat} (h : EvD F te ρ fun d => N (ρ.set i (.val d))) : SOk F (tAsg te (gName i)) ρ N R := fun B H σ E En hn hr =>
  h B H σ E _ fun d v B' H' n S r => hn _ B' H' _ n S.bb (S.env.val r)
theorem s_asgO {i : Nat} (h : EvN F te ρ fun ds => N (ρ.set i (.own ds))) : SOk F (tAsg te (gName i)) ρ N R := fun B H σ E En hn hr =>
  h B H σ E _ fun ds p vs B' H' n S hp hB hH r => hn _ B' H' _ n S.bb (S.env.own hH hB (E.bs.new hp) r (E.notown hp))
/-- a, b = e -/
theorem s_asgT {g : TG} (h : EvD F te ρ fun d => ∃ as, GOk F g d as ∧ N (putE ρ as)) : SOk F (tAsg te g) ρ N R := fun B H σ E En hn hr =>
  h B H σ E _ fun d v B' H' ⟨as, hg, n⟩ S r => hg B' H' σ v _ S.env.bs.bh r fun us e1 r1 => hn _ B' H' _ n S.bb (S.env.put e1 r1)
theorem s_par {i j : Nat} (h : EvA F tas ρ fun ds => ∃ x y, ds = [x, y] ∧ N ((ρ.set i (.val x)).set j (.val y))) : SOk F (tPar i j tas) ρ N R := fun B H σ E En hn hr =>
  h B H σ E _ fun ds vs B' H' ⟨x, y, ed, n⟩ S r => by
    subst ed
    obtain ⟨v, t, rfl, r1, w, t2, rfl, r2, rfl⟩ := r
    exact ⟨v, w, rfl, hn _ B' H' _ n S.bb ((S.env.val r1).val r2)⟩
/-- a, b = x, [] : the second a list of the def's own -/
theorem s_parO {i j : Nat} (h : EvD F ta ρ fun x => N ((ρ.set i (.val x)).set j (.own []))) : SOk F (tPar i j (tCons ta (tCons (tLst tNil) tNil))) ρ N R := fun B H σ E En hn hr =>
  h B H σ E _ fun x v B' H' n S r => ⟨by decide, fun p hp => ⟨v, .ref p, rfl, hn _ B' _ _ n S.bb ((((S.env.grow (Same.upd hp)).val r).own (ds := []) (vs := []) upd_same (S.env.bs.bnew hp) (S.env.bs.new hp) rfl) fun j' l e o z => by
    have E2 := S.env.val (i := i) r
    exact E2.notown hp j' l e o z)⟩⟩
/-- a, b = [], x : the first a list of the def's own -/
theorem s_parO1 {i j : Nat} (h : EvD F ta ρ fun x => N ((ρ.set i (.own [])).set j (.val x))) : SOk F (tPar i j (tCons (tLst tNil) (tCons ta tNil))) ρ N R := fun B H σ E En hn hr => by
  refine ⟨by decide, fun p hp => ?_⟩
  have hB := E.bs.bnew hp
  have E1 := E.grow (Same.upd (o := .lst []) hp)
  refine h B _ σ E1 _ fun x v B' H' n S r => ⟨.ref p, v, rfl, hn _ B' H' _ n S.bb ?_⟩
  have ns : ∀ j : Nat, ρ[j]? ≠ some (.src p) := fun j z => E.notown hp j _ z rfl (E.at_ j _ z).1
  exact (S.env.own (i := i) (ds := []) (vs := []) (S.kp p _ upd_same ns) (S.z p (by rw [upd_same]; exact Option.some_ne_none _) hB) (E.bs.new hp) rfl (E.notown hp)).val r
theorem s_if (h : EvT F tt ρ fun b => if b = true then SOk F ts ρ N R else SOk F tu ρ N R) : SOk F (tIfS tt ts tu) ρ N R := fun B H σ E En hn hr =>
  h B H σ E _ fun b B1 H1 g S => by
    cases b with
    | true => exact (show SOk F ts ρ N R from g) B1 H1 σ S.env En (fun ρ2 B2 H2 σ2 n e2 E2 => hn ρ2 B2 H2 σ2 n (S.bb.trans e2) E2) (fun d v B2 H2 r e2 => hr d v B2 H2 r (S.bb.trans e2))
    | false => exact (show SOk F tu ρ N R from g) B1 H1 σ S.env En (fun ρ2 B2 H2 σ2 n e2 E2 => hn ρ2 B2 H2 σ2 n (S.bb.trans e2) E2) (fun d v B2 H2 r e2 => hr d v B2 H2 r (S.bb.trans e2))
theorem s_ret (h : EvD F te ρ R) : SOk F (tRet te) ρ N R := fun B H σ E En hn hr => h B H σ E _ fun d v B' H' r S q => hr d v B' H' r S.bb S.env.bs q
theorem s_retN (h : R .non) : SOk F tRetN ρ N R := fun B H σ E En hn hr => hr .non .non B H h (Same.refl B) E.bs rfl
theorem s_drop (h : EvD F te ρ fun _ => N ρ) : SOk F (tDrop te) ρ N R := fun B H σ E En hn hr => h B H σ E _ fun d v B' H' n S r => hn ρ B' H' σ n S.bb S.env
/-- x.append(e), x a list of the def's own -/
theorem s_app {i : Nat} {ds : List D} (h : ρ[i]? = some (.own ds)) (hl : ds.length < 100000) (g : EvD F te ρ fun d => N (ρ.set i (.own (ds ++ [d])))) : SOk F (tDrop (tBM F.K "list" rAppend (tVar i) (tCons te tNil))) ρ N R := fun B H σ E En hn hr => by
  obtain ⟨p, vs, h1, h2, h3, h4, h5⟩ := E.at_ i _ h
  refine ⟨_, h1, .inl ⟨rfl, _, .inl (.inl h2)⟩, ?_⟩
  refine g B H σ E _ fun d v B' H' n S r => ?_
  obtain ⟨p', vs', a1, a2, a3, a4, a5⟩ := S.env.at_ i _ h
  rw [h1] at a1
  cases a1
  exact ⟨p, vs', v, rfl, rfl, a2, Nat.lt_of_lt_of_le (show vs'.length < 100000 by rw [a5.len]; exact hl) (by decide), hn _ B' _ σ n S.bb (S.env.mutOwn h h1 (a5.append (.cons r .nil)))⟩
/-- x[e] = e2, x a list of the def's own -/
theorem s_setO {i : Nat} {ds : List D} (h : ρ[i]? = some (.own ds)) (g : EvD F te ρ fun d => EvD F ta ρ fun y => ∃ (z : Int) (j : Nat), y = .int z ∧ ixN ds.length z = some j ∧ N (ρ.set i (.own (ds.set j d)))) : SOk F (tAsg te (gSub (tVar i) ta rSetL)) ρ N R := fun B H σ E En hn hr => by
  obtain ⟨p, vs, h1, h2, h3, h4, h5⟩ := E.at_ i _ h
  refine g B H σ E _ fun d v B1 H1 g2 S1 r1 => ⟨_, h1, g2 B1 H1 σ S1.env _ fun y vy B2 H2 ⟨z, j, ey, ej, n⟩ S2 r2 => ?_⟩
  subst ey
  cases r2
  have S := S1.trans S2
  obtain ⟨p', vs', a1, a2, a3, a4, a5⟩ := S.env.at_ i _ h
  rw [h1] at a1
  cases a1
  exact ⟨p, vs', z, j, rfl, rfl, a2, by rw [a5.len]; exact ej, hn _ B2 _ σ n S.bb (S.env.mutOwn h h1 (a5.set (r1.mono S2.bb)))⟩
/-- from here on the list is a value -/
theorem so_freeze (i : Nat) {ds : List D} (h : ρ[i]? = some (.own ds)) (g : SOk F ts (ρ.set i (.val (.lst ds))) N R) : SOk F ts ρ N R := fun B H σ E En hn hr => by
  obtain ⟨p, vs, h1, hB, hH, hr', h0, E2⟩ := E.freeze h
  have ss : Same B (upd B p (.lst vs)) := Same.upd hB
  exact g _ H σ E2 En (fun ρ2 B2 H2 σ2 n e2 E2 => hn ρ2 B2 H2 σ2 n (ss.trans e2) E2) (fun d v B2 H2 r e2 => hr d v B2 H2 r (ss.trans e2))
theorem zip_put {v : V} : ∀ {ns : List Str} {vs : List V} {f : Str}, ns.length = vs.length → ns.contains f = false → putF f v (ns.zip vs) = (ns ++ [f]).zip (vs ++ [v])
  | [], [], _, _, _ => rfl
  | [], _ :: _, _, e, _ => by cases e
  | _ :: _, [], _, e, _ => by cases e
  | a :: ns, b :: vs, f, e, hf => by
    have h1 : ¬ a = f := fun z => by
      subst z
      simp at hf
    have h2 : ns.contains f = false := by
      simp only [List.contains_cons, Bool.or_eq_false_iff] at hf
      exact hf.2
    show (if a = f then _ else _) = _
    rw [if_neg h1]
    exact congrArg ((a, b) :: ·) (zip_put (Nat.succ.inj e) h2)
theorem EnvOk.fldM {B H : Hp} {σ : L2.St} (E : EnvOk F B H σ ρ) {i : Nat} {f : Str} {p : Addr} {c : Str} {ns : List Str} {xs : List D} {d : D} {v : V} {dx : Addr} {vs : List V} (h : ρ[i]? = some (.ins p c ns xs)) (h1 : σ[i]? = some (some (.ref p))) (h2 : H p = some (.ins (He.ga F.K c) dx (ns.zip vs))) (h3 : B p = none) (h4 : F.me = some p) (h5 : ns.length = xs.length) (h6 : RepL F.K B xs vs) (r : Rep F.K B d v) :
    EnvOk F B (upd H p (.ins (He.ga F.K c) dx ((ns ++ [f]).zip (vs ++ [v])))) σ (ρ.set i (.ins p c (ns ++ [f]) (xs ++ [d]))) := by
    have hi : i < ρ.length := (List.getElem?_eq_some_iff.mp h).1
    have oth : ∀ (j : Nat) (l : Sl), j ≠ i → ρ[j]? = some l → l.isOwn = true → σ[j]? ≠ some (some (.ref p)) := fun j l n e o z => n (E.inj j i l _ p e h o rfl z h1)
    have hme := E.bs.me p h4
    have hs : F.s ≠ some p := fun z => by
      obtain ⟨⟨_, _, _, q, _⟩, _⟩ := E.bs.src p z
      rw [h2] at q
      cases q
    refine ⟨⟨E.bs.b0, Same.mut E.bs.bh h3, Same.mut E.bs.fh (by
        unfold hid
        rw [if_pos (.inr (.inl h4))]), E.bs.z, fun b hb => ?_, fun s hs' => ?_, E.bs.me⟩, by rw [List.length_set]; exact E.len, fun j l e => ?_, fun j j' l m q e1 e2 o1 o2 f1 f2 => ?_⟩
    · by_cases hb' : b = p
      · subst hb'
        rw [upd_same]
        exact Option.some_ne_none _
      · rw [upd_ne hb']
        exact E.bs.al b hb
    · obtain ⟨⟨c, n, k, q1, q2⟩, q3, q4⟩ := E.bs.src s hs'
      have : s ≠ p := fun z => hs (z ▸ hs')
      exact ⟨⟨c, n, k, by rw [upd_ne this]; exact q1, q2⟩, q3, q4⟩
    · by_cases hj : i = j
      · subst hj
        rw [List.getElem?_set_self hi] at e
        cases e
        exact ⟨dx, _, h1, upd_same, h3, h4, by rw [List.length_append, List.length_append, h5]; rfl, h6.append (.cons r .nil)⟩
      · rw [List.getElem?_set_ne hj] at e
        have g := E.at_ j l e
        have hj' := oth j l (fun z => hj z.symm) e
        cases l with
        | un => trivial
        | val d => exact g
        | own ds =>
          obtain ⟨q, us, a1, a2, a3⟩ := g
          have : q ≠ p := fun z => hj' rfl (z ▸ a1)
          exact ⟨q, us, a1, by rw [upd_ne this]; exact a2, a3⟩
        | ins q c ns ds =>
          obtain ⟨dx, us, a1, a2, a3⟩ := g
          have : q ≠ p := fun z => hj' rfl (z ▸ a1)
          exact ⟨dx, us, a1, by rw [upd_ne this]; exact a2, a3⟩
        | src q =>
          obtain ⟨a1, ⟨c, n, k, a2, a3⟩, a4⟩ := g
          have : q ≠ p := fun z => hj' rfl (z ▸ a1)
          exact ⟨a1, ⟨c, n, k, by rw [upd_ne this]; exact a2, a3⟩, a4⟩
        | lft q a b c L =>
          obtain ⟨_, _, _, _, z, _⟩ := g
          rw [h4] at z
          cases z
        | tab P q =>
          obtain ⟨⟨_, z1, _⟩, _, z2⟩ := g
          rw [h4] at z2
          cases z2
          rw [h2] at z1
          cases z1
    · have old : ∀ (j : Nat) (l : Sl), (ρ.set i (.ins p c (ns ++ [f]) (xs ++ [d])))[j]? = some l → l.isOwn = true → ∃ l', ρ[j]? = some l' ∧ l'.isOwn = true := fun j l e o => by
        by_cases hj : i = j
        · subst hj
          exact ⟨_, h, rfl⟩
        · rw [List.getElem?_set_ne hj] at e
          exact ⟨l, e, o⟩
      obtain ⟨l1, a1, a2⟩ := old j l e1 o1
      obtain ⟨l2, b1, b2⟩ := old j' m e2 o2
      exact E.inj j j' l1 l2 q a1 b1 a2 b2 f1 f2
/-- self.f = e in a class's __init__ -/
theorem s_fldM {i : Nat} {f : Str} {p : Addr} {c : Str} {ns : List Str} {xs : List D} (h : ρ[i]? = some (.ins p c ns xs)) (kc : KC F.K c f) (hl : ns.length < 900) (hf : ns.contains f = false) (g : EvD F te ρ fun d => N (ρ.set i (.ins p c (ns ++ [f]) (xs ++ [d])))) :
    SOk F (sFld F.K (tVar i) te f) ρ N R := fun B H σ E En hn hr => by
  refine g B H σ E _ fun d v B' H' n S r => ?_
  obtain ⟨dx, vs, h1, h2, h3, h4, h5, h6⟩ := S.env.at_ i _ h
  have hlen : ns.length = vs.length := by rw [h6.len]; exact h5
  refine ⟨_, h1, p, _, dx, _, rfl, h2, kc.1, kc.2, ?_, hn _ B' _ σ n S.bb ?_⟩
  · rw [List.length_zip]
    omega
  · rw [zip_put hlen hf]
    exact S.env.fldM h h1 h2 h3 h4 h5 h6 r
/-! ### loops -/
theorem s_for {wi : TI} {g : TG} {tb : TS} (h : EvI F wi ρ fun ds => ∃ I : Nat → List Sl → Prop, I 0 ρ ∧ (∀ i d ρ', ds[i]? = some d → I i ρ' → ∃ as, GOk F g d as ∧ SOk F tb (putE ρ' as) (I (i + 1)) R) ∧ ∀ ρ', I ds.length ρ' → N ρ') : SOk F (tFor wi g tb) ρ N R := fun B H σ E En hn hr =>
  h B H σ E _ fun ds J B1 H1 ⟨I, h0, hs, hd⟩ S1 ⟨go, stop, yld⟩ => by
    refine ⟨fun i m σ' H' => m = ds.length - i ∧ i ≤ ds.length ∧ ∃ ρ' B', I i ρ' ∧ Same B1 B' ∧ EnvOk F B' H' σ' ρ', ⟨_, rfl, Nat.zero_le _, ρ, B1, h0, Same.refl _, S1.env⟩, ?_⟩
    rintro i m σ' H' ⟨rfl, hi, ρ', B', p, e, E'⟩
    have sm : Same B1 H' := e.trans E'.bs.bh
    by_cases hlt : i < ds.length
    · refine .inr ⟨go i H' hlt sm, fun σ2 H2 => ∃ ρ2 B2, I (i + 1) ρ2 ∧ Same B1 B2 ∧ EnvOk F B2 H2 σ2 ρ2, fun σ2 H2 ⟨ρ2, B2, p2, e2, E2⟩ => ⟨_, by omega, rfl, hlt, ρ2, B2, p2, e2, E2⟩, fun x H2 y => ?_⟩
      obtain ⟨d, ed, c⟩ := yld i H' x H2 hlt sm y
      obtain ⟨as, hg, hb⟩ := hs i d ρ' ed p
      have fin : ∀ B2, Same B1 B2 → EnvOk F B2 H2 σ' ρ' → Rep F.K B2 d x → g x σ' H2 fun σ3 H3 => tb { En with nx := fun σ2 H2 => ∃ ρ2 B2, I (i + 1) ρ2 ∧ Same B1 B2 ∧ EnvOk F B2 H2 σ2 ρ2, ct := fun σ2 H2 => ∃ ρ2 B2, I (i + 1) ρ2 ∧ Same B1 B2 ∧ EnvOk F B2 H2 σ2 ρ2, bk := En.nx } σ3 H3 := fun B2 e2 E2 r2 =>
        hg B2 H2 σ' x _ E2.bs.bh r2 fun us e1 r1 => hb B2 H2 _ (E2.put e1 r1) _ (fun ρ3 B3 H3 σ3 p3 e3 E3 => ⟨ρ3, B3, p3, e2.trans e3, E3⟩) (fun d v B3 H3 r e3 => hr d v B3 H3 r (S1.bb.trans (e2.trans e3)))
      rcases c with ⟨rfl, c⟩ | ⟨T, o, hT, rfl, c⟩
      · exact fin B' e E' (c B' e)
      · exact fin (upd B' T o) (e.trans (E'.sameB o hT)) (E'.new o hT) (c _ (e.trans (E'.sameB o hT)) upd_same)
    · have ei : i = ds.length := by omega
      subst ei
      exact .inl ⟨stop H' sm, hn ρ' B' H' σ' (hd ρ' p) (S1.bb.trans e) E'⟩
theorem s_while {tb : TS} (I : Nat → List Sl → Prop) (h0 : ∃ m, I m ρ) (hs : ∀ m ρ', I m ρ' → EvT F tt ρ' fun b => if b = true then SOk F tb ρ' (fun ρ2 => ∃ m', m' < m ∧ I m' ρ2) R else N ρ') : SOk F (tWhile tt tb) ρ N R := fun B H σ E En hn hr => by
  obtain ⟨m0, h0⟩ := h0
  refine ⟨fun m σ' H' => ∃ ρ' B', I m ρ' ∧ Same B B' ∧ EnvOk F B' H' σ' ρ', ⟨m0, ρ, B, h0, Same.refl _, E⟩, ?_⟩
  rintro m σ' H' ⟨ρ', B', p, e, E'⟩
  refine hs m ρ' p B' H' σ' E' _ fun b B1 H1 g S1 => ?_
  cases b with
  | true => exact ⟨_, fun _ _ z => z, (show SOk F tb ρ' _ R from g) B1 H1 σ' S1.env _ (fun ρ2 B2 H2 σ2 ⟨m', lt, p2⟩ e2 E2 => ⟨m', lt, ρ2, B2, p2, e.trans (S1.bb.trans e2), E2⟩) (fun d v B2 H2 r e2 => hr d v B2 H2 r (e.trans (S1.bb.trans e2)))⟩
  | false => exact hn ρ' B1 H1 σ' g (e.trans S1.bb) S1.env
/-! ### comprehensions -/
/-- where the new list stands in a comprehension -/
structure LcAt (F : Fm) (σ : L2.St) (ρ : List Sl) (B H B1 : Hp) (Dl : Addr) (acc : List D) (B' H' : Hp) : Prop where
  st : Stp F σ ρ B H B' H'
  b1 : Same B1 B'
  z : B' Dl = none
  at_ : ∃ us, H' Dl = some (.lst us) ∧ RepL F.K B' acc us
theorem LcAt.step {σ : L2.St} {B H B1 B' H' B2 H2 : Hp} {Dl : Addr} {acc : List D} (E : EnvOk F B H σ ρ) (hD : H Dl = none) (L : LcAt F σ ρ B H B1 Dl acc B' H') (S : Stp F σ ρ B' H' B2 H2) : LcAt F σ ρ B H B1 Dl acc B2 H2 := by
  obtain ⟨us, h1, h2⟩ := L.at_
  have ns : ∀ j : Nat, ρ[j]? ≠ some (.src Dl) := fun j z => E.notown hD j _ z rfl (E.at_ j _ z).1
  exact ⟨L.st.trans S, L.b1.trans S.bb, S.z Dl (by rw [h1]; exact Option.some_ne_none _) L.z, us, S.kp Dl _ h1 ns, h2.mono S.bb⟩
theorem LcAt.add {σ : L2.St} {B H B1 B' H' : Hp} {Dl : Addr} {acc : List D} {y : D} {v : V} (E : EnvOk F B H σ ρ) (hD : H Dl = none) (L : LcAt F σ ρ B H B1 Dl acc B' H') (r : Rep F.K B' y v) {us : List V} (hu : H' Dl = some (.lst us)) (hr : RepL F.K B' acc us) : LcAt F σ ρ B H B1 Dl (acc ++ [y]) B' (upd H' Dl (.lst (us ++ [v]))) := by
  have hn := E.notown hD
  refine ⟨⟨L.st.env.mutate L.z (E.bs.new hD) (by rw [hu]; exact Option.some_ne_none _) hn, L.st.bb, fun b o h n => ?_, L.st.z, fun b h => ?_⟩, L.b1, L.z, _, upd_same, hr.append (.cons r .nil)⟩
  · rw [upd_ne (ne_of_none h hD)]
    exact L.st.kp b o h n
  · by_cases hb : b = Dl
    · subst hb
      rw [upd_same]
      exact Option.some_ne_none _
    · rw [upd_ne hb]
      exact L.st.al b h
theorem en_lc {wi : TI} {g : TG} {vs : List Nat} (hu : ∀ j ∈ vs, ρ[j]? = some .un)
    (h : EvI F wi ρ fun ds => ∃ I : Nat → List D → Prop, I 0 [] ∧ (∀ i d acc, ds[i]? = some d → I i acc → ∃ as, (∀ a ∈ as, a.1 ∈ vs) ∧ GOk F g d as ∧
      EvT F tt (putE ρ as) fun b => if b = true then EvD F te (putE ρ as) (fun y => acc.length < 100000 ∧ I (i + 1) (acc ++ [y])) else I (i + 1) acc) ∧ ∀ acc, I ds.length acc → kl acc) : EvN F (tLc wi g tt te vs) ρ kl := fun B H σ E Q hQ =>
  h B H σ E _ fun ds J B1 H1 ⟨I, h0, hs, hd⟩ S1 ⟨go, stop, yld⟩ => fun Dl hD => by
    have hD0 : H Dl = none := by
      cases z : H Dl with
      | none => rfl
      | some o => exact absurd hD (S1.al Dl (by rw [z]; exact Option.some_ne_none _))
    have L0 : LcAt F σ ρ B H B1 Dl [] B1 (upd H1 Dl (.lst [])) := ⟨S1.grow (Same.upd hD), Same.refl _, S1.env.bs.bnew hD, [], upd_same, rfl⟩
    refine ⟨fun i m H' => m = ds.length - i ∧ i ≤ ds.length ∧ ∃ acc B', I i acc ∧ LcAt F σ ρ B H B1 Dl acc B' H', ⟨_, rfl, Nat.zero_le _, [], B1, h0, L0⟩, ?_⟩
    rintro i m H' ⟨rfl, hi, acc, B', p, L⟩
    have sm : Same B1 H' := L.b1.trans L.st.env.bs.bh
    by_cases hlt : i < ds.length
    · refine .inr ⟨go i H' hlt sm, fun H2 => ∃ acc B2, I (i + 1) acc ∧ LcAt F σ ρ B H B1 Dl acc B2 H2, fun H2 ⟨acc, B2, p2, L2⟩ => ⟨_, by omega, rfl, hlt, acc, B2, p2, L2⟩, fun x H2 y => ?_⟩
      obtain ⟨d, ed, c⟩ := yld i H' x H2 hlt sm y
      obtain ⟨as, ha, hg, ht⟩ := hs i d acc ed p
      have fin : ∀ B2, LcAt F σ ρ B H B1 Dl acc B2 H2 → Rep F.K B2 d x → g x (wipe σ vs) H2 fun σ2 H2 => wipe σ2 vs = wipe σ vs ∧ tt σ2 H2 fun b H3 =>
          if b = true then te σ2 H3 fun y H4 => ∃ us, H4 Dl = some (.lst us) ∧ us.length < sizeLine ∧ (∃ acc B2, I (i + 1) acc ∧ LcAt F σ ρ B H B1 Dl acc B2 (upd H4 Dl (.lst (us ++ [y])))) else ∃ acc B2, I (i + 1) acc ∧ LcAt F σ ρ B H B1 Dl acc B2 H3 := fun B2 L2 r2 =>
        hg B2 H2 (wipe σ vs) x _ L2.st.env.bs.bh r2 fun us e1 r1 => by
          have hsm := fst_mem e1 ha
          refine ⟨wipe_put hsm, ?_⟩
          have E2 : EnvOk F B2 H2 (putS (wipe σ vs) us) (putE ρ as) := (L2.st.env.block hu).put e1 r1
          refine ht B2 H2 _ E2 _ fun b B3 H3 g3 S3 => ?_
          have L3 := L2.step E hD0 (S3.unblock E.len hu ha hsm)
          cases b with
          | false => exact ⟨acc, B3, g3, L3⟩
          | true =>
            refine (show EvD F te (putE ρ as) (fun y => acc.length < 100000 ∧ I (i + 1) (acc ++ [y])) from g3) B3 H3 _ S3.env _ fun y v B4 H4 ⟨hl, q⟩ S4 r4 => ?_
            have L4 := L3.step E hD0 (S4.unblock E.len hu ha hsm)
            obtain ⟨ws, w1, w2⟩ := L4.at_
            exact ⟨ws, w1, Nat.lt_of_lt_of_le (show ws.length < 100000 by rw [w2.len]; exact hl) (by decide), acc ++ [y], B4, q, L4.add E hD0 r4 w1 w2⟩
      rcases c with ⟨rfl, c⟩ | ⟨T, o, hT, rfl, c⟩
      · exact fin B' L (c B' L.b1)
      · have SN := Stp.new L.st.env o hT
        exact fin _ (L.step E hD0 SN) (c _ (L.b1.trans SN.bb) upd_same)
    · have ei : i = ds.length := by omega
      subst ei
      obtain ⟨us, w1, w2⟩ := L.at_
      exact .inl ⟨stop H' sm, hQ acc Dl us B' H' (hd acc p) L.st hD0 L.z w1 w2⟩
end
end K33
namespace K33
open PySem PySem.Spec PyProof.Rows L2
set_option maxHeartbeats 4000000 in
theorem meets_enumB1 {v : Value} {o : Obj} {H : Heap → Prop} (B : Begins v o H) :
    Meets (Builtin.«enumerate.__new__» ⟨[.type "enumerate", v], []⟩) (fun _ R s => H s.heap ∧
      R (.ok (.ret (.ref (s.heap.push o).objs.size))) { s with heap := (s.heap.push o).push { cls := .type "enumerate", data := .fields #[.none, .bool false, .ref s.heap.objs.size, rawInt 0, .none, .none] } }) :=
  .of_wp fun prog w A R s h => by
    obtain ⟨hp, g, d, tk, os⟩ := s
    obtain ⟨h1, h⟩ := h
    have hsub := sub_enumerate
    have q1 : ∀ {A' : Around} {E : Value → Shared → Prop} {Q : Value → Shared → Prop}, Q (.ref hp.objs.size) ⟨hp.push o, g, d, tk, os⟩ → wpAny (model prog w) A' (pyIter v) Q E ⟨hp, g, d, tk, os⟩ :=
      fun q => B.iter prog w _ _ ⟨hp, g, d, tk, os⟩ _ h1 q
    wp_walk using q1
    refine wpAny_stack_any fun st => wpAny_pure ?_
    split
    · rename_i c _ _ _ _ _
      cases (c == Value.type "enumerate")
      · wp_walk using q1
        exact ⟨_, rfl, h⟩
      · wp_walk using q1
        exact ⟨_, rfl, h⟩
    · wp_walk using q1
      exact ⟨_, rfl, h⟩
theorem enum_begins1 {prog : Program} {w : World} {A : Around} {E : Value → Shared → Prop} {s : Shared} {v : Value} {o : Obj} {H : Heap → Prop} {Q : Value → Shared → Prop} (B : Begins v o H) (h1 : H s.heap) (hargs : checkTypeCall "enumerate" ⟨[v], []⟩ = pure ()) (hnew : checkBuiltinCall "enumerate.__new__" ⟨[.type "enumerate", v], []⟩ = pure ()) (hobj : ∀ obj, argsOk "object.__init__" ⟨[obj, v], []⟩)
    (h : ∀ h', IsEnum h' (s.heap.objs.size + 1) s.heap.objs.size 0 .none → h'.get? s.heap.objs.size = some o → h'.objs.size = s.heap.objs.size + 2 →
      (∀ b o, s.heap.get? b = some o → h'.get? b = some o) → Q (.ref (s.heap.objs.size + 1)) { s with heap := h' }) :
    wpAny (model prog w) A (call (.type "enumerate") [v]) Q E s := by
  refine callType_new F.called_enumerate (by decide) hargs hnew hobj F.entry_enumerate_new (meets_enumB1 B) ⟨h1, ?_⟩
  have hz : (s.heap.push o).objs.size = s.heap.objs.size + 1 := Heap.size_push ..
  show _ ∧ _
  rw [hz]
  have he : IsEnum ((s.heap.push o).push { cls := .type "enumerate", data := .fields #[.none, .bool false, .ref s.heap.objs.size, rawInt 0, .none, .none] }) (s.heap.objs.size + 1) s.heap.objs.size 0 .none := by
    have := Heap.get?_push_size (s.heap.push o) (o := { cls := .type "enumerate", data := .fields #[.none, .bool false, .ref s.heap.objs.size, rawInt 0, .none, .none] }) rfl
    rw [hz] at this; exact this
  refine ⟨⟨_, he, rfl⟩, h _ he (Heap.get?_push_of_some _ (Heap.get?_push_size _ B.free)) (by rw [Heap.size_push, hz]) fun b o x => Heap.get?_push_of_some _ (Heap.get?_push_of_some _ x)⟩
def IteT (K : PySem.W.Frag) (a : Addr) : It :=
  ⟨fun i H => ∃ (xs : List V) (x : V), SqT K H a xs ∧ xs[i]? = some x, fun i H v H' => ∃ T x, v = .ref T ∧ H T = none ∧ H' = upd H T (.tup [.int (i : Nat), x]) ∧ ∀ xs, SqT K H a xs → xs[i]? = some x, fun i H => ∃ xs : List V, SqT K H a xs ∧ xs.length ≤ i⟩
theorem turn_enumT {P : Program} {w : World} {K : PySem.W.Frag} {elts : List Expr} {kk : Nat} {tpos : Pos} (a e it : Addr) :
    Turn P w K (.Tuple elts kk tpos) (IteT K a) [e, it] e (fun i h => (∃ old, IsEnum h e it ((i : Nat) : Int) old) ∧ h.IsTupleIter it a i ∧ e ≠ it ∧ e ≠ a ∧ a ≠ it) where
  mem := by simp
  obj := fun i h st b hb => by
    obtain ⟨⟨old, he⟩, ⟨o, ho, hc, hd⟩, _⟩ := st
    have e' : b = e ∨ b = it := by simpa using hb
    rcases e' with z | z
    · rw [z]; exact ⟨_, he, fun v q => nomatch q⟩
    · rw [z]; exact ⟨o, ho, fun v q => by rw [hd] at q; cases q⟩
  keep := fun i h h' st k => let ⟨⟨old, he⟩, hi, hne⟩ := st; ⟨⟨old, k e (by simp) _ he⟩, hi.at fun o q => k it (by simp) o q, hne⟩
  item := by
    intro X hP hw hK hc i pins s σ H E I hf st hg
    subst hP hw hK
    obtain ⟨⟨old, he⟩, hit, hne, hea, hai⟩ := st
    obtain ⟨xs, x, hq, hx⟩ := hg
    obtain ⟨its, rv, p, hz⟩ := I.tuple hq
    obtain ⟨u, hu, ru⟩ := rv.get hx
    have hel : e < s.heap.objs.size := Heap.lt_size he
    have hil : it < s.heap.objs.size := by obtain ⟨_, q, _⟩ := hit; exact Heap.lt_size q
    have hh : X.A.in1.handled = none := I.ok.hd hc
    have hi : i < its.toArray.size := by
      have := (List.getElem?_eq_some_iff.mp hu).1
      simpa using this
    refine wpAny_pyNext_enum_itemD (Draws.tuple hh it a hai its.toArray) he ⟨hit, p⟩ hi hne (by simp [hne, hea]) fun u' h' tk hP ho hs' hT hsz hk => ?_
    have eu : u' = u := by
      have : its.toArray[i]? = some u := by simpa using hu
      rw [this] at hP
      exact (Option.some.inj hP).symm
    subst eu
    obtain ⟨hit', p'⟩ := hs'
    refine ⟨_, rfl, wpAny_letOwnedTupleGo_enum (s := { s with heap := h', toks := tk + 1 }) ho fun h'' he' sb => ?_⟩
    have hT2 : h''.get? s.heap.objs.size = some { cls := .type "tuple", data := .seq #[.int i tk, u'] } := (sb.2 _ (Nat.ne_of_gt hel)).trans hT
    have new : ObjOk X.prog X.w (upd H s.heap.objs.size (.tup [.int (i : Nat), x])) h'' s.heap.objs.size (.tup [.int (i : Nat), x]) :=
      ⟨by show 2 ≤ sizeLine; decide, [.int i tk, u'], .cons ⟨_, rfl⟩ (.cons ru .nil), ⟨_, hT2, rfl, _, rfl⟩⟩
    have I1 : Inv X pins σ (upd H s.heap.objs.size (.tup [.int (i : Nat), x])) { s with heap := h'', toks := tk + 1 } :=
      I.turnedNew (ch := [e, it]) (fun b ob hb q => (sb.2 b (fun z => hb (by simp [z]))).trans (hk b ob (fun z => hb (by simp [z])) (fun z => hb (by simp [z])) q)) hf (Nat.le_refl _) new
    refine ⟨.ref s.heap.objs.size, _, I1, rfl, ⟨_, x, rfl, I.hok.fresh (Nat.le_refl _), rfl, fun ys hy => by rw [I.tuple_inj hy hq]; exact hx⟩, ⟨⟨u', ?_⟩, hit'.at fun o q => (sb.2 it (Ne.symm hne)).trans q, hne, hea, hai⟩, fun b hb => ?_⟩
    · have e1 : ((i + 1 : Nat) : Int) = (i : Int) + 1 := by omega
      rw [e1]; exact he'
    · have hb' : b < s.heap.objs.size := by
        have e' : b = e ∨ b = it := by simpa using hb
        rcases e' with z | z
        · rw [z]; exact hel
        · rw [z]; exact hil
      rw [upd_ne (Nat.ne_of_lt hb')]
      exact (hf b hb).1
  done := by
    intro X hP hw hK hc i pins s σ H E I hf st hg
    subst hP hw hK
    obtain ⟨⟨old, he⟩, hit, hne, hea, hai⟩ := st
    obtain ⟨xs, hq, hx⟩ := hg
    obtain ⟨its, rv, p, hz⟩ := I.tuple hq
    obtain ⟨f0, f1, f2, f3, f4, f5⟩ := hf it (by simp)
    have hl := rv.length
    have hh : X.A.in1.handled = none := I.ok.hd hc
    have D := Draws.tuple (prog := X.prog) (w := X.w) hh it a hai its.toArray
    have hT : s.TypeIs (.ref e) "enumerate" := ⟨_, he, rfl⟩
    unfold pyNext
    refine wpAny_bind (wpAny_attempt (wpAny_callSpecial?_slot (name := Str.ofString "__next__") hT F.slot_enumerate_next
      (wpAny_call_entry F.slot_enumerate_next hT F.entry_enumerate_next ?_ (F.args_enumerate_next_1 _))))
    show wpAny _ _ (field (.ref e) 2 >>= _) _ _ _
    refine wpAny_bind (wpAny_field he rfl (x := .ref it) rfl ?_)
    refine wpAny_bind (wpAny_nextOf_tuple_end hh hit p (by simp; omega) fun h' x eb hx' => ?_)
    obtain ⟨o, ho, hc'⟩ := hx'
    refine wpAny_bind (wpAny_isInstance (T := "StopIteration") (b := true) ⟨o, ho, hc'⟩ isSubtype_stop ?_)
    exact wpAny_pure ⟨rfl, I.turned (t' := s.toks) (fun b o hb q => eb b o hb q) f0 f1 f3 f4 f5⟩
  self := fun A i s Q E st h => let ⟨⟨_, he⟩, _⟩ := st; wpAny_pyIter_enum he h
def iEnumX (K : PySem.W.Frag) (ta : TA) : TI := fun σ H R => ta σ H fun vs H1 => ∃ a xs, vs = [.ref a] ∧ ((SqL K H1 a xs ∧ R (Ite K a) H1) ∨ (SqT K H1 a xs ∧ R (IteT K a) H1))
theorem pi_enumX {X : Cx} {e : Expr} {ta : TA} {p pos tpos : Pos} {elts : List Expr} {kk : Nat} (hg : Gl X "enumerate") (hm : X.mg "enumerate" = none) (ha : PA X [e] ta) (hs : starEach [e] X.env = [(false, eval e X.env)] := by rfl) :
    PI X (.Tuple elts kk tpos) (.Call (.Name "enumerate" p) [e] [] pos) (iEnumX X.K ta) := by
  refine ⟨fun pins s σ H R I h => ?_⟩
  refine Call_ (ld_blt I hg hm boot_enumerate (PyProof.Rows.callWith_type1 (thn (ha.run pos pins s σ H _ I h) fun us s1 ⟨vs, H1, I1, r1, q1⟩ => ?_) hs rfl))
  obtain ⟨a, xs, ex, hq⟩ := q1
  subst ex
  have hfp : ∀ b ∈ [s1.heap.objs.size + 1, s1.heap.objs.size], FpOk X pins H1 b := fun b hb => by
    have e' : b = s1.heap.objs.size + 1 ∨ b = s1.heap.objs.size := by simpa using hb
    have hle : s1.heap.objs.size ≤ b := by
      rcases e' with z | z
      · rw [z]; exact Nat.le_add_right _ _
      · rw [z]; exact Nat.le_refl _
    exact I1.fpOk hle (I1.hok.fresh hle)
  cases r1 with
  | cons r rr =>
    cases rr
    cases r
    rcases hq with ⟨hq, q⟩ | ⟨hq, q⟩
    · obtain ⟨its, rv, p', hz⟩ := I1.list hq
      refine call_enumerate_list p'.isList fun h' he hit hsz hk => wpAny_pyIter_enum he ?_
      have I2 : Inv X pins σ H1 { s1 with heap := h' } := I1.kept (t' := s1.toks) hk
      exact ⟨s1.heap.objs.size + 1, [s1.heap.objs.size + 1, s1.heap.objs.size], _, _, H1, rfl, I2, turn_enum a (s1.heap.objs.size + 1) s1.heap.objs.size, ⟨⟨.none, he⟩, hit, Nat.succ_ne_self _⟩, hfp, q⟩
    · obtain ⟨its, rv, p', hz⟩ := I1.tuple hq
      have al : a < s1.heap.objs.size := by
        obtain ⟨o, ho, _⟩ := id p'
        exact Heap.lt_size ho
      refine enum_begins1 (begins_tuple a its.toArray) p' (F.typeCall_enumerate_1 _) (F.newCall_enumerate_1 _) (fun obj => F.args_object_init_2 obj _) fun h' he hit hsz hk => wpAny_pyIter_enum he ?_
      have I2 : Inv X pins σ H1 { s1 with heap := h' } := I1.kept (t' := s1.toks) hk
      exact ⟨s1.heap.objs.size + 1, [s1.heap.objs.size + 1, s1.heap.objs.size], _, _, H1, rfl, I2, turn_enumT a (s1.heap.objs.size + 1) s1.heap.objs.size, ⟨⟨.none, he⟩, ⟨_, hit, rfl, rfl⟩, Nat.succ_ne_self _, Nat.ne_of_gt (Nat.lt_succ_of_lt al), Nat.ne_of_lt al⟩, hfp, q⟩
/-- a list or a tuple -/
def iSeq (K : PySem.W.Frag) (tl : TE) : TI := fun σ H R => tl σ H fun x H1 => ∃ a xs, x = .ref a ∧ ((SqL K H1 a xs ∧ R (Itl K a) H1) ∨ (SqT K H1 a xs ∧ R (Itt K a) H1))
theorem pi_seq {X : Cx} {tg l : Expr} {tl : TE} (hl : PE X l tl) : PI X tg l (iSeq X.K tl) := by
  refine ⟨fun pins s σ H R I h => ?_⟩
  refine thn (hl.run pins s σ H _ I h) fun v s1 ⟨x, H1, I1, r1, q1⟩ => ?_
  obtain ⟨a, xs, e, q⟩ := q1
  subst e
  cases r1
  have hfp : ∀ b ∈ [s1.heap.objs.size], FpOk X pins H1 b := fun b hb => by
    have e : b = s1.heap.objs.size := by simpa using hb
    subst e
    exact I1.fpOk (Nat.le_refl _) (I1.hok.fresh (Nat.le_refl _))
  rcases q with ⟨hq, q⟩ | ⟨hq, q⟩
  · obtain ⟨its, rv, p, hz⟩ := I1.list hq
    refine wpAny_pyIter_list p.isList ?_
    exact ⟨s1.heap.objs.size, [s1.heap.objs.size], _, _, H1, rfl, I1.kept (t' := s1.toks) fun b o e => Heap.get?_push_of_some _ e, turn_list a _, ⟨_, Heap.get?_push_size _ rfl, rfl, rfl⟩, hfp, q⟩
  · obtain ⟨its, rv, p, hz⟩ := I1.tuple hq
    refine wpAny_pyIter_tuple (show s1.heap.IsTuple a its.toArray from p) ?_
    exact ⟨s1.heap.objs.size, [s1.heap.objs.size], _, _, H1, rfl, I1.kept (t' := s1.toks) fun b o e => Heap.get?_push_of_some _ e, turn_tuple a _, ⟨_, Heap.get?_push_size _ rfl, rfl, rfl⟩, hfp, q⟩
end K33
namespace K33
open PySem PySem.Spec PyProof.Rows L2
/-! ### promises -/
abbrev Wish := (D → Prop) → (Exn → Prop) → Prop
/-- a promise that changes nothing that stands -/
def spD (K : PySem.W.Frag) (S : List D → Wish) : Sp := fun vs H Q E => ∃ ds B k X, Bs ⟨K, B, H, none, none, []⟩ B H ∧ RepL K B ds vs ∧ S ds k X ∧
  (∀ d v B' H', k d → Bs ⟨K, B, H, none, none, []⟩ B' H' → Rep K B' d v → Q v H') ∧ ∀ x cls dx B' H', X x → Bs ⟨K, B, H, none, none, []⟩ B' H' → ExRep K B' H' x cls dx → E cls dx H'
/-- .. that changes its first argument alone: the source -/
def spS (K : PySem.W.Frag) (S : List D → (D → Prop) → Prop) : Sp := fun vs H Q _ => ∃ s vs' ds B k, vs = .ref s :: vs' ∧ Bs ⟨K, B, H, some s, none, []⟩ B H ∧ RepL K B ds vs' ∧ S ds k ∧
  ∀ d v B' H', k d → Bs ⟨K, B, H, some s, none, []⟩ B' H' → Rep K B' d v → Q v H'
/-- an __init__ -/
def spI (K : PySem.W.Frag) (c : Str) (S : List D → (List Str → List D → Prop) → Prop) : Sp := fun vs H Q _ => ∃ x dx vs' ds B k, vs = .ref x :: vs' ∧ H x = some (.ins (He.ga K c) dx []) ∧ B x = none ∧ Bs ⟨K, B, H, none, some x, []⟩ B H ∧ RepL K B ds vs' ∧ S ds k ∧
  ∀ ns xs us dx' B' H', k ns xs → Bs ⟨K, B, H, none, some x, []⟩ B' H' → B' x = none → H' x = some (.ins (He.ga K c) dx' (ns.zip us)) → ns.length = xs.length → RepL K B' xs us → Q .non H'
section
variable {F : Fm} {ρ : List Sl} {k : D → Prop} {kl : List D → Prop} {B H B1 H1 B' H' : Hp} {σ : L2.St}
theorem Bs.z0 {K : PySem.W.Frag} {s m : Option Addr} (b : Bs ⟨K, B, H, s, m, []⟩ B' H') (p : Addr) (h : H p ≠ none) (h2 : B p = none) : B' p = none := b.z p h h2 (by intro z; cases z)
theorem bs_start {K : PySem.W.Frag} (e : Same B H) : Bs ⟨K, B, H, none, none, []⟩ B H := ⟨Same.refl _, e, fun b o h => by
    unfold hid at h
    split at h
    · cases h
    · exact h, fun _ _ h _ => h, fun _ h => h, (fun _ h => by cases h), (fun _ h => by cases h)⟩
theorem hid_nn {K : PySem.W.Frag} (b : Addr) : hid ⟨K, B, H, none, none, []⟩ b = H b := by
  unfold hid
  rw [if_neg (by rintro (h | h | h) <;> cases h)]
theorem Bs.same {K : PySem.W.Frag} (b : Bs ⟨K, B, H, none, none, []⟩ B' H') : Same H H' := fun p o h => b.fh p o (by rw [hid_nn]; exact h)
theorem Stp.call (E : EnvOk F B H σ ρ) (b : Bs ⟨F.K, B, H, none, none, []⟩ B' H') : Stp F σ ρ B H B' H' := by
  have sm : Same H H' := b.same
  refine ⟨⟨⟨E.bs.b0.trans b.b0, b.bh, E.bs.fh.trans sm, fun p h1 h2 h3 => b.z0 p (E.bs.al p h1) (E.bs.z p h1 h2 h3), fun p h => b.al p (E.bs.al p h), fun s hs => ?_, E.bs.me⟩, E.len, fun i l h => ?_, E.inj⟩, b.b0, fun p o h _ => sm p o h, b.z0, b.al⟩
  · obtain ⟨⟨c, n, k, h1, h2⟩, h3⟩ := E.bs.src s hs
    exact ⟨⟨c, n, k, sm _ _ h1, h2⟩, h3⟩
  · have g := (E.at_ i l h).grow sm
    cases l with
    | un => trivial
    | val d =>
      obtain ⟨v, h1, h2⟩ := g
      exact ⟨v, h1, h2.mono b.b0⟩
    | own ds =>
      obtain ⟨q, vs, h1, h2, h3, h4, h5⟩ := E.at_ i _ h
      exact ⟨q, vs, h1, sm _ _ h2, b.z0 q (by show H q ≠ none; rw [h2]; exact Option.some_ne_none _) h3, h4, h5.mono b.b0⟩
    | ins q c ns ds =>
      obtain ⟨dx, vs, h1, h2, h3, h4, h5, h6⟩ := E.at_ i _ h
      exact ⟨dx, vs, h1, sm _ _ h2, b.z0 q (by show H q ≠ none; rw [h2]; exact Option.some_ne_none _) h3, h4, h5, h6.mono b.b0⟩
    | src q =>
      obtain ⟨h1, ⟨c, n, k, h2, h3⟩, h4, h5⟩ := E.at_ i _ h
      exact ⟨h1, ⟨c, n, k, sm _ _ h2, h3⟩, b.z0 q (by show H q ≠ none; rw [h2]; exact Option.some_ne_none _) h4, h5⟩
    | lft q a b' c L =>
      obtain ⟨h1, h2, h3⟩ := E.at_ i _ h
      exact ⟨h1, h2.mono b.b0 (fun x _ o z => sm x o z) (fun x _ z1 z2 => b.z0 x z1 z2), h3⟩
    | tab P q =>
      obtain ⟨h1, h2, h3⟩ := E.at_ i _ h
      exact ⟨h1.mono b.b0 (fun o z => sm P o z), b.z0 P (by show H P ≠ none; obtain ⟨_, z, _⟩ := h1; rw [z]; exact Option.some_ne_none _) h2, h3⟩
theorem Stp.callS (E : EnvOk F B H σ ρ) {i : Nat} {p : Addr} (hi : ρ[i]? = some (.src p)) (b : Bs ⟨F.K, B, H, some p, none, []⟩ B' H') : Stp F σ ρ B H B' H' := by
  obtain ⟨hp1, hp2, hp3, hp4, hp5⟩ := E.at_ i _ hi
  have sm : ∀ q o, q ≠ p → H q = some o → H' q = some o := fun q o n h => b.fh q o (by
    unfold hid
    rw [if_neg (by rintro (h | h | h) <;> cases h; exact n rfl)]
    exact h)
  have sp : SrcAt H' p := (b.src p rfl).1
  have own : ∀ (j : Nat) (l : Sl) (q : Addr), ρ[j]? = some l → l.isOwn = true → (∀ q, l ≠ .src q) → σ[j]? = some (some (.ref q)) → q ≠ p := fun j l q h o n e z => by
    subst z
    have := E.inj j i l _ q h hi o rfl e hp1
    subst this
    rw [hi] at h
    exact n _ (Option.some.inj h).symm
  refine ⟨⟨⟨E.bs.b0.trans b.b0, b.bh, fun q o h => ?_, fun p h1 h2 h3 => b.z0 p (E.bs.al p h1) (E.bs.z p h1 h2 h3), fun p h => b.al p (E.bs.al p h), fun s hs => ?_, E.bs.me⟩, E.len, fun j l h => ?_, E.inj⟩, b.b0, fun q o h n => sm q o (fun z => n i (by rw [hi, z])) h, b.z0, b.al⟩
  · refine sm q o (fun z => ?_) (E.bs.fh q o h)
    rw [z, hp4] at h
    cases h
  · by_cases hq : s = p
    · subst hq
      exact ⟨sp, (E.bs.src s hs).2⟩
    · obtain ⟨⟨c, n, k, h1, h2⟩, h3⟩ := E.bs.src s hs
      exact ⟨⟨c, n, k, sm _ _ hq h1, h2⟩, h3⟩
  · have g := E.at_ j l h
    cases l with
    | un => trivial
    | val d =>
      obtain ⟨v, h1, h2⟩ := g
      exact ⟨v, h1, h2.mono b.b0⟩
    | own ds =>
      obtain ⟨q, vs, h1, h2, h3, h4, h5⟩ := g
      exact ⟨q, vs, h1, sm _ _ (own j _ q h rfl (fun _ z => by cases z) h1) h2, b.z0 q (by show H q ≠ none; rw [h2]; exact Option.some_ne_none _) h3, h4, h5.mono b.b0⟩
    | ins q c ns ds =>
      obtain ⟨dx, vs, h1, h2, h3, h4, h5, h6⟩ := g
      exact ⟨dx, vs, h1, sm _ _ (own j _ q h rfl (fun _ z => by cases z) h1) h2, b.z0 q (by show H q ≠ none; rw [h2]; exact Option.some_ne_none _) h3, h4, h5, h6.mono b.b0⟩
    | src q =>
      obtain ⟨h1, ⟨c, n, k, h2, h3⟩, h4, h5⟩ := g
      refine ⟨h1, ?_, b.z0 q (by show H q ≠ none; rw [h2]; exact Option.some_ne_none _) h4, h5⟩
      by_cases hq : q = p
      · rw [hq]
        exact sp
      · exact ⟨c, n, k, sm _ _ hq h2, h3⟩
    | lft q a b' c L => exact absurd hi (E.nosrc h i p)
    | tab P q =>
      obtain ⟨h1, h2, h3⟩ := g
      have : P ≠ p := fun z => hp5.1 (z ▸ h3)
      exact ⟨h1.mono b.b0 (fun o z => sm P o this z), b.z0 P (by show H P ≠ none; obtain ⟨_, z, _⟩ := h1; rw [z]; exact Option.some_ne_none _) h2, h3⟩
variable {ta : TE} {t : TA} {S : List D → Wish} {E : XK} {X : Exn → Prop}
/-- what the wish E takes of the exceptions X -/
def ExOk (F : Fm) (X : Exn → Prop) (E : XK) : Prop := ∀ x cls dx B' H', X x → Bs F B' H' → ExRep F.K B' H' x cls dx → E cls dx H'
theorem run_spD {vs : List V} {ds : List D} (E0 : EnvOk F B H σ ρ) (hE : ExOk F X E) (r : RepL F.K B ds vs) (h : S ds k X) {Q : VK} (hQ : ∀ d v B' H', k d → Stp F σ ρ B H B' H' → Rep F.K B' d v → Q v H') : spD F.K S vs H Q E :=
  ⟨ds, B, k, X, bs_start E0.bs.bh, r, h, fun d v B' H' q b r' => hQ d v B' H' q (Stp.call E0 b) r', fun x cls dx B' H' q b e => hE x cls dx B' H' q (Stp.call E0 b).env.bs e⟩
theorem ev_callX (hE : ExOk F X E) (h : EvA F t ρ fun ds => S ds k X) : EvD F (tCl (spD F.K S) E t) ρ k := fun B H σ E0 Q hQ =>
  h B H σ E0 _ fun ds vs B1 H1 g S1 r1 => run_spD S1.env hE r1 g fun d v B' H' q S2 r' => hQ d v B' H' q (S1.trans S2) r'
theorem exok0 {E : XK} : ExOk F (fun _ => False) E := fun _ _ _ _ _ h => h.elim
theorem ev_call (h : EvA F t ρ fun ds => S ds k fun _ => False) : EvD F (tCl (spD F.K S) E t) ρ k := ev_callX exok0 h
theorem ev_callS {S : List D → (D → Prop) → Prop} {i : Nat} {p : Addr} (hi : ρ[i]? = some (.src p)) (h : EvA F t ρ fun ds => S ds k) : EvD F (tCl (spS F.K S) E (tCons (tVar i) t)) ρ k := fun B H σ E0 Q hQ => by
  obtain ⟨h1, _⟩ := E0.at_ i _ hi
  refine ⟨_, h1, h B H σ E0 _ fun ds vs B1 H1 g S1 r1 => ?_⟩
  obtain ⟨a1, a2, a3, a4, a5⟩ := S1.env.at_ i _ hi
  have hne : H1 p ≠ none := by
    obtain ⟨_, _, _, z, _⟩ := a2
    rw [z]
    exact Option.some_ne_none _
  have b0 : Bs ⟨F.K, B1, H1, some p, none, []⟩ B1 H1 := ⟨Same.refl _, S1.env.bs.bh, fun b o h => by
    unfold hid at h
    split at h
    · cases h
    · exact h, fun _ _ h _ => h, fun _ h => h, fun s hs => by cases hs; exact ⟨a2, a3, hne⟩, fun _ h => by cases h⟩
  exact ⟨p, vs, ds, B1, k, rfl, b0, r1, g, fun d v B' H' q b r' => hQ d v B' H' q (S1.trans (Stp.callS S1.env hi b)) r'⟩
/-- C(..): a new instance and its dict stand, B as it was -/
theorem run_mk {c : Str} {S : List D → (List Str → List D → Prop) → Prop} (E0 : EnvOk F B H σ ρ) {vs : List V} {ds : List D} (r : RepL F.K B ds vs) (g : S ds fun ns xs => k (.obj c ns xs)) {x dx : Addr} (hx : H x = none) (hdx : H dx = none) (hne : dx ≠ x) {Q : VK} (hQ : ∀ d v B' H', k d → Stp F σ ρ B H B' H' → Rep F.K B' d v → Q v H') :
    spI F.K c S (V.ref x :: vs) (upd (upd H dx (.own x)) x (.ins (He.ga F.K c) dx [])) (fun v H2 => v = .non ∧ Q (.ref x) H2) E := by
  have n1 : (upd H dx (HO.own x)) x = none := by
    rw [upd_ne (Ne.symm hne)]
    exact hx
  have s1 : Same H (upd (upd H dx (HO.own x)) x (.ins (He.ga F.K c) dx [])) := (Same.upd hdx).trans (Same.upd n1)
  have hB : B x = none := E0.bs.bnew hx
  generalize eH : upd (upd H dx (HO.own x)) x (.ins (He.ga F.K c) dx []) = H2 at s1
  have hx2 : H2 x = some (.ins (He.ga F.K c) dx []) := by
    rw [← eH]
    exact upd_same
  have b0 : Bs ⟨F.K, B, H2, none, some x, []⟩ B H2 := ⟨Same.refl _, E0.bs.bh.trans s1, fun b o h => by
    unfold hid at h
    split at h
    · cases h
    · exact h, fun _ _ h _ => h, fun _ h => h, (fun s hs => by cases hs), fun s hs => by cases hs; exact ⟨hB, by show H2 x ≠ none; rw [hx2]; exact Option.some_ne_none _⟩⟩
  refine ⟨x, dx, vs, ds, B, _, rfl, hx2, hB, b0, r, g, fun ns xs us dx' B' H' q b h1 h2 h3 r' => ⟨rfl, ?_⟩⟩
  have sm : Same H H' := fun q o h => b.fh q o (by
    have : q ≠ x := ne_of_none h hx
    unfold hid
    rw [if_neg (by rintro (h | h | h) <;> cases h; exact this rfl)]
    exact s1 q o h)
  have b1 : Bs ⟨F.K, B, H, none, none, []⟩ B' H' := ⟨b.b0, b.bh, fun q o h => sm q o (by rw [hid_nn] at h; exact h), fun p h1 h2 _ => b.z0 p (by
      show H2 p ≠ none
      cases q : H p with
      | none => exact absurd q h1
      | some o =>
        rw [s1 p o q]
        exact Option.some_ne_none _) h2, fun p h1 => by
      cases q : H p with
      | none => exact absurd q h1
      | some o =>
        rw [sm p o q]
        exact Option.some_ne_none _, (fun s hs => by cases hs), (fun s hs => by cases hs)⟩
  have S := Stp.call E0 b1
  refine hQ _ _ (upd B' x (.ins (He.ga F.K c) dx' (ns.zip us))) H' q ⟨S.env.know h1 (E0.bs.new hx) h2 (E0.notown hx), S.bb.trans (Same.upd h1), S.kp, fun p h4 h5 => ?_, S.al⟩ ⟨x, dx', us, rfl, upd_same, h3, r'.mono (Same.upd h1)⟩
  have : p ≠ x := fun z => h4 (z ▸ hx)
  rw [upd_ne this]
  exact S.z p h4 h5
theorem ev_make {c : Str} {S : List D → (List Str → List D → Prop) → Prop} (h : EvA F t ρ fun ds => S ds fun ns xs => k (.obj c ns xs)) : EvD F (StX.tMakeR (He.ga F.K c) (spI F.K c S) E t) ρ k := fun B H σ E0 Q hQ =>
  h B H σ E0 _ fun ds vs B1 H1 g S1 r1 => fun x dx hx hdx hne => run_mk S1.env r1 g hx hdx hne fun d v B' H' q S2 r' => hQ d v B' H' q (S1.trans S2) r'
/-- C(.., k = v): one keyword -/
theorem ev_makeN {c : Str} {n m : Nat} {tk : TA} {gV : List V → List V → List V} {S : List D → (List Str → List D → Prop) → Prop} (gD : List D → List D → List D) (hgv : ∀ B x ds zs us ws, RepL F.K B ds us → RepL F.K B zs ws → ∃ vs, gV (V.ref x :: us) ws = V.ref x :: vs ∧ RepL F.K B (gD ds zs) vs)
    (h : EvA F t ρ fun ds => EvA F tk ρ fun zs => ds.length = n ∧ zs.length = m ∧ S (gD ds zs) fun ns xs => k (.obj c ns xs)) : EvD F (tMakeN (He.ga F.K c) n m (spI F.K c S) gV E t tk) ρ k := fun B H σ E0 Q hQ =>
  h B H σ E0 _ fun ds us B1 H1 g S1 r1 => g B1 H1 σ S1.env _ fun zs ws B2 H2 ⟨l1, l2, g2⟩ S2 r2 => ⟨by rw [r1.len]; exact l1, by rw [r2.len]; exact l2, fun x dx hx hdx hne => by
    obtain ⟨vs, e, r⟩ := hgv B2 x ds zs us ws (r1.mono S2.bb) r2
    rw [e]
    exact run_mk S2.env r g2 hx hdx hne fun d v B' H' q S3 r' => hQ d v B' H' q ((S1.trans S2).trans S3) r'⟩
/-- o.m(..) -/
theorem ev_meth {c m : Str} (hE : ExOk F X E) (h : EvD F ta ρ fun d => ∃ ns xs, d = .obj c ns xs ∧ ns.contains m = false ∧ EvA F t ρ fun ds => S (d :: ds) k X) : EvD F (tMethR (He.ga F.K c) m (spD F.K S) E ta t) ρ k := fun B H σ E0 Q hQ =>
  h B H σ E0 _ fun d v B1 H1 ⟨ns, xs, ed, hm, g⟩ S1 r1 => by
    subst ed
    have r0 := r1
    obtain ⟨a, dx, vs, rfl, h1, h2, h3⟩ := r1
    refine ⟨a, dx, _, rfl, S1.env.bs.bh _ _ h1, look_none hm, ?_⟩
    exact g B1 H1 σ S1.env _ fun ds us B2 H2 g2 S2 r2 => run_spD S2.env hE (RepL.cons (r0.mono S2.bb) r2) g2 fun d v B' H' q S3 r' => hQ d v B' H' q ((S1.trans S2).trans S3) r'
where
  look_none : ∀ {ns : List Str} {vs : List V} {m : Str}, ns.contains m = false → (ns.zip vs).lookup m = none := by
    intro ns
    induction ns with
    | nil => intro vs m _; rfl
    | cons a ns ih =>
      intro vs m h
      cases vs with
      | nil => rfl
      | cons b vs =>
        simp only [List.contains_cons, Bool.or_eq_false_iff] at h
        simp only [List.zip_cons_cons, List.lookup_cons, h.1]
        exact ih h.2
theorem ev_meth0 {c m : Str} (hE : ExOk F X E) (h : EvD F ta ρ fun d => ∃ ns xs, d = .obj c ns xs ∧ ns.contains m = false ∧ S [d] k X) : EvD F (tM0 (He.ga F.K c) m (spD F.K S) E ta) ρ k := fun B H σ E0 Q hQ =>
  h B H σ E0 _ fun d v B1 H1 ⟨ns, xs, ed, hm, g⟩ S1 r1 => by
    subst ed
    have r0 := r1
    obtain ⟨a, dx, vs, rfl, h1, h2, h3⟩ := r1
    refine ⟨a, dx, _, rfl, S1.env.bs.bh _ _ h1, ev_meth.look_none hm, ?_⟩
    exact run_spD S1.env hE (RepL.cons r0 RepL.nil) g fun d v B' H' q S3 r' => hQ d v B' H' q (S1.trans S3) r'
/-- C.m(..), a classmethod -/
theorem ev_cm {c : Str} (hE : ExOk F X E) (h : EvD F ta ρ fun d => d = .raw (.ref (He.ga F.K c)) ∧ EvA F t ρ fun ds => S (d :: ds) k X) : EvD F (ClX.tCMeth (He.ga F.K c) (spD F.K S) E ta t) ρ k := fun B H σ E0 Q hQ =>
  h B H σ E0 _ fun d v B1 H1 ⟨ed, g⟩ S1 r1 => by
    subst ed
    cases r1
    exact ⟨rfl, g B1 H1 σ S1.env _ fun ds us B2 H2 g2 S2 r2 => run_spD S2.env hE (RepL.cons (show Rep F.K B2 (.raw (.ref (He.ga F.K c))) _ from rfl) r2) g2 fun d v B' H' q S3 r' => hQ d v B' H' q ((S1.trans S2).trans S3) r'⟩
theorem ev_cm0 {c : Str} (hE : ExOk F X E) (h : EvD F ta ρ fun d => d = .raw (.ref (He.ga F.K c)) ∧ S [d] k X) : EvD F (tC0 (He.ga F.K c) (spD F.K S) E ta) ρ k := fun B H σ E0 Q hQ =>
  h B H σ E0 _ fun d v B1 H1 ⟨ed, g⟩ S1 r1 => by
    subst ed
    cases r1
    exact ⟨rfl, run_spD S1.env hE (RepL.cons (show Rep F.K B1 (.raw (.ref (He.ga F.K c))) _ from rfl) RepL.nil) g fun d v B' H' q S3 r' => hQ d v B' H' q (S1.trans S3) r'⟩
/-- o[i], len(o), o + p by own defs -/
theorem ro_subO {c : Str} {ns : List Str} {xs : List D} {y : D} (hE : ExOk F X E) (h : S [.obj c ns xs, y] k X) : ROp F (rSubO (He.ga F.K c) (spD F.K S) E) ρ (.obj c ns xs) y k := fun B H σ vx vy E0 rx ry Q hQ => by
  have r0 := rx
  obtain ⟨a, dx, vs, rfl, h1, h2, h3⟩ := rx
  exact ⟨a, dx, _, rfl, E0.bs.bh _ _ h1, run_spD E0 hE (RepL.cons r0 (RepL.cons ry RepL.nil)) h hQ⟩
theorem ro_addO {c : Str} {ns ms : List Str} {xs ys : List D} (hE : ExOk F X E) (h : S [.obj c ns xs, .obj c ms ys] (fun d => (∃ c ns xs, d = .obj c ns xs) ∧ k d) X) : ROp F (rBinO (He.ga F.K c) (spD F.K S) E) ρ (.obj c ns xs) (.obj c ms ys) k := fun B H σ vx vy E0 rx ry Q hQ => by
  have r0 := rx
  have r1 := ry
  obtain ⟨a, dx, vs, rfl, h1, h2, h3⟩ := rx
  obtain ⟨b, dy, us, rfl, g1, g2, g3⟩ := ry
  refine ⟨a, b, dx, dy, _, _, rfl, rfl, E0.bs.bh _ _ h1, E0.bs.bh _ _ g1, run_spD E0 hE (RepL.cons r0 (RepL.cons r1 RepL.nil)) h fun d v B' H' ⟨⟨c', ns', xs', ed⟩, q⟩ S r' => ⟨?_, hQ d v B' H' q S r'⟩⟩
  subst ed
  obtain ⟨p, _, _, rfl, _⟩ := r'
  exact ⟨p, rfl⟩
theorem rc_lenO {c : Str} {ns : List Str} {xs : List D} (hE : ExOk F X E) (h : S [.obj c ns xs] (fun d => ∃ n : Nat, d = .int n ∧ n < 1000000 ∧ k (.int n)) X) : ROc F (rLenO (He.ga F.K c) (spD F.K S) E) ρ [.obj c ns xs] k := fun B H σ vs E0 r Q hQ => by
  obtain ⟨v, t, rfl, rx, rfl⟩ := r
  have r0 := rx
  obtain ⟨a, dx, vs, rfl, h1, h2, h3⟩ := rx
  refine ⟨a, dx, _, rfl, E0.bs.bh _ _ h1, run_spD E0 hE (RepL.cons r0 RepL.nil) h fun d v B' H' ⟨n, ed, hn, q⟩ S r' => ?_⟩
  subst ed
  cases r'
  exact ⟨n, rfl, hn, hQ _ _ B' H' q S rfl⟩
/-- o.f, a property -/
theorem ev_prop {c : Str} (hE : ExOk F X E) (h : EvD F ta ρ fun d => ∃ ns xs, d = .obj c ns xs ∧ S [d] k X) : EvD F (tProp (He.ga F.K c) (spD F.K S) [] E ta) ρ k := fun B H σ E0 Q hQ =>
  h B H σ E0 _ fun d v B1 H1 ⟨ns, xs, ed, g⟩ S1 r1 => by
    subst ed
    have r0 := r1
    obtain ⟨a, dx, vs, rfl, h1, h2, h3⟩ := r1
    exact ⟨a, dx, _, rfl, S1.env.bs.bh _ _ h1, run_spD S1.env hE (RepL.cons r0 RepL.nil) g fun d v B' H' q S3 r' => hQ d v B' H' q (S1.trans S3) r'⟩
/-! ### walks -/
variable {wi : TI}
theorem itd_l {p : Addr} {vs : List V} {ds : List D} (h : B p = some (.lst vs)) (r : RepL F.K B ds vs) : ItD F B (Itl F.K p) ds := by
  have hl := r.len
  refine ⟨fun i H hi e => ⟨vs, vs[i]'(by omega), .inl (.inl (e _ _ h)), by simp⟩, fun H e => ⟨vs, .inl (.inl (e _ _ h)), by omega⟩, fun i H x H' hi e ⟨e1, e2⟩ => ?_⟩
  obtain ⟨d, e3, e4⟩ := r.got (e2 vs (.inl (.inl (e _ _ h))))
  exact ⟨d, e3, .inl ⟨e1, fun B' s => e4.mono s⟩⟩
theorem itd_t {p : Addr} {vs : List V} {ds : List D} (h : SqT F.K B p vs) (r : RepL F.K B ds vs) : ItD F B (Itt F.K p) ds := by
  have hl := r.len
  refine ⟨fun i H hi e => ⟨vs, vs[i]'(by omega), Same.sqT e h, by simp⟩, fun H e => ⟨vs, Same.sqT e h, by omega⟩, fun i H x H' hi e ⟨e1, e2⟩ => ?_⟩
  obtain ⟨d, e3, e4⟩ := r.got (e2 vs (Same.sqT e h))
  exact ⟨d, e3, .inl ⟨e1, fun B' s => e4.mono s⟩⟩
theorem ei_seq (h : EvD F ta ρ fun d => ∃ ds, (d = .lst ds ∨ d = .tup ds) ∧ kl ds) : EvI F (iSeq F.K ta) ρ kl := fun B H σ E0 R hR =>
  h B H σ E0 _ fun d v B1 H1 ⟨ds, ed, q⟩ S1 r1 => by
    rcases ed with rfl | rfl
    · obtain ⟨a, vs, rfl, h1, h2⟩ := r1
      exact ⟨a, vs, rfl, .inl ⟨.inl (.inl (S1.env.bs.bh _ _ h1)), hR ds _ B1 H1 q S1 (itd_l h1 h2)⟩⟩
    · obtain ⟨a, vs, rfl, h1, h2⟩ := r1
      exact ⟨a, vs, rfl, .inr ⟨Same.sqT S1.env.bs.bh h1, hR ds _ B1 H1 q S1 (itd_t h1 h2)⟩⟩
/-- an own list's items, where it is not changed within -/
def intsD (n : Nat) : List D := (List.range n).map fun (i : Nat) => D.int ((i : Nat) : Int)
theorem ints_at {n i : Nat} {d : D} (h : (intsD n)[i]? = some d) : d = .int i ∧ i < n := by
  unfold intsD at h
  rw [List.getElem?_map] at h
  by_cases hi : i < n
  · rw [List.getElem?_range hi] at h
    exact ⟨(Option.some.inj h).symm, hi⟩
  · rw [List.getElem?_eq_none (by rw [List.length_range]; omega)] at h
    cases h
theorem ints_len {n : Nat} : (intsD n).length = n := by
  unfold intsD
  rw [List.length_map, List.length_range]
theorem itd_r {lo : Int} {n : Nat} : ItD F B (Itr lo n) ((List.range n).map fun (i : Nat) => D.int (lo + (i : Nat))) := by
  refine ⟨fun i H hi e => by rw [List.length_map, List.length_range] at hi; exact hi, fun H e => by show n ≤ _; simp, fun i H x H' hi e ⟨e1, e2⟩ => ⟨.int (lo + i), ?_, .inl ⟨e1, fun B' s => e2⟩⟩⟩
  rw [List.length_map, List.length_range] at hi
  rw [List.getElem?_map, List.getElem?_range hi]
  rfl
theorem ei_rng1 (h : EvA F t ρ fun ds => ∃ n : Nat, ds = [.int n] ∧ n ≤ 100000 ∧ kl (intsD n)) : EvI F (iRng1 t) ρ kl := fun B H σ E0 R hR =>
  h B H σ E0 _ fun ds vs B1 H1 ⟨n, ed, hn, q⟩ S1 r1 => by
    subst ed
    obtain ⟨v, r, rfl, r2, rfl⟩ := r1
    cases r2
    refine ⟨n, rfl, by omega, by omega, ?_⟩
    have := itd_r (F := F) (B := B1) (lo := 0) (n := n)
    have e : ((List.range n).map fun (i : Nat) => D.int (0 + (i : Nat))) = intsD n := by
      unfold intsD
      apply List.map_congr_left
      intro i _
      rw [Int.zero_add]
    rw [e] at this
    exact hR _ _ B1 H1 q S1 this
theorem ei_rng2 (h : EvA F t ρ fun ds => ∃ (lo hi : Int), ds = [.int lo, .int hi] ∧ -100000 ≤ lo ∧ lo ≤ 100000 ∧ -100000 ≤ hi ∧ hi ≤ 100000 ∧ kl ((List.range (hi - lo).toNat).map fun (i : Nat) => D.int (lo + (i : Nat)))) : EvI F (iRng2 t) ρ kl := fun B H σ E0 R hR =>
  h B H σ E0 _ fun ds vs B1 H1 ⟨lo, hi, ed, h1, h2, h3, h4, q⟩ S1 r1 => by
    subst ed
    obtain ⟨v, r, rfl, r2, u, r', rfl, r3, rfl⟩ := r1
    cases r2
    cases r3
    exact ⟨lo, hi, rfl, ⟨by omega, by omega, by omega, by omega⟩, hR _ _ B1 H1 q S1 itd_r⟩
/-- the pairs of an enumerate -/
def enumD : Nat → List D → List D
  | _, [] => []
  | n, d :: ds => .tup [.int n, d] :: enumD (n + 1) ds
theorem enumD_len : ∀ {ds : List D} {n : Nat}, (enumD n ds).length = ds.length
  | [], _ => rfl
  | d :: ds, n => congrArg Nat.succ (enumD_len (ds := ds))
theorem enumD_get : ∀ {ds : List D} {n i : Nat} {d : D}, ds[i]? = some d → (enumD n ds)[i]? = some (.tup [.int ((n + i : Nat) : Int), d])
  | [], _, _, _, h => by simp at h
  | d :: ds, n, 0, x, h => by
    simp at h
    subst h
    rfl
  | d :: ds, n, i + 1, x, h => by
    have := enumD_get (ds := ds) (n := n + 1) (i := i) (d := x) (by simpa using h)
    show (enumD (n + 1) ds)[i]? = _
    rw [this, show n + 1 + i = n + (i + 1) by omega]
theorem enumD_at {ds : List D} {i : Nat} {d : D} (h : (enumD 0 ds)[i]? = some d) : ∃ x, ds[i]? = some x ∧ d = .tup [.int i, x] := by
  have hi : i < ds.length := by
    have := (List.getElem?_eq_some_iff.mp h).1
    rwa [enumD_len] at this
  have e := List.getElem?_eq_getElem hi
  have := enumD_get (n := 0) e
  rw [h, Nat.zero_add] at this
  exact ⟨_, e, Option.some.inj this⟩
theorem pair_rep {B' : Hp} {T : Addr} {x y : V} {d e : D} (hT : B' T = some (.tup [x, y])) (h1 : Rep F.K B' d x) (h2 : Rep F.K B' e y) : Rep F.K B' (.tup [d, e]) (.ref T) := ⟨T, _, rfl, .inl (.inl hT), .cons h1 (.cons h2 RepL.nil)⟩
theorem ei_enum (h : EvA F t ρ fun zs => ∃ ds, (zs = [.lst ds] ∨ zs = [.tup ds]) ∧ kl (enumD 0 ds)) : EvI F (iEnumX F.K t) ρ kl := fun B H σ E0 R hR =>
  h B H σ E0 _ fun zs ws B1 H1 ⟨ds, ed, q⟩ S1 r1 => by
    rcases ed with rfl | rfl
    · obtain ⟨v, r, rfl, ⟨a, vs, rfl, h1, h2⟩, rfl⟩ := r1
      refine ⟨a, vs, rfl, .inl ⟨.inl (.inl (S1.env.bs.bh _ _ h1)), hR _ _ B1 H1 q S1 ⟨fun i H hi e => ?_, fun H e => ⟨vs, .inl (.inl (e _ _ h1)), by rw [h2.len, enumD_len]; exact Nat.le_refl _⟩, fun i H x H' hi e ⟨T, y, e1, e2, e3, e4⟩ => ?_⟩⟩⟩
      · rw [enumD_len, ← h2.len] at hi
        exact ⟨vs, vs[i], .inl (.inl (e _ _ h1)), by simp [hi]⟩
      · obtain ⟨d, g1, g2⟩ := h2.got (e4 vs (.inl (.inl (e _ _ h1))))
        subst e1
        have := enumD_get (n := 0) g1
        rw [Nat.zero_add] at this
        exact ⟨_, this, .inr ⟨T, _, e2, e3, fun B' s hT => pair_rep hT rfl (g2.mono s)⟩⟩
    · obtain ⟨v, r, rfl, ⟨a, vs, rfl, h1, h2⟩, rfl⟩ := r1
      refine ⟨a, vs, rfl, .inr ⟨Same.sqT S1.env.bs.bh h1, hR _ _ B1 H1 q S1 ⟨fun i H hi e => ?_, fun H e => ⟨vs, Same.sqT e h1, by rw [h2.len, enumD_len]; exact Nat.le_refl _⟩, fun i H x H' hi e ⟨T, y, e1, e2, e3, e4⟩ => ?_⟩⟩⟩
      · rw [enumD_len, ← h2.len] at hi
        exact ⟨vs, vs[i], Same.sqT e h1, by simp [hi]⟩
      · obtain ⟨d, g1, g2⟩ := h2.got (e4 vs (Same.sqT e h1))
        subst e1
        have := enumD_get (n := 0) g1
        rw [Nat.zero_add] at this
        exact ⟨_, this, .inr ⟨T, _, e2, e3, fun B' s hT => pair_rep hT rfl (g2.mono s)⟩⟩
/-- zip of two tuples of one length -/
def zipD (xs ys : List D) : List D := (xs.zip ys).map fun p => .tup [p.1, p.2]
theorem zipD_get {xs ys : List D} {i : Nat} {x y : D} (hx : xs[i]? = some x) (hy : ys[i]? = some y) : (zipD xs ys)[i]? = some (.tup [x, y]) := by
  unfold zipD
  rw [List.getElem?_map, (List.getElem?_zip_eq_some (l₁ := xs) (l₂ := ys) (z := (x, y)) (i := i)).mpr ⟨hx, hy⟩]
  rfl
theorem zipD_at {xs ys : List D} {i : Nat} {d : D} (h : (zipD xs ys)[i]? = some d) : ∃ x y, xs[i]? = some x ∧ ys[i]? = some y ∧ d = .tup [x, y] := by
  unfold zipD at h
  rw [List.getElem?_map] at h
  cases q : (xs.zip ys)[i]? with
  | none => rw [q] at h; cases h
  | some p =>
    rw [q] at h
    obtain ⟨a, b⟩ := List.getElem?_zip_eq_some.mp q
    exact ⟨p.1, p.2, a, b, (Option.some.inj h).symm⟩
theorem zipD_len {xs ys : List D} (h : xs.length = ys.length) : (zipD xs ys).length = xs.length := by
  unfold zipD
  rw [List.length_map, List.length_zip, h, Nat.min_self]
theorem ei_zip (h : EvA F t ρ fun zs => ∃ xs ys, zs = [.tup xs, .tup ys] ∧ xs.length = ys.length ∧ kl (zipD xs ys)) : EvI F (RZ.iZipA F.K t) ρ kl := fun B H σ E0 R hR =>
  h B H σ E0 _ fun zs ws B1 H1 ⟨xs, ys, ed, hl, q⟩ S1 r1 => by
    subst ed
    obtain ⟨v, r, rfl, ⟨a, vs, rfl, h1, h2⟩, u, r', rfl, ⟨b, us, rfl, h3, h4⟩, rfl⟩ := r1
    have z1 := h2.len
    have z2 := h4.len
    have z3 := zipD_len hl
    refine ⟨a, b, vs, us, rfl, .inr ⟨Same.sqT S1.env.bs.bh h1, Same.sqT S1.env.bs.bh h3, hR _ _ B1 H1 q S1 ⟨fun i H hi e => ?_, fun H e => ⟨vs, us, Same.sqT e h1, Same.sqT e h3, by omega⟩, fun i H x H' hi e ⟨T, y, z, e1, e2, e3, e4, e5⟩ => ?_⟩⟩⟩
    · have i1 : i < vs.length := by omega
      have i2 : i < us.length := by omega
      exact ⟨vs, us, vs[i], us[i], Same.sqT e h1, Same.sqT e h3, by simp, by simp⟩
    · obtain ⟨d, g1, g2⟩ := h2.got (e4 vs (Same.sqT e h1))
      obtain ⟨d', g3, g4⟩ := h4.got (e5 us (Same.sqT e h3))
      subst e1
      exact ⟨_, zipD_get g1 g3, .inr ⟨T, _, e2, e3, fun B' s hT => pair_rep hT (g2.mono s) (g4.mono s)⟩⟩
/-- a text's signs -/
def signs (z : Str) : List D := z.cps.toList.map fun c => .str ⟨#[c]⟩
theorem ei_str (h : EvD F ta ρ fun d => ∃ z, d = .str z ∧ kl (signs z)) : EvI F (iStr ta) ρ kl := fun B H σ E0 R hR =>
  h B H σ E0 _ fun d v B1 H1 ⟨z, ed, q⟩ S1 r1 => by
    subst ed
    cases r1
    refine ⟨z, rfl, hR _ _ B1 H1 q S1 ⟨fun i H hi e => by unfold signs at hi; rw [List.length_map] at hi; exact hi, fun H e => by show z.cps.size ≤ _; unfold signs; simp, fun i H x H' hi e ⟨e1, c, e2, e3⟩ => ⟨.str ⟨#[c]⟩, ?_, .inl ⟨e1, fun B' s => e3⟩⟩⟩⟩
    unfold signs
    rw [List.getElem?_map, Array.getElem?_toList, e2]
    rfl
/-! ### built-ins -/
theorem rc_v {r : List V → Hp → VK → Prop} {xs : List D} {d : D} (q : k d) (h : ∀ (B H : Hp) (vs : List V) (Q : VK), Same B H → RepL F.K B xs vs → (∀ v, Rep F.K B d v → Q v H) → r vs H Q) : ROc F r ρ xs k := fun B H σ vs E r Q hQ => h B H vs Q E.bs.bh r fun v rv => hQ d v B H q (.refl E) rv
def rLenX (K : PySem.W.Frag) : List V → Hp → VK → Prop := fun xs H Q => (∃ p ys, xs = [.ref p] ∧ (SqL K H p ys ∨ SqT K H p ys) ∧ Q (.int ys.length) H) ∨ ∃ z, xs = [.str z] ∧ z.length ≤ sizeLine ∧ Q (.int z.length) H
theorem cr_lenX {X : Cx} : CallR X (.builtin "len") (rLenX X.K) := CallR.or call_len_seq call_len_str
theorem rc_lenL {ds : List D} (q : k (.int ds.length)) : ROc F (rLenX F.K) ρ [.lst ds] k := rc_v q fun B H vs Q s r hv => by
  obtain ⟨v, t, rfl, ⟨a, us, rfl, h1, h2⟩, rfl⟩ := r
  exact .inl ⟨a, us, rfl, .inl (.inl (.inl (s _ _ h1))), hv _ (by rw [h2.len]; rfl)⟩
theorem rc_lenT {ds : List D} (q : k (.int ds.length)) : ROc F (rLenX F.K) ρ [.tup ds] k := rc_v q fun B H vs Q s r hv => by
  obtain ⟨v, t, rfl, ⟨a, us, rfl, h1, h2⟩, rfl⟩ := r
  exact .inl ⟨a, us, rfl, .inr (Same.sqT s h1), hv _ (by rw [h2.len]; rfl)⟩
theorem rc_lenS {z : Str} (hz : z.length ≤ 100000) (q : k (.int z.length)) : ROc F (rLenX F.K) ρ [.str z] k := rc_v q fun B H vs Q s r hv => by
  obtain ⟨v, t, rfl, h1, rfl⟩ := r
  cases h1
  exact .inr ⟨z, rfl, sz5 hz, hv _ rfl⟩
theorem lst1 {B H : Hp} {vs : List V} {ds : List D} (s : Same B H) (r : RepL F.K B [.lst ds] vs) : ∃ a us, vs = [.ref a] ∧ SqL F.K H a us ∧ RepL F.K B ds us := by
  obtain ⟨v, t, rfl, ⟨a, us, rfl, h1, h2⟩, rfl⟩ := r
  exact ⟨a, us, rfl, .inl (.inl (s _ _ h1)), h2⟩
theorem rc_sum {ns : List Int} (q : k (.int ns.sum)) : ROc F (rSum F.K) ρ [.lst (ns.map .int)] k := rc_v q fun B H vs Q s r hv => by
  obtain ⟨a, us, rfl, h1, h2⟩ := lst1 s r
  have := h2.ints
  subst this
  exact ⟨a, ns, rfl, h1, hv _ rfl⟩
theorem rc_max {ns : List Int} (h0 : 0 < ns.length) (q : ∀ m, m ∈ ns → (∀ y, y ∈ ns → y ≤ m) → k (.int m)) : ROc F (rMax F.K) ρ [.lst (ns.map .int)] k := fun B H σ vs E r Q hQ => by
  obtain ⟨a, us, rfl, h1, h2⟩ := lst1 E.bs.bh r
  have := h2.ints
  subst this
  exact ⟨a, ns, rfl, h1, h0, fun m hm hy => hQ _ _ B H (q m hm hy) (.refl E) rfl⟩
theorem rc_min {ns : List Int} (h0 : 0 < ns.length) (q : ∀ m, m ∈ ns → (∀ y, y ∈ ns → m ≤ y) → k (.int m)) : ROc F (rMin F.K) ρ [.lst (ns.map .int)] k := fun B H σ vs E r Q hQ => by
  obtain ⟨a, us, rfl, h1, h2⟩ := lst1 E.bs.bh r
  have := h2.ints
  subst this
  exact ⟨a, ns, rfl, h1, h0, fun m hm hy => hQ _ _ B H (q m hm hy) (.refl E) rfl⟩
theorem rc_any {bs : List Bool} (q : k (.bl (bs.any id))) : ROc F (rAny F.K) ρ [.lst (bs.map .bl)] k := rc_v q fun B H vs Q s r hv => by
  obtain ⟨a, us, rfl, h1, h2⟩ := lst1 s r
  have := h2.bls
  subst this
  exact ⟨a, bs, rfl, h1, hv _ rfl⟩
theorem rc_all {bs : List Bool} (q : k (.bl (bs.all id))) : ROc F (rAll F.K) ρ [.lst (bs.map .bl)] k := rc_v q fun B H vs Q s r hv => by
  obtain ⟨a, us, rfl, h1, h2⟩ := lst1 s r
  have := h2.bls
  subst this
  exact ⟨a, bs, rfl, h1, hv _ rfl⟩
theorem rc_abs {i : Int} (q : k (.int (if i < 0 then -i else i))) : ROc F (fun xs H Q => ∃ i, xs = [.int i] ∧ Q (.int (if i < 0 then -i else i)) H) ρ [.int i] k := rc_v q fun B H vs Q s r hv => by
  obtain ⟨v, t, rfl, h1, rfl⟩ := r
  cases h1
  exact ⟨i, rfl, hv _ rfl⟩
theorem rc_max2 {i j : Int} (q : k (.int (if j > i then j else i))) : ROc F (fun xs H Q => ∃ i j, xs = [.int i, .int j] ∧ Q (.int (if j > i then j else i)) H) ρ [.int i, .int j] k := rc_v q fun B H vs Q s r hv => by
  obtain ⟨v, t, rfl, h1, u, t', rfl, h2, rfl⟩ := r
  cases h1
  cases h2
  exact ⟨i, j, rfl, hv _ rfl⟩
theorem rc_min2 {i j : Int} (q : k (.int (if j < i then j else i))) : ROc F (fun xs H Q => ∃ i j, xs = [.int i, .int j] ∧ Q (.int (if j < i then j else i)) H) ρ [.int i, .int j] k := rc_v q fun B H vs Q s r hv => by
  obtain ⟨v, t, rfl, h1, u, t', rfl, h2, rfl⟩ := r
  cases h1
  cases h2
  exact ⟨i, j, rfl, hv _ rfl⟩
theorem rc_int {i : Int} (q : k (.int i)) : ROc F (fun xs H Q => (∃ i, xs = [.int i] ∧ Q (.int i) H) ∨ ∃ k, xs = [.bl k] ∧ Q (.int (if k then 1 else 0)) H) ρ [.int i] k := rc_v q fun B H vs Q s r hv => by
  obtain ⟨v, t, rfl, h1, rfl⟩ := r
  cases h1
  exact .inl ⟨i, rfl, hv _ rfl⟩
/-- list(x), tuple(x) -/
theorem fresh_of {S1 : Stp F σ ρ B H B1 H1} {p : Addr} (hp : H1 p = none) : H p = none := by
  cases z : H p with
  | none => rfl
  | some o => exact absurd hp (S1.al p (by rw [z]; exact Option.some_ne_none _))
theorem ev_list (h : EvA F t ρ fun zs => ∃ ds, (zs = [.lst ds] ∨ zs = [.tup ds]) ∧ k (.lst ds)) : EvD F (tCB (fun xs H Q => ∃ p ys, xs = [.ref p] ∧ (SqL F.K H p ys ∨ SqT F.K H p ys) ∧ ∀ l, H l = none → Q (.ref l) (upd H l (.lst ys))) t) ρ k := ev_cb (h.imp fun zs ⟨ds, ez, q⟩ => by
  rcases ez with rfl | rfl
  · intro B H σ vs E r Q hQ
    obtain ⟨a, us, rfl, h1, h2⟩ := lst1 E.bs.bh r
    exact ⟨a, us, rfl, .inl h1, fun l hl => hQ _ _ _ _ q (.new E _ hl) ⟨l, us, rfl, upd_same, h2.mono (E.sameB _ hl)⟩⟩
  · intro B H σ vs E r Q hQ
    obtain ⟨v, t, rfl, ⟨a, us, rfl, h1, h2⟩, rfl⟩ := r
    exact ⟨a, us, rfl, .inr (Same.sqT E.bs.bh h1), fun l hl => hQ _ _ _ _ q (.new E _ hl) ⟨l, us, rfl, upd_same, h2.mono (E.sameB _ hl)⟩⟩)
theorem ev_tuple (h : EvA F t ρ fun zs => ∃ ds, (zs = [.lst ds] ∨ zs = [.tup ds]) ∧ k (.tup ds)) : EvD F (tCB (fun xs H Q => ∃ p ys, xs = [.ref p] ∧ ((SqL F.K H p ys ∧ ∀ l, H l = none → Q (.ref l) (upd H l (.tup ys))) ∨ (SqT F.K H p ys ∧ Q (.ref p) H))) t) ρ k := ev_cb (h.imp fun zs ⟨ds, ez, q⟩ => by
  rcases ez with rfl | rfl
  · intro B H σ vs E r Q hQ
    obtain ⟨a, us, rfl, h1, h2⟩ := lst1 E.bs.bh r
    exact ⟨a, us, rfl, .inl ⟨h1, fun l hl => hQ _ _ _ _ q (.new E _ hl) ⟨l, us, rfl, .inl (.inl upd_same), h2.mono (E.sameB _ hl)⟩⟩⟩
  · intro B H σ vs E r Q hQ
    obtain ⟨v, t, rfl, ⟨a, us, rfl, h1, h2⟩, rfl⟩ := r
    exact ⟨a, us, rfl, .inr ⟨Same.sqT E.bs.bh h1, hQ _ _ B H q (.refl E) ⟨a, us, rfl, h1, h2⟩⟩⟩)
/-- sorted(a list of intsD) -/
theorem rc_sorted {ns : List Int} (hl : ns.length < 64) (q : ∀ ms : List Int, ms.Pairwise (· ≤ ·) → ms.Perm ns → k (.lst (ms.map .int))) : ROc F (rSorted F.K) ρ [.lst (ns.map .int)] k := fun B H σ vs E r Q hQ => by
  obtain ⟨a, us, rfl, h1, h2⟩ := lst1 E.bs.bh r
  have := h2.ints
  subst this
  refine ⟨a, ns, rfl, h1, hl, ?_⟩
  intros
  first
    | exact hQ _ _ _ _ (q _ (by assumption) (by assumption)) (.new E _ (by assumption)) ⟨_, _, rfl, upd_same, RepL.of_ints⟩
    | skip
/-- sorted(set(a list of intsD)) -/
theorem ev_sortset {w : World} (h : EvD F ta ρ fun d => ∃ ns : List Int, d = .lst (ns.map .int) ∧ ns.length < 60 ∧ ∀ ms : List Int, ms.Pairwise (· < ·) → (∀ z, z ∈ ms ↔ z ∈ ns) → k (.lst (ms.map .int))) :
    EvD F (tCB (rSortedSet w) (tCons (tCB (rSetI F.K w) (tCons ta tNil)) tNil)) ρ k := fun B H σ E Q hQ =>
  h B H σ E _ fun d v B1 H1 ⟨ns, ed, hl, q⟩ S1 r1 => by
    subst ed
    obtain ⟨a, us, rfl, h1, h2⟩ := r1
    have := h2.ints
    subst this
    refine ⟨a, ns, rfl, .inl (.inl (S1.env.bs.bh _ _ h1)), hl, fun p c hc hp => ?_⟩
    have S2 := S1.grow (Same.upd (o := SetO w p (fun k => decide (k ∈ ns)) c) hp)
    refine ⟨p, _, c, rfl, upd_same, by omega, fun ms p' hs hm hlen hp' => ?_⟩
    exact hQ _ _ _ _ (q ms hs fun z => by rw [hm z]; simp) (S2.trans (.new S2.env _ hp')) ⟨p', _, rfl, upd_same, RepL.of_ints⟩
end
end K33
namespace K33
open PySem PySem.Spec PyProof.Rows L2
def top (i : Nat) : Stmt := PySem.Challenge.pw_usualdays_k33_whole_derivations_made.main.body.getD i (.Pass ⟨0, 0, 0, 0⟩)
abbrev s_set_of : Stmt := top 2
abbrev s_within : Stmt := top 3
abbrev s_is_whole : Stmt := top 18
abbrev s_all_sayings : Stmt := top 21
abbrev s_first_reason : Stmt := top 22
abbrev s_Lifting__init__ : Stmt := inClass (top 23) 0
abbrev s_Lifting_open_days : Stmt := inClass (top 23) 1
abbrev s_Lifting_settle : Stmt := inClass (top 23) 2
abbrev s_Lifting_run : Stmt := inClass (top 23) 3
abbrev s_lifting_of : Stmt := top 24
abbrev s_lifted_layers : Stmt := top 25
abbrev s_check_saying_days : Stmt := top 27
abbrev s_Saying__init__ : Stmt := inClass (top 31) 0
abbrev s_Saying_of_days : Stmt := inClass (top 31) 1
abbrev s_Saying_contrary : Stmt := inClass (top 31) 3
abbrev s_Saying_flipped : Stmt := inClass (top 31) 4
abbrev s_Verdicts__init__ : Stmt := inClass (top 33) 0
abbrev s_Verdicts_none : Stmt := inClass (top 33) 1
abbrev s_Verdicts__add__ : Stmt := inClass (top 33) 3
abbrev s_verdicts_of : Stmt := top 34
abbrev s_joined : Stmt := top 35
abbrev s_sharper : Stmt := top 36
abbrev s_check_all_usual : Stmt := top 38
abbrev s_lots_of : Stmt := top 39
abbrev s_holds : Stmt := top 40
abbrev s_is_sharp : Stmt := top 41
abbrev s_widest_lot : Stmt := top 42
abbrev s_sharp_lot : Stmt := top 43
abbrev s_sharp_lots : Stmt := top 44
abbrev s_Step__init__ : Stmt := inClass (top 47) 0
abbrev s_join_of : Stmt := top 48
abbrev s_derivation : Stmt := top 49
abbrev s_narrowed : Stmt := top 50
abbrev s_resting : Stmt := top 51
abbrev s_has_right_lines : Stmt := top 52
abbrev s_is_same : Stmt := top 53
abbrev s_follows : Stmt := top 54
abbrev s_derivation_fault : Stmt := top 55
abbrev s_name_fault : Stmt := top 61
abbrev s_Marks__init__ : Stmt := inClass (top 62) 0
abbrev s_Book__init__ : Stmt := inClass (top 66) 0
abbrev s_Book__len__ : Stmt := inClass (top 66) 2
abbrev s_Book__getitem__ : Stmt := inClass (top 66) 4
abbrev s_Book_first_need_not : Stmt := inClass (top 66) 6
abbrev s_OtherDays__init__ : Stmt := inClass (top 14) 0
abbrev s_NeedNot__init__ : Stmt := inClass (top 15) 0
abbrev s__law_source : Stmt := top 68
abbrev s__law_draw : Stmt := top 69
abbrev s__law_pick : Stmt := top 70
abbrev s__law_all_levels : Stmt := top 71
abbrev s__law_normal : Stmt := top 72
abbrev s__law_kept : Stmt := top 73
abbrev s__law_keeps : Stmt := top 74
abbrev s__law_levels_of : Stmt := top 75
abbrev s__law_guide : Stmt := top 76
abbrev s__law_one : Stmt := top 77
abbrev s__law_rows : Stmt := top 78
abbrev s__law_saying : Stmt := top 79
abbrev s__law_book : Stmt := top 80
abbrev s__law_is_number : Stmt := top 81
abbrev s__law_refuses : Stmt := top 82
abbrev s__law_joined : Stmt := top 83
abbrev s__law_sharp : Stmt := top 84
abbrev s__law_all_lots : Stmt := top 85
abbrev s__law_blunter : Stmt := top 86
abbrev s__law_asked : Stmt := top 87
abbrev s__law_need_not : Stmt := top 88
abbrev s__law_ratio : Stmt := top 89
abbrev s__law_weight : Stmt := top 90
abbrev s__law_doubt : Stmt := top 91
abbrev s__law_drawn_weights : Stmt := top 92
abbrev s__law_sum_of : Stmt := top 93
abbrev s__law_follows : Stmt := top 94
abbrev s__law_first_wrong : Stmt := top 95
abbrev s__law_rests : Stmt := top 96
abbrev s__law_yielded : Stmt := top 97
abbrev s__law_sound : Stmt := top 98
abbrev s__law_shape : Stmt := top 99
abbrev s__law_right : Stmt := top 100
abbrev s__law_made : Stmt := top 101
abbrev s__law_all_needed : Stmt := top 102
abbrev s_law : Stmt := top 103
abbrev n_set_of : List PySem.Str := ["days", "total", "day"]
abbrev n_within : List PySem.Str := ["one", "other"]
abbrev n_is_whole : List PySem.Str := ["thing", "low", "high"]
abbrev n_all_sayings : List PySem.Str := ["book", "further", "saying"]
abbrev n_first_reason : List PySem.Str := ["rows", "day", "known", "staying", "number", "low", "high", "step"]
abbrev n_Lifting__init__ : List PySem.Str := ["self", "sayings", "start", "saying"]
abbrev n_Lifting_open_days : List PySem.Str := ["self", "day", "layer"]
abbrev n_Lifting_settle : List PySem.Str := ["self", "at", "days", "turn", "leaving", "staying", "day", "number"]
abbrev n_Lifting_run : List PySem.Str := ["self", "at", "above", "day"]
abbrev n_lifting_of : List PySem.Str := ["sayings", "start", "lifting"]
abbrev n_lifted_layers : List PySem.Str := ["book", "start", "further", "sayings", "days", "layer"]
abbrev n_check_saying_days : List PySem.Str := ["book", "saying"]
abbrev n_Saying__init__ : List PySem.Str := ["self", "where", "then", "usual"]
abbrev n_Saying_of_days : List PySem.Str := ["cls", "confirm", "broken", "usual"]
abbrev n_Saying_contrary : List PySem.Str := ["self"]
abbrev n_Saying_flipped : List PySem.Str := ["self"]
abbrev n_Verdicts__init__ : List PySem.Str := ["self", "confirm", "broken"]
abbrev n_Verdicts_none : List PySem.Str := ["cls"]
abbrev n_Verdicts__add__ : List PySem.Str := ["self", "other", "broken"]
abbrev n_verdicts_of : List PySem.Str := ["saying"]
abbrev n_joined : List PySem.Str := ["sayings", "total", "saying"]
abbrev n_sharper : List PySem.Str := ["one", "other"]
abbrev n_check_all_usual : List PySem.Str := ["book", "saying", "number"]
abbrev n_lots_of : List PySem.Str := ["numbers", "found", "layer", "lot", "number"]
abbrev n_holds : List PySem.Str := ["lot", "part", "number"]
abbrev n_is_sharp : List PySem.Str := ["book", "lot", "saying", "number"]
abbrev n_widest_lot : List PySem.Str := ["book", "saying", "layers", "endless", "day", "layer", "number", "one"]
abbrev n_sharp_lot : List PySem.Str := ["book", "saying", "widest", "layer", "lot", "number"]
abbrev n_sharp_lots : List PySem.Str := ["book", "saying", "widest", "found", "lot", "part"]
abbrev n_Step__init__ : List PySem.Str := ["self", "rule", "lines", "saying"]
abbrev n_join_of : List PySem.Str := ["one", "other", "broken"]
abbrev n_derivation : List PySem.Str := ["book", "saying", "lot", "steps", "last", "at", "rest", "number"]
abbrev n_narrowed : List PySem.Str := ["source", "last", "saying", "steps", "found"]
abbrev n_resting : List PySem.Str := ["steps", "found", "step", "used", "line", "number"]
abbrev n_has_right_lines : List PySem.Str := ["book", "step", "at", "line"]
abbrev n_is_same : List PySem.Str := ["one", "other"]
abbrev n_follows : List PySem.Str := ["book", "steps", "step", "saying", "one", "other"]
abbrev n_derivation_fault : List PySem.Str := ["book", "steps", "at", "step"]
abbrev n_name_fault : List PySem.Str := ["thing", "character"]
abbrev n_Marks__init__ : List PySem.Str := ["self", "names", "kept", "index", "name", "fault"]
abbrev n_Book__init__ : List PySem.Str := ["self", "marks", "sayings", "number", "saying"]
abbrev n_Book__len__ : List PySem.Str := ["self"]
abbrev n_Book__getitem__ : List PySem.Str := ["self", "number"]
abbrev n_Book_first_need_not : List PySem.Str := ["self", "number", "saying"]
abbrev n_OtherDays__init__ : List PySem.Str := ["self"]
abbrev n_NeedNot__init__ : List PySem.Str := ["self", "number"]
abbrev n__law_source : List PySem.Str := ["_law_script", "_law_at", "_law_cell", "_law_seed", "_law_k", "_law_each"]
abbrev n__law_draw : List PySem.Str := ["_law_source_here", "_law_many", "_law_digit"]
abbrev n__law_pick : List PySem.Str := ["_law_source_here", "_law_some"]
abbrev n__law_all_levels : List PySem.Str := ["_law_days", "_law_found", "_law_day", "_law_wider", "_law_levels", "_law_k"]
abbrev n__law_normal : List PySem.Str := ["_law_levels", "_law_where", "_law_level"]
abbrev n__law_kept : List PySem.Str := ["_law_levels", "_law_one_here"]
abbrev n__law_keeps : List PySem.Str := ["_law_levels", "_law_rows_here", "_law_one_here"]
abbrev n__law_levels_of : List PySem.Str := ["_law_layers", "_law_found", "_law_low", "_law_day", "_law_layer"]
abbrev n__law_guide : List PySem.Str := ["_law_source_here", "_law_days", "_law_many", "_law_day"]
abbrev n__law_one : List PySem.Str := ["_law_source_here", "_law_days", "_law_needs", "_law_guide_here", "_law_full", "_law_where", "_law_then", "_law_usual", "_law_normal_here"]
abbrev n__law_rows : List PySem.Str := ["_law_source_here", "_law_days", "_law_many", "_law_needs", "_law_guide_here", "_law_k"]
abbrev n__law_saying : List PySem.Str := ["_law_one_here"]
abbrev n__law_book : List PySem.Str := ["_law_source_here", "_law_days", "_law_rows_here", "_law_count", "_law_first", "_law_k", "_law_one_here"]
abbrev n__law_is_number : List PySem.Str := ["_law_thing"]
abbrev n__law_refuses : List PySem.Str := ["_law_one_here", "_law_days", "_law_call", "e"]
abbrev n__law_joined : List PySem.Str := ["_law_rows_here", "_law_lot", "_law_confirm", "_law_broken", "_law_number", "_law_one_here"]
abbrev n__law_sharp : List PySem.Str := ["_law_rows_here", "_law_lot", "_law_one_here", "_law_confirm", "_law_broken"]
abbrev n__law_all_lots : List PySem.Str := ["_law_many", "_law_found", "_law_longest", "_law_turn", "_law_wider", "_law_lot", "_law_number"]
abbrev n__law_blunter : List PySem.Str := ["_law_source_here", "_law_days", "_law_rows_here", "_law_lot", "_law_confirm", "_law_broken", "_law_less", "_law_more"]
abbrev n__law_asked : List PySem.Str := ["_law_source_here", "_law_days", "_law_rows_here", "_law_lot", "_law_number"]
abbrev n__law_need_not : List PySem.Str := ["_law_call", "_law_book_here", "_law_saying_here", "e"]
abbrev n__law_ratio : List PySem.Str := ["_law_top", "_law_bottom", "_law_one_here", "_law_other"]
abbrev n__law_weight : List PySem.Str := ["_law_numbers", "_law_day_set", "_law_day", "_law_number"]
abbrev n__law_doubt : List PySem.Str := ["_law_numbers", "_law_one_here", "_law_whole"]
abbrev n__law_drawn_weights : List PySem.Str := ["_law_source_here", "_law_days", "_law_kind", "_law_numbers", "_law_day"]
abbrev n__law_sum_of : List PySem.Str := ["_law_numbers", "_law_rows_here", "_law_lot", "_law_top", "_law_bottom", "_law_number", "_law_more"]
abbrev n__law_follows : List PySem.Str := ["_law_rows_here", "_law_plain", "_law_at", "_law_rule", "_law_lines", "_law_where", "_law_confirm", "_law_one_here", "_law_other", "_law_broken"]
abbrev n__law_first_wrong : List PySem.Str := ["_law_rows_here", "_law_steps", "_law_plain", "_law_counts", "_law_at", "_law_step", "_law_last", "_law_line"]
abbrev n__law_rests : List PySem.Str := ["_law_steps", "_law_found", "_law_step", "_law_used", "_law_line", "_law_number"]
abbrev n__law_yielded : List PySem.Str := ["_law_rows_here", "_law_lot", "_law_one_here", "_law_part", "_law_k"]
abbrev n__law_sound : List PySem.Str := ["_law_source_here", "_law_days", "_law_rows_here", "_law_steps", "_law_lots", "_law_numbers", "_law_orders", "_law_step", "_law_lot", "_law_one_here", "_law_used", "_law_levels", "_law_weights", "_law_doubt_here", "_law_total", "_law_turn", "_law_k"]
abbrev n__law_shape : List PySem.Str := ["_law_steps", "_law_step", "_law_line"]
abbrev n__law_right : List PySem.Str := ["_law_rows_here", "_law_book_here", "_law_one_here", "_law_steps", "_law_last"]
abbrev n__law_made : List PySem.Str := ["_law_source_here", "_law_days", "_law_rows_here", "_law_book_here", "_law_one_here", "_law_steps", "_law_lots", "_law_lot"]
abbrev n__law_all_needed : List PySem.Str := ["_law_source_here", "_law_first", "_law_rows_here", "_law_k", "_law_day", "_law_confirm", "_law_many", "_law_some", "_law_lot", "_law_broken", "_law_book_here", "_law_one_here", "_law_saying_here", "_law_steps"]
abbrev n_law : List PySem.Str := ["_law_script", "_law_at", "_law_source_here", "_law_days", "_law_rows_here", "_law_book_here", "_law_turn", "_law_one_here", "_law_place", "_law_odd"]
theorem sc_set_of : FnScope n_set_of ["days"] (defScope s_set_of) := ⟨rfl, rfl, rfl, by decide +kernel, rfl, by decide +kernel, by decide +kernel⟩
theorem sc_within : FnScope n_within ["one", "other"] (defScope s_within) := ⟨rfl, rfl, rfl, by decide +kernel, rfl, by decide +kernel, by decide +kernel⟩
theorem sc_is_whole : FnScope n_is_whole ["thing", "low", "high"] (defScope s_is_whole) := ⟨rfl, rfl, rfl, by decide +kernel, rfl, by decide +kernel, by decide +kernel⟩
theorem sc_all_sayings : FnScope n_all_sayings ["book", "further"] (defScope s_all_sayings) := ⟨rfl, rfl, rfl, by decide +kernel, rfl, by decide +kernel, by decide +kernel⟩
theorem sc_first_reason : FnScope n_first_reason ["rows", "day", "known", "staying"] (defScope s_first_reason) := ⟨rfl, rfl, rfl, by decide +kernel, rfl, by decide +kernel, by decide +kernel⟩
theorem sc_Lifting__init__ : FnScope n_Lifting__init__ ["self", "sayings", "start"] (defScope s_Lifting__init__) := ⟨rfl, rfl, rfl, by decide +kernel, rfl, by decide +kernel, by decide +kernel⟩
theorem sc_Lifting_open_days : FnScope n_Lifting_open_days ["self"] (defScope s_Lifting_open_days) := ⟨rfl, rfl, rfl, by decide +kernel, rfl, by decide +kernel, by decide +kernel⟩
theorem sc_Lifting_settle : FnScope n_Lifting_settle ["self", "at"] (defScope s_Lifting_settle) := ⟨rfl, rfl, rfl, by decide +kernel, rfl, by decide +kernel, by decide +kernel⟩
theorem sc_Lifting_run : FnScope n_Lifting_run ["self"] (defScope s_Lifting_run) := ⟨rfl, rfl, rfl, by decide +kernel, rfl, by decide +kernel, by decide +kernel⟩
theorem sc_lifting_of : FnScope n_lifting_of ["sayings", "start"] (defScope s_lifting_of) := ⟨rfl, rfl, rfl, by decide +kernel, rfl, by decide +kernel, by decide +kernel⟩
theorem sc_lifted_layers : FnScope n_lifted_layers ["book", "start", "further"] (defScope s_lifted_layers) := ⟨rfl, rfl, rfl, by decide +kernel, rfl, by decide +kernel, by decide +kernel⟩
theorem sc_check_saying_days : FnScope n_check_saying_days ["book", "saying"] (defScope s_check_saying_days) := ⟨rfl, rfl, rfl, by decide +kernel, rfl, by decide +kernel, by decide +kernel⟩
theorem sc_Saying__init__ : FnScope n_Saying__init__ ["self", "where", "then", "usual"] (defScope s_Saying__init__) := ⟨rfl, rfl, rfl, by decide +kernel, rfl, by decide +kernel, by decide +kernel⟩
theorem sc_Saying_of_days : FnScope n_Saying_of_days ["cls", "confirm", "broken", "usual"] (defScope s_Saying_of_days) := ⟨rfl, rfl, rfl, by decide +kernel, rfl, by decide +kernel, by decide +kernel⟩
theorem sc_Saying_contrary : FnScope n_Saying_contrary ["self"] (defScope s_Saying_contrary) := ⟨rfl, rfl, rfl, by decide +kernel, rfl, by decide +kernel, by decide +kernel⟩
theorem sc_Saying_flipped : FnScope n_Saying_flipped ["self"] (defScope s_Saying_flipped) := ⟨rfl, rfl, rfl, by decide +kernel, rfl, by decide +kernel, by decide +kernel⟩
theorem sc_Verdicts__init__ : FnScope n_Verdicts__init__ ["self", "confirm", "broken"] (defScope s_Verdicts__init__) := ⟨rfl, rfl, rfl, by decide +kernel, rfl, by decide +kernel, by decide +kernel⟩
theorem sc_Verdicts_none : FnScope n_Verdicts_none ["cls"] (defScope s_Verdicts_none) := ⟨rfl, rfl, rfl, by decide +kernel, rfl, by decide +kernel, by decide +kernel⟩
theorem sc_Verdicts__add__ : FnScope n_Verdicts__add__ ["self", "other"] (defScope s_Verdicts__add__) := ⟨rfl, rfl, rfl, by decide +kernel, rfl, by decide +kernel, by decide +kernel⟩
theorem sc_verdicts_of : FnScope n_verdicts_of ["saying"] (defScope s_verdicts_of) := ⟨rfl, rfl, rfl, by decide +kernel, rfl, by decide +kernel, by decide +kernel⟩
theorem sc_joined : FnScope n_joined ["sayings"] (defScope s_joined) := ⟨rfl, rfl, rfl, by decide +kernel, rfl, by decide +kernel, by decide +kernel⟩
theorem sc_sharper : FnScope n_sharper ["one", "other"] (defScope s_sharper) := ⟨rfl, rfl, rfl, by decide +kernel, rfl, by decide +kernel, by decide +kernel⟩
theorem sc_check_all_usual : FnScope n_check_all_usual ["book", "saying"] (defScope s_check_all_usual) := ⟨rfl, rfl, rfl, by decide +kernel, rfl, by decide +kernel, by decide +kernel⟩
theorem sc_lots_of : FnScope n_lots_of ["numbers"] (defScope s_lots_of) := ⟨rfl, rfl, rfl, by decide +kernel, rfl, by decide +kernel, by decide +kernel⟩
theorem sc_holds : FnScope n_holds ["lot", "part"] (defScope s_holds) := ⟨rfl, rfl, rfl, by decide +kernel, rfl, by decide +kernel, by decide +kernel⟩
theorem sc_is_sharp : FnScope n_is_sharp ["book", "lot", "saying"] (defScope s_is_sharp) := ⟨rfl, rfl, rfl, by decide +kernel, rfl, by decide +kernel, by decide +kernel⟩
theorem sc_widest_lot : FnScope n_widest_lot ["book", "saying"] (defScope s_widest_lot) := ⟨rfl, rfl, rfl, by decide +kernel, rfl, by decide +kernel, by decide +kernel⟩
theorem sc_sharp_lot : FnScope n_sharp_lot ["book", "saying"] (defScope s_sharp_lot) := ⟨rfl, rfl, rfl, by decide +kernel, rfl, by decide +kernel, by decide +kernel⟩
theorem sc_sharp_lots : FnScope n_sharp_lots ["book", "saying"] (defScope s_sharp_lots) := ⟨rfl, rfl, rfl, by decide +kernel, rfl, by decide +kernel, by decide +kernel⟩
theorem sc_Step__init__ : FnScope n_Step__init__ ["self", "rule", "lines", "saying"] (defScope s_Step__init__) := ⟨rfl, rfl, rfl, by decide +kernel, rfl, by decide +kernel, by decide +kernel⟩
theorem sc_join_of : FnScope n_join_of ["one", "other"] (defScope s_join_of) := ⟨rfl, rfl, rfl, by decide +kernel, rfl, by decide +kernel, by decide +kernel⟩
theorem sc_derivation : FnScope n_derivation ["book", "saying"] (defScope s_derivation) := ⟨rfl, rfl, rfl, by decide +kernel, rfl, by decide +kernel, by decide +kernel⟩
theorem sc_narrowed : FnScope n_narrowed ["source", "last", "saying"] (defScope s_narrowed) := ⟨rfl, rfl, rfl, by decide +kernel, rfl, by decide +kernel, by decide +kernel⟩
theorem sc_resting : FnScope n_resting ["steps"] (defScope s_resting) := ⟨rfl, rfl, rfl, by decide +kernel, rfl, by decide +kernel, by decide +kernel⟩
theorem sc_has_right_lines : FnScope n_has_right_lines ["book", "step", "at"] (defScope s_has_right_lines) := ⟨rfl, rfl, rfl, by decide +kernel, rfl, by decide +kernel, by decide +kernel⟩
theorem sc_is_same : FnScope n_is_same ["one", "other"] (defScope s_is_same) := ⟨rfl, rfl, rfl, by decide +kernel, rfl, by decide +kernel, by decide +kernel⟩
theorem sc_follows : FnScope n_follows ["book", "steps", "step"] (defScope s_follows) := ⟨rfl, rfl, rfl, by decide +kernel, rfl, by decide +kernel, by decide +kernel⟩
theorem sc_derivation_fault : FnScope n_derivation_fault ["book", "steps"] (defScope s_derivation_fault) := ⟨rfl, rfl, rfl, by decide +kernel, rfl, by decide +kernel, by decide +kernel⟩
theorem sc_name_fault : FnScope n_name_fault ["thing"] (defScope s_name_fault) := ⟨rfl, rfl, rfl, by decide +kernel, rfl, by decide +kernel, by decide +kernel⟩
theorem sc_Marks__init__ : FnScope n_Marks__init__ ["self", "names"] (defScope s_Marks__init__) := ⟨rfl, rfl, rfl, by decide +kernel, rfl, by decide +kernel, by decide +kernel⟩
theorem sc_Book__init__ : FnScope n_Book__init__ ["self", "marks", "sayings"] (defScope s_Book__init__) := ⟨rfl, rfl, rfl, by decide +kernel, rfl, by decide +kernel, by decide +kernel⟩
theorem sc_Book__len__ : FnScope n_Book__len__ ["self"] (defScope s_Book__len__) := ⟨rfl, rfl, rfl, by decide +kernel, rfl, by decide +kernel, by decide +kernel⟩
theorem sc_Book__getitem__ : FnScope n_Book__getitem__ ["self", "number"] (defScope s_Book__getitem__) := ⟨rfl, rfl, rfl, by decide +kernel, rfl, by decide +kernel, by decide +kernel⟩
theorem sc_Book_first_need_not : FnScope n_Book_first_need_not ["self"] (defScope s_Book_first_need_not) := ⟨rfl, rfl, rfl, by decide +kernel, rfl, by decide +kernel, by decide +kernel⟩
theorem sc_OtherDays__init__ : FnScope n_OtherDays__init__ ["self"] (defScope s_OtherDays__init__) := ⟨rfl, rfl, rfl, by decide +kernel, rfl, by decide +kernel, by decide +kernel⟩
theorem sc_NeedNot__init__ : FnScope n_NeedNot__init__ ["self", "number"] (defScope s_NeedNot__init__) := ⟨rfl, rfl, rfl, by decide +kernel, rfl, by decide +kernel, by decide +kernel⟩
theorem sc__law_source : FnScope n__law_source ["_law_script", "_law_at"] (defScope s__law_source) := ⟨rfl, rfl, rfl, by decide +kernel, rfl, by decide +kernel, by decide +kernel⟩
theorem sc__law_draw : FnScope n__law_draw ["_law_source_here", "_law_many"] (defScope s__law_draw) := ⟨rfl, rfl, rfl, by decide +kernel, rfl, by decide +kernel, by decide +kernel⟩
theorem sc__law_pick : FnScope n__law_pick ["_law_source_here", "_law_some"] (defScope s__law_pick) := ⟨rfl, rfl, rfl, by decide +kernel, rfl, by decide +kernel, by decide +kernel⟩
theorem sc__law_all_levels : FnScope n__law_all_levels ["_law_days"] (defScope s__law_all_levels) := ⟨rfl, rfl, rfl, by decide +kernel, rfl, by decide +kernel, by decide +kernel⟩
theorem sc__law_normal : FnScope n__law_normal ["_law_levels", "_law_where"] (defScope s__law_normal) := ⟨rfl, rfl, rfl, by decide +kernel, rfl, by decide +kernel, by decide +kernel⟩
theorem sc__law_kept : FnScope n__law_kept ["_law_levels", "_law_one_here"] (defScope s__law_kept) := ⟨rfl, rfl, rfl, by decide +kernel, rfl, by decide +kernel, by decide +kernel⟩
theorem sc__law_keeps : FnScope n__law_keeps ["_law_levels", "_law_rows_here"] (defScope s__law_keeps) := ⟨rfl, rfl, rfl, by decide +kernel, rfl, by decide +kernel, by decide +kernel⟩
theorem sc__law_levels_of : FnScope n__law_levels_of ["_law_layers"] (defScope s__law_levels_of) := ⟨rfl, rfl, rfl, by decide +kernel, rfl, by decide +kernel, by decide +kernel⟩
theorem sc__law_guide : FnScope n__law_guide ["_law_source_here", "_law_days"] (defScope s__law_guide) := ⟨rfl, rfl, rfl, by decide +kernel, rfl, by decide +kernel, by decide +kernel⟩
theorem sc__law_one : FnScope n__law_one ["_law_source_here", "_law_days", "_law_needs", "_law_guide_here"] (defScope s__law_one) := ⟨rfl, rfl, rfl, by decide +kernel, rfl, by decide +kernel, by decide +kernel⟩
theorem sc__law_rows : FnScope n__law_rows ["_law_source_here", "_law_days", "_law_many", "_law_needs"] (defScope s__law_rows) := ⟨rfl, rfl, rfl, by decide +kernel, rfl, by decide +kernel, by decide +kernel⟩
theorem sc__law_saying : FnScope n__law_saying ["_law_one_here"] (defScope s__law_saying) := ⟨rfl, rfl, rfl, by decide +kernel, rfl, by decide +kernel, by decide +kernel⟩
theorem sc__law_book : FnScope n__law_book ["_law_source_here", "_law_days", "_law_rows_here"] (defScope s__law_book) := ⟨rfl, rfl, rfl, by decide +kernel, rfl, by decide +kernel, by decide +kernel⟩
theorem sc__law_is_number : FnScope n__law_is_number ["_law_thing"] (defScope s__law_is_number) := ⟨rfl, rfl, rfl, by decide +kernel, rfl, by decide +kernel, by decide +kernel⟩
theorem sc__law_refuses : FnScope n__law_refuses ["_law_one_here", "_law_days", "_law_call"] (defScope s__law_refuses) := ⟨rfl, rfl, rfl, by decide +kernel, rfl, by decide +kernel, by decide +kernel⟩
theorem sc__law_joined : FnScope n__law_joined ["_law_rows_here", "_law_lot"] (defScope s__law_joined) := ⟨rfl, rfl, rfl, by decide +kernel, rfl, by decide +kernel, by decide +kernel⟩
theorem sc__law_sharp : FnScope n__law_sharp ["_law_rows_here", "_law_lot", "_law_one_here"] (defScope s__law_sharp) := ⟨rfl, rfl, rfl, by decide +kernel, rfl, by decide +kernel, by decide +kernel⟩
theorem sc__law_all_lots : FnScope n__law_all_lots ["_law_many"] (defScope s__law_all_lots) := ⟨rfl, rfl, rfl, by decide +kernel, rfl, by decide +kernel, by decide +kernel⟩
theorem sc__law_blunter : FnScope n__law_blunter ["_law_source_here", "_law_days", "_law_rows_here", "_law_lot"] (defScope s__law_blunter) := ⟨rfl, rfl, rfl, by decide +kernel, rfl, by decide +kernel, by decide +kernel⟩
theorem sc__law_asked : FnScope n__law_asked ["_law_source_here", "_law_days", "_law_rows_here"] (defScope s__law_asked) := ⟨rfl, rfl, rfl, by decide +kernel, rfl, by decide +kernel, by decide +kernel⟩
theorem sc__law_need_not : FnScope n__law_need_not ["_law_call", "_law_book_here", "_law_saying_here"] (defScope s__law_need_not) := ⟨rfl, rfl, rfl, by decide +kernel, rfl, by decide +kernel, by decide +kernel⟩
theorem sc__law_ratio : FnScope n__law_ratio ["_law_top", "_law_bottom"] (defScope s__law_ratio) := ⟨rfl, rfl, rfl, by decide +kernel, rfl, by decide +kernel, by decide +kernel⟩
theorem sc__law_weight : FnScope n__law_weight ["_law_numbers", "_law_day_set"] (defScope s__law_weight) := ⟨rfl, rfl, rfl, by decide +kernel, rfl, by decide +kernel, by decide +kernel⟩
theorem sc__law_doubt : FnScope n__law_doubt ["_law_numbers", "_law_one_here"] (defScope s__law_doubt) := ⟨rfl, rfl, rfl, by decide +kernel, rfl, by decide +kernel, by decide +kernel⟩
theorem sc__law_drawn_weights : FnScope n__law_drawn_weights ["_law_source_here", "_law_days"] (defScope s__law_drawn_weights) := ⟨rfl, rfl, rfl, by decide +kernel, rfl, by decide +kernel, by decide +kernel⟩
theorem sc__law_sum_of : FnScope n__law_sum_of ["_law_numbers", "_law_rows_here", "_law_lot"] (defScope s__law_sum_of) := ⟨rfl, rfl, rfl, by decide +kernel, rfl, by decide +kernel, by decide +kernel⟩
theorem sc__law_follows : FnScope n__law_follows ["_law_rows_here", "_law_plain", "_law_at"] (defScope s__law_follows) := ⟨rfl, rfl, rfl, by decide +kernel, rfl, by decide +kernel, by decide +kernel⟩
theorem sc__law_first_wrong : FnScope n__law_first_wrong ["_law_rows_here", "_law_steps"] (defScope s__law_first_wrong) := ⟨rfl, rfl, rfl, by decide +kernel, rfl, by decide +kernel, by decide +kernel⟩
theorem sc__law_rests : FnScope n__law_rests ["_law_steps"] (defScope s__law_rests) := ⟨rfl, rfl, rfl, by decide +kernel, rfl, by decide +kernel, by decide +kernel⟩
theorem sc__law_yielded : FnScope n__law_yielded ["_law_rows_here", "_law_lot", "_law_one_here"] (defScope s__law_yielded) := ⟨rfl, rfl, rfl, by decide +kernel, rfl, by decide +kernel, by decide +kernel⟩
theorem sc__law_sound : FnScope n__law_sound ["_law_source_here", "_law_days", "_law_rows_here", "_law_steps", "_law_lots"] (defScope s__law_sound) := ⟨rfl, rfl, rfl, by decide +kernel, rfl, by decide +kernel, by decide +kernel⟩
theorem sc__law_shape : FnScope n__law_shape ["_law_steps"] (defScope s__law_shape) := ⟨rfl, rfl, rfl, by decide +kernel, rfl, by decide +kernel, by decide +kernel⟩
theorem sc__law_right : FnScope n__law_right ["_law_rows_here", "_law_book_here", "_law_one_here", "_law_steps"] (defScope s__law_right) := ⟨rfl, rfl, rfl, by decide +kernel, rfl, by decide +kernel, by decide +kernel⟩
theorem sc__law_made : FnScope n__law_made ["_law_source_here", "_law_days", "_law_rows_here", "_law_book_here", "_law_one_here"] (defScope s__law_made) := ⟨rfl, rfl, rfl, by decide +kernel, rfl, by decide +kernel, by decide +kernel⟩
theorem sc__law_all_needed : FnScope n__law_all_needed ["_law_source_here"] (defScope s__law_all_needed) := ⟨rfl, rfl, rfl, by decide +kernel, rfl, by decide +kernel, by decide +kernel⟩
theorem sc_law : FnScope n_law ["_law_script"] (defScope s_law) := ⟨rfl, rfl, rfl, by decide +kernel, rfl, by decide +kernel, by decide +kernel⟩
/-- the def in a classmethod, in a property -/
def cmAt (c m : PySem.Str) (K : PySem.W.Frag) : Addr := match PySem.W.recIn K (He.ma K (He.ga K c) m) "classmethod" with
  | some (.ref g :: _) => g
  | _ => 0
def prAt (c m : PySem.Str) (K : PySem.W.Frag) : Addr := match PySem.W.recIn K (He.ma K (He.ga K c) m) "property" with
  | some (.ref g :: _) => g
  | _ => 0
def d_set_of : He5.DefA := ⟨fun K => He.ga K "set_of", "set_of", "set_of", defArgs s_set_of, defBody s_set_of, defScope s_set_of, [], []⟩
def d_within : He5.DefA := ⟨fun K => He.ga K "within", "within", "within", defArgs s_within, defBody s_within, defScope s_within, [], []⟩
def d_is_whole : He5.DefA := ⟨fun K => He.ga K "is_whole", "is_whole", "is_whole", defArgs s_is_whole, defBody s_is_whole, defScope s_is_whole, [], []⟩
def d_all_sayings : He5.DefA := ⟨fun K => He.ga K "all_sayings", "all_sayings", "all_sayings", defArgs s_all_sayings, defBody s_all_sayings, defScope s_all_sayings, [], []⟩
def d_first_reason : He5.DefA := ⟨fun K => He.ga K "first_reason", "first_reason", "first_reason", defArgs s_first_reason, defBody s_first_reason, defScope s_first_reason, [], []⟩
def d_Lifting__init__ : He5.DefA := ⟨fun K => He.ma K (He.ga K "Lifting") "__init__", "__init__", "Lifting.__init__", defArgs s_Lifting__init__, defBody s_Lifting__init__, defScope s_Lifting__init__, [], []⟩
def d_Lifting_open_days : He5.DefA := ⟨fun K => He.ma K (He.ga K "Lifting") "open_days", "open_days", "Lifting.open_days", defArgs s_Lifting_open_days, defBody s_Lifting_open_days, defScope s_Lifting_open_days, [], []⟩
def d_Lifting_settle : He5.DefA := ⟨fun K => He.ma K (He.ga K "Lifting") "settle", "settle", "Lifting.settle", defArgs s_Lifting_settle, defBody s_Lifting_settle, defScope s_Lifting_settle, [], []⟩
def d_Lifting_run : He5.DefA := ⟨fun K => He.ma K (He.ga K "Lifting") "run", "run", "Lifting.run", defArgs s_Lifting_run, defBody s_Lifting_run, defScope s_Lifting_run, [], []⟩
def d_lifting_of : He5.DefA := ⟨fun K => He.ga K "lifting_of", "lifting_of", "lifting_of", defArgs s_lifting_of, defBody s_lifting_of, defScope s_lifting_of, [], []⟩
def d_lifted_layers : He5.DefA := ⟨fun K => He.ga K "lifted_layers", "lifted_layers", "lifted_layers", defArgs s_lifted_layers, defBody s_lifted_layers, defScope s_lifted_layers, [], [("start", .non)]⟩
def d_check_saying_days : He5.DefA := ⟨fun K => He.ga K "check_saying_days", "check_saying_days", "check_saying_days", defArgs s_check_saying_days, defBody s_check_saying_days, defScope s_check_saying_days, [], []⟩
def d_Saying__init__ : He5.DefA := ⟨fun K => He.ma K (He.ga K "Saying") "__init__", "__init__", "Saying.__init__", defArgs s_Saying__init__, defBody s_Saying__init__, defScope s_Saying__init__, [.bl true], []⟩
def d_Saying_of_days : He5.DefA := ⟨cmAt "Saying" "of_days", "of_days", "Saying.of_days", defArgs s_Saying_of_days, defBody s_Saying_of_days, defScope s_Saying_of_days, [.bl true], []⟩
def d_Saying_contrary : He5.DefA := ⟨fun K => He.ma K (He.ga K "Saying") "contrary", "contrary", "Saying.contrary", defArgs s_Saying_contrary, defBody s_Saying_contrary, defScope s_Saying_contrary, [], []⟩
def d_Saying_flipped : He5.DefA := ⟨fun K => He.ma K (He.ga K "Saying") "flipped", "flipped", "Saying.flipped", defArgs s_Saying_flipped, defBody s_Saying_flipped, defScope s_Saying_flipped, [], []⟩
def d_Verdicts__init__ : He5.DefA := ⟨fun K => He.ma K (He.ga K "Verdicts") "__init__", "__init__", "Verdicts.__init__", defArgs s_Verdicts__init__, defBody s_Verdicts__init__, defScope s_Verdicts__init__, [], []⟩
def d_Verdicts_none : He5.DefA := ⟨cmAt "Verdicts" "none", "none", "Verdicts.none", defArgs s_Verdicts_none, defBody s_Verdicts_none, defScope s_Verdicts_none, [], []⟩
def d_Verdicts__add__ : He5.DefA := ⟨fun K => He.ma K (He.ga K "Verdicts") "__add__", "__add__", "Verdicts.__add__", defArgs s_Verdicts__add__, defBody s_Verdicts__add__, defScope s_Verdicts__add__, [], []⟩
def d_verdicts_of : He5.DefA := ⟨fun K => He.ga K "verdicts_of", "verdicts_of", "verdicts_of", defArgs s_verdicts_of, defBody s_verdicts_of, defScope s_verdicts_of, [], []⟩
def d_joined : He5.DefA := ⟨fun K => He.ga K "joined", "joined", "joined", defArgs s_joined, defBody s_joined, defScope s_joined, [], []⟩
def d_sharper : He5.DefA := ⟨fun K => He.ga K "sharper", "sharper", "sharper", defArgs s_sharper, defBody s_sharper, defScope s_sharper, [], []⟩
def d_check_all_usual : He5.DefA := ⟨fun K => He.ga K "check_all_usual", "check_all_usual", "check_all_usual", defArgs s_check_all_usual, defBody s_check_all_usual, defScope s_check_all_usual, [], []⟩
def d_lots_of : He5.DefA := ⟨fun K => He.ga K "lots_of", "lots_of", "lots_of", defArgs s_lots_of, defBody s_lots_of, defScope s_lots_of, [], []⟩
def d_holds : He5.DefA := ⟨fun K => He.ga K "holds", "holds", "holds", defArgs s_holds, defBody s_holds, defScope s_holds, [], []⟩
def d_is_sharp : He5.DefA := ⟨fun K => He.ga K "is_sharp", "is_sharp", "is_sharp", defArgs s_is_sharp, defBody s_is_sharp, defScope s_is_sharp, [], []⟩
def d_widest_lot : He5.DefA := ⟨fun K => He.ga K "widest_lot", "widest_lot", "widest_lot", defArgs s_widest_lot, defBody s_widest_lot, defScope s_widest_lot, [], []⟩
def d_sharp_lot : He5.DefA := ⟨fun K => He.ga K "sharp_lot", "sharp_lot", "sharp_lot", defArgs s_sharp_lot, defBody s_sharp_lot, defScope s_sharp_lot, [], []⟩
def d_sharp_lots : He5.DefA := ⟨fun K => He.ga K "sharp_lots", "sharp_lots", "sharp_lots", defArgs s_sharp_lots, defBody s_sharp_lots, defScope s_sharp_lots, [], []⟩
def d_Step__init__ : He5.DefA := ⟨fun K => He.ma K (He.ga K "Step") "__init__", "__init__", "Step.__init__", defArgs s_Step__init__, defBody s_Step__init__, defScope s_Step__init__, [], []⟩
def d_join_of : He5.DefA := ⟨fun K => He.ga K "join_of", "join_of", "join_of", defArgs s_join_of, defBody s_join_of, defScope s_join_of, [], []⟩
def d_derivation : He5.DefA := ⟨fun K => He.ga K "derivation", "derivation", "derivation", defArgs s_derivation, defBody s_derivation, defScope s_derivation, [], []⟩
def d_narrowed : He5.DefA := ⟨fun K => He.ga K "narrowed", "narrowed", "narrowed", defArgs s_narrowed, defBody s_narrowed, defScope s_narrowed, [], []⟩
def d_resting : He5.DefA := ⟨fun K => He.ga K "resting", "resting", "resting", defArgs s_resting, defBody s_resting, defScope s_resting, [], []⟩
def d_has_right_lines : He5.DefA := ⟨fun K => He.ga K "has_right_lines", "has_right_lines", "has_right_lines", defArgs s_has_right_lines, defBody s_has_right_lines, defScope s_has_right_lines, [], []⟩
def d_is_same : He5.DefA := ⟨fun K => He.ga K "is_same", "is_same", "is_same", defArgs s_is_same, defBody s_is_same, defScope s_is_same, [], []⟩
def d_follows : He5.DefA := ⟨fun K => He.ga K "follows", "follows", "follows", defArgs s_follows, defBody s_follows, defScope s_follows, [], []⟩
def d_derivation_fault : He5.DefA := ⟨fun K => He.ga K "derivation_fault", "derivation_fault", "derivation_fault", defArgs s_derivation_fault, defBody s_derivation_fault, defScope s_derivation_fault, [], []⟩
def d_name_fault : He5.DefA := ⟨fun K => He.ga K "name_fault", "name_fault", "name_fault", defArgs s_name_fault, defBody s_name_fault, defScope s_name_fault, [], []⟩
def d_Marks__init__ : He5.DefA := ⟨fun K => He.ma K (He.ga K "Marks") "__init__", "__init__", "Marks.__init__", defArgs s_Marks__init__, defBody s_Marks__init__, defScope s_Marks__init__, [], []⟩
def d_Book__init__ : He5.DefA := ⟨fun K => He.ma K (He.ga K "Book") "__init__", "__init__", "Book.__init__", defArgs s_Book__init__, defBody s_Book__init__, defScope s_Book__init__, [], []⟩
def d_Book__len__ : He5.DefA := ⟨fun K => He.ma K (He.ga K "Book") "__len__", "__len__", "Book.__len__", defArgs s_Book__len__, defBody s_Book__len__, defScope s_Book__len__, [], []⟩
def d_Book__getitem__ : He5.DefA := ⟨fun K => He.ma K (He.ga K "Book") "__getitem__", "__getitem__", "Book.__getitem__", defArgs s_Book__getitem__, defBody s_Book__getitem__, defScope s_Book__getitem__, [], []⟩
def d_Book_first_need_not : He5.DefA := ⟨prAt "Book" "first_need_not", "first_need_not", "Book.first_need_not", defArgs s_Book_first_need_not, defBody s_Book_first_need_not, defScope s_Book_first_need_not, [], []⟩
def d_OtherDays__init__ : He5.DefA := ⟨fun K => He.ma K (He.ga K "OtherDays") "__init__", "__init__", "OtherDays.__init__", defArgs s_OtherDays__init__, defBody s_OtherDays__init__, defScope s_OtherDays__init__, [], []⟩
def d_NeedNot__init__ : He5.DefA := ⟨fun K => He.ma K (He.ga K "NeedNot") "__init__", "__init__", "NeedNot.__init__", defArgs s_NeedNot__init__, defBody s_NeedNot__init__, defScope s_NeedNot__init__, [], []⟩
def d__law_source : He5.DefA := ⟨fun K => He.ga K "_law_source", "_law_source", "_law_source", defArgs s__law_source, defBody s__law_source, defScope s__law_source, [], []⟩
def d__law_draw : He5.DefA := ⟨fun K => He.ga K "_law_draw", "_law_draw", "_law_draw", defArgs s__law_draw, defBody s__law_draw, defScope s__law_draw, [], []⟩
def d__law_pick : He5.DefA := ⟨fun K => He.ga K "_law_pick", "_law_pick", "_law_pick", defArgs s__law_pick, defBody s__law_pick, defScope s__law_pick, [], []⟩
def d__law_all_levels : He5.DefA := ⟨fun K => He.ga K "_law_all_levels", "_law_all_levels", "_law_all_levels", defArgs s__law_all_levels, defBody s__law_all_levels, defScope s__law_all_levels, [], []⟩
def d__law_normal : He5.DefA := ⟨fun K => He.ga K "_law_normal", "_law_normal", "_law_normal", defArgs s__law_normal, defBody s__law_normal, defScope s__law_normal, [], []⟩
def d__law_kept : He5.DefA := ⟨fun K => He.ga K "_law_kept", "_law_kept", "_law_kept", defArgs s__law_kept, defBody s__law_kept, defScope s__law_kept, [], []⟩
def d__law_keeps : He5.DefA := ⟨fun K => He.ga K "_law_keeps", "_law_keeps", "_law_keeps", defArgs s__law_keeps, defBody s__law_keeps, defScope s__law_keeps, [], []⟩
def d__law_levels_of : He5.DefA := ⟨fun K => He.ga K "_law_levels_of", "_law_levels_of", "_law_levels_of", defArgs s__law_levels_of, defBody s__law_levels_of, defScope s__law_levels_of, [], []⟩
def d__law_guide : He5.DefA := ⟨fun K => He.ga K "_law_guide", "_law_guide", "_law_guide", defArgs s__law_guide, defBody s__law_guide, defScope s__law_guide, [], []⟩
def d__law_one : He5.DefA := ⟨fun K => He.ga K "_law_one", "_law_one", "_law_one", defArgs s__law_one, defBody s__law_one, defScope s__law_one, [], []⟩
def d__law_rows : He5.DefA := ⟨fun K => He.ga K "_law_rows", "_law_rows", "_law_rows", defArgs s__law_rows, defBody s__law_rows, defScope s__law_rows, [], []⟩
def d__law_saying : He5.DefA := ⟨fun K => He.ga K "_law_saying", "_law_saying", "_law_saying", defArgs s__law_saying, defBody s__law_saying, defScope s__law_saying, [], []⟩
def d__law_book : He5.DefA := ⟨fun K => He.ga K "_law_book", "_law_book", "_law_book", defArgs s__law_book, defBody s__law_book, defScope s__law_book, [], []⟩
def d__law_is_number : He5.DefA := ⟨fun K => He.ga K "_law_is_number", "_law_is_number", "_law_is_number", defArgs s__law_is_number, defBody s__law_is_number, defScope s__law_is_number, [], []⟩
def d__law_refuses : He5.DefA := ⟨fun K => He.ga K "_law_refuses", "_law_refuses", "_law_refuses", defArgs s__law_refuses, defBody s__law_refuses, defScope s__law_refuses, [], []⟩
def d__law_joined : He5.DefA := ⟨fun K => He.ga K "_law_joined", "_law_joined", "_law_joined", defArgs s__law_joined, defBody s__law_joined, defScope s__law_joined, [], []⟩
def d__law_sharp : He5.DefA := ⟨fun K => He.ga K "_law_sharp", "_law_sharp", "_law_sharp", defArgs s__law_sharp, defBody s__law_sharp, defScope s__law_sharp, [], []⟩
def d__law_all_lots : He5.DefA := ⟨fun K => He.ga K "_law_all_lots", "_law_all_lots", "_law_all_lots", defArgs s__law_all_lots, defBody s__law_all_lots, defScope s__law_all_lots, [], []⟩
def d__law_blunter : He5.DefA := ⟨fun K => He.ga K "_law_blunter", "_law_blunter", "_law_blunter", defArgs s__law_blunter, defBody s__law_blunter, defScope s__law_blunter, [], []⟩
def d__law_asked : He5.DefA := ⟨fun K => He.ga K "_law_asked", "_law_asked", "_law_asked", defArgs s__law_asked, defBody s__law_asked, defScope s__law_asked, [], []⟩
def d__law_need_not : He5.DefA := ⟨fun K => He.ga K "_law_need_not", "_law_need_not", "_law_need_not", defArgs s__law_need_not, defBody s__law_need_not, defScope s__law_need_not, [], []⟩
def d__law_ratio : He5.DefA := ⟨fun K => He.ga K "_law_ratio", "_law_ratio", "_law_ratio", defArgs s__law_ratio, defBody s__law_ratio, defScope s__law_ratio, [], []⟩
def d__law_weight : He5.DefA := ⟨fun K => He.ga K "_law_weight", "_law_weight", "_law_weight", defArgs s__law_weight, defBody s__law_weight, defScope s__law_weight, [], []⟩
def d__law_doubt : He5.DefA := ⟨fun K => He.ga K "_law_doubt", "_law_doubt", "_law_doubt", defArgs s__law_doubt, defBody s__law_doubt, defScope s__law_doubt, [], []⟩
def d__law_drawn_weights : He5.DefA := ⟨fun K => He.ga K "_law_drawn_weights", "_law_drawn_weights", "_law_drawn_weights", defArgs s__law_drawn_weights, defBody s__law_drawn_weights, defScope s__law_drawn_weights, [], []⟩
def d__law_sum_of : He5.DefA := ⟨fun K => He.ga K "_law_sum_of", "_law_sum_of", "_law_sum_of", defArgs s__law_sum_of, defBody s__law_sum_of, defScope s__law_sum_of, [], []⟩
def d__law_follows : He5.DefA := ⟨fun K => He.ga K "_law_follows", "_law_follows", "_law_follows", defArgs s__law_follows, defBody s__law_follows, defScope s__law_follows, [], []⟩
def d__law_first_wrong : He5.DefA := ⟨fun K => He.ga K "_law_first_wrong", "_law_first_wrong", "_law_first_wrong", defArgs s__law_first_wrong, defBody s__law_first_wrong, defScope s__law_first_wrong, [], []⟩
def d__law_rests : He5.DefA := ⟨fun K => He.ga K "_law_rests", "_law_rests", "_law_rests", defArgs s__law_rests, defBody s__law_rests, defScope s__law_rests, [], []⟩
def d__law_yielded : He5.DefA := ⟨fun K => He.ga K "_law_yielded", "_law_yielded", "_law_yielded", defArgs s__law_yielded, defBody s__law_yielded, defScope s__law_yielded, [], []⟩
def d__law_sound : He5.DefA := ⟨fun K => He.ga K "_law_sound", "_law_sound", "_law_sound", defArgs s__law_sound, defBody s__law_sound, defScope s__law_sound, [], []⟩
def d__law_shape : He5.DefA := ⟨fun K => He.ga K "_law_shape", "_law_shape", "_law_shape", defArgs s__law_shape, defBody s__law_shape, defScope s__law_shape, [], []⟩
def d__law_right : He5.DefA := ⟨fun K => He.ga K "_law_right", "_law_right", "_law_right", defArgs s__law_right, defBody s__law_right, defScope s__law_right, [], []⟩
def d__law_made : He5.DefA := ⟨fun K => He.ga K "_law_made", "_law_made", "_law_made", defArgs s__law_made, defBody s__law_made, defScope s__law_made, [], []⟩
def d__law_all_needed : He5.DefA := ⟨fun K => He.ga K "_law_all_needed", "_law_all_needed", "_law_all_needed", defArgs s__law_all_needed, defBody s__law_all_needed, defScope s__law_all_needed, [], []⟩
def d_law : He5.DefA := ⟨fun K => He.ga K "law", "law", "law", defArgs s_law, defBody s_law, defScope s_law, [], []⟩
def fnl : List He5.DefA := [d_set_of, d_within, d_is_whole, d_all_sayings, d_first_reason, d_Lifting__init__, d_Lifting_open_days, d_Lifting_settle, d_Lifting_run, d_lifting_of, d_lifted_layers, d_check_saying_days, d_Saying__init__, d_Saying_of_days, d_Saying_contrary, d_Saying_flipped, d_Verdicts__init__, d_Verdicts_none, d_Verdicts__add__, d_verdicts_of, d_joined, d_sharper, d_check_all_usual, d_lots_of, d_holds, d_is_sharp, d_widest_lot, d_sharp_lot, d_sharp_lots, d_Step__init__, d_join_of, d_derivation, d_narrowed, d_resting, d_has_right_lines, d_is_same, d_follows, d_derivation_fault, d_name_fault, d_Marks__init__, d_Book__init__, d_Book__len__, d_Book__getitem__, d_Book_first_need_not, d_OtherDays__init__, d_NeedNot__init__, d__law_source, d__law_draw, d__law_pick, d__law_all_levels, d__law_normal, d__law_kept, d__law_keeps, d__law_levels_of, d__law_guide, d__law_one, d__law_rows, d__law_saying, d__law_book, d__law_is_number, d__law_refuses, d__law_joined, d__law_sharp, d__law_all_lots, d__law_blunter, d__law_asked, d__law_need_not, d__law_ratio, d__law_weight, d__law_doubt, d__law_drawn_weights, d__law_sum_of, d__law_follows, d__law_first_wrong, d__law_rests, d__law_yielded, d__law_sound, d__law_shape, d__law_right, d__law_made, d__law_all_needed, d_law]
theorem in_set_of : fnl[0]? = some d_set_of := rfl
theorem in_within : fnl[1]? = some d_within := rfl
theorem in_is_whole : fnl[2]? = some d_is_whole := rfl
theorem in_all_sayings : fnl[3]? = some d_all_sayings := rfl
theorem in_first_reason : fnl[4]? = some d_first_reason := rfl
theorem in_Lifting__init__ : fnl[5]? = some d_Lifting__init__ := rfl
theorem in_Lifting_open_days : fnl[6]? = some d_Lifting_open_days := rfl
theorem in_Lifting_settle : fnl[7]? = some d_Lifting_settle := rfl
theorem in_Lifting_run : fnl[8]? = some d_Lifting_run := rfl
theorem in_lifting_of : fnl[9]? = some d_lifting_of := rfl
theorem in_lifted_layers : fnl[10]? = some d_lifted_layers := rfl
theorem in_check_saying_days : fnl[11]? = some d_check_saying_days := rfl
theorem in_Saying__init__ : fnl[12]? = some d_Saying__init__ := rfl
theorem in_Saying_of_days : fnl[13]? = some d_Saying_of_days := rfl
theorem in_Saying_contrary : fnl[14]? = some d_Saying_contrary := rfl
theorem in_Saying_flipped : fnl[15]? = some d_Saying_flipped := rfl
theorem in_Verdicts__init__ : fnl[16]? = some d_Verdicts__init__ := rfl
theorem in_Verdicts_none : fnl[17]? = some d_Verdicts_none := rfl
theorem in_Verdicts__add__ : fnl[18]? = some d_Verdicts__add__ := rfl
theorem in_verdicts_of : fnl[19]? = some d_verdicts_of := rfl
theorem in_joined : fnl[20]? = some d_joined := rfl
theorem in_sharper : fnl[21]? = some d_sharper := rfl
theorem in_check_all_usual : fnl[22]? = some d_check_all_usual := rfl
theorem in_lots_of : fnl[23]? = some d_lots_of := rfl
theorem in_holds : fnl[24]? = some d_holds := rfl
theorem in_is_sharp : fnl[25]? = some d_is_sharp := rfl
theorem in_widest_lot : fnl[26]? = some d_widest_lot := rfl
theorem in_sharp_lot : fnl[27]? = some d_sharp_lot := rfl
theorem in_sharp_lots : fnl[28]? = some d_sharp_lots := rfl
theorem in_Step__init__ : fnl[29]? = some d_Step__init__ := rfl
theorem in_join_of : fnl[30]? = some d_join_of := rfl
theorem in_derivation : fnl[31]? = some d_derivation := rfl
theorem in_narrowed : fnl[32]? = some d_narrowed := rfl
theorem in_resting : fnl[33]? = some d_resting := rfl
theorem in_has_right_lines : fnl[34]? = some d_has_right_lines := rfl
theorem in_is_same : fnl[35]? = some d_is_same := rfl
theorem in_follows : fnl[36]? = some d_follows := rfl
theorem in_derivation_fault : fnl[37]? = some d_derivation_fault := rfl
theorem in_name_fault : fnl[38]? = some d_name_fault := rfl
theorem in_Marks__init__ : fnl[39]? = some d_Marks__init__ := rfl
theorem in_Book__init__ : fnl[40]? = some d_Book__init__ := rfl
theorem in_Book__len__ : fnl[41]? = some d_Book__len__ := rfl
theorem in_Book__getitem__ : fnl[42]? = some d_Book__getitem__ := rfl
theorem in_Book_first_need_not : fnl[43]? = some d_Book_first_need_not := rfl
theorem in_OtherDays__init__ : fnl[44]? = some d_OtherDays__init__ := rfl
theorem in_NeedNot__init__ : fnl[45]? = some d_NeedNot__init__ := rfl
theorem in__law_source : fnl[46]? = some d__law_source := rfl
theorem in__law_draw : fnl[47]? = some d__law_draw := rfl
theorem in__law_pick : fnl[48]? = some d__law_pick := rfl
theorem in__law_all_levels : fnl[49]? = some d__law_all_levels := rfl
theorem in__law_normal : fnl[50]? = some d__law_normal := rfl
theorem in__law_kept : fnl[51]? = some d__law_kept := rfl
theorem in__law_keeps : fnl[52]? = some d__law_keeps := rfl
theorem in__law_levels_of : fnl[53]? = some d__law_levels_of := rfl
theorem in__law_guide : fnl[54]? = some d__law_guide := rfl
theorem in__law_one : fnl[55]? = some d__law_one := rfl
theorem in__law_rows : fnl[56]? = some d__law_rows := rfl
theorem in__law_saying : fnl[57]? = some d__law_saying := rfl
theorem in__law_book : fnl[58]? = some d__law_book := rfl
theorem in__law_is_number : fnl[59]? = some d__law_is_number := rfl
theorem in__law_refuses : fnl[60]? = some d__law_refuses := rfl
theorem in__law_joined : fnl[61]? = some d__law_joined := rfl
theorem in__law_sharp : fnl[62]? = some d__law_sharp := rfl
theorem in__law_all_lots : fnl[63]? = some d__law_all_lots := rfl
theorem in__law_blunter : fnl[64]? = some d__law_blunter := rfl
theorem in__law_asked : fnl[65]? = some d__law_asked := rfl
theorem in__law_need_not : fnl[66]? = some d__law_need_not := rfl
theorem in__law_ratio : fnl[67]? = some d__law_ratio := rfl
theorem in__law_weight : fnl[68]? = some d__law_weight := rfl
theorem in__law_doubt : fnl[69]? = some d__law_doubt := rfl
theorem in__law_drawn_weights : fnl[70]? = some d__law_drawn_weights := rfl
theorem in__law_sum_of : fnl[71]? = some d__law_sum_of := rfl
theorem in__law_follows : fnl[72]? = some d__law_follows := rfl
theorem in__law_first_wrong : fnl[73]? = some d__law_first_wrong := rfl
theorem in__law_rests : fnl[74]? = some d__law_rests := rfl
theorem in__law_yielded : fnl[75]? = some d__law_yielded := rfl
theorem in__law_sound : fnl[76]? = some d__law_sound := rfl
theorem in__law_shape : fnl[77]? = some d__law_shape := rfl
theorem in__law_right : fnl[78]? = some d__law_right := rfl
theorem in__law_made : fnl[79]? = some d__law_made := rfl
theorem in__law_all_needed : fnl[80]? = some d__law_all_needed := rfl
theorem in_law : fnl[81]? = some d_law := rfl
end K33
namespace K33
open PySem PySem.Spec PyProof.Rows L2
def glol0 : List PySem.Str := ["set_of", "within", "is_whole", "all_sayings", "first_reason", "Lifting", "lifting_of", "lifted_layers", "check_saying_days", "Saying", "Verdicts", "verdicts_of", "joined", "sharper", "check_all_usual", "lots_of", "holds", "is_sharp", "widest_lot", "sharp_lot", "sharp_lots", "COUNTS", "Step", "join_of", "derivation", "narrowed", "resting", "has_right_lines", "is_same", "follows"]
def glol1 : List PySem.Str := ["derivation_fault", "KEPT_WORDS", "name_fault", "Marks", "Book", "DaysError", "OtherDays", "NeedNot", "_law_source", "_law_draw", "_law_pick", "_law_all_levels", "_law_normal", "_law_kept", "_law_keeps", "_law_levels_of", "_law_guide", "_law_one", "_law_rows", "_law_saying", "_law_book", "_law_is_number", "_law_refuses", "_law_joined", "_law_sharp", "_law_all_lots", "_law_blunter", "_law_asked", "_law_need_not", "_law_ratio"]
def glol2 : List PySem.Str := ["_law_weight", "_law_doubt", "_law_drawn_weights", "_law_sum_of", "_law_follows", "_law_first_wrong", "_law_rests", "_law_yielded", "_law_sound", "_law_shape", "_law_right", "_law_made", "_law_all_needed", "law"]
def glol : List PySem.Str := glol0 ++ glol1 ++ glol2
def freel : List PySem.Str := ["len", "isinstance", "int", "bool", "str", "list", "tuple", "set", "range", "enumerate", "zip", "sum", "min", "max", "any", "all", "abs", "sorted"]
def intl : List (PySem.Str × Int) := [("ALL_BITS", 65535), ("MOST_MARKS", 4), ("LONGEST_NAME", 8), ("MOST_SAYINGS", 12)]
def strl : List (PySem.Str × PySem.Str) := [("LETTERS", "abcdefghijklmnopqrstuvwxyz")]
/-- classes, their fields -/
def fldl : List (PySem.Str × List PySem.Str) := [("Saying", ["where", "then", "usual", "confirm", "broken", "low", "high", "step"]), ("Verdicts", ["confirm", "broken"]), ("Step", ["rule", "lines", "saying"]), ("Marks", ["names", "count", "days", "all_days"]), ("Book", ["marks", "sayings"]), ("Lifting", ["rows", "start", "layers", "reasons", "heights", "known"])]
def kcl : List (PySem.Str × PySem.Str) := fldl.flatMap fun p => p.2.map fun f => (p.1, f)
def methl : List (PySem.Str × PySem.Str) := [("Saying", "contrary"), ("Saying", "flipped"), ("Lifting", "open_days"), ("Lifting", "settle"), ("Lifting", "run")]
def keptw : List PySem.Str := ["and", "any", "marks", "need", "never", "not", "or", "usually", "where"]
def clsl : List PySem.Str := ["Saying", "Verdicts", "Step", "Marks", "Book", "Lifting"]
/-- isinstance(o, C), o of the class C -/
structure InsC (K : PySem.W.Frag) (c : PySem.Str) : Prop where
  ha : PySem.W.findIn K (.ref (He.ga K c)) "__class__" = some (some (.builtin "object.__class__"))
  hn : PySem.W.specialIn K (.builtin "object.__class__") "__get__" = some (some (.builtin "getset_descriptor.__get__"))
  htk : PySem.W.takesIn K (.builtin "object.__class__") = some true
  hm : PySem.W.mroIn K (He.ga K c) (.type "object") = some true
  one : PySem.W.kitOne K (.ref (He.ga K c)) (.ref (He.ga K c)) = some true
/-- the counts of a step's numbers -/
def cntl : List (PySem.Str × Int) := [("given", 1), ("itself", 0), ("weaker", 1), ("joined", 2), ("cautious", 2)]
def excl : List PySem.Str := ["OtherDays", "NeedNot"]
/-- an own error's class -/
structure ErrC (K : PySem.W.Frag) (c : PySem.Str) : Prop where
  oex : OexC K (He.ga K c)
  xf : XfC K (He.ga K c)
  ex : ExcC K (He.ga K c)
  ini : PySem.W.findIn K (.ref (He.ga K c)) "__init__" = some (some (.ref (He.ma K (He.ga K c) "__init__")))
  ty : PySem.W.typeIn K (.ref (He.ma K (He.ga K c) "__init__")) = some (.type "function")
  one : PySem.W.exmOne K (.ref (He.ga K c)) (.ref (He.ga K c)) = some true
  days : PySem.W.kitOne K (.ref (He.ga K c)) (.ref (He.ga K "DaysError")) = some true
  nonum : PySem.W.findIn K (.ref (He.ga K c)) "number" = some none
structure Wf (P : Program) (w : World) (K : PySem.W.Frag) (mg : PySem.Str → Option Value) (base : Heap) : Prop where
  fn : ∀ (i : Nat) (d : He5.DefA), fnl[i]? = some d → ∃ fd, FunD K d.name d.qual d.params d.body d.scope (d.dvs K) (d.kws K) (d.at_ K) fd
  glo : ∀ (i : Nat) (x : PySem.Str), glol[i]? = some x → mg x = some (.ref (He.ga K x))
  free : ∀ (i : Nat) (x : PySem.Str), freel[i]? = some x → mg x = none
  intv : ∀ (i : Nat) (p : PySem.Str × Int), intl[i]? = some p → ∃ t, mg p.1 = some (.int p.2 t)
  strv : ∀ (i : Nat) (p : PySem.Str × PySem.Str), strl[i]? = some p → ∃ t, mg p.1 = some (.str p.2 t)
  kc : ∀ p ∈ kcl, KC K p.1 p.2
  ins : ∀ (i : Nat) (c : PySem.Str), clsl[i]? = some c → InsC K c
  mkr : ∀ (i : Nat) (c : PySem.Str), clsl[i]? = some c → Mk K (He.ga K c) (He.ma K (He.ga K c) "__init__")
  cls : ∀ (i : Nat) (c : PySem.Str), clsl[i]? = some c → Cls K (He.ga K c)
  meth : ∀ (i : Nat) (p : PySem.Str × PySem.Str), methl[i]? = some p → Meth K (He.ga K p.1) p.2 (He.ma K (He.ga K p.1) p.2)
  osub : OwnSub K (He.ga K "Book") (He.ma K (He.ga K "Book") "__getitem__")
  olen : PySem.W.findIn K (.ref (He.ga K "Book")) "__len__" = some (some (.ref (He.ma K (He.ga K "Book") "__len__"))) ∧ PySem.W.isFn K (.ref (He.ma K (He.ga K "Book") "__len__")) = true
  oadd : OwnBin K (He.ga K "Verdicts") (He.ma K (He.ga K "Verdicts") "__add__") .Add
  prop : PropOf K (He.ga K "Book") "first_need_not" (He.ma K (He.ga K "Book") "first_need_not") (prAt "Book" "first_need_not" K)
  cmS : ∃ mc, ClX.CRead K (He.ga K "Saying") mc ∧ ClX.CMet K (He.ga K "Saying") mc "of_days" (He.ma K (He.ga K "Saying") "of_days") (cmAt "Saying" "of_days" K)
  cmV : ∃ mc, ClX.CRead K (He.ga K "Verdicts") mc ∧ ClX.CMet K (He.ga K "Verdicts") mc "none" (He.ma K (He.ga K "Verdicts") "none") (cmAt "Verdicts" "none" K)
  cnt : ∃ es n, KDict K w (He.ga K "COUNTS") es n
  cntv : ∀ (i : Nat) (p : PySem.Str × Int), cntl[i]? = some p → ∃ t, PySem.W.nsIn K (He.ga K "COUNTS") p.1 = some (some (.int p.2 t))
  err : ∀ (i : Nat) (c : PySem.Str), excl[i]? = some c → ErrC K c
  dei : ∃ mc, DeI K (He.ga K "DaysError") mc
  kept : ∀ H, SqT K H (He.ga K "KEPT_WORDS") (keptw.map V.str)
section
variable {P : Program} {w : World} {K : PySem.W.Frag} {mg : PySem.Str → Option Value} {base : Heap}
def ρ0 (N : List PySem.Str) (ds : List D) : List Sl := ds.map Sl.val ++ List.replicate (N.length - ds.length) Sl.un
theorem start_at {N : List PySem.Str} {vs : List V} {i : Nat} {v : V} (h : vs[i]? = some v) : (L2.start N vs)[i]? = some (some v) := by
  have hl := (List.getElem?_eq_some_iff.mp h).1
  unfold L2.start
  rw [List.getElem?_append_left (by rw [List.length_map]; exact hl), List.getElem?_map, h]
  rfl
theorem start_len {N : List PySem.Str} {vs : List V} (h : vs.length ≤ N.length) : (L2.start N vs).length = N.length := by
  unfold L2.start
  rw [List.length_append, List.length_map, List.length_replicate]
  omega
theorem ρ0_len {N : List PySem.Str} {ds : List D} (h : ds.length ≤ N.length) : (ρ0 N ds).length = N.length := by
  unfold ρ0
  rw [List.length_append, List.length_map, List.length_replicate]
  omega
theorem ρ0_at {N : List PySem.Str} {ds : List D} {i : Nat} {l : Sl} (h : (ρ0 N ds)[i]? = some l) : (∃ d, ds[i]? = some d ∧ l = .val d) ∨ l = .un := by
  unfold ρ0 at h
  by_cases hi : i < ds.length
  · rw [List.getElem?_append_left (by rw [List.length_map]; exact hi), List.getElem?_map] at h
    left
    cases q : ds[i]? with
    | none => rw [q] at h; cases h
    | some d =>
      rw [q] at h
      exact ⟨d, rfl, (Option.some.inj h).symm⟩
  · rw [List.getElem?_append_right (by rw [List.length_map]; omega)] at h
    right
    rw [List.getElem?_replicate] at h
    split at h
    · exact (Option.some.inj h).symm
    · cases h
theorem env_start {F : Fm} {B H : Hp} {N : List PySem.Str} {ds : List D} {vs : List V} (b : Bs F B H) (r : RepL F.K B ds vs) (hl : ds.length ≤ N.length) : EnvOk F B H (L2.start N vs) (ρ0 N ds) := by
  have e := r.len
  refine ⟨b, by rw [start_len (by omega), ρ0_len hl], fun i l h => ?_, fun i j l m p h1 h2 o1 o2 _ _ => ?_⟩
  · rcases ρ0_at h with ⟨d, e1, rfl⟩ | rfl
    · obtain ⟨v, e2, e3⟩ := r.get e1
      exact ⟨v, start_at e2, e3⟩
    · trivial
  · rcases ρ0_at h1 with ⟨d, e1, rfl⟩ | rfl <;> cases o1
/-- .. with a first slot of another kind -/
theorem env_start1 {F : Fm} {B H : Hp} {N : List PySem.Str} {ds : List D} {vs : List V} {v0 : V} {l0 : Sl} (b : Bs F B H) (r : RepL F.K B ds vs) (hl : ds.length + 1 ≤ N.length) (h0 : SlOk F B H (some (some v0)) l0) : EnvOk F B H (L2.start N (v0 :: vs)) (l0 :: ρ0 N.tail ds) := by
  have e := r.len
  have hN : N.tail.length = N.length - 1 := List.length_tail
  refine ⟨b, by rw [start_len (by rw [List.length_cons]; omega), List.length_cons, ρ0_len (by omega)]; omega, fun i l h => ?_, fun i j l m p h1 h2 o1 o2 _ _ => ?_⟩
  · cases i with
    | zero =>
      simp at h
      subst h
      rw [start_at (v := v0) rfl]
      exact h0
    | succ i =>
      rw [List.getElem?_cons_succ] at h
      rcases ρ0_at h with ⟨d, e1, rfl⟩ | rfl
      · obtain ⟨v, e2, e3⟩ := r.get e1
        exact ⟨v, start_at (by rw [List.getElem?_cons_succ]; exact e2), e3⟩
      · trivial
  · have z : ∀ (i : Nat) (l : Sl), (l0 :: ρ0 N.tail ds)[i]? = some l → l.isOwn = true → i = 0 := fun i l h o => by
      cases i with
      | zero => rfl
      | succ i =>
        rw [List.getElem?_cons_succ] at h
        rcases ρ0_at h with ⟨d, e1, rfl⟩ | rfl <;> cases o
    rw [z i l h1 o1, z j m h2 o2]
/-! ### a def by its body -/
abbrev Xof (P : Program) (w : World) (K : PySem.W.Frag) (mg : PySem.Str → Option Value) (base : Heap) (N : List PySem.Str) (d : He5.DefA) (cdv : Value) (A : Around) (outer : List Env) (s : Shared) (H : Hp) (E : XK) : Cx := cxOf (L2.CX P w) P w K mg base N d.qual d.scope (d.at_ K) cdv A outer s H E
theorem Wf.fnX (W : Wf P w K mg base) {i : Nat} {d : He5.DefA} (hd : fnl[i]? = some d) {N ps : List PySem.Str} {k : Nat} {S : List D → Wish} (sc : FnScope N ps d.scope) (hb : ∀ fd, FunD K d.name d.qual d.params d.body d.scope (d.dvs K) (d.kws K) (d.at_ K) fd → Binds K fd ps [])
    (len : ∀ ds k X, S ds k X → ds.length = ps.length)
    (hbody : ∀ cdv A outer s H E, Room k (A.deeper (envOfC d.qual d.scope s.heap.objs.size (d.at_ K) cdv)) → ∀ (F : Fm) ds kk X, F.K = K → F.s = none → F.me = none → F.ms = [] → ExOk F X E → S ds kk X → ∃ t, PSs (Xof P w K mg base N d cdv A outer s H E) d.body t ∧ SOk F t (ρ0 N ds) (fun _ => kk .non) kk) :
    FnR P w K mg base (L2.CX P w) (k + 1) (d.at_ K) (spD K S) := by
  obtain ⟨fd, Fn⟩ := W.fn i d hd
  have hpl : ps.length ≤ N.length := by
    have := congrArg List.length sc.pre
    rw [List.length_take] at this
    omega
  have G := Fn.ok (P := P) (w := w) (mg := mg) (base := base) (CX := L2.CX P w) (k := k) (sp := spD K S) sc (fun vs H Q E h => by
    obtain ⟨ds, B, kk, X, _, r, h, _⟩ := h
    rw [r.len]
    exact len ds kk X h) fun cdv A outer s H vs Q E hr h => by
      obtain ⟨ds, B, kk, X, b, r, h, q1, q2⟩ := h
      obtain ⟨t, ht, hS⟩ := hbody cdv A outer s H E hr ⟨K, B, H, none, none, []⟩ ds kk X rfl rfl rfl rfl q2 h
      exact ⟨t, ht, hS B H _ (env_start b r (by rw [len ds kk X h]; exact hpl)) _ (fun ρ' B' H' σ' n _ E' => q1 _ _ B' H' n E'.bs rfl) fun d v B' H' q _ b' r' => q1 d v B' H' q b' r'⟩
  have G2 := G.raw (hb fd Fn) .nil
  exact G2.imp fun vs H Q E h => by
    rw [List.append_nil]
    exact h
/-- the same, its arguments bound in any way -/
theorem Wf.fnDO (W : Wf P w K mg base) {i : Nat} {d : He5.DefA} (hd : fnl[i]? = some d) {N ps : List PySem.Str} {k : Nat} {S : List D → (D → Prop) → Prop} (sc : FnScope N ps d.scope)
    (len : ∀ ds k, S ds k → ds.length = ps.length)
    (hbody : ∀ cdv A outer s H E, Room k (A.deeper (envOfC d.qual d.scope s.heap.objs.size (d.at_ K) cdv)) → ∀ (F : Fm) ds kk, F.K = K → S ds kk → ∃ t, PSs (Xof P w K mg base N d cdv A outer s H E).nox d.body t ∧ SOk F t (ρ0 N ds) (fun _ => kk .non) kk) :
    ∃ fd, FunD K d.name d.qual d.params d.body d.scope (d.dvs K) (d.kws K) (d.at_ K) fd ∧ FnOk P w K mg base (L2.CX P w) (k + 1) (d.at_ K) fd ps (spD K fun ds kk _ => S ds kk) := by
  obtain ⟨fd, Fn⟩ := W.fn i d hd
  have hpl : ps.length ≤ N.length := by
    have := congrArg List.length sc.pre
    rw [List.length_take] at this
    omega
  exact ⟨fd, Fn, Fn.ok (P := P) (w := w) (mg := mg) (base := base) (CX := L2.CX P w) (k := k) (sp := spD K fun ds kk _ => S ds kk) sc (fun vs H Q E h => by
    obtain ⟨ds, B, kk, X, _, r, h, _⟩ := h
    rw [r.len]
    exact len ds kk h) fun cdv A outer s H vs Q E hr h => by
      obtain ⟨ds, B, kk, X, b, r, h, q1, q2⟩ := h
      obtain ⟨t, ht, hS⟩ := hbody cdv A outer s H E hr ⟨K, B, H, none, none, []⟩ ds kk rfl h
      exact ⟨t, ht.nox, hS B H _ (env_start b r (by rw [len ds kk h]; exact hpl)) _ (fun ρ' B' H' σ' n _ E' => q1 _ _ B' H' n E'.bs rfl) fun d v B' H' q _ b' r' => q1 d v B' H' q b' r'⟩⟩
/-- no exception leaves it -/
theorem Wf.fnD (W : Wf P w K mg base) {i : Nat} {d : He5.DefA} (hd : fnl[i]? = some d) {N ps : List PySem.Str} {k : Nat} {S : List D → (D → Prop) → Prop} (sc : FnScope N ps d.scope) (hb : ∀ fd, FunD K d.name d.qual d.params d.body d.scope (d.dvs K) (d.kws K) (d.at_ K) fd → Binds K fd ps [])
    (len : ∀ ds k, S ds k → ds.length = ps.length)
    (hbody : ∀ cdv A outer s H E, Room k (A.deeper (envOfC d.qual d.scope s.heap.objs.size (d.at_ K) cdv)) → ∀ (F : Fm) ds kk, F.K = K → S ds kk → ∃ t, PSs (Xof P w K mg base N d cdv A outer s H E).nox d.body t ∧ SOk F t (ρ0 N ds) (fun _ => kk .non) kk) :
    FnR P w K mg base (L2.CX P w) (k + 1) (d.at_ K) (spD K fun ds kk _ => S ds kk) :=
  W.fnX hd sc hb (fun ds k X h => len ds k h) fun cdv A outer s H E hr F ds kk X hF _ _ _ _ h => by
    obtain ⟨t, h1, h2⟩ := hbody cdv A outer s H E hr F ds kk hF h
    exact ⟨t, h1.nox, h2⟩
/-- its first argument the source -/
theorem Wf.fnS (W : Wf P w K mg base) {i : Nat} {d : He5.DefA} (hd : fnl[i]? = some d) {N ps : List PySem.Str} {k : Nat} {S : List D → (D → Prop) → Prop} (sc : FnScope N ps d.scope) (hb : ∀ fd, FunD K d.name d.qual d.params d.body d.scope (d.dvs K) (d.kws K) (d.at_ K) fd → Binds K fd ps [])
    (len : ∀ ds k, S ds k → ds.length + 1 = ps.length)
    (hbody : ∀ cdv A outer s H E, Room k (A.deeper (envOfC d.qual d.scope s.heap.objs.size (d.at_ K) cdv)) → ∀ (F : Fm) p ds kk, F.K = K → F.s = some p → S ds kk → ∃ t, PSs (Xof P w K mg base N d cdv A outer s H E).nox d.body t ∧ SOk F t (.src p :: ρ0 N.tail ds) (fun _ => kk .non) kk) :
    FnR P w K mg base (L2.CX P w) (k + 1) (d.at_ K) (spS K S) := by
  obtain ⟨fd, Fn⟩ := W.fn i d hd
  have hpl : ps.length ≤ N.length := by
    have := congrArg List.length sc.pre
    rw [List.length_take] at this
    omega
  have G := Fn.ok (P := P) (w := w) (mg := mg) (base := base) (CX := L2.CX P w) (k := k) (sp := spS K S) sc (fun vs H Q E h => by
    obtain ⟨s, vs', ds, B, kk, rfl, _, r, h, _⟩ := h
    rw [List.length_cons, r.len]
    exact len ds kk h) fun cdv A outer s H vs Q E hr h => by
      obtain ⟨p, vs', ds, B, kk, rfl, b, r, h, q1⟩ := h
      obtain ⟨t, ht, hS⟩ := hbody cdv A outer s H E hr ⟨K, B, H, some p, none, []⟩ p ds kk rfl rfl h
      obtain ⟨s1, s2, s3⟩ := b.src p rfl
      exact ⟨t, ht.nox, hS B H _ (env_start1 b r (by rw [len ds kk h]; exact hpl) ⟨rfl, s1, s2, by
        unfold hid
        exact if_pos (.inl rfl), (fun z => by cases z), rfl⟩) _ (fun ρ' B' H' σ' n _ E' => q1 _ _ B' H' n E'.bs rfl) fun d v B' H' q _ b' r' => q1 d v B' H' q b' r'⟩
  have G2 := G.raw (hb fd Fn) .nil
  exact G2.imp fun vs H Q E h => by
    rw [List.append_nil]
    exact h
/-- an __init__: self in slot 0; dd its defaults -/
theorem Wf.fnI (W : Wf P w K mg base) {i : Nat} {d : He5.DefA} (hd : fnl[i]? = some d) {N ps : List PySem.Str} {k : Nat} {c : PySem.Str} {S : List D → (List PySem.Str → List D → Prop) → Prop} (sc : FnScope N ps d.scope)
    (len : ∀ ds k, S ds k → ds.length + 1 = ps.length)
    (hbody : ∀ cdv A outer s H E, Room k (A.deeper (envOfC d.qual d.scope s.heap.objs.size (d.at_ K) cdv)) → ∀ (F : Fm) p ds kk, F.K = K → F.me = some p → S ds kk → ∃ t, PSs (Xof P w K mg base N d cdv A outer s H E).nox d.body t ∧ SOk F t (.ins p c [] [] :: ρ0 N.tail ds) (fun ρ => ∃ ns xs, ρ[0]? = some (.ins p c ns xs) ∧ kk ns xs) (fun _ => False)) :
    ∃ fd, FunD K d.name d.qual d.params d.body d.scope (d.dvs K) (d.kws K) (d.at_ K) fd ∧ FnOk P w K mg base (L2.CX P w) (k + 1) (d.at_ K) fd ps (spI K c S) := by
  obtain ⟨fd, Fn⟩ := W.fn i d hd
  have hpl : ps.length ≤ N.length := by
    have := congrArg List.length sc.pre
    rw [List.length_take] at this
    omega
  refine ⟨fd, Fn, Fn.ok (P := P) (w := w) (mg := mg) (base := base) (CX := L2.CX P w) (k := k) (sp := spI K c S) sc (fun vs H Q E h => by
    obtain ⟨x, dx, vs', ds, B, kk, rfl, _, _, _, r, h, _⟩ := h
    rw [List.length_cons, r.len]
    exact len ds kk h) fun cdv A outer s H vs Q E hr h => ?_⟩
  obtain ⟨p, dx, vs', ds, B, kk, rfl, hx, hB, b, r, h, q1⟩ := h
  obtain ⟨t, ht, hS⟩ := hbody cdv A outer s H E hr ⟨K, B, H, none, some p, []⟩ p ds kk rfl rfl h
  refine ⟨t, ht.nox, hS B H _ (env_start1 b r (by rw [len ds kk h]; exact hpl) ⟨dx, [], rfl, hx, hB, rfl, rfl, RepL.nil⟩) _ (fun ρ' B' H' σ' n _ E' => ?_) fun d v B' H' q => q.elim⟩
  obtain ⟨ns, xs, e, n⟩ := n
  obtain ⟨dx', us, _, h2, h3, _, h5, h6⟩ := E'.at_ 0 _ e
  exact q1 ns xs us dx' B' H' n E'.bs h3 h2 h5 h6
theorem Wf.kc2 (W : Wf P w K mg base) {c f : PySem.Str} (h : (c, f) ∈ kcl) : KC K c f := W.kc (c, f) h
theorem Wf.fnc (W : Wf P w K mg base) {i j : Nat} {d : He5.DefA} (hd : fnl[i]? = some d) {x : PySem.Str} {k : Nat} {sp : Sp} (ha : ∀ K, d.at_ K = He.ga K x) (hx : glol[j]? = some x) (h : FnR P w K mg base (L2.CX P w) k (d.at_ K) sp) : Fnc P w K mg base k x sp := by
  obtain ⟨fd, Fn⟩ := W.fn i d hd
  have kp := Fn.kp
  rw [ha K] at h kp
  exact ⟨h, W.glo j x hx, kp⟩
/-- a class from its __init__, all its parameters written -/
theorem kls_of (W : Wf P w K mg base) {j : Nat} {c : PySem.Str} {k : Nat} {sp : Sp} {fd : FuncData} {ps : List PySem.Str} {f : Addr} (hf : f = He.ma K (He.ga K c) "__init__") (hx : mg c = some (.ref (He.ga K c))) (hc : clsl[j]? = some c) (G : FnOk P w K mg base (L2.CX P w) k f fd ps sp) (hb : Binds K fd ps []) : Kls P w K mg base k c sp := by
  subst hf
  exact ⟨(G.raw hb .nil).imp fun vs H Q E h => by
    rw [List.append_nil]
    exact h, W.mkr j c hc, hx⟩
end
end K33
namespace K33
open PySem PySem.Spec PyProof.Rows L2 He
/-! ### the tests -/
def insB (K : PySem.W.Frag) (c : PySem.Str) : Bool := eqO (PySem.W.findIn K (.ref (He.ga K c)) "__class__") (some (some (.builtin "object.__class__"))) && (eqO (PySem.W.specialIn K (.builtin "object.__class__") "__get__") (some (some (.builtin "getset_descriptor.__get__"))) && (decide (PySem.W.takesIn K (.builtin "object.__class__") = some true) && (decide (PySem.W.mroIn K (He.ga K c) (.type "object") = some true) && decide (PySem.W.kitOne K (.ref (He.ga K c)) (.ref (He.ga K c)) = some true))))
theorem insB_ok {K : PySem.W.Frag} {c : PySem.Str} (h : insB K c = true) : InsC K c := by
  obtain ⟨h1, h⟩ := ba h
  obtain ⟨h2, h⟩ := ba h
  obtain ⟨h3, h⟩ := ba h
  obtain ⟨h4, h5⟩ := ba h
  exact ⟨eqO_ok h1, eqO_ok h2, of_decide_eq_true h3, of_decide_eq_true h4, of_decide_eq_true h5⟩
def osubB (K : PySem.W.Frag) (C f : Addr) : Bool := eqO (PySem.W.findIn K (.ref C) "__getitem__") (some (some (.ref f))) && (PySem.W.fnIn K f && PySem.W.isFn K (.ref f))
theorem osubB_ok {K : PySem.W.Frag} {C f : Addr} (h : osubB K C f = true) : OwnSub K C f := by
  obtain ⟨h1, h⟩ := ba h
  obtain ⟨h2, h3⟩ := ba h
  exact ⟨eqO_ok h1, h2, h3⟩
def olenB (K : PySem.W.Frag) (C f : Addr) : Bool := eqO (PySem.W.findIn K (.ref C) "__len__") (some (some (.ref f))) && PySem.W.isFn K (.ref f)
def oaddB (K : PySem.W.Frag) (C f : Addr) : Bool := PySem.W.selfFirst K C && (eqO (PySem.W.findIn K (.ref C) "__add__") (some (some (.ref f))) && PySem.W.isFn K (.ref f))
theorem oaddB_ok {K : PySem.W.Frag} {C f : Addr} (h : oaddB K C f = true) : OwnBin K C f .Add := by
  obtain ⟨h1, h⟩ := ba h
  obtain ⟨h2, h3⟩ := ba h
  exact ⟨h1, eqO_ok h2, h3⟩
/-- the first of a record is a function's address -/
def recB (K : PySem.W.Frag) (p : Addr) (T : String) : Bool := match PySem.W.recIn K p T with
  | some (.ref _ :: _) => true
  | _ => false
def propB (K : PySem.W.Frag) (C : Addr) (f : PySem.Str) (p : Addr) : Bool := eqO (PySem.W.findIn K (.ref C) f) (some (some (.ref p))) && (eqO (PySem.W.specialIn K (.ref p) "__get__") (some (some (.builtin "property.__get__"))) && (decide (PySem.W.takesIn K (.ref p) = some true) && recB K p "property"))
theorem propB_ok {K : PySem.W.Frag} {c f : PySem.Str} (h : propB K (He.ga K c) f (He.ma K (He.ga K c) f) = true) : PropOf K (He.ga K c) f (He.ma K (He.ga K c) f) (prAt c f K) := by
  obtain ⟨h1, h⟩ := ba h
  obtain ⟨h2, h⟩ := ba h
  obtain ⟨h3, h4⟩ := ba h
  refine ⟨eqO_ok h1, eqO_ok h2, of_decide_eq_true h3, ?_⟩
  unfold recB at h4
  unfold prAt
  split at h4
  · rename_i g r e
    exact ⟨r, by rw [e]⟩
  · cases h4
def creadB (K : PySem.W.Frag) (C : Addr) : Bool := PySem.W.readsIn K C (.type "type") && eqO (PySem.W.specialIn K (.ref C) "__getattribute__") (some (some (.builtin "type.__getattribute__")))
theorem creadB_ok {K : PySem.W.Frag} {C : Addr} (h : creadB K C = true) : ClX.CRead K C (.type "type") := by
  obtain ⟨h1, h2⟩ := ba h
  exact ⟨h1, eqO_ok h2⟩
def cmetB (K : PySem.W.Frag) (c m : PySem.Str) : Bool := creadB K (He.ga K c) && (He5.wrapB K (He.ga K c) "classmethod" "classmethod.__get__" m && PySem.W.fnIn K (cmAt c m K))
theorem cmetB_ok {K : PySem.W.Frag} {c m : PySem.Str} (h : cmetB K c m = true) : ∃ mc, ClX.CRead K (He.ga K c) mc ∧ ClX.CMet K (He.ga K c) mc m (He.ma K (He.ga K c) m) (cmAt c m K) := by
  obtain ⟨h1, h⟩ := ba h
  obtain ⟨h2, h3⟩ := ba h
  exact ⟨_, creadB_ok h1, He5.cmet_of h2 h3⟩
def oexB (K : PySem.W.Frag) (C : Addr) : Bool := match K.lookup C with
  | some ⟨.type t, _, .cls cd, sl⟩ => decide (t = "type") && (cd.hasDict && (!cd.hasDel && ((match cd.mro with
    | .ref C' :: bm => decide (C' = C) && PySem.HandSPX.refsVE bm
    | _ => false) && (match sl.toList with
    | [_, _, _, _, some (.builtin n), _] => decide (n = "ValueError.__new__")
    | _ => false))))
  | _ => false
theorem oexB_ok {K : PySem.W.Frag} {C : Addr} (h : oexB K C = true) : ∃ nm q N bs bm sn sub ab col dd k0 k1 k2 k3 k5, K.lookup C = some (excClassObj nm q C N bs bm true sn sub ab col dd k0 k1 k2 k3 k5 "ValueError.__new__") ∧ PySem.HandSPX.refsVE bm = true := by
  unfold oexB at h
  cases q : K.lookup C with
  | none =>
    rw [q] at h
    cases h
  | some o =>
    obtain ⟨oc, od, dt, sl⟩ := o
    rw [q] at h
    cases oc with
    | type t =>
      cases dt with
      | cls cd =>
        obtain ⟨h1, h⟩ := ba h
        obtain ⟨h2, h⟩ := ba h
        obtain ⟨h3, h⟩ := ba h
        obtain ⟨h4, h5⟩ := ba h
        have e1 : t = "type" := of_decide_eq_true h1
        subst e1
        obtain ⟨n1, n2, n3, n4, n5, n6, n7, n8, n9, n10, n11⟩ := cd
        have e2 : n6 = true := h2
        have e3 : n11 = false := by
          cases n11 with
          | false => rfl
          | true => cases h3
        subst e2 e3
        obtain ⟨l⟩ := sl
        split at h4
        · rename_i C' bm em
          obtain ⟨h6, h7⟩ := ba h4
          have e4 : C' = C := of_decide_eq_true h6
          subst e4
          split at h5
          · rename_i k0 k1 k2 k3 n k5 el
            have e5 : n = "ValueError.__new__" := of_decide_eq_true h5
            subst e5
            have em' : n3 = .ref C' :: bm := em
            have el' : l = [k0, k1, k2, k3, some (.builtin "ValueError.__new__"), k5] := el
            subst em' el'
            exact ⟨_, _, _, _, bm, _, _, _, _, _, k0, k1, k2, k3, k5, rfl, h7⟩
          · cases h5
        · cases h4
      | _ => cases h
    | _ => cases dt <;> cases h
def errB (K : PySem.W.Frag) (c : PySem.Str) : Bool := oexB K (He.ga K c) && (eqO (PySem.W.findIn K (.ref (He.ga K c)) "__setattr__") (some (some (.builtin "object.__setattr__"))) && (decide (PySem.W.subIn K (.ref (He.ga K c)) (.type "BaseException") = some true) && (decide (PySem.W.typeIn K (.ref (He.ga K c)) = some (.type "type")) && (PySem.W.keepIn K (.ref (He.ga K c)) &&
  (xfB K (He.ga K c) && (eqO (PySem.W.findIn K (.ref (He.ga K c)) "__class__") (some (some (.builtin "object.__class__"))) && (eqO (PySem.W.specialIn K (.builtin "object.__class__") "__get__") (some (some (.builtin "getset_descriptor.__get__"))) && (decide (PySem.W.takesIn K (.builtin "object.__class__") = some true) && (decide (PySem.W.mroIn K (He.ga K c) (.type "object") = some true) &&
  (eqO (PySem.W.findIn K (.ref (He.ga K c)) "__init__") (some (some (.ref (He.ma K (He.ga K c) "__init__")))) && (decide (PySem.W.typeIn K (.ref (He.ma K (He.ga K c) "__init__")) = some (.type "function")) && (decide (PySem.W.exmOne K (.ref (He.ga K c)) (.ref (He.ga K c)) = some true) && (decide (PySem.W.kitOne K (.ref (He.ga K c)) (.ref (He.ga K "DaysError")) = some true) && eqO (PySem.W.findIn K (.ref (He.ga K c)) "number") (some none))))))))))))))
theorem errB_ok {K : PySem.W.Frag} {c : PySem.Str} (h : errB K c = true) : ErrC K c := by
  obtain ⟨h1, h⟩ := ba h
  obtain ⟨h2, h⟩ := ba h
  obtain ⟨h3, h⟩ := ba h
  obtain ⟨h4, h⟩ := ba h
  obtain ⟨h5, h⟩ := ba h
  obtain ⟨h6, h⟩ := ba h
  obtain ⟨h7, h⟩ := ba h
  obtain ⟨h8, h⟩ := ba h
  obtain ⟨h9, h⟩ := ba h
  obtain ⟨h10, h⟩ := ba h
  obtain ⟨h11, h⟩ := ba h
  obtain ⟨h12, h⟩ := ba h
  obtain ⟨h13, h⟩ := ba h
  obtain ⟨h14, h15⟩ := ba h
  have X := xfB_ok h6
  exact ⟨⟨oexB_ok h1, eqO_ok h2, of_decide_eq_true h3, of_decide_eq_true h4, h5⟩, X, ⟨X.ga, X.gg, X.exC, X.hdC, eqO_ok h7, eqO_ok h8, of_decide_eq_true h9, of_decide_eq_true h10⟩, eqO_ok h11, of_decide_eq_true h12, of_decide_eq_true h13, of_decide_eq_true h14, eqO_ok h15⟩
def deiB (K : PySem.W.Frag) (D : Addr) : Bool := creadB K D && (match PySem.W.findCls K (.ref D) (.type "type") "__init__" with
  | some (.val (.builtin g)) => decide (g = "ValueError.__init__")
  | _ => false)
theorem deiB_ok {K : PySem.W.Frag} {D : Addr} (h : deiB K D = true) : ∃ mc, DeI K D mc := by
  obtain ⟨h1, h2⟩ := ba h
  refine ⟨_, creadB_ok h1, ?_⟩
  split at h2
  · rename_i g e
    rw [e, of_decide_eq_true h2]
  · cases h2
/-! ### all of them -/
def fal : List He.Fa := glol.map He.Fa.glo ++ (freel.map He.Fa.free ++ (intl.map (fun p => He.Fa.int p.1 p.2) ++ (strl.map (fun p => He.Fa.str p.1 p.2) ++ (clsl.map He.Fa.cls ++ (clsl.map He.Fa.mkr ++ (methl.map (fun p => He.Fa.meth p.1 p.2) ++ kcl.map fun p => He.Fa.noat p.1 p.2))))))
def moreB (K : PySem.W.Frag) : Bool := clsl.all (insB K) && (osubB K (He.ga K "Book") (He.ma K (He.ga K "Book") "__getitem__") && (olenB K (He.ga K "Book") (He.ma K (He.ga K "Book") "__len__") && (oaddB K (He.ga K "Verdicts") (He.ma K (He.ga K "Verdicts") "__add__") && (propB K (He.ga K "Book") "first_need_not" (He.ma K (He.ga K "Book") "first_need_not") &&
  (cmetB K "Saying" "of_days" && (cmetB K "Verdicts" "none" && (valsB K (He.ga K "COUNTS") (cntl.map fun p => (p.1, He.Dv.int p.2)) && (excl.all (errB K) && (deiB K (He.ga K "DaysError") && tupB K "KEPT_WORDS" (keptw.map He.Dv.str))))))))))
def factsB (K : PySem.W.Frag) : Bool := fal.all (fun f => f.ok K) && (fnl.all (fun d => d.ok K) && moreB K)
def lawp : He.Defn := ("law", none)
/-- what is looked at -/
abbrev AlW : Type := Bool × List He.FnW × Option (List (Option (PySem.Str × Int)))
/-- where the objects stand that are looked at -/
def asl0 : List Addr := [27, 28, 34, 35, 43, 44, 45, 46, 213, 214, 215, 216, 217, 232, 233, 234, 235, 236, 263, 264, 270, 271, 277, 278, 289, 290, 294, 295, 299, 300, 304, 305, 306, 307, 308, 309]
def asl1 : List Addr := [310, 318, 319, 320, 326, 327, 333, 334, 342, 348, 349, 350, 356, 357, 358, 359, 360, 366, 367, 373, 374, 380, 381, 387, 388, 389, 390, 391, 392, 393, 408, 409, 415, 416, 417, 418]
def asl2 : List Addr := [419, 425, 426, 432, 433, 439, 440, 441, 442, 443, 444, 445, 453, 454, 460, 461, 467, 468, 474, 475, 479, 480, 484, 485, 489, 490, 494, 495, 499, 500, 504, 505, 506, 519, 520, 521]
def asl3 : List Addr := [522, 523, 524, 525, 533, 534, 538, 539, 545, 546, 550, 551, 555, 556, 562, 563, 569, 570, 576, 577, 578, 584, 585, 598, 599, 605, 606, 612, 613, 619, 620, 626, 627, 633, 634, 640]
def asl4 : List Addr := [641, 647, 648, 649, 650, 651, 652, 653, 675, 676, 682, 683, 689, 690, 696, 697, 703, 704, 710, 711, 717, 718, 719, 725, 726, 730, 731, 735, 736, 737, 738, 739, 740, 741, 749, 750]
def asl5 : List Addr := [756, 757, 763, 764, 770, 771, 777, 778, 784, 785, 791, 792, 796, 797, 801, 802, 808, 809, 813, 814, 820, 821, 825, 826, 832, 833, 839, 840, 846, 847, 853, 854, 858, 859, 865, 866]
def asl6 : List Addr := [870, 871, 877, 878, 884, 885, 889, 890, 896, 897, 903, 904, 910, 911, 917, 918, 922, 923, 927, 928, 932, 933, 937, 938, 942, 943, 949, 950, 954, 955, 959, 960, 966, 967]
def asl : List Addr := mainGlobals :: cStatics :: (asl0 ++ asl1 ++ asl2 ++ asl3 ++ asl4 ++ asl5 ++ asl6)
def partW (g : Addr → Option Obj) : PySem.W.Frag := frT g asl
def obsW (g : Addr → Option Obj) : AlW := (factsB (partW g) && tabsB g [lawp] (partW g), fnl.map (fun d => He5.fnA (partW g) (d.at_ (partW g))), dicW (partW g) (He.ga (partW g) "COUNTS"))
def valW (w : World) : AlW := (true, fnl.map He5.DefA.val, some (keysIn w.params (cntl.map (·.1))))
structure SaysW (w : World) (h : Heap) (K : PySem.W.Frag) : Prop where
  b : factsB K = true
  f : fnl.map (fun d => He5.fnA K (d.at_ K)) = fnl.map He5.DefA.val
  c : dicW K (He.ga K "COUNTS") = some (keysIn w.params (cntl.map (·.1)))
  hd : PySem.W.codeHdIn K (cT K lawp).1 (cT K lawp).2 = true
  out : K.lookup (cT K lawp).2 = none
  empty : h.get? (cT K lawp).2 = some { cls := .none, data := .fields #[] }
theorem saysW_of {w : World} {h : Heap} (e : obsW h.get? = valW w) : SaysW w h (partW h.get?) := by
  obtain ⟨e1, e2⟩ := Prod.mk.inj e
  obtain ⟨e2, e3⟩ := Prod.mk.inj e2
  obtain ⟨h1, h2⟩ := ba e1
  have h3 := List.all_eq_true.mp h2 lawp (List.mem_singleton.mpr rfl)
  obtain ⟨h4, h5⟩ := ba h3
  cases q : h.get? (cT (partW h.get?) lawp).2 with
  | none =>
    rw [q] at h5
    cases h5
  | some o =>
    rw [q] at h5
    exact ⟨h1, e2, e3, h4, frT_none q h5, by rw [q, emptyTab_eq h5]⟩
def hookW : PySem.W.Hook where
  α := AlW
  obs := fun s => obsW s.heap.get?
  val := valW
  says := fun w h => ∃ K : PySem.W.Frag, K.In h ∧ SaysW w h K
  of := fun _ _ e => ⟨_, frT_in, saysW_of e⟩
  keeps := fun _ _ _ ⟨K, hK, c⟩ k => ⟨K, PySem.W.Frag.In.keeps hK k, ⟨c.b, c.f, c.c, c.hd, c.out, k _ _ c.empty⟩⟩
theorem obsW_eq {g : Addr → Option Obj} {s : Shared} (h : ∀ a, g a = s.heap.get? a) : obsW g = hookW.obs s := by
  have e : g = s.heap.get? := funext h
  rw [e] <;> rfl
end K33
set_option maxHeartbeats 0
namespace K33
open PySem PySem.W PySem.Calls PyProof.Rows
abbrev R : OpenRow := OpenLaw.row PySem.Challenge.rw_usualdays_k33_whole_derivations_made
abbrev qv : Program := view R.prog [103]
def names0 : List PySem.Str := ["_wall", "set_of", "within", "DaysError", "BadMarks", "NoMark", "NoDay", "BadSaying", "BadVerdicts", "BadBook", "NoSaying", "BadLot", "OtherDays", "NeedNot", "BadStart", "is_whole", "HIGHEST", "all_sayings", "first_reason", "Lifting", "lifting_of", "lifted_layers", "check_saying_days", "ALL_BITS", "LAST_DAY", "Saying", "Verdicts", "verdicts_of", "joined", "sharper"]
def names1 : List PySem.Str := ["check_all_usual", "lots_of", "holds", "is_sharp", "widest_lot", "sharp_lot", "sharp_lots", "COUNTS", "Step", "join_of", "derivation", "narrowed", "resting", "has_right_lines", "is_same", "follows", "derivation_fault", "LETTERS", "KEPT_WORDS", "MOST_MARKS", "LONGEST_NAME", "name_fault", "Marks", "MOST_SAYINGS", "check_lot", "Book", "_law_source", "_law_draw", "_law_pick", "_law_all_levels"]
def names2 : List PySem.Str := ["_law_normal", "_law_kept", "_law_keeps", "_law_levels_of", "_law_guide", "_law_one", "_law_rows", "_law_saying", "_law_book", "_law_is_number", "_law_refuses", "_law_joined", "_law_sharp", "_law_all_lots", "_law_blunter", "_law_asked", "_law_need_not", "_law_ratio", "_law_weight", "_law_doubt", "_law_drawn_weights", "_law_sum_of", "_law_follows", "_law_first_wrong", "_law_rests", "_law_yielded", "_law_sound", "_law_shape", "_law_right", "_law_made"]
def names3 : List PySem.Str := ["_law_all_needed"]
def names : List PySem.Str := names0 ++ names1 ++ names2 ++ names3
def ob (s : PySem.W.SharedT) : AlW := obsW (HandSHeadRun.getT s)
theorem ob_eq (s : PySem.W.SharedT) : ob s = hookW.obs s.abs := obsW_eq (HandSHeadRun.getT_eq s)
/-- the row from the run and the walk -/
theorem holds_of_walk (run : ∀ w, HandSHeadRun.RunEq R qv hookW ob 12000 names w) (hc : WalkO qv names (XL qv []) hookW.says (OpenLaw.row PySem.Challenge.rw_usualdays_k33_whole_derivations_made).toRowW (HandSHeadRun.topDef (OpenLaw.row PySem.Challenge.rw_usualdays_k33_whole_derivations_made).prog 103) [] fun f vs => PySem.call f vs) : PySem.Challenge.rw_usualdays_k33_whole_derivations_made.Holds := by
  w_on; o_law
  refine HandSHeadRun.head_any (r := OpenLaw.row PySem.Challenge.rw_usualdays_k33_whole_derivations_made) (q := qv) (H := hookW) (ob := ob) (M := 12000) (loose := names) (d := HandSHeadRun.topDef (OpenLaw.row PySem.Challenge.rw_usualdays_k33_whole_derivations_made).prog 103) (kwd := []) ob_eq
    (by kernel_rfl) (fun s => by kernel_rfl) run (by kernel_rfl) (by kernel_rfl) (by kernel_rfl) (by rfl) (by first | assumption | decide +kernel) (by decide +kernel) ⟨rfl, rfl, rfl, rfl, rfl, by decide +kernel⟩ ?hw hc
  case hw => w_witness2
theorem law_name : (HandSHeadRun.topDef (OpenLaw.row PySem.Challenge.rw_usualdays_k33_whole_derivations_made).prog 103).name = ("law" : PySem.Str) := by kernel_rfl
theorem law_plain : (HandSHeadRun.topDef (OpenLaw.row PySem.Challenge.rw_usualdays_k33_whole_derivations_made).prog 103).params.defaults = [] := by kernel_rfl
end K33
set_option maxHeartbeats 4000000
set_option maxHeartbeats 0
namespace K33
open PySem PySem.W PySem.Calls PyProof.Rows
theorem runF (w : World) : HandSHeadRun.RunEq R qv hookW ob 12000 names (w.withFollow "special-get-raises" false) := by
  intro os
  kernel_rfl
theorem runT (w : World) : HandSHeadRun.RunEq R qv hookW ob 12000 names (w.withFollow "special-get-raises" true) := by
  intro os
  kernel_rfl
theorem run (w : World) : HandSHeadRun.RunEq R qv hookW ob 12000 names w := byRow2 "special-get-raises" (P := fun w => HandSHeadRun.RunEq R qv hookW ob 12000 names w) runF runT w
end K33
set_option maxHeartbeats 4000000
namespace K33
open PySem PySem.Spec PyProof.Rows L2
section
variable {X : Cx}
theorem pe_gi {x : PySem.Str} {i : Int} {pos : Pos} (hg : Gl X x) (hm : ∃ t, X.mg x = some (.int i t)) (hd : (x == ("__debug__" : PySem.Str)) = false := by decide) : PE X (.Name x pos) (tC (.int i)) := by
  obtain ⟨t, e⟩ := hm
  exact pe_glob hg e ⟨t, rfl⟩ hd
theorem pe_gs {x : PySem.Str} {i : PySem.Str} {pos : Pos} (hg : Gl X x) (hm : ∃ t, X.mg x = some (.str i t)) (hd : (x == ("__debug__" : PySem.Str)) = false := by decide) : PE X (.Name x pos) (tC (.str i)) := by
  obtain ⟨t, e⟩ := hm
  exact pe_glob hg e ⟨t, rfl⟩ hd
/-! ### isinstance -/
def rIsX (K : PySem.W.Frag) : List V → Hp → VK → Prop := fun xs H Q => rIsi K xs H Q ∨ rIsiT K xs H Q
theorem cr_isX : CallR X (.builtin "isinstance") (rIsX X.K) := CallR.or call_isi call_isiT
/-! ### o.f, a property told by a positional promise -/
theorem pe_propR {k j : Nat} {C p g : Addr} {f : PySem.Str} {sp : Sp} {E : XK} {e : Expr} {pos : Pos} {ta : TE} (he : PE X e ta) (c : Cls X.K C) (hp : PropOf X.K C f p g) (F : FnR X.prog X.w X.K X.mg X.base (L2.CX X.prog X.w) k g sp) (hr : Room j X.A) (hk : k + 1 ≤ j) (hx : Passes (L2.CX X.prog X.w) X.nox E)
    (hab : attributeBase e f X.env (eval e X.env) = eval e X.env) : PE X (.Attribute e f pos) (tProp C sp [] E ta) := by
  refine ⟨fun pins s σ H Q I h => ?_⟩
  refine attr_of hab (thn (he.run pins s σ H _ I h) fun u s1 ⟨x, H1, I1, rx, a, dx, fs, ex, ea, q⟩ => ?_)
  subst ex
  obtain rfl : u = Value.ref a := rx
  obtain ⟨mA, O, _, _, _, _⟩ := ins_get I1.hok ea
  obtain ⟨od, J, _⟩ := O.look
  obtain ⟨rest, hrec⟩ := hp.rec_
  have I2 := I1.tok (s1.toks + 1)
  refine PySem.W.get_bind I1.kIn J (PySem.W.plainGet_of (c.get f)).1 (PySem.W.findObj_data (by
    obtain ⟨cd, hc, _⟩ := PySem.W.any_some c.hd
    rw [hc]
    rfl) hp.at_ hp.get hp.tak) (PySem.W.plainGet_of (c.get f)).2 (wpAny_call (PySem.W.prop_get (s := { s1 with toks := s1.toks + 1 }) I1.kIn hrec ?_))
  refine codeAny_mono (F X.A.in1 X.stack { s1 with toks := s1.toks + 1 } H1 [.ref a] [.ref a] Q E (hr.mono hk).in1 I2.env0.in1 (.cons rfl .nil) q) fun r s' hq => ?_
  match r, hq with
  | .error er, hq => exact False.elim (hx pins σ H1 { s1 with toks := s1.toks + 1 } er s' (I2.wish _) hq)
  | .ok (.ret u), hq =>
    obtain ⟨v, H', I3, rv, q3⟩ := I2.after hq
    show wpAny _ _ (handedOut u) _ _ _
    rw [PySem.W.handedOut_of (handed_of rv)]
    exact wpAny_pure ⟨v, H', I3, rv, q3⟩
/-! ### x in y -/
def rInX (K : PySem.W.Frag) : R2 := fun x y H Q => rIn K false x y H Q ∨ rInS x y H Q
def rNiX (K : PySem.W.Frag) : R2 := fun x y H Q => rIn K true x y H Q ∨ rNotInS x y H Q
theorem op_inX : OpR X (compareOp .In) (rInX X.K) := by
  intro pins s σ H x y v u Q I rx ry h
  rcases h with h | h
  · exact op_in_seq pins s σ H x y v u Q I rx ry h
  · exact op_inS pins s σ H x y v u Q I rx ry h
theorem op_ninX : OpR X (compareOp .NotIn) (rNiX X.K) := by
  intro pins s σ H x y v u Q I rx ry h
  rcases h with h | h
  · exact op_notIn_seq pins s σ H x y v u Q I rx ry h
  · exact op_notInS pins s σ H x y v u Q I rx ry h
end
section
variable {F : Fm} {ρ : List Sl} {k : D → Prop} {kb : Bool → Prop} {ta : TE}
theorem et_truI (h : EvD F ta ρ fun d => ∃ i, d = .int i ∧ kb (i != 0)) : EvT F (fun σ H Q => ta σ H fun x H' => ∃ k, TruV F.K x H' k ∧ Q k H') ρ kb := fun B H σ E Q hQ =>
  h B H σ E _ fun d v B1 H1 ⟨i, ed, q⟩ S1 r1 => by
    subst ed
    cases r1
    exact ⟨_, rfl, hQ _ B1 H1 q S1⟩
theorem et_yes (q : kb true) : EvT F tYes ρ kb := fun B H σ E Q hQ => hQ true B H q (.refl E)
/-! ### isinstance -/
theorem rc_is_int {i : Int} {n : String} {b : Bool} (h : kitB "int" n = some b) (q : k (.bl b)) : ROc F (rIsX F.K) ρ [.int i, .raw (.ty n)] k := rc_v q fun B H vs Q s r hv => by
  obtain ⟨v, t, rfl, h1, u, t', rfl, h2, rfl⟩ := r
  cases h1
  cases h2
  exact .inl ⟨_, _, _, _, b, rfl, .ty n, .base (.int i), kit_ty h, hv _ rfl⟩
theorem rc_is_bl {i : Bool} {n : String} {b : Bool} (h : kitB "bool" n = some b) (q : k (.bl b)) : ROc F (rIsX F.K) ρ [.bl i, .raw (.ty n)] k := rc_v q fun B H vs Q s r hv => by
  obtain ⟨v, t, rfl, h1, u, t', rfl, h2, rfl⟩ := r
  cases h1
  cases h2
  exact .inl ⟨_, _, _, _, b, rfl, .ty n, .base (.bl i), kit_ty h, hv _ rfl⟩
theorem rc_is_str {i : PySem.Str} {n : String} {b : Bool} (h : kitB "str" n = some b) (q : k (.bl b)) : ROc F (rIsX F.K) ρ [.str i, .raw (.ty n)] k := rc_v q fun B H vs Q s r hv => by
  obtain ⟨v, t, rfl, h1, u, t', rfl, h2, rfl⟩ := r
  cases h1
  cases h2
  exact .inl ⟨_, _, _, _, b, rfl, .ty n, .base (.str i), kit_ty h, hv _ rfl⟩
theorem tyx_tup {K : PySem.W.Frag} {H : Hp} {a : Addr} {vs : List V} (h : SqT K H a vs) : TyX K H (.ref a) (.type "tuple") := by
  rcases h with (h | ⟨o, h⟩) | ⟨o, its, n, h, hc, _⟩
  · exact .base (.tup h)
  · exact .fTuple h
  · exact .kTuple h hc
theorem rc_is_tup {xs : List D} {n : String} {b : Bool} (h : kitB "tuple" n = some b) (q : k (.bl b)) : ROc F (rIsX F.K) ρ [.tup xs, .raw (.ty n)] k := rc_v q fun B H vs Q s r hv => by
  obtain ⟨v, t, rfl, ⟨a, us, rfl, h1, _⟩, u, t', rfl, h2, rfl⟩ := r
  cases h2
  exact .inl ⟨_, _, _, _, b, rfl, .ty n, tyx_tup (Same.sqT s h1), kit_ty h, hv _ rfl⟩
/-- isinstance(xs, (list, tuple)) -/
theorem ev_isLT (h : EvD F ta ρ fun d => (∃ xs, d = .lst xs) ∧ k (.bl true)) : EvD F (tCB (rIsX F.K) (tCons ta (tCons (tTup (tCons (tC (.ty "list")) (tCons (tC (.ty "tuple")) tNil))) tNil))) ρ k := fun B H σ E Q hQ =>
  h B H σ E _ fun d v B1 H1 ⟨⟨xs, ed⟩, q⟩ S1 r1 => ⟨by decide, fun p hp => by
    subst ed
    obtain ⟨a, us, rfl, h1, h2⟩ := r1
    have S2 := S1.trans (.new S1.env (.tup [.ty "list", .ty "tuple"]) hp)
    refine .inr ⟨_, p, [.ty "list", .ty "tuple"], _, [.type "list", .type "tuple"], true, rfl, upd_same, .cons (.ty _) (.cons (.ty _) .nil), .base (.lst (xs := us) ?_), kitAny_cons (b := true) (kit_ty (by decide +kernel)) (fun z => by cases z) (fun _ => rfl), hQ _ _ _ _ q S2 rfl⟩
    rw [upd_ne (ne_of_none (S1.env.bs.bh _ _ h1) hp)]
    exact S1.env.bs.bh _ _ h1⟩
theorem rc_is_obj {c : PySem.Str} {ns : List PySem.Str} {xs : List D} (hc : Cls F.K (He.ga F.K c)) (hi : InsC F.K c) (q : k (.bl true)) : ROc F (rIsX F.K) ρ [.obj c ns xs, .raw (.ref (He.ga F.K c))] k := rc_v q fun B H vs Q s r hv => by
  obtain ⟨v, t, rfl, ⟨a, dx, us, rfl, h1, _⟩, u, t', rfl, h2, rfl⟩ := r
  cases h2
  exact .inl ⟨_, _, _, _, true, rfl, .own _, .base (.ins (s _ _ h1) hc hi.ha hi.hn hi.htk hi.hm), hi.one, hv _ rfl⟩
/-! ### in -/
theorem flat_ints {ns : List Int} : (ns.map V.int).all flatV = true := by
  rw [List.all_map]
  exact List.all_eq_true.mpr fun _ _ => rfl
theorem inV_ints {i : Int} {ns : List Int} : inV (.int i) (ns.map V.int) = decide (i ∈ ns) := by
  unfold inV
  rw [List.any_map, Bool.eq_iff_iff, List.any_eq_true, decide_eq_true_iff]
  constructor
  · rintro ⟨y, hy, e⟩
    have e2 : (decide (y = i)) = true := by simpa [eqV] using e
    rw [of_decide_eq_true e2] at hy
    exact hy
  · intro h
    exact ⟨i, h, by simp [eqV]⟩
theorem ro_inT {i : Int} {ns : List Int} (q : k (.bl (decide (i ∈ ns)))) : ROp F (rInX F.K) ρ (.int i) (.tup (ns.map .int)) k := ro_v q fun B H vx vy Q s rx ry hv => by
  cases rx
  obtain ⟨a, us, rfl, h1, h2⟩ := ry
  have := h2.ints
  subst this
  refine .inl ⟨a, _, rfl, .inr (Same.sqT s h1), rfl, flat_ints, ?_⟩
  show Q (.bl (inV _ _)) H
  rw [inV_ints]
  exact hv _ rfl
theorem ro_inL {i : Int} {ns : List Int} (q : k (.bl (decide (i ∈ ns)))) : ROp F (rInX F.K) ρ (.int i) (.lst (ns.map .int)) k := ro_v q fun B H vx vy Q s rx ry hv => by
  cases rx
  obtain ⟨a, us, rfl, h1, h2⟩ := ry
  have := h2.ints
  subst this
  refine .inl ⟨a, _, rfl, .inl (.inl (.inl (s _ _ h1))), rfl, flat_ints, ?_⟩
  show Q (.bl (inV _ _)) H
  rw [inV_ints]
  exact hv _ rfl
theorem ro_niL {i : Int} {ns : List Int} (q : k (.bl (!decide (i ∈ ns)))) : ROp F (rNiX F.K) ρ (.int i) (.lst (ns.map .int)) k := ro_v q fun B H vx vy Q s rx ry hv => by
  cases rx
  obtain ⟨a, us, rfl, h1, h2⟩ := ry
  have := h2.ints
  subst this
  refine .inl ⟨a, _, rfl, .inl (.inl (.inl (s _ _ h1))), rfl, flat_ints, ?_⟩
  show Q (.bl (!inV _ _)) H
  rw [inV_ints]
  exact hv _ rfl
theorem strs_rep {K : PySem.W.Frag} {B : Hp} : ∀ {ns : List PySem.Str} {vs : List V}, RepL K B (ns.map D.str) vs → vs = ns.map V.str
  | [], _, h => h
  | n :: ns, _, h => by
    obtain ⟨v, r, rfl, h2, h3⟩ := h
    show v :: r = V.str n :: ns.map V.str
    rw [show v = V.str n from h2, strs_rep h3]
theorem flat_strs {ns : List PySem.Str} : (ns.map V.str).all flatV = true := by
  rw [List.all_map]
  exact List.all_eq_true.mpr fun _ _ => rfl
theorem inV_strs {i : PySem.Str} {ns : List PySem.Str} : inV (.str i) (ns.map V.str) = decide (i ∈ ns) := by
  unfold inV
  rw [List.any_map, Bool.eq_iff_iff, List.any_eq_true, decide_eq_true_iff]
  constructor
  · rintro ⟨y, hy, e⟩
    have e2 : (decide (y = i)) = true := by simpa [eqV] using e
    rw [of_decide_eq_true e2] at hy
    exact hy
  · intro h
    exact ⟨i, h, by simp [eqV]⟩
theorem ro_inLs {i : PySem.Str} {ns : List PySem.Str} (q : k (.bl (decide (i ∈ ns)))) : ROp F (rInX F.K) ρ (.str i) (.lst (ns.map .str)) k := ro_v q fun B H vx vy Q s rx ry hv => by
  cases rx
  obtain ⟨a, us, rfl, h1, h2⟩ := ry
  have := strs_rep h2
  subst this
  refine .inl ⟨a, _, rfl, .inl (.inl (.inl (s _ _ h1))), rfl, flat_strs, ?_⟩
  show Q (.bl (inV _ _)) H
  rw [inV_strs]
  exact hv _ rfl
/-- x in a written tuple of texts -/
theorem ro_inK {i : PySem.Str} {a : Addr} {ns : List PySem.Str} (hS : ∀ H, SqT F.K H a (ns.map V.str)) (q : k (.bl (decide (i ∈ ns)))) : ROp F (rInX F.K) ρ (.str i) (.raw (.ref a)) k := ro_v q fun B H vx vy Q s rx ry hv => by
  cases rx
  cases ry
  refine .inl ⟨a, _, rfl, .inr (hS H), rfl, flat_strs, ?_⟩
  show Q (.bl (inV _ _)) H
  rw [inV_strs]
  exact hv _ rfl
/-- one sign not in a text -/
theorem ro_niS {c : Nat} {z : PySem.Str} (q : k (.bl (!decide (c ∈ z.cps.toList)))) : ROp F (rNiX F.K) ρ (.str ⟨#[c]⟩) (.str z) k := ro_v q fun B H vx vy Q s rx ry hv => by
  cases rx
  cases ry
  exact .inr ⟨c, z, rfl, rfl, hv _ rfl⟩
end
end K33
namespace K33
open PySem PySem.Spec PyProof.Rows L2
theorem pi_seqK {X : Cx} {K : PySem.W.Frag} {tg l : Expr} {tl : TE} (hK : X.K = K) (hl : PE X l tl) : PI X tg l (iSeq K tl) := by
  subst hK
  exact pi_seq hl
def isUn (ρ : List Sl) (j : Nat) : Bool := match ρ[j]? with
  | some .un => true
  | _ => false
theorem un_of {ρ : List Sl} {vs : List Nat} (h : (vs.all fun j => isUn ρ j) = true) : ∀ j ∈ vs, ρ[j]? = some .un := fun j hj => by
  have e := List.all_eq_true.mp h j hj
  unfold isUn at e
  split at e
  · assumption
  · cases e
theorem mem_of {as : List (Nat × D)} {vs : List Nat} (h : (as.all fun a => vs.contains a.1) = true) : ∀ a ∈ as, a.1 ∈ vs := fun a ha => by
  have e := List.all_eq_true.mp h a ha
  simpa using e
theorem nmem_of {as : List (Nat × D)} {vs : List Nat} (h : (as.all fun a => !vs.contains a.1) = true) : ∀ a ∈ as, a.1 ∉ vs := fun a ha => by
  have e := List.all_eq_true.mp h a ha
  simpa using e
theorem len_ok {α : Type} {l : List α} (h : Nat.ble l.length 100000 = true) : l.length ≤ 100000 := Nat.le_of_ble_eq_true h
/-- a without b -/
def nd (a b : Nat) : Nat := a - (a &&& b)
theorem nd_eq (a b : Nat) : nd a b = a ^^^ (a &&& b) := by
  unfold nd
  have e := Bits.nat_xor_add_and a (a &&& b)
  have e2 : a &&& (a &&& b) = a &&& b := by
    apply Nat.eq_of_testBit_eq
    intro i
    simp only [Nat.testBit_and]
    cases a.testBit i <;> cases b.testBit i <;> rfl
  rw [e2] at e
  omega
theorem nd_bit (a b i : Nat) : (nd a b).testBit i = (a.testBit i && !b.testBit i) := by
  rw [nd_eq]
  simp only [Nat.testBit_and, Nat.testBit_xor]
  cases a.testBit i <;> cases b.testBit i <;> rfl
theorem bAnd (a b : Nat) : Builtin.bitAnd (a : Int) (b : Int) = ((a &&& b : Nat) : Int) := PySem.W.os_band a b
theorem bNot_neg (b : Nat) : ¬ (0 : Int) ≤ Builtin.bitNot (b : Int) := by
  unfold Builtin.bitNot
  omega
theorem bNd (a b : Nat) : Builtin.bitAnd (a : Int) (Builtin.bitNot (b : Int)) = ((nd a b : Nat) : Int) := by
  have h1 : decide ((0 : Int) ≤ (a : Int)) = true := decide_eq_true (Int.natCast_nonneg a)
  have h2 : decide ((0 : Int) ≤ Builtin.bitNot (b : Int)) = false := decide_eq_false (bNot_neg b)
  have h3 : (Builtin.bitNot (Builtin.bitNot (b : Int))).toNat = b := by
    unfold Builtin.bitNot
    omega
  unfold Builtin.bitAnd
  rw [h1, h2]
  show (a : Int) - (((a : Int).toNat &&& (Builtin.bitNot (Builtin.bitNot (b : Int))).toNat : Nat) : Int) = _
  rw [h3]
  unfold nd
  have : a &&& b ≤ a := Nat.and_le_left
  simp only [Int.toNat_natCast]
  omega
theorem bOr (a b : Nat) : Builtin.bitOr (a : Int) (b : Int) = ((a ||| b : Nat) : Int) := by
  have h1 : decide ((0 : Int) ≤ Builtin.bitNot (a : Int)) = false := decide_eq_false (bNot_neg a)
  have h2 : decide ((0 : Int) ≤ Builtin.bitNot (b : Int)) = false := decide_eq_false (bNot_neg b)
  have h3 : ∀ b : Nat, (Builtin.bitNot (Builtin.bitNot (b : Int))).toNat = b := fun b => by
    unfold Builtin.bitNot
    omega
  unfold Builtin.bitOr Builtin.bitAnd
  rw [h1, h2]
  show Builtin.bitNot (Builtin.bitNot (((Builtin.bitNot (Builtin.bitNot (a : Int))).toNat ||| (Builtin.bitNot (Builtin.bitNot (b : Int))).toNat : Nat) : Int)) = _
  rw [h3, h3]
  unfold Builtin.bitNot
  omega
theorem one_shl (k : Nat) : (1 : Int) * 2 ^ ((k : Int)).toNat = ((2 ^ k : Nat) : Int) := by
  simp only [Int.toNat_natCast, Int.one_mul]
  rw [Int.natCast_pow]
  rfl
theorem nat_shr (a k : Nat) : (a : Int) / 2 ^ ((k : Int)).toNat = ((a >>> k : Nat) : Int) := by
  simp only [Int.toNat_natCast]
  rw [Nat.shiftRight_eq_div_pow, Int.natCast_ediv, Int.natCast_pow]
  rfl
/-- a >> k & 1 == 1 -/
theorem bit_test (a k : Nat) : decide (Builtin.bitAnd (((a >>> k : Nat)) : Int) 1 = 1) = a.testBit k := by
  have : (1 : Int) = ((1 : Nat) : Int) := rfl
  rw [this, bAnd, Nat.testBit, Bool.eq_iff_iff, decide_eq_true_iff]
  rw [Nat.and_comm]
  have h := Nat.and_le_left (n := 1) (m := a >>> k)
  constructor
  · intro e
    have e2 : 1 &&& a >>> k = 1 := by exact_mod_cast e
    rw [e2]
    rfl
  · intro e
    have : 1 &&& a >>> k ≠ 0 := by
      intro z
      rw [z] at e
      cases e
    have : 1 &&& a >>> k = 1 := by omega
    exact_mod_cast this
/-- a within b -/
def Sub (a b : Nat) : Prop := ∀ i, a.testBit i = true → b.testBit i = true
theorem nd_zero {a b : Nat} : nd a b = 0 ↔ Sub a b := by
  constructor
  · intro h i hi
    have := nd_bit a b i
    rw [h, Nat.zero_testBit, hi] at this
    simpa using this.symm
  · intro h
    apply Nat.eq_of_testBit_eq
    intro i
    rw [nd_bit, Nat.zero_testBit]
    cases e : a.testBit i with
    | false => rfl
    | true => rw [h i e]; rfl
theorem nd_lt {a b n : Nat} (h : a < 2 ^ n) : nd a b < 2 ^ n := Nat.lt_of_le_of_lt (Nat.sub_le _ _) h
theorem or_lt {a b n : Nat} (h : a < 2 ^ n) (h' : b < 2 ^ n) : a ||| b < 2 ^ n := Nat.or_lt_two_pow h h'
theorem and_lt {a b n : Nat} (h : a < 2 ^ n) : a &&& b < 2 ^ n := Nat.lt_of_le_of_lt Nat.and_le_left h
theorem bits_lt {a n i : Nat} (h : a < 2 ^ n) (hi : a.testBit i = true) : i < n := by
  rcases Nat.lt_or_ge i n with z | z
  · exact z
  · have := Nat.testBit_lt_two_pow (Nat.lt_of_lt_of_le h (Nat.pow_le_pow_right (by decide) z))
    rw [this] at hi
    cases hi
theorem eq_of_bits {a b : Nat} (h : ∀ i, a.testBit i = b.testBit i) : a = b := Nat.eq_of_testBit_eq h
theorem zero_of_nobit {a : Nat} (h : ∀ i, a.testBit i = false) : a = 0 := Nat.eq_of_testBit_eq fun i => by rw [h i, Nat.zero_testBit]
theorem some_bit {a : Nat} (h : a ≠ 0) : ∃ i, a.testBit i = true := by
  refine Classical.byContradiction fun z => h (zero_of_nobit fun i => ?_)
  cases e : a.testBit i with
  | false => rfl
  | true => exact absurd ⟨i, e⟩ z
/-- the lowest day: some set below b -/
theorem low_bit (b : Nat) : ∃ r : Nat, Builtin.bitAnd (b : Int) (-(b : Int)) = (r : Int) ∧ r ≤ b := by
  by_cases hb : b = 0
  · subst hb
    exact ⟨0, rfl, Nat.le_refl _⟩
  · have e : -(b : Int) = Builtin.bitNot ((b - 1 : Nat) : Int) := by
      unfold Builtin.bitNot
      omega
    rw [e, bNd]
    exact ⟨_, rfl, Nat.sub_le _ _⟩
section
variable {F : Fm} {ρ : List Sl} {k : D → Prop}
theorem ro_and_n {a b : Nat} (q : k (.int ((a &&& b : Nat) : Int))) : ROp F (rI0 fun i j => .int (Builtin.bitAnd i j)) ρ (.int (a : Int)) (.int (b : Int)) k := ro_I0 (by rw [bAnd]; exact q)
theorem ro_nd_n {a b : Nat} (q : k (.int ((nd a b : Nat) : Int))) : ROp F (rI0 fun i j => .int (Builtin.bitAnd i j)) ρ (.int (a : Int)) (.int (Builtin.bitNot (b : Int))) k := ro_I0 (by rw [bNd]; exact q)
theorem ro_or_n {a b : Nat} (q : k (.int ((a ||| b : Nat) : Int))) : ROp F (rI0 fun i j => .int (Builtin.bitOr i j)) ρ (.int (a : Int)) (.int (b : Int)) k := ro_I0 (by rw [bOr]; exact q)
theorem ro_shr_n {a b : Nat} (q : k (.int ((a >>> b : Nat) : Int))) : ROp F (rI (fun _ j => 0 ≤ j) fun i j => .int (i / 2 ^ j.toNat)) ρ (.int (a : Int)) (.int (b : Int)) k := ro_I (Int.natCast_nonneg _) (by rw [nat_shr]; exact q)
theorem shl_ok {n : Nat} (h : n < 64) : CPow 1 (n : Int) := ⟨Int.natCast_nonneg _, by omega, by decide⟩
theorem ro_shl_n {b : Nat} (h : b < 64) (q : k (.int ((2 ^ b : Nat) : Int))) : ROp F (rI CPow fun i j => .int (i * 2 ^ j.toNat)) ρ (.int 1) (.int (b : Int)) k := ro_I (shl_ok h) (by rw [one_shl]; exact q)
theorem natz {a : Nat} : decide ((a : Int) = 0) = decide (a = 0) := by
  rw [Bool.eq_iff_iff, decide_eq_true_iff, decide_eq_true_iff]
  omega
theorem ro_eq_0 {a : Nat} (q : k (.bl (decide (a = 0)))) : ROp F (rEqX F.K) ρ (.int (a : Int)) (.int 0) k := ro_eq_i (by rw [natz]; exact q)
theorem ro_ne_0 {a : Nat} (q : k (.bl (!decide (a = 0)))) : ROp F (rNeX F.K) ρ (.int (a : Int)) (.int 0) k := ro_ne_i (by rw [natz]; exact q)
theorem dec_nat {a b : Nat} : decide ((a : Int) = (b : Int)) = decide (a = b) := by
  rw [Bool.eq_iff_iff, decide_eq_true_iff, decide_eq_true_iff]
  omega
theorem ro_eq_n {a b : Nat} (q : k (.bl (decide (a = b)))) : ROp F (rEqX F.K) ρ (.int (a : Int)) (.int (b : Int)) k := ro_eq_i (by rw [dec_nat]; exact q)
theorem ro_ne_n {a b : Nat} (q : k (.bl (!decide (a = b)))) : ROp F (rNeX F.K) ρ (.int (a : Int)) (.int (b : Int)) k := ro_ne_i (by rw [dec_nat]; exact q)
theorem ro_add_n {a b : Nat} (q : k (.int ((a + b : Nat) : Int))) : ROp F (rAddX F.K) ρ (.int (a : Int)) (.int (b : Int)) k := ro_add (by rw [← Int.natCast_add]; exact q)
theorem ro_add_1 {a : Nat} (q : k (.int ((a + 1 : Nat) : Int))) : ROp F (rAddX F.K) ρ (.int (a : Int)) (.int 1) k := ro_add (by exact q)
end
end K33
namespace K33
open PySem PySem.Spec PyProof.Rows L2
section
variable {F : Fm} {ρ : List Sl} {kl : List D → Prop}
theorem LcAt.grow {σ : L2.St} {B H B1 B' H' H2 : Hp} {Dl : Addr} {acc : List D} (L : LcAt F σ ρ B H B1 Dl acc B' H') (e : Same H' H2) : LcAt F σ ρ B H B1 Dl acc B' H2 := by
  obtain ⟨us, h1, h2⟩ := L.at_
  exact ⟨L.st.grow e, L.b1, L.z, us, e _ _ h1, h2⟩
theorem putE_own : ∀ {as : List (Nat × D)} {ρ : List Sl} {i : Nat} {l : Sl}, (putE ρ as)[i]? = some l → l.isOwn = true → ρ[i]? = some l
  | [], _, _, _, h, _ => h
  | a :: as, ρ, i, l, h, ho => by
    have g := putE_own (as := as) (ρ := ρ.set a.1 (.val a.2)) h ho
    by_cases hi : a.1 = i
    · subst hi
      have hl : a.1 < ρ.length := by
        have := (List.getElem?_eq_some_iff.mp g).1
        rwa [List.length_set] at this
      rw [List.getElem?_set_self hl] at g
      cases g
      cases ho
    · rwa [List.getElem?_set_ne hi] at g
theorem en_lc2 {wi wi1 : TI} {g g1 : TG} {tt tt1 : TT} {te : TE} {vs vs1 : List Nat} (hu : ∀ j ∈ vs, ρ[j]? = some .un) (hu1 : ∀ j ∈ vs1, ρ[j]? = some .un)
    (h : EvI F wi ρ fun ds => ∃ I : Nat → List D → Prop, I 0 [] ∧ (∀ i d acc, ds[i]? = some d → I i acc → ∃ as, (∀ a ∈ as, a.1 ∈ vs) ∧ (∀ a ∈ as, a.1 ∉ vs1) ∧ GOk F g d as ∧
      EvT F tt (putE ρ as) fun b => if b = true then EvI F wi1 (putE ρ as) (fun es => ∃ I1 : Nat → List D → Prop, I1 0 acc ∧ (∀ j e acc1, es[j]? = some e → I1 j acc1 → ∃ bs, (∀ a ∈ bs, a.1 ∈ vs1) ∧ GOk F g1 e bs ∧
        EvT F tt1 (putE (putE ρ as) bs) fun b => if b = true then EvD F te (putE (putE ρ as) bs) (fun y => acc1.length < 100000 ∧ I1 (j + 1) (acc1 ++ [y])) else I1 (j + 1) acc1) ∧ ∀ acc1, I1 es.length acc1 → I (i + 1) acc1) else I (i + 1) acc) ∧ ∀ acc, I ds.length acc → kl acc) :
    EvN F (tLc2 wi g tt wi1 g1 tt1 te vs vs1) ρ kl := fun B H σ E Q hQ =>
  h B H σ E _ fun ds J B1 H1 ⟨I, h0, hs, hd⟩ S1 ⟨go, stop, yld⟩ => fun Dl hD => by
    have hD0 : H Dl = none := by
      cases z : H Dl with
      | none => rfl
      | some o => exact absurd hD (S1.al Dl (by rw [z]; exact Option.some_ne_none _))
    have L0 : LcAt F σ ρ B H B1 Dl [] B1 (upd H1 Dl (.lst [])) := ⟨S1.grow (Same.upd hD), Same.refl _, S1.env.bs.bnew hD, [], upd_same, rfl⟩
    refine ⟨fun i m H' => m = ds.length - i ∧ i ≤ ds.length ∧ ∃ acc B', I i acc ∧ LcAt F σ ρ B H B1 Dl acc B' H', ⟨_, rfl, Nat.zero_le _, [], B1, h0, L0⟩, ?_⟩
    rintro i m H' ⟨rfl, hi, acc, B', p, L⟩
    have sm : Same B1 H' := L.b1.trans L.st.env.bs.bh
    by_cases hlt : i < ds.length
    · refine .inr ⟨go i H' hlt sm, fun H2 => ∃ acc B2, I (i + 1) acc ∧ LcAt F σ ρ B H B1 Dl acc B2 H2, fun H2 ⟨acc, B2, p2, L2⟩ => ⟨_, by omega, rfl, hlt, acc, B2, p2, L2⟩, fun x H2 y => ?_⟩
      obtain ⟨d, ed, c⟩ := yld i H' x H2 hlt sm y
      obtain ⟨as, ha, ha1, hg, ht⟩ := hs i d acc ed p
      have hu2 : ∀ j ∈ vs1, (putE ρ as)[j]? = some .un := fun j hj => by
        rw [putE_un fun a h (z : a.1 = j) => ha1 a h (z ▸ hj)]
        exact hu1 j hj
      obtain ⟨B2, L2, r2⟩ : ∃ B2, LcAt F σ ρ B H B1 Dl acc B2 H2 ∧ Rep F.K B2 d x := by
        rcases c with ⟨rfl, c⟩ | ⟨T, o, hT, rfl, c⟩
        · exact ⟨B', L, c B' L.b1⟩
        · have SN := Stp.new L.st.env o hT
          exact ⟨_, L.step E hD0 SN, c _ (L.b1.trans SN.bb) upd_same⟩
      refine hg B2 H2 (wipe σ vs) x _ L2.st.env.bs.bh r2 fun us e1 r1 => ?_
      have hsm := fst_mem e1 ha
      refine ⟨wipe_put hsm, ?_⟩
      have E2 : EnvOk F B2 H2 (putS (wipe σ vs) us) (putE ρ as) := (L2.st.env.block hu).put e1 r1
      refine ht B2 H2 _ E2 _ fun b B3 H3 g3 S3 => ?_
      have L3 := L2.step E hD0 (S3.unblock E.len hu ha hsm)
      cases b with
      | false => exact ⟨acc, B3, g3, L3⟩
      | true =>
        refine (show EvI F wi1 (putE ρ as) _ from g3) B3 H3 _ S3.env _ fun es J1 B4 H4 ⟨I1, k0, ks, kd⟩ S4 ⟨go1, stop1, yld1⟩ => ?_
        have L4 := L3.step E hD0 (S4.unblock E.len hu ha hsm)
        have E4 := S4.env
        refine ⟨fun j m H5 => m = es.length - j ∧ j ≤ es.length ∧ ∃ acc1 B5, I1 j acc1 ∧ LcAt F σ ρ B H B1 Dl acc1 B5 H5 ∧ Same B4 B5 ∧ EnvOk F B5 H5 (putS (wipe σ vs) us) (putE ρ as), ⟨_, rfl, Nat.zero_le _, acc, B4, k0, L4, Same.refl _, E4⟩, ?_⟩
        rintro j m H5 ⟨rfl, hj, acc1, B5, p5, L5, s5, E5⟩
        have sm5 : Same B4 H5 := s5.trans L5.st.env.bs.bh
        by_cases hlt1 : j < es.length
        · refine .inr ⟨go1 j H5 hlt1 sm5, fun H6 => ∃ acc1 B6, I1 (j + 1) acc1 ∧ LcAt F σ ρ B H B1 Dl acc1 B6 H6 ∧ Same B4 B6 ∧ EnvOk F B6 H6 (putS (wipe σ vs) us) (putE ρ as), fun H6 ⟨acc2, B6, p6, L6, s6, E6⟩ => ⟨_, by omega, rfl, hlt1, acc2, B6, p6, L6, s6, E6⟩, fun x1 H6 y1 => ?_⟩
          obtain ⟨d1, ed1, c1⟩ := yld1 j H5 x1 H6 hlt1 sm5 y1
          obtain ⟨bs, hb, hg1, ht1⟩ := ks j d1 acc1 ed1 p5
          obtain ⟨B6, L6, s6, E6, r6⟩ : ∃ B6, LcAt F σ ρ B H B1 Dl acc1 B6 H6 ∧ Same B4 B6 ∧ EnvOk F B6 H6 (putS (wipe σ vs) us) (putE ρ as) ∧ Rep F.K B6 d1 x1 := by
            rcases c1 with ⟨rfl, c⟩ | ⟨T, o, hT, rfl, c⟩
            · exact ⟨B5, L5, s5, E5, c B5 s5⟩
            · have SN := Stp.new L5.st.env o hT
              have SN1 := Stp.new E5 o hT
              exact ⟨_, L5.step E hD0 SN, s5.trans SN.bb, SN1.env, c _ (s5.trans SN.bb) upd_same⟩
          refine hg1 B6 H6 _ x1 _ L6.st.env.bs.bh r6 fun us1 f1 r7 => ?_
          have hsm1 := fst_mem f1 hb
          refine ⟨wipe_put hsm1, ?_⟩
          have E7 : EnvOk F B6 H6 (putS (wipe (putS (wipe σ vs) us) vs1) us1) (putE (putE ρ as) bs) := (E6.block hu2).put f1 r7
          refine ht1 B6 H6 _ E7 _ fun b B7 H7 g7 S7 => ?_
          have S7' := S7.unblock E6.len hu2 hb hsm1
          have L7 := L6.step E hD0 (S7'.unblock E.len hu ha hsm)
          cases b with
          | false => exact ⟨acc1, B7, g7, L7, s6.trans S7.bb, S7'.env⟩
          | true =>
            refine (show EvD F te (putE (putE ρ as) bs) _ from g7) B7 H7 _ S7.env _ fun y v B8 H8 ⟨hl, q⟩ S8 r8 => ?_
            have S8' := S8.unblock E6.len hu2 hb hsm1
            have L8 := L7.step E hD0 (S8'.unblock E.len hu ha hsm)
            obtain ⟨ws, w1, w2⟩ := L8.at_
            have L9 := L8.add E hD0 r8 w1 w2
            refine ⟨ws, w1, Nat.lt_of_lt_of_le (show ws.length < 100000 by rw [w2.len]; exact hl) (by decide), acc1 ++ [y], B8, q, L9, s6.trans (S7.bb.trans S8.bb), ?_⟩
            refine S8'.env.mutate L8.z (E.bs.new hD0) (by rw [w1]; exact Option.some_ne_none _) fun i l hi ho z => ?_
            have hi' := putE_own hi ho
            have hv : i ∉ vs := fun z => by
              rw [hu i z] at hi'
              cases hi'
              cases ho
            refine E.notown hD0 i l hi' ho ?_
            rw [putS_un (fun a h (z : a.1 = i) => hv (z ▸ hsm a h)), wipe_at, if_neg hv] at z
            exact z
        · have ej : j = es.length := by omega
          subst ej
          exact .inl ⟨stop1 H5 sm5, acc1, B5, kd acc1 p5, L5⟩
    · have ei : i = ds.length := by omega
      subst ei
      obtain ⟨us, w1, w2⟩ := L.at_
      exact .inl ⟨stop H' sm, hQ acc Dl us B' H' (hd acc p) L.st hD0 L.z w1 w2⟩
end
end K33
namespace K33
open PySem PySem.Spec PyProof.Rows L2
theorem pg_tupK {X : Cx} {K : PySem.W.Frag} {es : List Expr} {k : Nat} {t : TGs} {n : Nat} {pos : Pos} (hK : X.K = K) (hc : X.calm = true) (h : PGs X es t) (hn : (assignEach es X.env).length = n := by rfl) (hst : (assignEach es X.env).findIdx? (·.1) = none := by rfl) : PG X (.Tuple es k pos) (gTup K n t) := by
  subst hK
  exact pg_tup hc h hn hst
section
variable {F : Fm} {ρ : List Sl} {k : D → Prop} {kl : List D → Prop} {te ta : TE} {N : List Sl → Prop} {R : D → Prop}
/-! ### reads and writes of a source -/
theorem src_at {i : Nat} {p : Addr} {j : Nat} {V' : Int → Prop} (hj : j < 3) (h : ρ[i]? = some (.src p)) (hv : ∀ z, (j = 1 → 0 ≤ z ∧ z < 2147483647) → V' z) (q : ∀ z, V' z → k (.int z)) : EvD F (tOp (rIx F.K) (tVar i) (tC (.int (j : Int)))) ρ k := fun B H σ E Q hQ => by
  obtain ⟨h1, ⟨c, n, m, h2, h3, h4⟩, h5⟩ := E.at_ i _ h
  refine ⟨_, h1, ?_⟩
  have go : ∀ z, atI [V.int c, V.int n, V.int m] (j : Int) = some (.int z) → (j = 1 → 0 ≤ z ∧ z < 2147483647) → rIx F.K (.ref p) (.int (j : Int)) H Q := fun z e g => .inl ⟨p, _, _, _, rfl, rfl, .inl (.inl h2), e, hQ _ _ B H (q z (hv z g)) (.refl E) rfl⟩
  match j, hj with
  | 0, _ => exact go c rfl (fun z => by cases z)
  | 1, _ => exact go n rfl (fun _ => ⟨h3, h4⟩)
  | 2, _ => exact go m rfl (fun z => by cases z)
theorem src_0 {i : Nat} {p : Addr} (h : ρ[i]? = some (.src p)) (q : ∀ z, k (.int z)) : EvD F (tOp (rIx F.K) (tVar i) (tC (.int 0))) ρ k := src_at (j := 0) (V' := fun _ => True) (by decide) h (fun _ _ => trivial) fun z _ => q z
theorem src_2 {i : Nat} {p : Addr} (h : ρ[i]? = some (.src p)) (q : ∀ z, k (.int z)) : EvD F (tOp (rIx F.K) (tVar i) (tC (.int 2))) ρ k := src_at (j := 2) (V' := fun _ => True) (by decide) h (fun _ _ => trivial) fun z _ => q z
theorem src_1 {i : Nat} {p : Addr} (h : ρ[i]? = some (.src p)) (q : ∀ z, 0 ≤ z → z < 2147483647 → k (.int z)) : EvD F (tOp (rIx F.K) (tVar i) (tC (.int 1))) ρ k := src_at (j := 1) (V' := fun z => 0 ≤ z ∧ z < 2147483647) (by decide) h (fun _ g => g rfl) fun z hz => q z hz.1 hz.2
/-- the source changed: slots as they were -/
theorem EnvOk.mutSrc {B H : Hp} {σ : L2.St} (E : EnvOk F B H σ ρ) {i : Nat} {p : Addr} (h : ρ[i]? = some (.src p)) {o : HO} (ho : SrcAt (upd H p o) p) : EnvOk F B (upd H p o) σ ρ := by
  obtain ⟨h1, h2, h3, h4, h5⟩ := E.at_ i _ h
  have hne : ∀ (j : Nat) (l : Sl) (q : Addr), ρ[j]? = some l → l.isOwn = true → (∀ q, l ≠ .src q) → σ[j]? = some (some (.ref q)) → q ≠ p := fun j l q e ol ns f z => by
    subst z
    have := E.inj j i l _ q e h ol rfl f h1
    subst this
    rw [h] at e
    exact ns _ (Option.some.inj e).symm
  refine ⟨⟨E.bs.b0, Same.mut E.bs.bh h3, Same.mut E.bs.fh h4, E.bs.z, fun b hb => ?_, fun s hs => ?_, E.bs.me⟩, E.len, fun j l e => ?_, E.inj⟩
  · by_cases hb' : b = p
    · subst hb'
      rw [upd_same]
      exact Option.some_ne_none _
    · rw [upd_ne hb']
      exact E.bs.al b hb
  · by_cases hb' : s = p
    · subst hb'
      exact ⟨ho, (E.bs.src s hs).2⟩
    · obtain ⟨⟨c, n, k, q1, q2⟩, q3⟩ := E.bs.src s hs
      exact ⟨⟨c, n, k, by rw [upd_ne hb']; exact q1, q2⟩, q3⟩
  · have g := E.at_ j l e
    cases l with
    | un => trivial
    | val d => exact g
    | own ds =>
      obtain ⟨q, us, a1, a2, a3⟩ := g
      exact ⟨q, us, a1, by rw [upd_ne (hne j _ q e rfl (fun _ z => by cases z) a1)]; exact a2, a3⟩
    | ins q c ns ds =>
      obtain ⟨dx, us, a1, a2, a3⟩ := g
      exact ⟨dx, us, a1, by rw [upd_ne (hne j _ q e rfl (fun _ z => by cases z) a1)]; exact a2, a3⟩
    | src q =>
      obtain ⟨a1, ⟨c, n, k, a2, a3⟩, a4⟩ := g
      refine ⟨a1, ?_, a4⟩
      by_cases hb' : q = p
      · subst hb'
        exact ho
      · exact ⟨c, n, k, by rw [upd_ne hb']; exact a2, a3⟩
    | lft q a b c L => exact absurd h (E.nosrc e i p)
    | tab P q =>
      obtain ⟨a1, a2, a3⟩ := g
      have : P ≠ p := fun z => h5.1 (z ▸ a3)
      exact ⟨a1.mono (Same.refl _) (fun o z => by rw [upd_ne this]; exact z), a2, a3⟩
theorem s_setSrc {i : Nat} {p : Addr} {j : Nat} (hj : j < 3) (h : ρ[i]? = some (.src p)) (g : EvD F te ρ fun d => ∃ z, d = .int z ∧ (j = 1 → 0 ≤ z ∧ z < 2147483647) ∧ N ρ) : SOk F (tAsg te (gSub (tVar i) (tC (.int (j : Int))) rSetL)) ρ N R := fun B H σ E En hn hr =>
  g B H σ E _ fun d v B1 H1 ⟨z, ed, hz, n⟩ S r1 => by
    subst ed
    cases r1
    obtain ⟨h1, ⟨c, m, l, h2, h3, h4⟩, h5⟩ := S.env.at_ i _ h
    have go : ∀ xs : List V, [V.int c, V.int m, V.int l].set j (.int z) = xs → SrcAt (upd H1 p (.lst xs)) p → ixN 3 (j : Int) = some j → gSub (tVar i) (tC (.int (j : Int))) rSetL (.int z) σ H1 (fun σ' H' => En.nx σ' H') := fun xs e hs hi => by
      refine ⟨_, h1, p, _, _, j, rfl, rfl, h2, hi, ?_⟩
      rw [e]
      exact hn ρ B1 _ σ n S.bb (S.env.mutSrc h hs)
    match j, hj with
    | 0, _ => exact go _ rfl ⟨z, m, l, upd_same, h3, h4⟩ rfl
    | 1, _ => exact go _ rfl ⟨c, z, l, upd_same, (hz rfl).1, (hz rfl).2⟩ rfl
    | 2, _ => exact go _ rfl ⟨c, m, z, upd_same, h3, h4⟩ rfl
theorem s_setSrc0 {i : Nat} {p : Addr} (h : ρ[i]? = some (.src p)) (g : EvD F te ρ fun d => (∃ z, d = .int z) ∧ N ρ) : SOk F (tAsg te (gSub (tVar i) (tC (.int 0)) rSetL)) ρ N R := s_setSrc (j := 0) (by decide) h (g.imp fun d ⟨⟨z, e⟩, n⟩ => ⟨z, e, (fun z => by cases z), n⟩)
theorem s_setSrc2 {i : Nat} {p : Addr} (h : ρ[i]? = some (.src p)) (g : EvD F te ρ fun d => (∃ z, d = .int z) ∧ N ρ) : SOk F (tAsg te (gSub (tVar i) (tC (.int 2)) rSetL)) ρ N R := s_setSrc (j := 2) (by decide) h (g.imp fun d ⟨⟨z, e⟩, n⟩ => ⟨z, e, (fun z => by cases z), n⟩)
theorem s_setSrc1 {i : Nat} {p : Addr} (h : ρ[i]? = some (.src p)) (g : EvD F te ρ fun d => ∃ z, d = .int z ∧ 0 ≤ z ∧ z < 2147483647 ∧ N ρ) : SOk F (tAsg te (gSub (tVar i) (tC (.int 1)) rSetL)) ρ N R := s_setSrc (j := 1) (by decide) h (g.imp fun d ⟨z, e, h1, h2, n⟩ => ⟨z, e, fun _ => ⟨h1, h2⟩, n⟩)
/-- if c: x = e, told by what x may be behind it -/
theorem s_ifset {tt : TT} {i : Nat} {a : Nat} (Pv : Nat → Prop) (h0 : ρ[i]? = some (.val (.int (a : Int)))) (ha : Pv a) (h : EvT F tt ρ fun b => b = true → EvD F te ρ fun d => ∃ v : Nat, d = .int (v : Int) ∧ Pv v) (g : ∀ v : Nat, Pv v → N (ρ.set i (.val (.int (v : Int))))) : SOk F (tIfS tt (tAsg te (gName i)) tNext) ρ N R := by
  apply s_if
  refine h.imp fun b hb => ?_
  cases b with
  | true => exact iteT (s_asg ((hb rfl).imp fun d ⟨v, ed, hv⟩ => by rw [ed]; exact g v hv))
  | false =>
    refine iteF (s_next ?_)
    have e : ρ.set i (.val (.int (a : Int))) = ρ := by
      apply List.ext_getElem?
      intro j
      by_cases hj : i = j
      · subst hj
        rw [List.getElem?_set_self (List.getElem?_eq_some_iff.mp h0).1, h0]
      · rw [List.getElem?_set_ne hj]
    have := g a ha
    rw [e] at this
    exact this
/-! ### the script -/
theorem rc_lenQ {ns : List Int} (q : k (.int ns.length)) : ROc F (rLenX F.K) ρ [.sq ns] k := rc_v q fun B H vs Q s r hv => by
  obtain ⟨v, t, rfl, ⟨a, rfl, h1⟩, rfl⟩ := r
  exact .inl ⟨a, _, rfl, .inl (s.seq h1), hv _ (by rw [List.length_map]; rfl)⟩
theorem ro_ixQ {ns : List Int} {i : Int} {z : Int} (e : atI ns i = some z) (q : k (.int z)) : ROp F (rIx F.K) ρ (.sq ns) (.int i) k := ro_v q fun B H vx vy Q s rx ry hv => by
  obtain ⟨a, rfl, h1⟩ := rx
  cases ry
  refine .inl ⟨a, _, i, .int z, rfl, rfl, s.seq h1, ?_, hv _ rfl⟩
  unfold atI at e ⊢
  rw [List.length_map]
  cases q' : ixN ns.length i with
  | none => rw [q'] at e; cases e
  | some j =>
    rw [q'] at e
    show (ns.map V.int)[j]? = _
    rw [List.getElem?_map, show ns[j]? = some z from e]
    rfl
theorem en_slQ {tl th : TO} (h : EvD F te ρ fun x => ∃ ns, x = .sq ns ∧ EvO F tl ρ fun lo => EvO F th ρ fun hi => kl ((cutD (ns.map D.int) lo hi))) : EvN F (tSl (rSlL F.K) te tl th) ρ kl := fun B H σ E Q hQ =>
  h B H σ E _ fun x vx B1 H1 ⟨ns, ex, g⟩ S1 r1 => g B1 H1 σ S1.env _ fun lo B2 H2 g2 S2 => g2 B2 H2 σ S2.env _ fun hi B3 H3 q S3 => by
    subst ex
    obtain ⟨a, rfl, h1⟩ := r1
    refine ⟨a, _, rfl, (S2.bb.trans (S3.bb.trans S3.env.bs.bh)).seq h1, fun p hp => ?_⟩
    have S := (S1.trans S2).trans S3
    refine hQ _ p _ B3 _ q (S.grow (Same.upd hp)) (fresh_of (S1 := S) hp) (S.env.bs.bnew hp) upd_same ?_
    unfold cutV cutD
    rw [List.length_map, List.length_map]
    have : ∀ (xs : List Int), RepL F.K B3 (xs.map D.int) (xs.map V.int) := fun xs => RepL.of_ints
    exact ((this ns).drop _).take _
/-! ### a def that answers by a new list -/
def spN (K : PySem.W.Frag) (S : List D → (List D → Prop) → Prop) : Sp := fun vs H Q _ => ∃ ds B k, Bs ⟨K, B, H, none, none, []⟩ B H ∧ RepL K B ds vs ∧ S ds k ∧
  ∀ xs p us B' H', k xs → Bs ⟨K, B, H, none, none, []⟩ B' H' → H p = none → B' p = none → H' p = some (.lst us) → RepL K B' xs us → Q (.ref p) H'
theorem ev_callN {S : List D → (List D → Prop) → Prop} {E : XK} {t : TA} (h : EvA F t ρ fun ds => S ds kl) : EvN F (tCl (spN F.K S) E t) ρ kl := fun B H σ E0 Q hQ =>
  h B H σ E0 _ fun ds vs B1 H1 g S1 r1 => ⟨ds, B1, kl, bs_start S1.env.bs.bh, r1, g, fun xs p us B' H' q b hp hB hH r => hQ xs p us B' H' q (S1.trans (Stp.call S1.env b)) (fresh_of (S1 := S1) hp) hB hH r⟩
/-- a new list becomes a source -/
theorem s_asgSrc {i : Nat} (hms : F.ms = []) (h : EvN F te ρ fun ds => ∃ c n m : Int, ds = [.int c, .int n, .int m] ∧ 0 ≤ n ∧ n < 2147483647 ∧ ∀ p, N (ρ.set i (.src p))) : SOk F (tAsg te (gName i)) ρ N R := fun B H σ E En hn hr =>
  h B H σ E _ fun ds p vs B' H' ⟨c, n, m, ed, h1, h2, g⟩ S hp hB hH r => by
    subst ed
    obtain ⟨v, t, rfl, e1, v2, t2, rfl, e2, v3, t3, rfl, e3, rfl⟩ := r
    cases e1
    cases e2
    cases e3
    refine hn _ B' H' _ (g p) S.bb ?_
    have E' := S.env
    have h0 := E.bs.new hp
    have hno := E.notown hp
    refine ⟨E'.bs, by rw [List.length_set, List.length_set]; exact E'.len, fun j l e => ?_, fun j j' l m' q e1 e2 o1 o2 f1 f2 => ?_⟩
    · by_cases hj : i = j
      · subst hj
        have hl : i < ρ.length := by
          have := (List.getElem?_eq_some_iff.mp e).1
          rwa [List.length_set] at this
        rw [List.getElem?_set_self hl] at e
        cases e
        exact ⟨List.getElem?_set_self (by rw [E'.len]; exact hl), ⟨c, n, m, hH, h1, h2⟩, hB, hid_none h0, (fun z => (E.bs.me p z).2 h0), hms⟩
      · rw [List.getElem?_set_ne hj] at e ⊢
        exact E'.at_ j l e
    · by_cases n1 : i = j
      · by_cases n2 : i = j'
        · rw [← n1, ← n2]
        · rw [List.getElem?_set_ne n2] at e2 f2
          subst n1
          have hl : i < σ.length := by
            have := (List.getElem?_eq_some_iff.mp f1).1
            rwa [List.length_set] at this
          rw [List.getElem?_set_self hl] at f1
          cases f1
          exact absurd f2 (hno j' m' e2 o2)
      · rw [List.getElem?_set_ne n1] at e1 f1
        by_cases n2 : i = j'
        · subst n2
          have hl : i < σ.length := by
            have := (List.getElem?_eq_some_iff.mp f2).1
            rwa [List.length_set] at this
          rw [List.getElem?_set_self hl] at f2
          cases f2
          exact absurd f1 (hno j l e1 o1)
        · rw [List.getElem?_set_ne n2] at e2 f2
          exact E'.inj j j' l m' q e1 e2 o1 o2 f1 f2
end
section
variable {P : Program} {w : World} {K : PySem.W.Frag} {mg : PySem.Str → Option Value} {base : Heap}
theorem Wf.fnN (W : Wf P w K mg base) {i : Nat} {d : He5.DefA} (hd : fnl[i]? = some d) {N ps : List PySem.Str} {k : Nat} {S : List D → (List D → Prop) → Prop} (sc : FnScope N ps d.scope) (hb : ∀ fd, FunD K d.name d.qual d.params d.body d.scope (d.dvs K) (d.kws K) (d.at_ K) fd → Binds K fd ps [])
    (len : ∀ ds k, S ds k → ds.length = ps.length)
    (hbody : ∀ cdv A outer s H E, Room k (A.deeper (envOfC d.qual d.scope s.heap.objs.size (d.at_ K) cdv)) → ∀ (F : Fm) ds kk, F.K = K → S ds kk → ∃ t, PSs (Xof P w K mg base N d cdv A outer s H E).nox d.body t ∧ ∀ En : Ends, (∀ σ H', EnvOk F F.B0 H' σ (ρ0 N ds) → F.H0 = H' → (∀ xs p us B' H', kk xs → Bs F B' H' → F.H0 p = none → B' p = none → H' p = some (.lst us) → RepL F.K B' xs us → En.rt (.ref p) H') → t En σ H')) :
    FnR P w K mg base (L2.CX P w) (k + 1) (d.at_ K) (spN K S) := by
  obtain ⟨fd, Fn⟩ := W.fn i d hd
  have hpl : ps.length ≤ N.length := by
    have := congrArg List.length sc.pre
    rw [List.length_take] at this
    omega
  have G := Fn.ok (P := P) (w := w) (mg := mg) (base := base) (CX := L2.CX P w) (k := k) (sp := spN K S) sc (fun vs H Q E h => by
    obtain ⟨ds, B, kk, _, r, h, _⟩ := h
    rw [r.len]
    exact len ds kk h) fun cdv A outer s H vs Q E hr h => by
      obtain ⟨ds, B, kk, b, r, h, q⟩ := h
      obtain ⟨t, ht, hS⟩ := hbody cdv A outer s H E hr ⟨K, B, H, none, none, []⟩ ds kk rfl h
      exact ⟨t, ht.nox, hS _ _ H (env_start b r (by rw [len ds kk h]; exact hpl)) rfl fun xs p us B' H' q1 b' h1 h2 h3 h4 => q xs p us B' H' q1 b' h1 h2 h3 h4⟩
  have G2 := G.raw (hb fd Fn) .nil
  exact G2.imp fun vs H Q E h => by
    rw [List.append_nil]
    exact h
theorem so_retN {F : Fm} {u : TS} {te : TE} {ρ : List Sl} {kk : List D → Prop} (h : SOk F u ρ (fun ρ' => EvN F te ρ' kk) (fun _ => False)) (En : Ends) (σ : L2.St) (H' : Hp) (E : EnvOk F F.B0 H' σ ρ) (e0 : F.H0 = H')
    (q : ∀ xs p us B' H', kk xs → Bs F B' H' → F.H0 p = none → B' p = none → H' p = some (.lst us) → RepL F.K B' xs us → En.rt (.ref p) H') : tSeq u (tRet te) En σ H' :=
  h F.B0 H' σ E { En with nx := tRet te En } (fun ρ' B1 H1 σ1 n _ E1 => n B1 H1 σ1 E1 _ fun xs p us B2 H2 k S hp hB hH r => q xs p us B2 H2 k S.env.bs (E1.bs.new hp) hB hH r) (fun d v B' H' z => z.elim)
end
end K33
namespace K33
open PySem PySem.Spec PyProof.Rows L2
abbrev nD (n : Nat) : D := .int (n : Int)
/-- a saying: where, then, usual -/
structure Rw where
  w : Nat
  t : Nat
  u : Bool
def Rw.cf (r : Rw) : Nat := r.w &&& r.t
def Rw.br (r : Rw) : Nat := nd r.w r.t
def Rw.lo (r : Rw) : Nat := if r.u then r.cf else r.br
def Rw.hi (r : Rw) : Nat := if r.u then r.br else r.cf
def sayN : List PySem.Str := ["where", "then", "usual", "confirm", "broken", "low", "high", "step"]
abbrev sayD (r : Rw) : D := .obj "Saying" sayN [nD r.w, nD r.t, .bl r.u, nD r.cf, nD r.br, nD r.lo, nD r.hi, .int (if r.u then 1 else 0)]
/-- .. as a plain triple -/
abbrev rowD (r : Rw) : D := .tup [nD r.w, nD r.t, .bl r.u]
abbrev verD (c b : Nat) : D := .obj "Verdicts" ["confirm", "broken"] [nD c, nD b]
theorem iteTr {c : Bool} {A B : Prop} (h : c = true) (x : A) : if c = true then A else B := by rw [h]; exact iteT x
theorem iteFr {c : Bool} {A B : Prop} (h : c = false) (x : B) : if c = true then A else B := by rw [h]; exact iteF x
def setOf (ns : List Nat) : Nat := ns.foldl (fun t n => t ||| 2 ^ n) 0
section
variable {P : Program} {w : World} {K : PySem.W.Frag} {mg : PySem.Str → Option Value} {base : Heap}
local macro_rules | `(tactic| walk_at "d0") => `(tactic| first
  | ((with_reducible apply ev_var); rfl)
  | with_reducible apply ev_int
  | with_reducible apply ev_bl
  | with_reducible apply ev_str
  | with_reducible apply ev_non
  | with_reducible apply s_seq
  | with_reducible apply s_ret
  | with_reducible apply s_asg
  | with_reducible apply s_next
  | ((with_reducible apply s_app); rfl)
  | with_reducible apply s_drop
  | ((with_reducible apply src_0); rfl; intro _)
  | ((with_reducible apply src_1); rfl; intro _ _ _)
  | ((with_reducible apply src_2); rfl; intro _)
  | ((with_reducible apply s_setSrc0); rfl)
  | ((with_reducible apply s_setSrc2); rfl)
  | ((with_reducible apply ev_callS); rfl)
  | ((with_reducible apply ev_opO); rfl)
  | ((with_reducible apply ev_ixO); rfl)
  | with_reducible apply ev_op
  | with_reducible apply ev_un
  | with_reducible apply et_test
  | with_reducible apply et_B
  | with_reducible apply et_truI
  | with_reducible apply et_and
  | with_reducible apply et_or
  | with_reducible apply et_not
  | with_reducible apply ea_nil
  | with_reducible apply ea_cons
  | with_reducible apply ro_nd_n
  | with_reducible apply ro_and_n
  | with_reducible apply ro_or_n
  | with_reducible apply ro_shr_n
  | with_reducible apply ro_eq_0
  | with_reducible apply ro_ne_0
  | with_reducible apply ro_eq_n
  | with_reducible apply ro_ne_n
  | with_reducible apply ro_add_n
  | with_reducible apply ro_add_1
  | with_reducible apply ro_I0
  | with_reducible apply ro_B0
  | with_reducible apply ro_un
  | ((with_reducible apply ro_isN); rfl)
  | ((with_reducible apply ro_notN); rfl)
  | with_reducible apply ro_eq_t0
  | with_reducible apply ro_ne_lt0
  | with_reducible apply ro_ne_l0
  | with_reducible apply ro_ne_tt
  | with_reducible apply ro_eq_tt
  | with_reducible apply ro_ne_t
  | with_reducible apply ro_eq_i
  | with_reducible apply ro_ne_i
  | with_reducible apply ro_eq_s
  | with_reducible apply ro_add
  | ((with_reducible apply ro_ixT); rfl)
  | ((with_reducible apply ro_ixL); rfl)
  | with_reducible apply ev_list
  | with_reducible apply ev_tuple
  | with_reducible apply ev_sortset
  | with_reducible apply ev_isLT
  | ((with_reducible apply ev_cbO); rfl)
  | with_reducible apply ev_cb
  | with_reducible apply ev_call
  | ((with_reducible apply ev_fldM); rfl; exact Wf.kc2 (by assumption) (by decide +kernel); rfl)
  | with_reducible apply ev_fld
  | with_reducible apply ev_and
  | with_reducible apply ev_or
  | with_reducible apply ev_notV
  | with_reducible apply ev_if
  | with_reducible apply ev_chain
  | with_reducible apply ev_tup
  | with_reducible apply ev_lst
  | with_reducible apply ev_make
  | ((with_reducible apply ev_cm0); exact exok0)
  | ((with_reducible apply ev_cm); exact exok0)
  | ((with_reducible apply ev_meth0); exact exok0)
  | ((with_reducible apply ev_meth); exact exok0)
  | ((with_reducible apply ro_subO); exact exok0)
  | ((with_reducible apply ro_addO); exact exok0)
  | ((with_reducible apply rc_lenO); exact exok0)
  | ((with_reducible apply ev_prop); exact exok0)
  | with_reducible apply rc_int
  | with_reducible apply rc_lenL
  | with_reducible apply rc_lenT
  | ((with_reducible apply rc_is_int); (exact rfl))
  | ((with_reducible apply rc_is_bl); (exact rfl))
  | ((with_reducible apply rc_is_str); (exact rfl))
  | ((with_reducible apply rc_is_tup); (exact rfl))
  | ((with_reducible apply s_fldM); rfl; exact Wf.kc2 (by assumption) (by decide +kernel); decide; rfl)
  | with_reducible apply et_yes
  | with_reducible apply ev_rawc
  | ((with_reducible apply ev_src); rfl)
  | ((with_reducible refine ⟨len_ok ?_, ?_⟩); rfl)
  | with_reducible refine ⟨rfl, ?_⟩
  | with_reducible refine ⟨⟨_, rfl⟩, ?_⟩
  | with_reducible refine ⟨_, rfl, ?_⟩
  | refine ⟨_, _, rfl, rfl, ?_⟩
  | refine ⟨_, _, _, _, rfl, Wf.kc2 (by assumption) (by decide +kernel), rfl, ?_⟩
  | ((with_reducible apply iteTr); rfl)
  | ((with_reducible apply iteFr); rfl)
  | dsimp only)
local macro_rules | `(tactic| walk_at "d") => `(tactic| first
  | walk_at "d0"
  | with_reducible apply s_if)
local macro_rules | `(tactic| walk_at "o") => `(tactic| first
  | ((with_reducible apply so_retO); rfl)
  | ((with_reducible apply et_notcallO); rfl)
  | ((with_reducible apply s_asgO); (with_reducible apply en_lst); (with_reducible apply ea_nil); refine ⟨len_ok rfl, ?_⟩)
  | walk_at "d")

local macro_rules | `(tactic| walk_at "x") => `(tactic| first
  | ((with_reducible apply ev_callX); assumption)
  | walk_at "o")
/-! ### day sets -/
def S_set_of : List D → (D → Prop) → Prop := fun ds k => ∃ ns : List Nat, ds = [.lst (ns.map nD)] ∧ (∀ n ∈ ns, n < 64) ∧ k (nD (setOf ns))
theorem setOf_snoc (ns : List Nat) (i : Nat) (n : Nat) (h : ns[i]? = some n) : setOf (ns.take (i + 1)) = setOf (ns.take i) ||| 2 ^ n := by
  unfold setOf
  rw [List.take_add_one, h, List.foldl_append]
  rfl
theorem ok_set_of (W : Wf P w K mg base) : FnR P w K mg base (L2.CX P w) 1 (d_set_of.at_ K) (spD K fun ds k _ => S_set_of ds k) := by
  refine W.fnD in_set_of sc_set_of (fun fd F => F.bindsN fun _ _ _ _ _ _ us hl => match us, hl with | [_], _ => rfl) (fun ds k h => by first | (obtain ⟨rfl, _⟩ := h; rfl) | (obtain ⟨_, rfl, _⟩ := h; rfl) | (obtain ⟨_, _, rfl, _⟩ := h; rfl) | (obtain ⟨_, _, _, rfl, _⟩ := h; rfl) | (obtain ⟨_, _, _, _, rfl, _⟩ := h; rfl) | (obtain ⟨_, _, _, _, _, rfl, _⟩ := h; rfl) | (obtain ⟨_, _, _, _, _, _, rfl, _⟩ := h; rfl) | (obtain ⟨_, _, _, _, _, _, _, rfl, _⟩ := h; rfl) | (obtain ⟨_, _, _, _, _, _, _, _, rfl, _⟩ := h; rfl) | (obtain ⟨_, _, _, _, _, _, _, _, _, rfl, _⟩ := h; rfl)) fun cdv A outer s H E hR F ds kk hF h => ?_
  subst hF
  obtain ⟨ns, rfl, hn, q⟩ := h
  refine ⟨_, (pss_cons (ps_set (i := 1) sc_set_of.nd rfl (Or.inl rfl) pe_int)
  (pss_cons (ps_for PassesOwn.never rfl (pi_seqK (K := F.K) rfl (pv 0)) (pg_name (i := 2) sc_set_of.nd rfl (Or.inl rfl))
  (pss_one (ps_set (i := 1) sc_set_of.nd rfl (Or.inl rfl) (pe_op op_or (pv 1) (pe_op op_shl pe_int (pv 2))))))
  (pss_one (ps_ret (pv 1))))), ?_⟩
  try dsimp only [Xof, cxOf, Cx.nox, Cx.wish, Cx.blk]
  repeat walk_at "d"
  apply s_for
  apply ei_seq
  repeat walk_at "d"
  refine ⟨_, .inl rfl, fun i ρ => ∃ x, ρ = [.val (.lst (ns.map nD)), .val (nD (setOf (ns.take i))), x], ⟨_, rfl⟩, ?_, ?_⟩
  · rintro i d ρ' hi ⟨x, rfl⟩
    rw [List.getElem?_map] at hi
    cases e : ns[i]? with
    | none => rw [e] at hi; cases hi
    | some n =>
      rw [e] at hi
      cases hi
      refine ⟨_, g_name, ?_⟩
      repeat walk_at "d"
      apply ro_shl_n (hn n (List.mem_of_getElem? e))
      repeat walk_at "d"
      rw [← setOf_snoc ns i n e]
      exact ⟨_, rfl⟩
  · rintro ρ' ⟨x, rfl⟩
    repeat walk_at "d"
    rw [List.length_map, List.take_length]
    exact q
theorem cc_set_of (W : Wf P w K mg base) : Fnc P w K mg base 1 "set_of" (spD K fun ds k _ => S_set_of ds k) := W.fnc in_set_of (fun _ => rfl) (j := 0) rfl (ok_set_of W)
def S_within : List D → (D → Prop) → Prop := fun ds k => ∃ a b : Nat, ds = [nD a, nD b] ∧ k (.bl (decide (nd a b = 0)))
theorem ok_within (W : Wf P w K mg base) : FnR P w K mg base (L2.CX P w) 1 (d_within.at_ K) (spD K fun ds k _ => S_within ds k) := by
  refine W.fnD in_within sc_within (fun fd F => F.bindsN fun _ _ _ _ _ _ us hl => match us, hl with | [_, _], _ => rfl) (fun ds k h => by first | (obtain ⟨rfl, _⟩ := h; rfl) | (obtain ⟨_, rfl, _⟩ := h; rfl) | (obtain ⟨_, _, rfl, _⟩ := h; rfl) | (obtain ⟨_, _, _, rfl, _⟩ := h; rfl) | (obtain ⟨_, _, _, _, rfl, _⟩ := h; rfl) | (obtain ⟨_, _, _, _, _, rfl, _⟩ := h; rfl) | (obtain ⟨_, _, _, _, _, _, rfl, _⟩ := h; rfl) | (obtain ⟨_, _, _, _, _, _, _, rfl, _⟩ := h; rfl) | (obtain ⟨_, _, _, _, _, _, _, _, rfl, _⟩ := h; rfl) | (obtain ⟨_, _, _, _, _, _, _, _, _, rfl, _⟩ := h; rfl)) fun cdv A outer s H E hR F ds kk hF h => ?_
  subst hF
  obtain ⟨a, b, rfl, q⟩ := h
  refine ⟨_, (pss_one (ps_ret (pe_cmpR (op_eqX hR.units : OpR _ _ (rEqX F.K)) (pe_op op_and (pv 0) (pe_un un_inv (pv 1))) pe_int (nomark _)))), ?_⟩
  try dsimp only [Xof, cxOf, Cx.nox, Cx.wish, Cx.blk]
  repeat walk_at "d"
  exact q
theorem cc_within (W : Wf P w K mg base) : Fnc P w K mg base 1 "within" (spD K fun ds k _ => S_within ds k) := W.fnc in_within (fun _ => rfl) (j := 1) rfl (ok_within W)
def S_is_whole : List D → (D → Prop) → Prop := fun ds k => ∃ x lo hi : Int, ds = [.int x, .int lo, .int hi] ∧ k (.bl (decide (lo ≤ x) && decide (x ≤ hi)))
theorem ok_is_whole (W : Wf P w K mg base) : FnR P w K mg base (L2.CX P w) 1 (d_is_whole.at_ K) (spD K fun ds k _ => S_is_whole ds k) := by
  refine W.fnD in_is_whole sc_is_whole (fun fd F => F.bindsN fun _ _ _ _ _ _ us hl => match us, hl with | [_, _, _], _ => rfl) (fun ds k h => by first | (obtain ⟨rfl, _⟩ := h; rfl) | (obtain ⟨_, rfl, _⟩ := h; rfl) | (obtain ⟨_, _, rfl, _⟩ := h; rfl) | (obtain ⟨_, _, _, rfl, _⟩ := h; rfl) | (obtain ⟨_, _, _, _, rfl, _⟩ := h; rfl) | (obtain ⟨_, _, _, _, _, rfl, _⟩ := h; rfl) | (obtain ⟨_, _, _, _, _, _, rfl, _⟩ := h; rfl) | (obtain ⟨_, _, _, _, _, _, _, rfl, _⟩ := h; rfl) | (obtain ⟨_, _, _, _, _, _, _, _, rfl, _⟩ := h; rfl) | (obtain ⟨_, _, _, _, _, _, _, _, _, rfl, _⟩ := h; rfl)) fun cdv A outer s H E hR F ds kk hF h => ?_
  subst hF
  obtain ⟨x, lo, hi, rfl, q⟩ := h
  refine ⟨_, (pss_one (ps_ret (pe_and (pe_callB (cr_isX : CallR _ _ (rIsX F.K)) rfl (W.free 1 _ rfl) (by decide +kernel) (pa_cons (pv 0) (pa_cons (pe_bltn (v := .ty "int") (u := .type "int") rfl (W.free 2 _ rfl) (by decide +kernel) rfl) pa_nil))) (pe_and (pe_not (pe_callB (cr_isX : CallR _ _ (rIsX F.K)) rfl (W.free 1 _ rfl) (by decide +kernel) (pa_cons (pv 0) (pa_cons (pe_bltn (v := .ty "bool") (u := .type "bool") rfl (W.free 3 _ rfl) (by decide +kernel) rfl) pa_nil)))) (pe_one (pe_chain op_le op_le (pv 1) (pv 0) (pv 2))))))), ?_⟩
  try dsimp only [Xof, cxOf, Cx.nox, Cx.wish, Cx.blk]
  repeat walk_at "d"
  cases h1 : decide (lo ≤ x) with
  | true =>
    rw [h1] at q
    repeat walk_at "d"
    exact q
  | false =>
    rw [h1] at q
    repeat walk_at "d"
    exact q
theorem cc_is_whole (W : Wf P w K mg base) : Fnc P w K mg base 1 "is_whole" (spD K fun ds k _ => S_is_whole ds k) := W.fnc in_is_whole (fun _ => rfl) (j := 2) rfl (ok_is_whole W)
/-! ### sayings -/
def Rw.Ok (r : Rw) : Prop := 1 ≤ r.w ∧ r.w ≤ 65535 ∧ r.t ≤ 65535
theorem whole_yes {x lo hi : Int} (h1 : lo ≤ x) (h2 : x ≤ hi) : (decide (lo ≤ x) && decide (x ≤ hi)) = true := by
  rw [decide_eq_true h1, decide_eq_true h2]
  rfl
def S_Saying__init__ : List D → (List PySem.Str → List D → Prop) → Prop := fun ds k => ∃ r : Rw, ds = [nD r.w, nD r.t, .bl r.u] ∧ r.Ok ∧ k sayN [nD r.w, nD r.t, .bl r.u, nD r.cf, nD r.br, nD r.lo, nD r.hi, .int (if r.u then 1 else 0)]
theorem ok_Saying__init__ (W : Wf P w K mg base) : ∃ fd, FunD K d_Saying__init__.name d_Saying__init__.qual d_Saying__init__.params d_Saying__init__.body d_Saying__init__.scope (d_Saying__init__.dvs K) (d_Saying__init__.kws K) (d_Saying__init__.at_ K) fd ∧ FnOk P w K mg base (L2.CX P w) 2 (d_Saying__init__.at_ K) fd ["self", "where", "then", "usual"] (spI K "Saying" S_Saying__init__) := by
  have c_is_whole := cc_is_whole W
  refine W.fnI in_Saying__init__ sc_Saying__init__ (fun ds k h => by first | (obtain ⟨rfl, _⟩ := h; rfl) | (obtain ⟨_, rfl, _⟩ := h; rfl) | (obtain ⟨_, _, rfl, _⟩ := h; rfl) | (obtain ⟨_, _, _, rfl, _⟩ := h; rfl) | (obtain ⟨_, _, _, _, rfl, _⟩ := h; rfl) | (obtain ⟨_, _, _, _, _, rfl, _⟩ := h; rfl) | (obtain ⟨_, _, _, _, _, _, rfl, _⟩ := h; rfl) | (obtain ⟨_, _, _, _, _, _, _, rfl, _⟩ := h; rfl) | (obtain ⟨_, _, _, _, _, _, _, _, rfl, _⟩ := h; rfl) | (obtain ⟨_, _, _, _, _, _, _, _, _, rfl, _⟩ := h; rfl)) fun cdv A outer s H E hR F sa ds kk hF hsa h => ?_
  subst hF
  obtain ⟨⟨w, t, u⟩, rfl, ⟨h1, h2, h3⟩, q⟩ := h
  have h1 : 1 ≤ w := h1
  have h2 : w ≤ 65535 := h2
  have h3 : t ≤ 65535 := h3
  refine ⟨_, (pss_cons (ps_if (pt_not (pt_val (pe_f c_is_whole hR (by decide) rfl passL (pa_cons (pv 1) (pa_cons pe_int (pa_cons (pe_gi rfl (W.intv 0 _ rfl)) pa_nil))))))
  (pss_one ps_never)
  pss_nil)
  (pss_cons (ps_if (pt_not (pt_val (pe_f c_is_whole hR (by decide) rfl passL (pa_cons (pv 2) (pa_cons pe_int (pa_cons (pe_gi rfl (W.intv 0 _ rfl)) pa_nil))))))
  (pss_one ps_never)
  pss_nil)
  (pss_cons (ps_if (pt_not (pt_val (pe_callB (cr_isX : CallR _ _ (rIsX F.K)) rfl (W.free 1 _ rfl) (by decide +kernel) (pa_cons (pv 3) (pa_cons (pe_bltn (v := .ty "bool") (u := .type "bool") rfl (W.free 3 _ rfl) (by decide +kernel) rfl) pa_nil)))))
  (pss_one ps_never)
  pss_nil)
  (pss_cons (ps_fld (pv 0) (pv 1) rfl)
  (pss_cons (ps_fld (pv 0) (pv 2) rfl)
  (pss_cons (ps_fld (pv 0) (pv 3) rfl)
  (pss_cons (ps_fld (pv 0) (pe_op op_and (pv 1) (pv 2)) rfl)
  (pss_cons (ps_fld (pv 0) (pe_op op_and (pv 1) (pe_un un_inv (pv 2))) rfl)
  (pss_cons (ps_fld (pv 0) (pe_ifExp (pt_val (pv 3)) (pe_fld (pv 0) rfl) (pe_fld (pv 0) rfl)) rfl)
  (pss_cons (ps_fld (pv 0) (pe_ifExp (pt_val (pv 3)) (pe_fld (pv 0) rfl) (pe_fld (pv 0) rfl)) rfl)
  (pss_one (ps_fld (pv 0) (pe_ifExp (pt_val (pv 3)) pe_int pe_int) rfl)))))))))))), ?_⟩
  try dsimp only [Xof, cxOf, Cx.nox, Cx.wish, Cx.blk]
  repeat walk_at "d"
  refine ⟨_, _, _, rfl, ?_⟩
  rw [whole_yes (by show (1 : Int) ≤ (w : Int); omega) (by show (w : Int) ≤ 65535; omega)]
  repeat walk_at "d"
  refine ⟨_, _, _, rfl, ?_⟩
  rw [whole_yes (by show (0 : Int) ≤ (t : Int); omega) (by show (t : Int) ≤ 65535; omega)]
  cases u with
  | true =>
    repeat walk_at "d"
    refine ⟨_, _, rfl, ?_⟩
    exact q
  | false =>
    repeat walk_at "d"
    refine ⟨_, _, rfl, ?_⟩
    exact q

theorem cc_Saying__init__ (W : Wf P w K mg base) : Kls P w K mg base 2 "Saying" (spI K "Saying" S_Saying__init__) := by
  obtain ⟨fd, Fn, G⟩ := ok_Saying__init__ W
  obtain ⟨ds, hv, hb⟩ := FunD.binds1 (ps := ["self", "where", "then", "usual"]) Fn 4 1 (by intro z; cases z) rfl (fun T kV doc pm an cdv ct us its l1 l2 => by
    match us, l1, its, l2 with
    | [_, _, _, _], _, [_], _ => exact ⟨_, rfl, rfl⟩)
  cases hv
  exact kls_of W rfl (W.glo 9 _ rfl) (j := 0) rfl G hb
def S_Saying_of_days : List D → (D → Prop) → Prop := fun ds k => ∃ (a : Addr) (c b : Nat) (u : Bool), ds = [.raw (.ref a), nD c, nD b, .bl u] ∧ c ≤ 65535 ∧ b ≤ 65535 ∧ c &&& b = 0 ∧ 1 ≤ c ||| b ∧ k (sayD ⟨c ||| b, c, u⟩)
theorem b16 {a : Nat} : a ≤ 65535 ↔ a < 2 ^ 16 := by omega
theorem ok_Saying_of_days (W : Wf P w K mg base) : ∃ fd, FunD K d_Saying_of_days.name d_Saying_of_days.qual d_Saying_of_days.params d_Saying_of_days.body d_Saying_of_days.scope (d_Saying_of_days.dvs K) (d_Saying_of_days.kws K) (d_Saying_of_days.at_ K) fd ∧ FnOk P w K mg base (L2.CX P w) 4 (d_Saying_of_days.at_ K) fd ["cls", "confirm", "broken", "usual"] (spD K fun ds k _ => S_Saying_of_days ds k) := by
  have c_Saying__init__ := cc_Saying__init__ W
  have c_is_whole := cc_is_whole W
  refine W.fnDO in_Saying_of_days sc_Saying_of_days (fun ds k h => by first | (obtain ⟨rfl, _⟩ := h; rfl) | (obtain ⟨_, rfl, _⟩ := h; rfl) | (obtain ⟨_, _, rfl, _⟩ := h; rfl) | (obtain ⟨_, _, _, rfl, _⟩ := h; rfl) | (obtain ⟨_, _, _, _, rfl, _⟩ := h; rfl) | (obtain ⟨_, _, _, _, _, rfl, _⟩ := h; rfl) | (obtain ⟨_, _, _, _, _, _, rfl, _⟩ := h; rfl) | (obtain ⟨_, _, _, _, _, _, _, rfl, _⟩ := h; rfl) | (obtain ⟨_, _, _, _, _, _, _, _, rfl, _⟩ := h; rfl) | (obtain ⟨_, _, _, _, _, _, _, _, _, rfl, _⟩ := h; rfl)) fun cdv A outer s H E hR F ds kk hF h => ?_
  subst hF
  obtain ⟨a, c, b, u, rfl, h1, h2, h3, h4, q⟩ := h
  refine ⟨_, (pss_cons (ps_if (pt_not (pt_val (pe_f c_is_whole hR (by decide) rfl passL (pa_cons (pv 1) (pa_cons pe_int (pa_cons (pe_gi rfl (W.intv 0 _ rfl)) pa_nil))))))
  (pss_one ps_never)
  pss_nil)
  (pss_cons (ps_if (pt_not (pt_val (pe_f c_is_whole hR (by decide) rfl passL (pa_cons (pv 2) (pa_cons pe_int (pa_cons (pe_gi rfl (W.intv 0 _ rfl)) pa_nil))))))
  (pss_one ps_never)
  pss_nil)
  (pss_cons (ps_if (pt_truth (pe_op op_and (pv 1) (pv 2)) (by intro _; rfl))
  (pss_one ps_never)
  pss_nil)
  (pss_one (ps_ret (pe_k c_Saying__init__ hR (by decide) rfl passL (pa_cons (pe_op op_or (pv 1) (pv 2)) (pa_cons (pv 1) (pa_cons (pv 3) pa_nil))))))))), ?_⟩
  try dsimp only [Xof, cxOf, Cx.nox, Cx.wish, Cx.blk]
  repeat walk_at "d"
  refine ⟨_, _, _, rfl, ?_⟩
  rw [whole_yes (by omega) (by omega)]
  repeat walk_at "d"
  refine ⟨_, _, _, rfl, ?_⟩
  rw [whole_yes (by omega) (by omega)]
  repeat walk_at "d"
  rw [h3]
  repeat walk_at "d"
  exact ⟨⟨c ||| b, c, u⟩, rfl, ⟨h4, b16.mpr (or_lt (b16.mp h1) (b16.mp h2)), h1⟩, q⟩

def S_ofd : List D → Wish := fun ds k _ => ∃ (a : Addr) (c b : Nat), ds = [.raw (.ref a), nD c, nD b] ∧ c ≤ 65535 ∧ b ≤ 65535 ∧ c &&& b = 0 ∧ 1 ≤ c ||| b ∧ k (sayD ⟨c ||| b, c, true⟩)
theorem cc_Saying_of_days (W : Wf P w K mg base) : ∃ mc, Cmt P w K mg base 4 "Saying" "of_days" mc (He.ma K (He.ga K "Saying") "of_days") (cmAt "Saying" "of_days" K) (spD K S_ofd) := by
  obtain ⟨fd, Fn, G⟩ := ok_Saying_of_days W
  obtain ⟨mc, h1, h2⟩ := W.cmS
  obtain ⟨ds, hv, hb⟩ := FunD.binds1 (ps := ["cls", "confirm", "broken", "usual"]) Fn 3 0 (by intro z; cases z) rfl (fun T kV doc pm an cdv ct us its l1 l2 => by
    match us, l1, its, l2 with
    | [_, _, _], _, [_], _ => exact ⟨_, rfl, rfl⟩)
  refine ⟨mc, (G.raw hb hv).imp fun vs H Q E h => ?_, h1, h2⟩
  obtain ⟨ds', B, kk, X, b, r, ⟨a, c, b', rfl, h⟩, q⟩ := h
  exact ⟨_, B, kk, X, b, r.append (RepL.cons (show Rep K B (.bl true) (.bl true) from rfl) RepL.nil), ⟨a, c, b', true, rfl, h⟩, q⟩
def S_Saying_contrary : List D → (D → Prop) → Prop := fun ds k => ∃ r : Rw, ds = [sayD r] ∧ r.Ok ∧ k (sayD ⟨r.w, r.t, !r.u⟩)
theorem ok_Saying_contrary (W : Wf P w K mg base) : FnR P w K mg base (L2.CX P w) 4 (d_Saying_contrary.at_ K) (spD K fun ds k _ => S_Saying_contrary ds k) := by
  have c_Saying__init__ := cc_Saying__init__ W
  refine W.fnD in_Saying_contrary sc_Saying_contrary (fun fd F => F.bindsN fun _ _ _ _ _ _ us hl => match us, hl with | [_], _ => rfl) (fun ds k h => by first | (obtain ⟨rfl, _⟩ := h; rfl) | (obtain ⟨_, rfl, _⟩ := h; rfl) | (obtain ⟨_, _, rfl, _⟩ := h; rfl) | (obtain ⟨_, _, _, rfl, _⟩ := h; rfl) | (obtain ⟨_, _, _, _, rfl, _⟩ := h; rfl) | (obtain ⟨_, _, _, _, _, rfl, _⟩ := h; rfl) | (obtain ⟨_, _, _, _, _, _, rfl, _⟩ := h; rfl) | (obtain ⟨_, _, _, _, _, _, _, rfl, _⟩ := h; rfl) | (obtain ⟨_, _, _, _, _, _, _, _, rfl, _⟩ := h; rfl) | (obtain ⟨_, _, _, _, _, _, _, _, _, rfl, _⟩ := h; rfl)) fun cdv A outer s H E hR F ds kk hF h => ?_
  subst hF
  obtain ⟨r, rfl, h1, q⟩ := h
  refine ⟨_, (pss_one (ps_ret (pe_k c_Saying__init__ hR (by decide) rfl passL (pa_cons (pe_fld (pv 0) rfl) (pa_cons (pe_fld (pv 0) rfl) (pa_cons (pe_not (pe_fld (pv 0) rfl)) pa_nil)))))), ?_⟩
  try dsimp only [Xof, cxOf, Cx.nox, Cx.wish, Cx.blk]
  repeat walk_at "d"
  exact ⟨⟨r.w, r.t, !r.u⟩, rfl, h1, q⟩
theorem cc_Saying_contrary (W : Wf P w K mg base) : Mth P w K mg base 4 "Saying" "contrary" (spD K fun ds k _ => S_Saying_contrary ds k) := ⟨ok_Saying_contrary W, W.cls 0 _ rfl, W.meth 0 _ rfl⟩
def S_Saying_flipped : List D → (D → Prop) → Prop := fun ds k => ∃ r : Rw, ds = [sayD r] ∧ r.Ok ∧ k (sayD ⟨r.w, r.br, r.u⟩)
theorem ok_Saying_flipped (W : Wf P w K mg base) : FnR P w K mg base (L2.CX P w) 4 (d_Saying_flipped.at_ K) (spD K fun ds k _ => S_Saying_flipped ds k) := by
  have c_Saying__init__ := cc_Saying__init__ W
  refine W.fnD in_Saying_flipped sc_Saying_flipped (fun fd F => F.bindsN fun _ _ _ _ _ _ us hl => match us, hl with | [_], _ => rfl) (fun ds k h => by first | (obtain ⟨rfl, _⟩ := h; rfl) | (obtain ⟨_, rfl, _⟩ := h; rfl) | (obtain ⟨_, _, rfl, _⟩ := h; rfl) | (obtain ⟨_, _, _, rfl, _⟩ := h; rfl) | (obtain ⟨_, _, _, _, rfl, _⟩ := h; rfl) | (obtain ⟨_, _, _, _, _, rfl, _⟩ := h; rfl) | (obtain ⟨_, _, _, _, _, _, rfl, _⟩ := h; rfl) | (obtain ⟨_, _, _, _, _, _, _, rfl, _⟩ := h; rfl) | (obtain ⟨_, _, _, _, _, _, _, _, rfl, _⟩ := h; rfl) | (obtain ⟨_, _, _, _, _, _, _, _, _, rfl, _⟩ := h; rfl)) fun cdv A outer s H E hR F ds kk hF h => ?_
  subst hF
  obtain ⟨r, rfl, h1, q⟩ := h
  refine ⟨_, (pss_one (ps_ret (pe_k c_Saying__init__ hR (by decide) rfl passL (pa_cons (pe_fld (pv 0) rfl) (pa_cons (pe_fld (pv 0) rfl) (pa_cons (pe_fld (pv 0) rfl) pa_nil)))))), ?_⟩
  try dsimp only [Xof, cxOf, Cx.nox, Cx.wish, Cx.blk]
  repeat walk_at "d"
  exact ⟨⟨r.w, r.br, r.u⟩, rfl, ⟨h1.1, h1.2.1, Nat.le_trans (Nat.sub_le _ _) h1.2.1⟩, q⟩
theorem cc_Saying_flipped (W : Wf P w K mg base) : Mth P w K mg base 4 "Saying" "flipped" (spD K fun ds k _ => S_Saying_flipped ds k) := ⟨ok_Saying_flipped W, W.cls 0 _ rfl, W.meth 1 _ rfl⟩
/-! ### verdicts -/
def S_Verdicts__init__ : List D → (List PySem.Str → List D → Prop) → Prop := fun ds k => ∃ c b : Nat, ds = [nD c, nD b] ∧ c ≤ 65535 ∧ b ≤ 65535 ∧ c &&& b = 0 ∧ k ["confirm", "broken"] [nD c, nD b]
theorem ok_Verdicts__init__ (W : Wf P w K mg base) : ∃ fd, FunD K d_Verdicts__init__.name d_Verdicts__init__.qual d_Verdicts__init__.params d_Verdicts__init__.body d_Verdicts__init__.scope (d_Verdicts__init__.dvs K) (d_Verdicts__init__.kws K) (d_Verdicts__init__.at_ K) fd ∧ FnOk P w K mg base (L2.CX P w) 2 (d_Verdicts__init__.at_ K) fd ["self", "confirm", "broken"] (spI K "Verdicts" S_Verdicts__init__) := by
  have c_is_whole := cc_is_whole W
  refine W.fnI in_Verdicts__init__ sc_Verdicts__init__ (fun ds k h => by first | (obtain ⟨rfl, _⟩ := h; rfl) | (obtain ⟨_, rfl, _⟩ := h; rfl) | (obtain ⟨_, _, rfl, _⟩ := h; rfl) | (obtain ⟨_, _, _, rfl, _⟩ := h; rfl) | (obtain ⟨_, _, _, _, rfl, _⟩ := h; rfl) | (obtain ⟨_, _, _, _, _, rfl, _⟩ := h; rfl) | (obtain ⟨_, _, _, _, _, _, rfl, _⟩ := h; rfl) | (obtain ⟨_, _, _, _, _, _, _, rfl, _⟩ := h; rfl) | (obtain ⟨_, _, _, _, _, _, _, _, rfl, _⟩ := h; rfl) | (obtain ⟨_, _, _, _, _, _, _, _, _, rfl, _⟩ := h; rfl)) fun cdv A outer s H E hR F sa ds kk hF hsa h => ?_
  subst hF
  obtain ⟨c, b, rfl, h1, h2, h3, q⟩ := h
  refine ⟨_, (pss_cons (ps_if (PW.pt (pw_or (pt_not (pt_val (pe_f c_is_whole hR (by decide) rfl passL (pa_cons (pv 1) (pa_cons pe_int (pa_cons (pe_gi rfl (W.intv 0 _ rfl)) pa_nil)))))) (pw_or (pt_not (pt_val (pe_f c_is_whole hR (by decide) rfl passL (pa_cons (pv 2) (pa_cons pe_int (pa_cons (pe_gi rfl (W.intv 0 _ rfl)) pa_nil)))))) (pw_or1 (pt_truth (pe_op op_and (pv 1) (pv 2)) (by intro _; rfl))))))
  (pss_one ps_never)
  pss_nil)
  (pss_cons (ps_fld (pv 0) (pv 1) rfl)
  (pss_one (ps_fld (pv 0) (pv 2) rfl)))), ?_⟩
  try dsimp only [Xof, cxOf, Cx.nox, Cx.wish, Cx.blk]
  repeat walk_at "d"
  refine ⟨_, _, _, rfl, ?_⟩
  rw [whole_yes (by omega) (by omega)]
  repeat walk_at "d"
  refine ⟨_, _, _, rfl, ?_⟩
  rw [whole_yes (by omega) (by omega)]
  repeat walk_at "d"
  rw [h3]
  repeat walk_at "d"
  exact ⟨_, _, rfl, q⟩

theorem cc_Verdicts__init__ (W : Wf P w K mg base) : Kls P w K mg base 2 "Verdicts" (spI K "Verdicts" S_Verdicts__init__) := by
  obtain ⟨fd, Fn, G⟩ := ok_Verdicts__init__ W
  exact kls_of W rfl (W.glo 10 _ rfl) (j := 1) rfl G (Fn.bindsN fun _ _ _ _ _ _ us hl => match us, hl with | [_, _, _], _ => rfl)
def S_Verdicts_none : List D → (D → Prop) → Prop := fun ds k => ∃ a : Addr, ds = [.raw (.ref a)] ∧ k (verD 0 0)
theorem ok_Verdicts_none (W : Wf P w K mg base) : FnR P w K mg base (L2.CX P w) 4 (d_Verdicts_none.at_ K) (spD K fun ds k _ => S_Verdicts_none ds k) := by
  have c_Verdicts__init__ := cc_Verdicts__init__ W
  refine W.fnD in_Verdicts_none sc_Verdicts_none (fun fd F => F.bindsN fun _ _ _ _ _ _ us hl => match us, hl with | [_], _ => rfl) (fun ds k h => by first | (obtain ⟨rfl, _⟩ := h; rfl) | (obtain ⟨_, rfl, _⟩ := h; rfl) | (obtain ⟨_, _, rfl, _⟩ := h; rfl) | (obtain ⟨_, _, _, rfl, _⟩ := h; rfl) | (obtain ⟨_, _, _, _, rfl, _⟩ := h; rfl) | (obtain ⟨_, _, _, _, _, rfl, _⟩ := h; rfl) | (obtain ⟨_, _, _, _, _, _, rfl, _⟩ := h; rfl) | (obtain ⟨_, _, _, _, _, _, _, rfl, _⟩ := h; rfl) | (obtain ⟨_, _, _, _, _, _, _, _, rfl, _⟩ := h; rfl) | (obtain ⟨_, _, _, _, _, _, _, _, _, rfl, _⟩ := h; rfl)) fun cdv A outer s H E hR F ds kk hF h => ?_
  subst hF
  obtain ⟨a, rfl, q⟩ := h
  refine ⟨_, (pss_one (ps_ret (pe_k c_Verdicts__init__ hR (by decide) rfl passL (pa_cons pe_int (pa_cons pe_int pa_nil))))), ?_⟩
  try dsimp only [Xof, cxOf, Cx.nox, Cx.wish, Cx.blk]
  repeat walk_at "d"
  exact ⟨0, 0, rfl, by decide, by decide, rfl, q⟩
theorem cc_Verdicts_none (W : Wf P w K mg base) : FnR P w K mg base (L2.CX P w) 4 (d_Verdicts_none.at_ K) (spD K fun ds k _ => S_Verdicts_none ds k) := ok_Verdicts_none W
theorem cd_Verdicts_none (W : Wf P w K mg base) : ∃ mc, Cmt P w K mg base 4 "Verdicts" "none" mc (He.ma K (He.ga K "Verdicts") "none") (cmAt "Verdicts" "none" K) (spD K fun ds k _ => S_Verdicts_none ds k) := by
  obtain ⟨mc, h1, h2⟩ := W.cmV
  exact ⟨mc, ok_Verdicts_none W, h1, h2⟩
/-- what is joined: confirm, broken -/
def S_Verdicts__add__ : List D → (D → Prop) → Prop := fun ds k => ∃ c b c' b' : Nat, ds = [verD c b, verD c' b'] ∧ c ≤ 65535 ∧ b ≤ 65535 ∧ c' ≤ 65535 ∧ b' ≤ 65535 ∧ k (verD (nd (c ||| c') (b ||| b')) (b ||| b'))
theorem nd_and (a b : Nat) : nd a b &&& b = 0 := by
  apply eq_of_bits
  intro i
  rw [Nat.testBit_and, nd_bit, Nat.zero_testBit]
  cases a.testBit i <;> cases b.testBit i <;> rfl
theorem ok_Verdicts__add__ (W : Wf P w K mg base) : FnR P w K mg base (L2.CX P w) 4 (d_Verdicts__add__.at_ K) (spD K fun ds k _ => S_Verdicts__add__ ds k) := by
  have c_Verdicts__init__ := cc_Verdicts__init__ W
  refine W.fnD in_Verdicts__add__ sc_Verdicts__add__ (fun fd F => F.bindsN fun _ _ _ _ _ _ us hl => match us, hl with | [_, _], _ => rfl) (fun ds k h => by first | (obtain ⟨rfl, _⟩ := h; rfl) | (obtain ⟨_, rfl, _⟩ := h; rfl) | (obtain ⟨_, _, rfl, _⟩ := h; rfl) | (obtain ⟨_, _, _, rfl, _⟩ := h; rfl) | (obtain ⟨_, _, _, _, rfl, _⟩ := h; rfl) | (obtain ⟨_, _, _, _, _, rfl, _⟩ := h; rfl) | (obtain ⟨_, _, _, _, _, _, rfl, _⟩ := h; rfl) | (obtain ⟨_, _, _, _, _, _, _, rfl, _⟩ := h; rfl) | (obtain ⟨_, _, _, _, _, _, _, _, rfl, _⟩ := h; rfl) | (obtain ⟨_, _, _, _, _, _, _, _, _, rfl, _⟩ := h; rfl)) fun cdv A outer s H E hR F ds kk hF h => ?_
  subst hF
  obtain ⟨c, b, c', b', rfl, h1, h2, h3, h4, q⟩ := h
  refine ⟨_, (pss_cons (ps_set (i := 2) sc_Verdicts__add__.nd rfl (Or.inl rfl) (pe_op op_or (pe_fld (pv 0) rfl) (pe_fld (pv 1) rfl)))
  (pss_one (ps_ret (pe_k c_Verdicts__init__ hR (by decide) rfl passL (pa_cons (pe_op op_and (pe_op op_or (pe_fld (pv 0) rfl) (pe_fld (pv 1) rfl)) (pe_un un_inv (pv 2))) (pa_cons (pv 2) pa_nil)))))), ?_⟩
  try dsimp only [Xof, cxOf, Cx.nox, Cx.wish, Cx.blk]
  repeat walk_at "d"
  exact ⟨_, _, rfl, b16.mpr (nd_lt (or_lt (b16.mp h1) (b16.mp h3))), b16.mpr (or_lt (b16.mp h2) (b16.mp h4)), nd_and _ _, q⟩
theorem cc_Verdicts__add__ (W : Wf P w K mg base) : FnR P w K mg base (L2.CX P w) 4 (d_Verdicts__add__.at_ K) (spD K fun ds k _ => S_Verdicts__add__ ds k) := ok_Verdicts__add__ W
def S_verdicts_of : List D → (D → Prop) → Prop := fun ds k => ∃ r : Rw, ds = [sayD r] ∧ r.Ok ∧ k (verD r.cf r.br)
theorem cf_br (r : Rw) : r.cf &&& r.br = 0 := by
  apply eq_of_bits
  intro i
  unfold Rw.cf Rw.br
  rw [Nat.testBit_and, Nat.testBit_and, nd_bit, Nat.zero_testBit]
  cases r.w.testBit i <;> cases r.t.testBit i <;> rfl
theorem cf_le {r : Rw} (h : r.Ok) : r.cf ≤ 65535 := Nat.le_trans Nat.and_le_left h.2.1
theorem br_le {r : Rw} (h : r.Ok) : r.br ≤ 65535 := Nat.le_trans (Nat.sub_le _ _) h.2.1
theorem ok_verdicts_of (W : Wf P w K mg base) : FnR P w K mg base (L2.CX P w) 4 (d_verdicts_of.at_ K) (spD K fun ds k _ => S_verdicts_of ds k) := by
  have c_Verdicts__init__ := cc_Verdicts__init__ W
  refine W.fnD in_verdicts_of sc_verdicts_of (fun fd F => F.bindsN fun _ _ _ _ _ _ us hl => match us, hl with | [_], _ => rfl) (fun ds k h => by first | (obtain ⟨rfl, _⟩ := h; rfl) | (obtain ⟨_, rfl, _⟩ := h; rfl) | (obtain ⟨_, _, rfl, _⟩ := h; rfl) | (obtain ⟨_, _, _, rfl, _⟩ := h; rfl) | (obtain ⟨_, _, _, _, rfl, _⟩ := h; rfl) | (obtain ⟨_, _, _, _, _, rfl, _⟩ := h; rfl) | (obtain ⟨_, _, _, _, _, _, rfl, _⟩ := h; rfl) | (obtain ⟨_, _, _, _, _, _, _, rfl, _⟩ := h; rfl) | (obtain ⟨_, _, _, _, _, _, _, _, rfl, _⟩ := h; rfl) | (obtain ⟨_, _, _, _, _, _, _, _, _, rfl, _⟩ := h; rfl)) fun cdv A outer s H E hR F ds kk hF h => ?_
  subst hF
  obtain ⟨r, rfl, h1, q⟩ := h
  refine ⟨_, (pss_one (ps_ret (pe_k c_Verdicts__init__ hR (by decide) rfl passL (pa_cons (pe_fld (pv 0) rfl) (pa_cons (pe_fld (pv 0) rfl) pa_nil))))), ?_⟩
  try dsimp only [Xof, cxOf, Cx.nox, Cx.wish, Cx.blk]
  repeat walk_at "d"
  exact ⟨_, _, rfl, cf_le h1, br_le h1, cf_br r, q⟩
theorem cc_verdicts_of (W : Wf P w K mg base) : Fnc P w K mg base 4 "verdicts_of" (spD K fun ds k _ => S_verdicts_of ds k) := W.fnc in_verdicts_of (fun _ => rfl) (j := 11) rfl (ok_verdicts_of W)
end
end K33
namespace K33
open PySem PySem.Spec PyProof.Rows L2
theorem map_at {α β : Type} {f : α → β} {l : List α} {i : Nat} {y : β} (h : (l.map f)[i]? = some y) : ∃ x, l[i]? = some x ∧ y = f x := by
  rw [List.getElem?_map] at h
  cases e : l[i]? with
  | none => rw [e] at h; cases h
  | some x =>
    rw [e] at h
    exact ⟨x, rfl, (Option.some.inj h).symm⟩
theorem take_at {α : Type} {l : List α} {i : Nat} {x : α} (h : l[i]? = some x) : l.take (i + 1) = l.take i ++ [x] := by
  rw [List.take_add_one, h]
  rfl
abbrev marksD (ns : List PySem.Str) : D := .obj "Marks" ["names", "count", "days", "all_days"] [.tup (ns.map .str), nD ns.length, nD (2 ^ ns.length), nD (2 ^ 2 ^ ns.length - 1)]
/-- a book: the names of its marks, its sayings -/
structure Bk where
  ns : List PySem.Str
  rows : List Rw
def Bk.days (b : Bk) : Nat := 2 ^ b.ns.length
abbrev bookD (b : Bk) : D := .obj "Book" ["marks", "sayings"] [marksD b.ns, .tup (b.rows.map sayD)]
def Rw.In (r : Rw) (n : Nat) : Prop := 1 ≤ r.w ∧ r.w < 2 ^ n ∧ r.t < 2 ^ n
structure Bk.Ok (b : Bk) : Prop where
  n1 : 1 ≤ b.ns.length
  n4 : b.ns.length ≤ 4
  rl : b.rows.length ≤ 12
  ri : ∀ r ∈ b.rows, r.In b.days
theorem Bk.Ok.d16 {b : Bk} (h : b.Ok) : b.days ≤ 16 := by
  have := Nat.pow_le_pow_right (show 0 < 2 by decide) h.n4
  exact this
theorem Rw.In.ok {r : Rw} {n : Nat} (h : r.In n) (hn : n ≤ 16) : r.Ok := by
  have : 2 ^ n ≤ 2 ^ 16 := Nat.pow_le_pow_right (by decide) hn
  exact ⟨h.1, by have := h.2.1; omega, by have := h.2.2; omega⟩
abbrev lhsD (r : Rw) : D := .tup [nD r.lo, nD r.hi, .int (if r.u then 1 else 0)]
def firstR (rs : List Rw) (day known : Nat) : Option Nat := rs.findIdx? fun r => r.hi.testBit day && decide (r.lo &&& known = 0)
def optD : Option Nat → D
  | none => .non
  | some n => nD n
section
variable {P : Program} {w : World} {K : PySem.W.Frag} {mg : PySem.Str → Option Value} {base : Heap}
local macro_rules | `(tactic| walk_at "d0") => `(tactic| first
  | ((with_reducible apply ev_var); rfl)
  | with_reducible apply ev_int
  | with_reducible apply ev_bl
  | with_reducible apply ev_str
  | with_reducible apply ev_non
  | with_reducible apply s_seq
  | with_reducible apply s_ret
  | with_reducible apply s_asg
  | with_reducible apply s_next
  | ((with_reducible apply s_app); rfl)
  | with_reducible apply s_drop
  | ((with_reducible apply src_0); rfl; intro _)
  | ((with_reducible apply src_1); rfl; intro _ _ _)
  | ((with_reducible apply src_2); rfl; intro _)
  | ((with_reducible apply s_setSrc0); rfl)
  | ((with_reducible apply s_setSrc2); rfl)
  | ((with_reducible apply ev_callS); rfl)
  | ((with_reducible apply ev_opO); rfl)
  | ((with_reducible apply ev_ixO); rfl)
  | with_reducible apply ev_op
  | with_reducible apply ev_un
  | with_reducible apply et_test
  | with_reducible apply et_B
  | with_reducible apply et_truI
  | with_reducible apply et_and
  | with_reducible apply et_or
  | with_reducible apply et_not
  | with_reducible apply ea_nil
  | with_reducible apply ea_cons
  | with_reducible apply ro_nd_n
  | with_reducible apply ro_and_n
  | with_reducible apply ro_or_n
  | with_reducible apply ro_shr_n
  | with_reducible apply ro_eq_0
  | with_reducible apply ro_ne_0
  | with_reducible apply ro_eq_n
  | with_reducible apply ro_ne_n
  | with_reducible apply ro_add_n
  | with_reducible apply ro_add_1
  | with_reducible apply ro_I0
  | with_reducible apply ro_B0
  | with_reducible apply ro_un
  | ((with_reducible apply ro_isN); rfl)
  | ((with_reducible apply ro_notN); rfl)
  | with_reducible apply ro_eq_t0
  | with_reducible apply ro_ne_lt0
  | with_reducible apply ro_ne_l0
  | with_reducible apply ro_ne_tt
  | with_reducible apply ro_eq_tt
  | with_reducible apply ro_ne_t
  | with_reducible apply ro_eq_i
  | with_reducible apply ro_ne_i
  | with_reducible apply ro_eq_s
  | with_reducible apply ro_add
  | ((with_reducible apply ro_ixT); rfl)
  | ((with_reducible apply ro_ixL); rfl)
  | with_reducible apply ev_list
  | with_reducible apply ev_tuple
  | with_reducible apply ev_sortset
  | with_reducible apply ev_isLT
  | ((with_reducible apply ev_cbO); rfl)
  | with_reducible apply ev_cb
  | with_reducible apply ev_call
  | ((with_reducible apply ev_fldM); rfl; exact Wf.kc2 (by assumption) (by decide +kernel); rfl)
  | with_reducible apply ev_fld
  | with_reducible apply ev_and
  | with_reducible apply ev_or
  | with_reducible apply ev_notV
  | with_reducible apply ev_if
  | with_reducible apply ev_chain
  | with_reducible apply ev_tup
  | with_reducible apply ev_lst
  | with_reducible apply ev_make
  | ((with_reducible apply ev_cm0); exact exok0)
  | ((with_reducible apply ev_cm); exact exok0)
  | ((with_reducible apply ev_meth0); exact exok0)
  | ((with_reducible apply ev_meth); exact exok0)
  | ((with_reducible apply ro_subO); exact exok0)
  | ((with_reducible apply ro_addO); exact exok0)
  | ((with_reducible apply rc_lenO); exact exok0)
  | ((with_reducible apply ev_prop); exact exok0)
  | with_reducible apply rc_int
  | with_reducible apply rc_lenL
  | with_reducible apply rc_lenT
  | ((with_reducible apply rc_is_int); (exact rfl))
  | ((with_reducible apply rc_is_bl); (exact rfl))
  | ((with_reducible apply rc_is_str); (exact rfl))
  | ((with_reducible apply rc_is_tup); (exact rfl))
  | ((with_reducible apply s_fldM); rfl; exact Wf.kc2 (by assumption) (by decide +kernel); decide; rfl)
  | with_reducible apply et_yes
  | with_reducible apply ev_rawc
  | ((with_reducible apply ev_src); rfl)
  | ((with_reducible refine ⟨len_ok ?_, ?_⟩); rfl)
  | with_reducible refine ⟨rfl, ?_⟩
  | with_reducible refine ⟨⟨_, rfl⟩, ?_⟩
  | with_reducible refine ⟨_, rfl, ?_⟩
  | refine ⟨_, _, rfl, rfl, ?_⟩
  | refine ⟨_, _, _, _, rfl, Wf.kc2 (by assumption) (by decide +kernel), rfl, ?_⟩
  | ((with_reducible apply iteTr); rfl)
  | ((with_reducible apply iteFr); rfl)
  | dsimp only)
local macro_rules | `(tactic| walk_at "d") => `(tactic| first
  | walk_at "d0"
  | with_reducible apply s_if)
local macro_rules | `(tactic| walk_at "o") => `(tactic| first
  | ((with_reducible apply so_retO); rfl)
  | ((with_reducible apply et_notcallO); rfl)
  | ((with_reducible apply s_asgO); (with_reducible apply en_lst); (with_reducible apply ea_nil); refine ⟨len_ok rfl, ?_⟩)
  | walk_at "d")

local macro_rules | `(tactic| walk_at "x") => `(tactic| first
  | ((with_reducible apply ev_callX); assumption)
  | walk_at "o")
def S_first_reason : List D → (D → Prop) → Prop := fun ds k => ∃ (rs : List Rw) (day known st : Nat), ds = [.lst (rs.map lhsD), nD day, nD known, nD st] ∧ (∀ r ∈ rs, r.u = true) ∧ k (optD (firstR rs day known))
theorem firstR_some {rs : List Rw} {day known i : Nat} {r : Rw} (h0 : ∀ (j : Nat) (x : Rw), j < i → rs[j]? = some x → (x.hi.testBit day && decide (x.lo &&& known = 0)) = false) (hi : rs[i]? = some r) (h1 : (r.hi.testBit day && decide (r.lo &&& known = 0)) = true) : firstR rs day known = some i := by
  unfold firstR
  have hl := (List.getElem?_eq_some_iff.mp hi).1
  rw [List.findIdx?_eq_some_iff_getElem]
  refine ⟨hl, ?_, fun j hj => ?_⟩
  · have := (List.getElem?_eq_some_iff.mp hi).2
    rw [this]
    exact h1
  · have := h0 j _ hj (List.getElem?_eq_getElem (Nat.lt_trans hj hl))
    rw [this]
    decide
theorem firstR_none {rs : List Rw} {day known : Nat} (h0 : ∀ (j : Nat) (x : Rw), j < rs.length → rs[j]? = some x → (x.hi.testBit day && decide (x.lo &&& known = 0)) = false) : firstR rs day known = none := by
  unfold firstR
  rw [List.findIdx?_eq_none_iff]
  intro x hx
  obtain ⟨j, hj, e⟩ := List.mem_iff_getElem.mp hx
  rw [← e]
  exact h0 j _ hj (List.getElem?_eq_getElem hj)
theorem ok_first_reason (W : Wf P w K mg base) : FnR P w K mg base (L2.CX P w) 1 (d_first_reason.at_ K) (spD K fun ds k _ => S_first_reason ds k) := by
  refine W.fnD in_first_reason sc_first_reason (fun fd F => F.bindsN fun _ _ _ _ _ _ us hl => match us, hl with | [_, _, _, _], _ => rfl) (fun ds k h => by first | (obtain ⟨rfl, _⟩ := h; rfl) | (obtain ⟨_, rfl, _⟩ := h; rfl) | (obtain ⟨_, _, rfl, _⟩ := h; rfl) | (obtain ⟨_, _, _, rfl, _⟩ := h; rfl) | (obtain ⟨_, _, _, _, rfl, _⟩ := h; rfl) | (obtain ⟨_, _, _, _, _, rfl, _⟩ := h; rfl) | (obtain ⟨_, _, _, _, _, _, rfl, _⟩ := h; rfl) | (obtain ⟨_, _, _, _, _, _, _, rfl, _⟩ := h; rfl) | (obtain ⟨_, _, _, _, _, _, _, _, rfl, _⟩ := h; rfl) | (obtain ⟨_, _, _, _, _, _, _, _, _, rfl, _⟩ := h; rfl)) fun cdv A outer s H E hR F ds kk hF h => ?_
  subst hF
  obtain ⟨rs, day, known, st, rfl, hu, q⟩ := h
  refine ⟨_, (pss_cons (ps_for PassesOwn.never rfl (pi_enumX (by rfl) (W.free 9 _ rfl) (pa_cons (pv 0) pa_nil)) (pg_tupK (K := F.K) (n := 2) rfl (by rfl) (pgs_cons (pg_name (i := 4) sc_first_reason.nd rfl (Or.inl rfl)) (pgs_cons (pg_tupK (K := F.K) (n := 3) rfl (by rfl) (pgs_cons (pg_name (i := 5) sc_first_reason.nd rfl (Or.inl rfl)) (pgs_cons (pg_name (i := 6) sc_first_reason.nd rfl (Or.inl rfl)) (pgs_cons (pg_name (i := 7) sc_first_reason.nd rfl (Or.inl rfl)) pgs_nil)))) pgs_nil)))
  (pss_one (ps_if (PW.pt (pw_and (pt_cmpR (op_eqX hR.units : OpR _ _ (rEqX F.K)) (pe_op op_and (pe_op op_shr (pv 6) (pv 1)) pe_int) pe_int (nomark _)) (pw_and1 (pt_cmpR (op_eqX hR.units : OpR _ _ (rEqX F.K)) (pe_op op_and (pv 5) (pe_ifExp (pt_cmpR (op_eqX hR.units : OpR _ _ (rEqX F.K)) (pv 7) pe_int (nomark _)) (pv 2) (pe_op op_or (pv 2) (pv 3)))) pe_int (nomark _)))))
  (pss_one (ps_ret (pv 4)))
  pss_nil)))
  (pss_one (ps_ret pe_non))), ?_⟩
  try dsimp only [Xof, cxOf, Cx.nox, Cx.wish, Cx.blk]
  repeat walk_at "d"
  apply s_for
  apply ei_enum
  repeat walk_at "d"
  refine ⟨_, .inl rfl, fun i ρ => (∃ x y z v, ρ = [.val (.lst (rs.map lhsD)), .val (nD day), .val (nD known), .val (nD st), x, y, z, v]) ∧ ∀ (j : Nat) (x : Rw), j < i → rs[j]? = some x → (x.hi.testBit day && decide (x.lo &&& known = 0)) = false, ⟨⟨_, _, _, _, rfl⟩, fun j x h => absurd h (Nat.not_lt_zero j)⟩, ?_, ?_⟩
  · rintro i d ρ' hi ⟨⟨x, y, z, v, rfl⟩, h0⟩
    obtain ⟨x, e, rfl⟩ := enumD_at hi
    obtain ⟨r, er, rfl⟩ := map_at e
    have ru := hu r (List.mem_of_getElem? er)
    refine ⟨_, g_tup rfl (gs_cons g_name (gs_cons (g_tup rfl (gs_cons g_name (gs_cons g_name (gs_cons g_name gs_nil)))) gs_nil)), ?_⟩
    have nx : ∀ b : Bool, (r.hi.testBit day && decide (r.lo &&& known = 0)) = false → ∀ (j : Nat) (x : Rw), j < i + 1 → rs[j]? = some x → (x.hi.testBit day && decide (x.lo &&& known = 0)) = false := fun _ hb j x' hj ej => by
      by_cases h : j < i
      · exact h0 j x' h ej
      · have : j = i := by omega
        subst this
        rw [er] at ej
        cases ej
        exact hb
    repeat walk_at "d"
    rw [bit_test]
    cases hb : r.hi.testBit day with
    | false =>
      repeat walk_at "d"
      exact ⟨⟨_, _, _, _, rfl⟩, nx true (by rw [hb]; rfl)⟩
    | true =>
      rw [ru]
      repeat walk_at "d"
      cases hc : decide (r.lo &&& known = 0) with
      | false =>
        repeat walk_at "d"
        exact ⟨⟨_, _, _, _, rfl⟩, nx true (by rw [hc, Bool.and_false])⟩
      | true =>
        repeat walk_at "d"
        rw [firstR_some h0 er (by rw [hb, hc]; rfl)] at q
        exact q
  · rintro ρ' ⟨⟨x, y, z, v, rfl⟩, h0⟩
    repeat walk_at "d"
    rw [enumD_len, List.length_map] at h0
    rw [firstR_none h0] at q
    exact q
theorem cc_first_reason (W : Wf P w K mg base) : Fnc P w K mg base 1 "first_reason" (spD K fun ds k _ => S_first_reason ds k) := W.fnc in_first_reason (fun _ => rfl) (j := 4) rfl (ok_first_reason W)
def S_all_sayings : List D → (D → Prop) → Prop := fun ds k => ∃ (b : Bk) (fs : List Rw), ds = [bookD b, .tup (fs.map sayD)] ∧ (∀ r ∈ fs, r.In b.days) ∧ b.rows.length + fs.length ≤ 1000 ∧ k (.lst ((b.rows ++ fs).map sayD))
theorem shr_zero {a b n : Nat} (ha : a < 2 ^ n) (hb : b < 2 ^ n) : (a ||| b) >>> n = 0 := by
  rw [Nat.shiftRight_eq_div_pow]
  exact Nat.div_eq_of_lt (or_lt ha hb)
theorem ok_all_sayings (W : Wf P w K mg base) : FnR P w K mg base (L2.CX P w) 1 (d_all_sayings.at_ K) (spD K fun ds k _ => S_all_sayings ds k) := by
  refine W.fnD in_all_sayings sc_all_sayings (fun fd F => F.bindsN fun _ _ _ _ _ _ us hl => match us, hl with | [_, _], _ => rfl) (fun ds k h => by first | (obtain ⟨rfl, _⟩ := h; rfl) | (obtain ⟨_, rfl, _⟩ := h; rfl) | (obtain ⟨_, _, rfl, _⟩ := h; rfl) | (obtain ⟨_, _, _, rfl, _⟩ := h; rfl) | (obtain ⟨_, _, _, _, rfl, _⟩ := h; rfl) | (obtain ⟨_, _, _, _, _, rfl, _⟩ := h; rfl) | (obtain ⟨_, _, _, _, _, _, rfl, _⟩ := h; rfl) | (obtain ⟨_, _, _, _, _, _, _, rfl, _⟩ := h; rfl) | (obtain ⟨_, _, _, _, _, _, _, _, rfl, _⟩ := h; rfl) | (obtain ⟨_, _, _, _, _, _, _, _, _, rfl, _⟩ := h; rfl)) fun cdv A outer s H E hR F ds kk hF h => ?_
  subst hF
  obtain ⟨b, fs, rfl, hf, hl, q⟩ := h
  refine ⟨_, (pss_cons (ps_for PassesOwn.never rfl (pi_seqK (K := F.K) rfl (pv 1)) (pg_name (i := 2) sc_all_sayings.nd rfl (Or.inl rfl))
  (pss_one (ps_if (pt_cmpR (op_neX hR.units : OpR _ _ (rNeX F.K)) (pe_op op_shr (pe_op op_or (pe_fld (pv 2) rfl) (pe_fld (pv 2) rfl)) (pe_fld (pe_fld (pv 0) rfl) rfl)) pe_int (nomark _))
  (pss_one ps_never)
  pss_nil)))
  (pss_one (ps_ret (pe_op (op_addX : OpR _ _ (rAddX F.K)) (pe_callTy call_list_of rfl (W.free 5 _ rfl) (by decide +kernel) (pa_cons (pe_fld (pv 0) rfl) pa_nil)) (pe_callTy call_list_of rfl (W.free 5 _ rfl) (by decide +kernel) (pa_cons (pv 1) pa_nil)))))), ?_⟩
  try dsimp only [Xof, cxOf, Cx.nox, Cx.wish, Cx.blk]
  repeat walk_at "d"
  apply s_for
  apply ei_seq
  repeat walk_at "d"
  refine ⟨_, .inr rfl, fun i ρ => ∃ x, ρ = [.val (bookD b), .val (.tup (fs.map sayD)), x], ⟨_, rfl⟩, ?_, ?_⟩
  · rintro i d ρ' hi ⟨x, rfl⟩
    obtain ⟨r, er, rfl⟩ := map_at hi
    have hr := hf r (List.mem_of_getElem? er)
    refine ⟨_, g_name, ?_⟩
    repeat walk_at "d"
    rw [show (r.w ||| r.t) >>> (2 ^ b.ns.length) = 0 from shr_zero hr.2.1 hr.2.2]
    repeat walk_at "d"
    exact ⟨_, rfl⟩
  · rintro ρ' ⟨x, rfl⟩
    repeat walk_at "d"
    refine ⟨_, .inr rfl, ?_⟩
    repeat walk_at "d"
    refine ⟨_, .inr rfl, ?_⟩
    apply ro_cat (by rw [List.length_map, List.length_map]; omega)
    rw [← List.map_append]
    exact q
theorem cc_all_sayings (W : Wf P w K mg base) : Fnc P w K mg base 1 "all_sayings" (spD K fun ds k _ => S_all_sayings ds k) := W.fnc in_all_sayings (fun _ => rfl) (j := 3) rfl (ok_all_sayings W)
end
end K33
namespace K33
open PySem PySem.Spec PyProof.Rows L2
abbrev tupN (l : List Nat) : D := .tup (l.map nD)
def pI (l : List Nat) : List PyData := l.map fun (n : Nat) => PyData.int (n : Int)
def pT (ls : List (List Nat)) : List PyData := ls.map fun l => PyData.tuple (pI l)
theorem datas_n : ∀ l : List Nat, D.datas (l.map nD) = some (pI l)
  | [] => rfl
  | n :: l => by
    show (match D.data (nD n), D.datas (l.map nD) with | some x, some r => some (x :: r) | _, _ => none) = _
    rw [datas_n l]
    rfl
theorem data_t (l : List Nat) : (tupN l).data = some (.tuple (pI l)) := by
  unfold D.data
  rw [datas_n]
  rfl
theorem data_l (l : List Nat) : (D.lst (l.map nD)).data = some (.list (pI l)) := by
  unfold D.data
  rw [datas_n]
  rfl
theorem datas_t : ∀ ls : List (List Nat), D.datas (ls.map tupN) = some (pT ls)
  | [] => rfl
  | l :: ls => by
    show (match D.data (tupN l), D.datas (ls.map tupN) with | some x, some r => some (x :: r) | _, _ => none) = _
    rw [datas_t ls, data_t]
    rfl
theorem data_tt (ls : List (List Nat)) : (D.tup (ls.map tupN)).data = some (.tuple (pT ls)) := by
  unfold D.data
  rw [datas_t]
  rfl
theorem data_lt (ls : List (List Nat)) : (D.lst (ls.map tupN)).data = some (.list (pT ls)) := by
  unfold D.data
  rw [datas_t]
  rfl
theorem lay_n : ∀ l : List Nat, PyData.canLayAll0 (pI l) = true ∧ PyData.depthAll (pI l) = 0
  | [] => ⟨by simp [pI, PyData.canLayAll0], by simp [pI, PyData.depthAll]⟩
  | n :: l => by
    obtain ⟨h1, h2⟩ := lay_n l
    have e : pI (n :: l) = .int (n : Int) :: pI l := rfl
    rw [e]
    exact ⟨by simp [PyData.canLayAll0, PyData.canLay0, h1], by simp [PyData.depthAll, PyData.depth, h2]⟩
theorem lay_t : ∀ l : List (List Nat), PyData.canLayAll0 (pT l) = true ∧ PyData.depthAll (pT l) ≤ 1
  | [] => ⟨by simp [pT, PyData.canLayAll0], by simp [pT, PyData.depthAll]⟩
  | n :: l => by
    obtain ⟨h1, h2⟩ := lay_t l
    obtain ⟨h3, h4⟩ := lay_n n
    have e : pT (n :: l) = .tuple (pI n) :: pT l := rfl
    rw [e]
    refine ⟨by simp [PyData.canLayAll0, PyData.canLay0, h1, h3], ?_⟩
    simp only [PyData.depthAll, PyData.depth, h4]
    omega
theorem sh_t (l : List Nat) : SeqAt.shaped (.tuple (pI l)) = true := by
  obtain ⟨h1, h2⟩ := lay_n l
  unfold SeqAt.shaped
  simp [PyData.canLay0, PyData.depth, h1, h2]
theorem sh_l (l : List Nat) : SeqAt.shaped (.list (pI l)) = true := by
  obtain ⟨h1, h2⟩ := lay_n l
  unfold SeqAt.shaped
  simp [PyData.canLay0, PyData.depth, h1, h2]
theorem sh_tt (l : List (List Nat)) : SeqAt.shaped (.tuple (pT l)) = true := by
  obtain ⟨h1, h2⟩ := lay_t l
  unfold SeqAt.shaped
  simp only [PyData.canLay0, PyData.depth, h1, Bool.true_and, decide_eq_true_eq]
  exact decide_eq_true (Nat.le_trans (Nat.succ_le_succ h2) (show 2 ≤ 64 by decide))
theorem sh_lt (l : List (List Nat)) : SeqAt.shaped (.list (pT l)) = true := by
  obtain ⟨h1, h2⟩ := lay_t l
  unfold SeqAt.shaped
  simp only [PyData.canLay0, PyData.depth, h1, Bool.true_and, decide_eq_true_eq]
  exact decide_eq_true (Nat.le_trans (Nat.succ_le_succ h2) (show 2 ≤ 64 by decide))
theorem eqv_n : ∀ a b : List Nat, PyData.eqvAll (pI a) (pI b) = decide (a = b)
  | [], [] => by simp [pI, PyData.eqvAll]
  | [], _ :: _ => by simp [pI, PyData.eqvAll]
  | _ :: _, [] => by simp [pI, PyData.eqvAll]
  | x :: xs, y :: ys => by
    have e : ∀ (x : Nat) (xs : List Nat), pI (x :: xs) = .int (x : Int) :: pI xs := fun _ _ => rfl
    rw [e, e]
    simp only [PyData.eqvAll, PyData.eqv, eqv_n xs ys, List.cons.injEq]
    by_cases h : x = y
    · subst h
      simp
    · have : ((x : Int) == (y : Int)) = false := by
        rw [beq_eq_false_iff_ne]
        omega
      simp [this, h]
theorem eqv_t : ∀ a b : List (List Nat), PyData.eqvAll (pT a) (pT b) = decide (a = b)
  | [], [] => by simp [pT, PyData.eqvAll]
  | [], _ :: _ => by simp [pT, PyData.eqvAll]
  | _ :: _, [] => by simp [pT, PyData.eqvAll]
  | x :: xs, y :: ys => by
    have e : ∀ (x : List Nat) (xs : List (List Nat)), pT (x :: xs) = .tuple (pI x) :: pT xs := fun _ _ => rfl
    rw [e, e]
    simp only [PyData.eqvAll, PyData.eqv, eqv_t xs ys, List.cons.injEq, eqv_n x y]
    by_cases h : x = y
    · subst h
      simp
    · simp [h]
section
variable {F : Fm} {ρ : List Sl} {k : D → Prop}
theorem ro_eq_t0 {a : List Nat} (q : k (.bl (decide (a = [])))) : ROp F (rEqX F.K) ρ (.tup (a.map nD)) (.tup []) k := ro_eq_d (data_t a) (data_t []) (sh_t a) (sh_t []) (by
  show k (.bl (PyData.eqvAll (pI a) (pI [])))
  rw [eqv_n]
  exact q)
theorem ro_ne_t {a b : List Nat} (q : k (.bl (!decide (a = b)))) : ROp F (rNeX F.K) ρ (.tup (a.map nD)) (.tup (b.map nD)) k := ro_ne_d (data_t a) (data_t b) (sh_t a) (sh_t b) (by
  show k (.bl (!PyData.eqvAll (pI a) (pI b)))
  rw [eqv_n]
  exact q)
theorem ro_ne_l0 {a : List Nat} (q : k (.bl (!decide (a = [])))) : ROp F (rNeX F.K) ρ (.lst (a.map nD)) (.lst []) k := ro_ne_d (data_l a) (data_l []) (sh_l a) (sh_l []) (by
  show k (.bl (!PyData.eqvAll (pI a) (pI [])))
  rw [eqv_n]
  exact q)
theorem ro_ne_lt0 {a : List (List Nat)} (q : k (.bl (!decide (a = [])))) : ROp F (rNeX F.K) ρ (.lst (a.map tupN)) (.lst []) k := ro_ne_d (data_lt a) (data_lt []) (sh_lt a) (sh_lt []) (by
  show k (.bl (!PyData.eqvAll (pT a) (pT [])))
  rw [eqv_t]
  exact q)
theorem ro_eq_tt {a b : List (List Nat)} (q : k (.bl (decide (a = b)))) : ROp F (rEqX F.K) ρ (.tup (a.map tupN)) (.tup (b.map tupN)) k := ro_eq_d (data_tt a) (data_tt b) (sh_tt a) (sh_tt b) (by
  show k (.bl (PyData.eqvAll (pT a) (pT b)))
  rw [eqv_t]
  exact q)
theorem ro_ne_tt {a b : List (List Nat)} (q : k (.bl (!decide (a = b)))) : ROp F (rNeX F.K) ρ (.tup (a.map tupN)) (.tup (b.map tupN)) k := ro_ne_d (data_tt a) (data_tt b) (sh_tt a) (sh_tt b) (by
  show k (.bl (!PyData.eqvAll (pT a) (pT b)))
  rw [eqv_t]
  exact q)
end
theorem atI_map {α β : Type} {f : α → β} {l : List α} {n : Nat} {x : α} (h : l[n]? = some x) : atI (l.map f) (n : Int) = some (f x) := atI_nat (by rw [List.getElem?_map, h]; rfl)
theorem atI_last {α β : Type} {f : α → β} {l : List α} {x : α} : atI ((l ++ [x]).map f) (-1) = some (f x) := by
  unfold atI ixN
  rw [if_neg (by decide), List.length_map, List.length_append]
  rw [if_pos (by show -(((l.length + 1 : Nat)) : Int) ≤ -1; omega)]
  show ((l ++ [x]).map f)[((-1 : Int) + ((l.length + 1 : Nat) : Int)).toNat]? = _
  rw [show ((-1 : Int) + ((l.length + 1 : Nat) : Int)).toNat = l.length by omega]
  simp
theorem snoc_of {α : Type} {l : List α} (h : l ≠ []) : ∃ r x, l = r ++ [x] := ⟨l.dropLast, l.getLast h, (List.dropLast_concat_getLast h).symm⟩
theorem map_nD {l : List Nat} : l.map nD = (l.map fun (n : Nat) => (n : Int)).map D.int := by
  rw [List.map_map]
  rfl
theorem mem_cast {n : Nat} {a : List Nat} : decide ((n : Int) ∈ a.map fun (n : Nat) => (n : Int)) = decide (n ∈ a) := by
  rw [Bool.eq_iff_iff, decide_eq_true_iff, decide_eq_true_iff, List.mem_map]
  constructor
  · rintro ⟨m, hm, e⟩
    have : m = n := by omega
    exact this ▸ hm
  · exact fun h => ⟨n, h, rfl⟩
theorem ro_inTn {F : Fm} {ρ : List Sl} {k : D → Prop} {n : Nat} {a : List Nat} (q : k (.bl (decide (n ∈ a)))) : ROp F (rInX F.K) ρ (nD n) (tupN a) k := by
  show ROp F (rInX F.K) ρ (.int (n : Int)) (.tup (a.map nD)) k
  rw [map_nD]
  exact ro_inT (by rw [mem_cast]; exact q)
theorem ro_niLn {F : Fm} {ρ : List Sl} {k : D → Prop} {n : Nat} {a : List Nat} (q : k (.bl (!decide (n ∈ a)))) : ROp F (rNiX F.K) ρ (nD n) (.lst (a.map nD)) k := by
  show ROp F (rNiX F.K) ρ (.int (n : Int)) (.lst (a.map nD)) k
  rw [map_nD]
  exact ro_niL (by rw [mem_cast]; exact q)
end K33
namespace K33
open PySem PySem.Spec PyProof.Rows L2
def jB (rs : List Rw) : Nat := rs.foldl (fun b r => b ||| r.br) 0
def jU (rs : List Rw) : Nat := rs.foldl (fun b r => b ||| r.cf) 0
def jstep (p : Nat × Nat) (r : Rw) : Nat × Nat := (nd (p.1 ||| r.cf) (p.2 ||| r.br), p.2 ||| r.br)
def jn (rs : List Rw) : Nat × Nat := rs.foldl jstep (0, 0)
theorem fold_take {α β : Type} {f : β → α → β} {z : β} {l : List α} {i : Nat} {x : α} (h : l[i]? = some x) : (l.take (i + 1)).foldl f z = f ((l.take i).foldl f z) x := by
  rw [take_at h, List.foldl_append]
  rfl
def sharpB (rows : List Rw) (lot : List Nat) (r : Rw) : Bool := decide (nd (jn (lot.filterMap (rows[·]?))).1 r.cf = 0) && decide (nd r.br (jn (lot.filterMap (rows[·]?))).2 = 0)
theorem fm_take {α β : Type} {f : α → Option β} {l : List α} {i : Nat} {x : α} {y : β} (h : l[i]? = some x) (hy : f x = some y) : (l.take (i + 1)).filterMap f = (l.take i).filterMap f ++ [y] := by
  rw [take_at h, List.filterMap_append]
  simp [hy]
section
variable {P : Program} {w : World} {K : PySem.W.Frag} {mg : PySem.Str → Option Value} {base : Heap}
local macro_rules | `(tactic| walk_at "d0") => `(tactic| first
  | ((with_reducible apply ev_var); rfl)
  | with_reducible apply ev_int
  | with_reducible apply ev_bl
  | with_reducible apply ev_str
  | with_reducible apply ev_non
  | with_reducible apply s_seq
  | with_reducible apply s_ret
  | with_reducible apply s_asg
  | with_reducible apply s_next
  | ((with_reducible apply s_app); rfl)
  | with_reducible apply s_drop
  | ((with_reducible apply src_0); rfl; intro _)
  | ((with_reducible apply src_1); rfl; intro _ _ _)
  | ((with_reducible apply src_2); rfl; intro _)
  | ((with_reducible apply s_setSrc0); rfl)
  | ((with_reducible apply s_setSrc2); rfl)
  | ((with_reducible apply ev_callS); rfl)
  | ((with_reducible apply ev_opO); rfl)
  | ((with_reducible apply ev_ixO); rfl)
  | with_reducible apply ev_op
  | with_reducible apply ev_un
  | with_reducible apply et_test
  | with_reducible apply et_B
  | with_reducible apply et_truI
  | with_reducible apply et_and
  | with_reducible apply et_or
  | with_reducible apply et_not
  | with_reducible apply ea_nil
  | with_reducible apply ea_cons
  | with_reducible apply ro_nd_n
  | with_reducible apply ro_and_n
  | with_reducible apply ro_or_n
  | with_reducible apply ro_shr_n
  | with_reducible apply ro_eq_0
  | with_reducible apply ro_ne_0
  | with_reducible apply ro_eq_n
  | with_reducible apply ro_ne_n
  | with_reducible apply ro_add_n
  | with_reducible apply ro_add_1
  | with_reducible apply ro_I0
  | with_reducible apply ro_B0
  | with_reducible apply ro_un
  | ((with_reducible apply ro_isN); rfl)
  | ((with_reducible apply ro_notN); rfl)
  | with_reducible apply ro_eq_t0
  | with_reducible apply ro_ne_lt0
  | with_reducible apply ro_ne_l0
  | with_reducible apply ro_ne_tt
  | with_reducible apply ro_eq_tt
  | with_reducible apply ro_ne_t
  | with_reducible apply ro_eq_i
  | with_reducible apply ro_ne_i
  | with_reducible apply ro_eq_s
  | with_reducible apply ro_add
  | ((with_reducible apply ro_ixT); rfl)
  | ((with_reducible apply ro_ixL); rfl)
  | with_reducible apply ev_list
  | with_reducible apply ev_tuple
  | with_reducible apply ev_sortset
  | with_reducible apply ev_isLT
  | ((with_reducible apply ev_cbO); rfl)
  | with_reducible apply ev_cb
  | with_reducible apply ev_call
  | ((with_reducible apply ev_fldM); rfl; exact Wf.kc2 (by assumption) (by decide +kernel); rfl)
  | with_reducible apply ev_fld
  | with_reducible apply ev_and
  | with_reducible apply ev_or
  | with_reducible apply ev_notV
  | with_reducible apply ev_if
  | with_reducible apply ev_chain
  | with_reducible apply ev_tup
  | with_reducible apply ev_lst
  | with_reducible apply ev_make
  | ((with_reducible apply ev_cm0); exact exok0)
  | ((with_reducible apply ev_cm); exact exok0)
  | ((with_reducible apply ev_meth0); exact exok0)
  | ((with_reducible apply ev_meth); exact exok0)
  | ((with_reducible apply ro_subO); exact exok0)
  | ((with_reducible apply ro_addO); exact exok0)
  | ((with_reducible apply rc_lenO); exact exok0)
  | ((with_reducible apply ev_prop); exact exok0)
  | with_reducible apply rc_int
  | with_reducible apply rc_lenL
  | with_reducible apply rc_lenT
  | ((with_reducible apply rc_is_int); (exact rfl))
  | ((with_reducible apply rc_is_bl); (exact rfl))
  | ((with_reducible apply rc_is_str); (exact rfl))
  | ((with_reducible apply rc_is_tup); (exact rfl))
  | ((with_reducible apply s_fldM); rfl; exact Wf.kc2 (by assumption) (by decide +kernel); decide; rfl)
  | with_reducible apply et_yes
  | with_reducible apply ev_rawc
  | ((with_reducible apply ev_src); rfl)
  | ((with_reducible refine ⟨len_ok ?_, ?_⟩); rfl)
  | with_reducible refine ⟨rfl, ?_⟩
  | with_reducible refine ⟨⟨_, rfl⟩, ?_⟩
  | with_reducible refine ⟨_, rfl, ?_⟩
  | refine ⟨_, _, rfl, rfl, ?_⟩
  | refine ⟨_, _, _, _, rfl, Wf.kc2 (by assumption) (by decide +kernel), rfl, ?_⟩
  | ((with_reducible apply iteTr); rfl)
  | ((with_reducible apply iteFr); rfl)
  | dsimp only)
local macro_rules | `(tactic| walk_at "d") => `(tactic| first
  | walk_at "d0"
  | with_reducible apply s_if)
local macro_rules | `(tactic| walk_at "o") => `(tactic| first
  | ((with_reducible apply so_retO); rfl)
  | ((with_reducible apply et_notcallO); rfl)
  | ((with_reducible apply s_asgO); (with_reducible apply en_lst); (with_reducible apply ea_nil); refine ⟨len_ok rfl, ?_⟩)
  | walk_at "d")

local macro_rules | `(tactic| walk_at "x") => `(tactic| first
  | ((with_reducible apply ev_callX); assumption)
  | walk_at "o")
def S_joined : List D → (D → Prop) → Prop := fun ds k => ∃ rs : List Rw, ds = [.lst (rs.map sayD)] ∧ (∀ r ∈ rs, r.Ok) ∧ k (verD (jn rs).1 (jn rs).2)
theorem ok_joined (W : Wf P w K mg base) : FnR P w K mg base (L2.CX P w) 6 (d_joined.at_ K) (spD K fun ds k _ => S_joined ds k) := by
  obtain ⟨_, c_none⟩ := cd_Verdicts_none W
  have c_verdicts_of := cc_verdicts_of W
  have c_Verdicts__add__ := cc_Verdicts__add__ W
  refine W.fnD in_joined sc_joined (fun fd F => F.bindsN fun _ _ _ _ _ _ us hl => match us, hl with | [_], _ => rfl) (fun ds k h => by first | (obtain ⟨rfl, _⟩ := h; rfl) | (obtain ⟨_, rfl, _⟩ := h; rfl) | (obtain ⟨_, _, rfl, _⟩ := h; rfl) | (obtain ⟨_, _, _, rfl, _⟩ := h; rfl) | (obtain ⟨_, _, _, _, rfl, _⟩ := h; rfl) | (obtain ⟨_, _, _, _, _, rfl, _⟩ := h; rfl) | (obtain ⟨_, _, _, _, _, _, rfl, _⟩ := h; rfl) | (obtain ⟨_, _, _, _, _, _, _, rfl, _⟩ := h; rfl) | (obtain ⟨_, _, _, _, _, _, _, _, rfl, _⟩ := h; rfl) | (obtain ⟨_, _, _, _, _, _, _, _, _, rfl, _⟩ := h; rfl)) fun cdv A outer s H E hR F ds kk hF h => ?_
  subst hF
  obtain ⟨rs, rfl, hr, q⟩ := h
  refine ⟨_, (pss_cons (ps_set (i := 1) sc_joined.nd rfl (Or.inl rfl) (pe_cm0 (pe_glob (v := .ref (He.ga F.K "Verdicts")) rfl (W.glo 10 _ rfl) rfl) c_none hR (by decide) passL))
  (pss_cons (ps_for PassesOwn.never rfl (pi_seqK (K := F.K) rfl (pv 0)) (pg_name (i := 2) sc_joined.nd rfl (Or.inl rfl))
  (pss_one (ps_set (i := 1) sc_joined.nd rfl (Or.inl rfl) (pe_op (op_own W.oadd c_Verdicts__add__ hR (by decide) passL) (pv 1) (pe_f c_verdicts_of hR (by decide) rfl passL (pa_cons (pv 2) pa_nil))))))
  (pss_one (ps_ret (pv 1))))), ?_⟩
  try dsimp only [Xof, cxOf, Cx.nox, Cx.wish, Cx.blk]
  repeat walk_at "d"
  refine ⟨_, rfl, ?_⟩
  repeat walk_at "d"
  apply s_for
  apply ei_seq
  repeat walk_at "d"
  refine ⟨_, .inl rfl, fun i ρ => ∃ x c b, ρ = [.val (.lst (rs.map sayD)), .val (verD c b), x] ∧ (c, b) = jn (rs.take i) ∧ c ≤ 65535 ∧ b ≤ 65535, ⟨_, _, _, rfl, rfl, by decide, by decide⟩, ?_, ?_⟩
  · rintro i d ρ' hi ⟨x, c, b, rfl, ej, hc, hb⟩
    obtain ⟨r, er, rfl⟩ := map_at hi
    have ok := hr r (List.mem_of_getElem? er)
    refine ⟨_, g_name, ?_⟩
    repeat walk_at "d"
    refine ⟨r, rfl, ok, ?_⟩
    repeat walk_at "d"
    refine ⟨_, _, _, _, rfl, hc, hb, cf_le ok, br_le ok, ⟨_, _, _, rfl⟩, _, _, _, rfl, ?_, b16.mpr (nd_lt (or_lt (b16.mp hc) (b16.mp (cf_le ok)))), b16.mpr (or_lt (b16.mp hb) (b16.mp (br_le ok)))⟩
    unfold jn
    rw [fold_take er]
    show _ = jstep (jn (rs.take i)) r
    rw [← ej]
    rfl
  · rintro ρ' ⟨x, c, b, rfl, ej, hc, hb⟩
    rw [List.length_map, List.take_length] at ej
    repeat walk_at "d"
    rw [← ej] at q
    exact q
theorem cc_joined (W : Wf P w K mg base) : Fnc P w K mg base 6 "joined" (spD K fun ds k _ => S_joined ds k) := W.fnc in_joined (fun _ => rfl) (j := 12) rfl (ok_joined W)
def S_sharper : List D → (D → Prop) → Prop := fun ds k => ∃ c b c' b' : Nat, ds = [verD c b, verD c' b'] ∧ k (.bl (decide (nd c c' = 0) && decide (nd b' b = 0)))
theorem ok_sharper (W : Wf P w K mg base) : FnR P w K mg base (L2.CX P w) 1 (d_sharper.at_ K) (spD K fun ds k _ => S_sharper ds k) := by
  refine W.fnD in_sharper sc_sharper (fun fd F => F.bindsN fun _ _ _ _ _ _ us hl => match us, hl with | [_, _], _ => rfl) (fun ds k h => by first | (obtain ⟨rfl, _⟩ := h; rfl) | (obtain ⟨_, rfl, _⟩ := h; rfl) | (obtain ⟨_, _, rfl, _⟩ := h; rfl) | (obtain ⟨_, _, _, rfl, _⟩ := h; rfl) | (obtain ⟨_, _, _, _, rfl, _⟩ := h; rfl) | (obtain ⟨_, _, _, _, _, rfl, _⟩ := h; rfl) | (obtain ⟨_, _, _, _, _, _, rfl, _⟩ := h; rfl) | (obtain ⟨_, _, _, _, _, _, _, rfl, _⟩ := h; rfl) | (obtain ⟨_, _, _, _, _, _, _, _, rfl, _⟩ := h; rfl) | (obtain ⟨_, _, _, _, _, _, _, _, _, rfl, _⟩ := h; rfl)) fun cdv A outer s H E hR F ds kk hF h => ?_
  subst hF
  obtain ⟨c, b, c', b', rfl, q⟩ := h
  refine ⟨_, (pss_one (ps_ret (pe_and (pe_cmpR (op_eqX hR.units : OpR _ _ (rEqX F.K)) (pe_op op_and (pe_fld (pv 0) rfl) (pe_un un_inv (pe_fld (pv 1) rfl))) pe_int (nomark _)) (pe_one (pe_cmpR (op_eqX hR.units : OpR _ _ (rEqX F.K)) (pe_op op_and (pe_fld (pv 1) rfl) (pe_un un_inv (pe_fld (pv 0) rfl))) pe_int (nomark _)))))), ?_⟩
  try dsimp only [Xof, cxOf, Cx.nox, Cx.wish, Cx.blk]
  repeat walk_at "d"
  cases e : decide (nd c c' = 0) with
  | false =>
    rw [e] at q
    repeat walk_at "d"
    exact q
  | true =>
    rw [e] at q
    repeat walk_at "d"
    exact q
theorem cc_sharper (W : Wf P w K mg base) : Fnc P w K mg base 1 "sharper" (spD K fun ds k _ => S_sharper ds k) := W.fnc in_sharper (fun _ => rfl) (j := 13) rfl (ok_sharper W)
/-! ### books -/
def S_Book__len__ : List D → (D → Prop) → Prop := fun ds k => ∃ b : Bk, ds = [bookD b] ∧ k (nD b.rows.length)
theorem ok_Book__len__ (W : Wf P w K mg base) : FnR P w K mg base (L2.CX P w) 1 (d_Book__len__.at_ K) (spD K fun ds k _ => S_Book__len__ ds k) := by
  refine W.fnD in_Book__len__ sc_Book__len__ (fun fd F => F.bindsN fun _ _ _ _ _ _ us hl => match us, hl with | [_], _ => rfl) (fun ds k h => by first | (obtain ⟨rfl, _⟩ := h; rfl) | (obtain ⟨_, rfl, _⟩ := h; rfl) | (obtain ⟨_, _, rfl, _⟩ := h; rfl) | (obtain ⟨_, _, _, rfl, _⟩ := h; rfl) | (obtain ⟨_, _, _, _, rfl, _⟩ := h; rfl) | (obtain ⟨_, _, _, _, _, rfl, _⟩ := h; rfl) | (obtain ⟨_, _, _, _, _, _, rfl, _⟩ := h; rfl) | (obtain ⟨_, _, _, _, _, _, _, rfl, _⟩ := h; rfl) | (obtain ⟨_, _, _, _, _, _, _, _, rfl, _⟩ := h; rfl) | (obtain ⟨_, _, _, _, _, _, _, _, _, rfl, _⟩ := h; rfl)) fun cdv A outer s H E hR F ds kk hF h => ?_
  subst hF
  obtain ⟨b, rfl, q⟩ := h
  refine ⟨_, (pss_one (ps_ret (pe_callB (cr_lenX : CallR _ _ (rLenX F.K)) rfl (W.free 0 _ rfl) boot_len (pa_cons (pe_fld (pv 0) rfl) pa_nil)))), ?_⟩
  try dsimp only [Xof, cxOf, Cx.nox, Cx.wish, Cx.blk]
  repeat walk_at "d"
  rw [List.length_map]
  exact q
theorem cc_Book__len__ (W : Wf P w K mg base) : FnR P w K mg base (L2.CX P w) 1 (d_Book__len__.at_ K) (spD K fun ds k _ => S_Book__len__ ds k) := ok_Book__len__ W
def S_Book__getitem__ : List D → (D → Prop) → Prop := fun ds k => ∃ (b : Bk) (n : Nat) (r : Rw), ds = [bookD b, nD n] ∧ b.rows[n]? = some r ∧ k (sayD r)
theorem ok_Book__getitem__ (W : Wf P w K mg base) : FnR P w K mg base (L2.CX P w) 2 (d_Book__getitem__.at_ K) (spD K fun ds k _ => S_Book__getitem__ ds k) := by
  have c_is_whole := cc_is_whole W
  refine W.fnD in_Book__getitem__ sc_Book__getitem__ (fun fd F => F.bindsN fun _ _ _ _ _ _ us hl => match us, hl with | [_, _], _ => rfl) (fun ds k h => by first | (obtain ⟨rfl, _⟩ := h; rfl) | (obtain ⟨_, rfl, _⟩ := h; rfl) | (obtain ⟨_, _, rfl, _⟩ := h; rfl) | (obtain ⟨_, _, _, rfl, _⟩ := h; rfl) | (obtain ⟨_, _, _, _, rfl, _⟩ := h; rfl) | (obtain ⟨_, _, _, _, _, rfl, _⟩ := h; rfl) | (obtain ⟨_, _, _, _, _, _, rfl, _⟩ := h; rfl) | (obtain ⟨_, _, _, _, _, _, _, rfl, _⟩ := h; rfl) | (obtain ⟨_, _, _, _, _, _, _, _, rfl, _⟩ := h; rfl) | (obtain ⟨_, _, _, _, _, _, _, _, _, rfl, _⟩ := h; rfl)) fun cdv A outer s H E hR F ds kk hF h => ?_
  subst hF
  obtain ⟨b, n, r, rfl, hn, q⟩ := h
  have hl := (List.getElem?_eq_some_iff.mp hn).1
  refine ⟨_, (pss_cons (ps_if (pt_not (pt_val (pe_f c_is_whole hR (by decide) rfl passL (pa_cons (pv 1) (pa_cons pe_int (pa_cons (pe_op op_sub (pe_callB (cr_lenX : CallR _ _ (rLenX F.K)) rfl (W.free 0 _ rfl) boot_len (pa_cons (pe_fld (pv 0) rfl) pa_nil)) pe_int) pa_nil))))))
  (pss_one ps_never)
  pss_nil)
  (pss_one (ps_ret (pe_ix (ix_seq : IxR _ (rIx F.K)) (pe_fld (pv 0) rfl) (pv 1) (fun _ _ => rfl))))), ?_⟩
  try dsimp only [Xof, cxOf, Cx.nox, Cx.wish, Cx.blk]
  repeat walk_at "d"
  refine ⟨_, _, _, rfl, ?_⟩
  rw [whole_yes (Int.natCast_nonneg _) (by rw [List.length_map]; omega)]
  repeat walk_at "d"
  apply ro_ixT (atI_map hn)
  exact q
theorem cc_Book__getitem__ (W : Wf P w K mg base) : FnR P w K mg base (L2.CX P w) 2 (d_Book__getitem__.at_ K) (spD K fun ds k _ => S_Book__getitem__ ds k) := ok_Book__getitem__ W
def needR (rs : List Rw) : Option Nat := rs.findIdx? fun r => !r.u
def S_Book_first_need_not : List D → (D → Prop) → Prop := fun ds k => ∃ b : Bk, ds = [bookD b] ∧ k (optD (needR b.rows))
theorem ok_Book_first_need_not (W : Wf P w K mg base) : FnR P w K mg base (L2.CX P w) 1 (d_Book_first_need_not.at_ K) (spD K fun ds k _ => S_Book_first_need_not ds k) := by
  refine W.fnD in_Book_first_need_not sc_Book_first_need_not (fun fd F => F.bindsN fun _ _ _ _ _ _ us hl => match us, hl with | [_], _ => rfl) (fun ds k h => by first | (obtain ⟨rfl, _⟩ := h; rfl) | (obtain ⟨_, rfl, _⟩ := h; rfl) | (obtain ⟨_, _, rfl, _⟩ := h; rfl) | (obtain ⟨_, _, _, rfl, _⟩ := h; rfl) | (obtain ⟨_, _, _, _, rfl, _⟩ := h; rfl) | (obtain ⟨_, _, _, _, _, rfl, _⟩ := h; rfl) | (obtain ⟨_, _, _, _, _, _, rfl, _⟩ := h; rfl) | (obtain ⟨_, _, _, _, _, _, _, rfl, _⟩ := h; rfl) | (obtain ⟨_, _, _, _, _, _, _, _, rfl, _⟩ := h; rfl) | (obtain ⟨_, _, _, _, _, _, _, _, _, rfl, _⟩ := h; rfl)) fun cdv A outer s H E hR F ds kk hF h => ?_
  subst hF
  obtain ⟨b, rfl, q⟩ := h
  refine ⟨_, (pss_cons (ps_for PassesOwn.never rfl (pi_enumX (by rfl) (W.free 9 _ rfl) (pa_cons (pe_fld (pv 0) rfl) pa_nil)) (pg_tupK (K := F.K) (n := 2) rfl (by rfl) (pgs_cons (pg_name (i := 1) sc_Book_first_need_not.nd rfl (Or.inl rfl)) (pgs_cons (pg_name (i := 2) sc_Book_first_need_not.nd rfl (Or.inl rfl)) pgs_nil)))
  (pss_one (ps_if (pt_not (pt_val (pe_fld (pv 2) rfl)))
  (pss_one (ps_ret (pv 1)))
  pss_nil)))
  (pss_one (ps_ret pe_non))), ?_⟩
  try dsimp only [Xof, cxOf, Cx.nox, Cx.wish, Cx.blk]
  repeat walk_at "d"
  apply s_for
  apply ei_enum
  repeat walk_at "d"
  refine ⟨_, .inr rfl, fun i ρ => (∃ x y, ρ = [.val (bookD b), x, y]) ∧ ∀ (j : Nat) (x : Rw), j < i → b.rows[j]? = some x → x.u = true, ⟨⟨_, _, rfl⟩, fun j x h => absurd h (Nat.not_lt_zero j)⟩, ?_, ?_⟩
  · rintro i d ρ' hi ⟨⟨x, y, rfl⟩, h0⟩
    obtain ⟨x, e, rfl⟩ := enumD_at hi
    obtain ⟨r, er, rfl⟩ := map_at e
    refine ⟨_, g_tup rfl (gs_cons g_name (gs_cons g_name gs_nil)), ?_⟩
    repeat walk_at "d"
    cases hu : r.u with
    | true =>
      repeat walk_at "d"
      refine ⟨⟨_, _, rfl⟩, fun j x hj ej => ?_⟩
      by_cases h : j < i
      · exact h0 j x h ej
      · have : j = i := by omega
        subst this
        rw [er] at ej
        cases ej
        exact hu
    | false =>
      repeat walk_at "d"
      have : needR b.rows = some i := by
        unfold needR
        have hl := (List.getElem?_eq_some_iff.mp er).1
        rw [List.findIdx?_eq_some_iff_getElem]
        refine ⟨hl, ?_, fun j hj => ?_⟩
        · rw [(List.getElem?_eq_some_iff.mp er).2, hu]
          rfl
        · rw [h0 j _ hj (List.getElem?_eq_getElem (Nat.lt_trans hj hl))]
          decide
      rw [this] at q
      exact q
  · rintro ρ' ⟨⟨x, y, rfl⟩, h0⟩
    repeat walk_at "d"
    rw [enumD_len, List.length_map] at h0
    have : needR b.rows = none := by
      unfold needR
      rw [List.findIdx?_eq_none_iff]
      intro x hx
      obtain ⟨j, hj, e⟩ := List.mem_iff_getElem.mp hx
      rw [← e, h0 j _ hj (List.getElem?_eq_getElem hj)]
      rfl
    rw [this] at q
    exact q
theorem cc_Book_first_need_not (W : Wf P w K mg base) : FnR P w K mg base (L2.CX P w) 1 (d_Book_first_need_not.at_ K) (spD K fun ds k _ => S_Book_first_need_not ds k) := ok_Book_first_need_not W
/-! ### lots -/
def S_is_sharp : List D → (D → Prop) → Prop := fun ds k => ∃ (b : Bk) (lot : List Nat) (r : Rw), ds = [bookD b, tupN lot, sayD r] ∧ (∀ n ∈ lot, n < b.rows.length) ∧ (∀ r ∈ b.rows, r.Ok) ∧ r.Ok ∧ lot.length ≤ 1000 ∧ k (.bl (sharpB b.rows lot r))
theorem ok_is_sharp (W : Wf P w K mg base) : FnR P w K mg base (L2.CX P w) 7 (d_is_sharp.at_ K) (spD K fun ds k _ => S_is_sharp ds k) := by
  have c_sharper := cc_sharper W
  have c_joined := cc_joined W
  have c_verdicts_of := cc_verdicts_of W
  have c_Book__getitem__ := cc_Book__getitem__ W
  refine W.fnD in_is_sharp sc_is_sharp (fun fd F => F.bindsN fun _ _ _ _ _ _ us hl => match us, hl with | [_, _, _], _ => rfl) (fun ds k h => by first | (obtain ⟨rfl, _⟩ := h; rfl) | (obtain ⟨_, rfl, _⟩ := h; rfl) | (obtain ⟨_, _, rfl, _⟩ := h; rfl) | (obtain ⟨_, _, _, rfl, _⟩ := h; rfl) | (obtain ⟨_, _, _, _, rfl, _⟩ := h; rfl) | (obtain ⟨_, _, _, _, _, rfl, _⟩ := h; rfl) | (obtain ⟨_, _, _, _, _, _, rfl, _⟩ := h; rfl) | (obtain ⟨_, _, _, _, _, _, _, rfl, _⟩ := h; rfl) | (obtain ⟨_, _, _, _, _, _, _, _, rfl, _⟩ := h; rfl) | (obtain ⟨_, _, _, _, _, _, _, _, _, rfl, _⟩ := h; rfl)) fun cdv A outer s H E hR F ds kk hF h => ?_
  subst hF
  obtain ⟨b, lot, r, rfl, hn, hb, hr, hl, q⟩ := h
  refine ⟨_, (pss_one (ps_ret (pe_f c_sharper hR (by decide) rfl passL (pa_cons (pe_f c_joined hR (by decide) rfl passL (pa_cons (pe_lc (own := [("number", 3)]) (by rfl) sc_is_sharp.nd (pi_seqK (K := F.K) rfl (pv 1)) (blkOk_by (N := n_is_sharp) (sc := defScope s_is_sharp) (own := [("number", 3)]) (by decide +kernel)) (fun _ _ _ _ _ => (pg_name (i := 3) sc_is_sharp.nd rfl (Or.inl rfl))) (fun _ _ _ _ _ => pts_nil) (fun _ _ _ _ _ => (pe_subO W.osub c_Book__getitem__ hR (by decide) passL (pv 0) (pv 3)))) pa_nil)) (pa_cons (pe_f c_verdicts_of hR (by decide) rfl passL (pa_cons (pv 2) pa_nil)) pa_nil))))), ?_⟩
  try dsimp only [Xof, cxOf, Cx.nox, Cx.wish, Cx.blk]
  repeat walk_at "d"
  apply EvN.ev
  apply en_lc (un_of rfl)
  apply ei_seq
  repeat walk_at "d"
  refine ⟨_, .inr rfl, fun i acc => acc = ((lot.take i).filterMap (b.rows[·]?)).map sayD, rfl, ?_, ?_⟩
  · rintro i d acc hi rfl
    obtain ⟨n, en, rfl⟩ := map_at hi
    have hlt := hn n (List.mem_of_getElem? en)
    refine ⟨_, mem_of rfl, g_name, ?_⟩
    repeat walk_at "d"
    refine ⟨b, n, _, rfl, List.getElem?_eq_getElem hlt, ?_, ?_⟩
    · rw [List.length_map]
      have h1 := List.length_filterMap_le (b.rows[·]?) (lot.take i)
      have h2 := List.length_take_le' i lot
      omega
    · rw [fm_take (f := (b.rows[·]?)) en (List.getElem?_eq_getElem hlt), List.map_append]
      rfl
  · rintro acc rfl
    rw [List.length_map, List.take_length]
    repeat walk_at "d"
    refine ⟨_, rfl, fun r hr => ?_, ?_⟩
    · obtain ⟨n, _, e⟩ := List.mem_filterMap.mp hr
      exact hb r (List.mem_of_getElem? e)
    · repeat walk_at "d"
      refine ⟨r, rfl, hr, ?_⟩
      repeat walk_at "d"
      exact ⟨_, _, _, _, rfl, q⟩
theorem cc_is_sharp (W : Wf P w K mg base) : Fnc P w K mg base 7 "is_sharp" (spD K fun ds k _ => S_is_sharp ds k) := W.fnc in_is_sharp (fun _ => rfl) (j := 17) rfl (ok_is_sharp W)
def S_holds : List D → (D → Prop) → Prop := fun ds k => ∃ (a b : List Nat), ds = [tupN a, tupN b] ∧ b.length ≤ 1000 ∧ k (.bl (b.all fun n => decide (n ∈ a)))
theorem ok_holds (W : Wf P w K mg base) : FnR P w K mg base (L2.CX P w) 1 (d_holds.at_ K) (spD K fun ds k _ => S_holds ds k) := by
  refine W.fnD in_holds sc_holds (fun fd F => F.bindsN fun _ _ _ _ _ _ us hl => match us, hl with | [_, _], _ => rfl) (fun ds k h => by first | (obtain ⟨rfl, _⟩ := h; rfl) | (obtain ⟨_, rfl, _⟩ := h; rfl) | (obtain ⟨_, _, rfl, _⟩ := h; rfl) | (obtain ⟨_, _, _, rfl, _⟩ := h; rfl) | (obtain ⟨_, _, _, _, rfl, _⟩ := h; rfl) | (obtain ⟨_, _, _, _, _, rfl, _⟩ := h; rfl) | (obtain ⟨_, _, _, _, _, _, rfl, _⟩ := h; rfl) | (obtain ⟨_, _, _, _, _, _, _, rfl, _⟩ := h; rfl) | (obtain ⟨_, _, _, _, _, _, _, _, rfl, _⟩ := h; rfl) | (obtain ⟨_, _, _, _, _, _, _, _, _, rfl, _⟩ := h; rfl)) fun cdv A outer s H E hR F ds kk hF h => ?_
  subst hF
  obtain ⟨a, b, rfl, hl, q⟩ := h
  refine ⟨_, (pss_one (ps_ret (pe_callB (cr_all rfl : CallR _ _ (rAll F.K)) rfl (W.free 15 _ rfl) (by decide +kernel) (pa_cons (pe_lc (own := [("number", 2)]) (by rfl) sc_holds.nd (pi_seqK (K := F.K) rfl (pv 1)) (blkOk_by (N := n_holds) (sc := defScope s_holds) (own := [("number", 2)]) (by decide +kernel)) (fun _ _ _ _ _ => (pg_name (i := 2) sc_holds.nd rfl (Or.inl rfl))) (fun _ _ _ _ _ => pts_nil) (fun _ _ _ _ _ => (pe_cmpR (op_inX : OpR _ _ (rInX F.K)) (pv 2) (pv 0) (by rfl)))) pa_nil)))), ?_⟩
  try dsimp only [Xof, cxOf, Cx.nox, Cx.wish, Cx.blk]
  repeat walk_at "d"
  apply EvN.ev
  apply en_lc (un_of rfl)
  apply ei_seq
  repeat walk_at "d"
  refine ⟨_, .inr rfl, fun i acc => acc = ((b.take i).map fun n => decide (n ∈ a)).map .bl, rfl, ?_, ?_⟩
  · rintro i d acc hi rfl
    obtain ⟨n, en, rfl⟩ := map_at hi
    refine ⟨_, mem_of rfl, g_name, ?_⟩
    repeat walk_at "d"
    apply ro_inTn
    refine ⟨by rw [List.length_map, List.length_map]; have := List.length_take_le' i b; omega, ?_⟩
    rw [take_at en, List.map_append, List.map_append]
    rfl
  · rintro acc rfl
    rw [List.length_map, List.take_length]
    repeat walk_at "d"
    apply rc_all
    rw [List.all_map]
    exact q
theorem cc_holds (W : Wf P w K mg base) : Fnc P w K mg base 1 "holds" (spD K fun ds k _ => S_holds ds k) := W.fnc in_holds (fun _ => rfl) (j := 16) rfl (ok_holds W)
end
end K33
namespace K33
open PySem PySem.Spec PyProof.Rows L2
/-- the lots of one length more -/
def okN (lot : List Nat) (m : Nat) : Bool := decide (lot = []) || decide (lot.getLastD 0 < m)
def morT (n j : Nat) (lot : List Nat) : List (List Nat) := (((List.range n).take j).filter (okN lot)).map fun m => lot ++ [m]
def mor (n : Nat) (lot : List Nat) : List (List Nat) := ((List.range n).filter (okN lot)).map fun m => lot ++ [m]
def nxt (n : Nat) (layer : List (List Nat)) : List (List Nat) := layer.flatMap (mor n)
def lay (n : Nat) : Nat → List (List Nat)
  | 0 => [[]]
  | i + 1 => nxt n (lay n i)
/-- the lots of the lengths below i -/
def lays (n : Nat) : Nat → List (List Nat)
  | 0 => []
  | i + 1 => lays n i ++ lay n i
structure MStep where
  rule : PySem.Str
  lines : List Nat
  w : Nat
  t : Nat
abbrev stepD (s : MStep) : D := .obj "Step" ["rule", "lines", "saying"] [.str s.rule, tupN s.lines, sayD ⟨s.w, s.t, true⟩]
def joinR (a b : Rw) : Rw := ⟨nd (a.w ||| b.w) (a.br ||| b.br) ||| (a.br ||| b.br), nd (a.w ||| b.w) (a.br ||| b.br), true⟩
theorem join_w (a b : Rw) : (joinR a b).w = a.w ||| b.w := by
  apply eq_of_bits
  intro i
  unfold joinR Rw.br
  simp only [Nat.testBit_or, nd_bit]
  cases a.w.testBit i <;> cases b.w.testBit i <;> cases a.t.testBit i <;> cases b.t.testBit i <;> rfl
section
variable {P : Program} {w : World} {K : PySem.W.Frag} {mg : PySem.Str → Option Value} {base : Heap}
local macro_rules | `(tactic| walk_at "d0") => `(tactic| first
  | ((with_reducible apply ev_var); rfl)
  | with_reducible apply ev_int
  | with_reducible apply ev_bl
  | with_reducible apply ev_str
  | with_reducible apply ev_non
  | with_reducible apply s_seq
  | with_reducible apply s_ret
  | with_reducible apply s_asg
  | with_reducible apply s_next
  | ((with_reducible apply s_app); rfl)
  | with_reducible apply s_drop
  | ((with_reducible apply src_0); rfl; intro _)
  | ((with_reducible apply src_1); rfl; intro _ _ _)
  | ((with_reducible apply src_2); rfl; intro _)
  | ((with_reducible apply s_setSrc0); rfl)
  | ((with_reducible apply s_setSrc2); rfl)
  | ((with_reducible apply ev_callS); rfl)
  | ((with_reducible apply ev_opO); rfl)
  | ((with_reducible apply ev_ixO); rfl)
  | with_reducible apply ev_op
  | with_reducible apply ev_un
  | with_reducible apply et_test
  | with_reducible apply et_B
  | with_reducible apply et_truI
  | with_reducible apply et_and
  | with_reducible apply et_or
  | with_reducible apply et_not
  | with_reducible apply ea_nil
  | with_reducible apply ea_cons
  | with_reducible apply ro_nd_n
  | with_reducible apply ro_and_n
  | with_reducible apply ro_or_n
  | with_reducible apply ro_shr_n
  | with_reducible apply ro_eq_0
  | with_reducible apply ro_ne_0
  | with_reducible apply ro_eq_n
  | with_reducible apply ro_ne_n
  | with_reducible apply ro_add_n
  | with_reducible apply ro_add_1
  | with_reducible apply ro_I0
  | with_reducible apply ro_B0
  | with_reducible apply ro_un
  | ((with_reducible apply ro_isN); rfl)
  | ((with_reducible apply ro_notN); rfl)
  | with_reducible apply ro_eq_t0
  | with_reducible apply ro_ne_lt0
  | with_reducible apply ro_ne_l0
  | with_reducible apply ro_ne_tt
  | with_reducible apply ro_eq_tt
  | with_reducible apply ro_ne_t
  | with_reducible apply ro_eq_i
  | with_reducible apply ro_ne_i
  | with_reducible apply ro_eq_s
  | with_reducible apply ro_add
  | ((with_reducible apply ro_ixT); rfl)
  | ((with_reducible apply ro_ixL); rfl)
  | with_reducible apply ev_list
  | with_reducible apply ev_tuple
  | with_reducible apply ev_sortset
  | with_reducible apply ev_isLT
  | ((with_reducible apply ev_cbO); rfl)
  | with_reducible apply ev_cb
  | with_reducible apply ev_call
  | ((with_reducible apply ev_fldM); rfl; exact Wf.kc2 (by assumption) (by decide +kernel); rfl)
  | with_reducible apply ev_fld
  | with_reducible apply ev_and
  | with_reducible apply ev_or
  | with_reducible apply ev_notV
  | with_reducible apply ev_if
  | with_reducible apply ev_chain
  | with_reducible apply ev_tup
  | with_reducible apply ev_lst
  | with_reducible apply ev_make
  | ((with_reducible apply ev_cm0); exact exok0)
  | ((with_reducible apply ev_cm); exact exok0)
  | ((with_reducible apply ev_meth0); exact exok0)
  | ((with_reducible apply ev_meth); exact exok0)
  | ((with_reducible apply ro_subO); exact exok0)
  | ((with_reducible apply ro_addO); exact exok0)
  | ((with_reducible apply rc_lenO); exact exok0)
  | ((with_reducible apply ev_prop); exact exok0)
  | with_reducible apply rc_int
  | with_reducible apply rc_lenL
  | with_reducible apply rc_lenT
  | ((with_reducible apply rc_is_int); (exact rfl))
  | ((with_reducible apply rc_is_bl); (exact rfl))
  | ((with_reducible apply rc_is_str); (exact rfl))
  | ((with_reducible apply rc_is_tup); (exact rfl))
  | ((with_reducible apply s_fldM); rfl; exact Wf.kc2 (by assumption) (by decide +kernel); decide; rfl)
  | with_reducible apply et_yes
  | with_reducible apply ev_rawc
  | ((with_reducible apply ev_src); rfl)
  | ((with_reducible refine ⟨len_ok ?_, ?_⟩); rfl)
  | with_reducible refine ⟨rfl, ?_⟩
  | with_reducible refine ⟨⟨_, rfl⟩, ?_⟩
  | with_reducible refine ⟨_, rfl, ?_⟩
  | refine ⟨_, _, rfl, rfl, ?_⟩
  | refine ⟨_, _, _, _, rfl, Wf.kc2 (by assumption) (by decide +kernel), rfl, ?_⟩
  | ((with_reducible apply iteTr); rfl)
  | ((with_reducible apply iteFr); rfl)
  | dsimp only)
local macro_rules | `(tactic| walk_at "d") => `(tactic| first
  | walk_at "d0"
  | with_reducible apply s_if)
local macro_rules | `(tactic| walk_at "o") => `(tactic| first
  | ((with_reducible apply so_retO); rfl)
  | ((with_reducible apply et_notcallO); rfl)
  | ((with_reducible apply s_asgO); (with_reducible apply en_lst); (with_reducible apply ea_nil); refine ⟨len_ok rfl, ?_⟩)
  | walk_at "d")

local macro_rules | `(tactic| walk_at "x") => `(tactic| first
  | ((with_reducible apply ev_callX); assumption)
  | walk_at "o")
def S_Step__init__ : List D → (List PySem.Str → List D → Prop) → Prop := fun ds k => ∃ x y z : D, ds = [x, y, z] ∧ k ["rule", "lines", "saying"] [x, y, z]
theorem ok_Step__init__ (W : Wf P w K mg base) : ∃ fd, FunD K d_Step__init__.name d_Step__init__.qual d_Step__init__.params d_Step__init__.body d_Step__init__.scope (d_Step__init__.dvs K) (d_Step__init__.kws K) (d_Step__init__.at_ K) fd ∧ FnOk P w K mg base (L2.CX P w) 1 (d_Step__init__.at_ K) fd ["self", "rule", "lines", "saying"] (spI K "Step" S_Step__init__) := by
  refine W.fnI in_Step__init__ sc_Step__init__ (fun ds k h => by first | (obtain ⟨rfl, _⟩ := h; rfl) | (obtain ⟨_, rfl, _⟩ := h; rfl) | (obtain ⟨_, _, rfl, _⟩ := h; rfl) | (obtain ⟨_, _, _, rfl, _⟩ := h; rfl) | (obtain ⟨_, _, _, _, rfl, _⟩ := h; rfl) | (obtain ⟨_, _, _, _, _, rfl, _⟩ := h; rfl) | (obtain ⟨_, _, _, _, _, _, rfl, _⟩ := h; rfl) | (obtain ⟨_, _, _, _, _, _, _, rfl, _⟩ := h; rfl) | (obtain ⟨_, _, _, _, _, _, _, _, rfl, _⟩ := h; rfl) | (obtain ⟨_, _, _, _, _, _, _, _, _, rfl, _⟩ := h; rfl)) fun cdv A outer s H E hR F sa ds kk hF hsa h => ?_
  subst hF
  obtain ⟨x, y, z, rfl, q⟩ := h
  refine ⟨_, (pss_cons (ps_fld (pv 0) (pv 1) rfl)
  (pss_cons (ps_fld (pv 0) (pv 2) rfl)
  (pss_one (ps_fld (pv 0) (pv 3) rfl)))), ?_⟩
  try dsimp only [Xof, cxOf, Cx.nox, Cx.wish, Cx.blk]
  repeat walk_at "d"
  exact ⟨_, _, rfl, q⟩

theorem cc_Step__init__ (W : Wf P w K mg base) : Kls P w K mg base 1 "Step" (spI K "Step" S_Step__init__) := by
  obtain ⟨fd, Fn, G⟩ := ok_Step__init__ W
  exact kls_of W rfl (W.glo 22 _ rfl) (j := 2) rfl G (Fn.bindsN fun _ _ _ _ _ _ us hl => match us, hl with | [_, _, _, _], _ => rfl)
def S_join_of : List D → (D → Prop) → Prop := fun ds k => ∃ a b : Rw, ds = [sayD a, sayD b] ∧ a.Ok ∧ b.Ok ∧ k (sayD (joinR a b))
theorem ok_join_of (W : Wf P w K mg base) : FnR P w K mg base (L2.CX P w) 5 (d_join_of.at_ K) (spD K fun ds k _ => S_join_of ds k) := by
  obtain ⟨_, c_of_days⟩ := cc_Saying_of_days W
  refine W.fnD in_join_of sc_join_of (fun fd F => F.bindsN fun _ _ _ _ _ _ us hl => match us, hl with | [_, _], _ => rfl) (fun ds k h => by first | (obtain ⟨rfl, _⟩ := h; rfl) | (obtain ⟨_, rfl, _⟩ := h; rfl) | (obtain ⟨_, _, rfl, _⟩ := h; rfl) | (obtain ⟨_, _, _, rfl, _⟩ := h; rfl) | (obtain ⟨_, _, _, _, rfl, _⟩ := h; rfl) | (obtain ⟨_, _, _, _, _, rfl, _⟩ := h; rfl) | (obtain ⟨_, _, _, _, _, _, rfl, _⟩ := h; rfl) | (obtain ⟨_, _, _, _, _, _, _, rfl, _⟩ := h; rfl) | (obtain ⟨_, _, _, _, _, _, _, _, rfl, _⟩ := h; rfl) | (obtain ⟨_, _, _, _, _, _, _, _, _, rfl, _⟩ := h; rfl)) fun cdv A outer s H E hR F ds kk hF h => ?_
  subst hF
  obtain ⟨a, b, rfl, ha, hb, q⟩ := h
  refine ⟨_, (pss_cons (ps_set (i := 2) sc_join_of.nd rfl (Or.inl rfl) (pe_op op_or (pe_fld (pv 0) rfl) (pe_fld (pv 1) rfl)))
  (pss_one (ps_ret (pe_cm (pe_glob (v := .ref (He.ga F.K "Saying")) rfl (W.glo 9 _ rfl) rfl) c_of_days hR (by decide) passL (pa_cons (pe_op op_and (pe_op op_or (pe_fld (pv 0) rfl) (pe_fld (pv 1) rfl)) (pe_un un_inv (pv 2))) (pa_cons (pv 2) pa_nil)))))), ?_⟩
  try dsimp only [Xof, cxOf, Cx.nox, Cx.wish, Cx.blk]
  repeat walk_at "d"
  have hw : a.w ||| b.w < 2 ^ 16 := or_lt (b16.mp ha.2.1) (b16.mp hb.2.1)
  refine ⟨_, _, _, rfl, b16.mpr (nd_lt hw), b16.mpr (or_lt (b16.mp (br_le ha)) (b16.mp (br_le hb))), nd_and _ _, ?_, q⟩
  have e := join_w a b
  unfold joinR at e
  rw [show nd (a.w ||| b.w) (a.br ||| b.br) ||| (a.br ||| b.br) = a.w ||| b.w from e]
  exact Nat.le_trans ha.1 Nat.left_le_or
theorem cc_join_of (W : Wf P w K mg base) : Fnc P w K mg base 5 "join_of" (spD K fun ds k _ => S_join_of ds k) := W.fnc in_join_of (fun _ => rfl) (j := 23) rfl (ok_join_of W)
def S_is_same : List D → (D → Prop) → Prop := fun ds k => ∃ a b : Rw, ds = [sayD a, sayD b] ∧ k (.bl (decide (a.w = b.w) && decide (a.cf = b.cf)))
theorem ok_is_same (W : Wf P w K mg base) : FnR P w K mg base (L2.CX P w) 1 (d_is_same.at_ K) (spD K fun ds k _ => S_is_same ds k) := by
  refine W.fnD in_is_same sc_is_same (fun fd F => F.bindsN fun _ _ _ _ _ _ us hl => match us, hl with | [_, _], _ => rfl) (fun ds k h => by first | (obtain ⟨rfl, _⟩ := h; rfl) | (obtain ⟨_, rfl, _⟩ := h; rfl) | (obtain ⟨_, _, rfl, _⟩ := h; rfl) | (obtain ⟨_, _, _, rfl, _⟩ := h; rfl) | (obtain ⟨_, _, _, _, rfl, _⟩ := h; rfl) | (obtain ⟨_, _, _, _, _, rfl, _⟩ := h; rfl) | (obtain ⟨_, _, _, _, _, _, rfl, _⟩ := h; rfl) | (obtain ⟨_, _, _, _, _, _, _, rfl, _⟩ := h; rfl) | (obtain ⟨_, _, _, _, _, _, _, _, rfl, _⟩ := h; rfl) | (obtain ⟨_, _, _, _, _, _, _, _, _, rfl, _⟩ := h; rfl)) fun cdv A outer s H E hR F ds kk hF h => ?_
  subst hF
  obtain ⟨a, b, rfl, q⟩ := h
  refine ⟨_, (pss_one (ps_ret (pe_and (pe_cmpR (op_eqX hR.units : OpR _ _ (rEqX F.K)) (pe_fld (pv 0) rfl) (pe_fld (pv 1) rfl) (nomark _)) (pe_one (pe_cmpR (op_eqX hR.units : OpR _ _ (rEqX F.K)) (pe_fld (pv 0) rfl) (pe_fld (pv 1) rfl) (nomark _)))))), ?_⟩
  try dsimp only [Xof, cxOf, Cx.nox, Cx.wish, Cx.blk]
  repeat walk_at "d"
  cases e : decide (a.w = b.w) with
  | false =>
    rw [e] at q
    repeat walk_at "d"
    exact q
  | true =>
    rw [e] at q
    repeat walk_at "d"
    exact q
theorem cc_is_same (W : Wf P w K mg base) : Fnc P w K mg base 1 "is_same" (spD K fun ds k _ => S_is_same ds k) := W.fnc in_is_same (fun _ => rfl) (j := 28) rfl (ok_is_same W)
/-! ### the lots of nine numbers -/
theorem lay9 : lay 9 10 = [] := by decide +kernel
theorem lay9n : ∀ i, i < 10 → lay 9 i ≠ [] := by decide +kernel
theorem lays9 : ∀ i, i < 11 → (lays 9 i).length ≤ 1000 := by decide +kernel
theorem lay9s : ∀ i, i < 11 → (lay 9 i).length ≤ 1000 := by decide +kernel
def S_lots_of : List D → (D → Prop) → Prop := fun ds k => ds = [tupN (List.range 9)] ∧ k (.lst ((lays 9 10).map tupN))
theorem range_at {n j : Nat} {m : Nat} (h : (List.range n)[j]? = some m) : m = j ∧ j < n := by
  have hl := (List.getElem?_eq_some_iff.mp h).1
  rw [List.length_range] at hl
  rw [List.getElem?_range hl] at h
  exact ⟨(Option.some.inj h).symm, hl⟩
theorem flat_take {α β : Type} {f : α → List β} {l : List α} {i : Nat} {x : α} (h : l[i]? = some x) : (l.take (i + 1)).flatMap f = (l.take i).flatMap f ++ f x := by
  rw [take_at h, List.flatMap_append]
  simp
theorem filt_take {l : List Nat} {p : Nat → Bool} {i x : Nat} (h : l[i]? = some x) : (l.take (i + 1)).filter p = if p x = true then (l.take i).filter p ++ [x] else (l.take i).filter p := by
  rw [take_at h, List.filter_append]
  by_cases e : p x = true
  · rw [if_pos e]
    simp [e]
  · rw [if_neg e]
    simp [e]
theorem EvI.imp {F : Fm} {wi : TI} {ρ : List Sl} {k k' : List D → Prop} (h : EvI F wi ρ k) (i : ∀ d, k d → k' d) : EvI F wi ρ k' := fun B H σ E R hR => h B H σ E R fun d J B' H' q => hR d J B' H' (i d q)
theorem flat_len {α β : Type} {f : α → List β} {l : List α} {i : Nat} {x : α} (h : l[i]? = some x) : ((l.take i).flatMap f).length + (f x).length ≤ (l.flatMap f).length := by
  have e : l.flatMap f = (l.take (i + 1)).flatMap f ++ (l.drop (i + 1)).flatMap f := by
    rw [← List.flatMap_append, List.take_append_drop]
  rw [e, flat_take h, List.length_append, List.length_append]
  omega
theorem filt_len {l : List Nat} {p : Nat → Bool} {j : Nat} : ((l.take j).filter p).length ≤ (l.filter p).length := by
  have e : l.filter p = (l.take j).filter p ++ (l.drop j).filter p := by
    rw [← List.filter_append, List.take_append_drop]
  rw [e, List.length_append]
  omega
/-- the next layer of lots, as three defs make it -/
theorem nxt_lc {F : Fm} {ρ : List Sl} {n a b : Nat} {layer : List (List Nat)} {ta te : TE} {wi1 : TI} {tt1 : TT} {vs : List Nat} (hu : ∀ j ∈ vs, ρ[j]? = some .un) (hu1 : ρ[b]? = some .un) (ha : a ∈ vs) (hab : a ≠ b)
    (h1 : EvD F ta ρ fun d => d = .lst (layer.map tupN)) (h2 : ∀ lot, EvI F wi1 (putE ρ [(a, tupN lot)]) fun es => es = (List.range n).map nD)
    (h3 : ∀ lot m, EvT F tt1 (putE (putE ρ [(a, tupN lot)]) [(b, nD m)]) fun c => c = (decide (lot = []) || decide (lot.getLastD 0 < m)))
    (h4 : ∀ lot m, lot ∈ layer → EvD F te (putE (putE ρ [(a, tupN lot)]) [(b, nD m)]) fun d => d = tupN (lot ++ [m])) (hz : (nxt n layer).length < 100000) :
    EvN F (tLc2 (iSeq F.K ta) (gName a) tYes wi1 (gName b) tt1 te vs [b]) ρ fun ds => ds = (nxt n layer).map tupN := by
  apply en_lc2 hu (fun j hj => by
    have : j = b := by simpa using hj
    rw [this]
    exact hu1)
  apply ei_seq
  refine h1.imp fun d hd => ⟨layer.map tupN, .inl hd, fun i acc => acc = ((layer.take i).flatMap (mor n)).map tupN, rfl, ?_, ?_⟩
  · rintro i d acc hi rfl
    obtain ⟨lot, el, rfl⟩ := map_at hi
    have hlen := flat_len (f := mor n) el
    refine ⟨[(a, tupN lot)], fun q hq => ?_, fun q hq => ?_, g_name, et_yes (iteT ?_)⟩
    · have : q = (a, tupN lot) := by simpa using hq
      rw [this]
      exact ha
    · have : q = (a, tupN lot) := by simpa using hq
      rw [this]
      simpa using hab
    · refine (h2 lot).imp fun es he => ⟨fun j acc1 => acc1 = ((layer.take i).flatMap (mor n) ++ morT n j lot).map tupN, ?_, ?_, ?_⟩
      · show _ = _
        unfold morT
        simp
      · rintro j e acc1 hj rfl
        subst he
        obtain ⟨m, em, rfl⟩ := map_at hj
        refine ⟨[(b, nD m)], fun q hq => ?_, g_name, (h3 lot m).imp fun c hc => ?_⟩
        · have : q = (b, nD m) := by simpa using hq
          rw [this]
          simp
        · have hf := filt_len (l := List.range n) (j := j) (p := okN lot)
          cases ec : okN lot m with
          | true =>
            have : c = true := hc.trans ec
            subst this
            refine iteT ((h4 lot m (List.mem_of_getElem? el)).imp fun y hy => ?_)
            subst hy
            have e1 : morT n (j + 1) lot = morT n j lot ++ [lot ++ [m]] := by
              unfold morT
              rw [filt_take em, if_pos ec, List.map_append]
              rfl
            refine ⟨?_, ?_⟩
            · rw [List.length_map, List.length_append]
              have e2 : (morT n j lot).length ≤ (mor n lot).length := by
                unfold morT mor
                rw [List.length_map, List.length_map]
                exact hf
              unfold nxt at hz
              omega
            · show _ = _
              rw [e1, ← List.append_assoc, List.map_append (l₁ := _ ++ _)]
              rfl
          | false =>
            have : c = false := hc.trans ec
            subst this
            refine iteF ?_
            have e1 : morT n (j + 1) lot = morT n j lot := by
              unfold morT
              rw [filt_take em, if_neg (by rw [ec]; decide)]
            show _ = _
            rw [e1]
      · rintro acc1 rfl
        subst he
        show _ = _
        rw [List.length_map, flat_take el]
        unfold morT mor
        rw [List.take_length]
  · rintro acc rfl
    rw [List.length_map, List.take_length]
    rfl
theorem lays_get {n i j : Nat} {l : List Nat} (h : l ∈ lay n i) (hj : i < j) : l ∈ lays n j := by
  induction j with
  | zero => exact absurd hj (Nat.not_lt_zero i)
  | succ j ih =>
    unfold lays
    rcases Nat.lt_or_ge i j with z | z
    · exact List.mem_append_left _ (ih z)
    · have : i = j := by omega
      subst this
      exact List.mem_append_right _ h
/-- lot == () or number > lot[-1] -/
theorem last_test {F : Fm} {ρ : List Sl} {a b : Nat} {lot : List Nat} {m : Nat} (ha : ρ[a]? = some (.val (tupN lot))) (hb : ρ[b]? = some (.val (nD m))) :
    EvT F (tOr (tTest (tOp (rEqX F.K) (tVar a) (tTup tNil))) (tTest (tOp (rI0 fun i j => .bl (decide (j < i))) (tVar b) (tOp (rIx F.K) (tVar a) (tUn (rU fun i => .int (-i)) (tC (.int 1))))))) ρ fun c => c = (decide (lot = []) || decide (lot.getLastD 0 < m)) := by
  apply et_or
  apply et_test
  apply ev_op
  apply ev_var ha
  apply ev_tup
  apply ea_nil
  refine ⟨by decide, ?_⟩
  apply ro_eq_t0
  refine ⟨_, rfl, ?_⟩
  by_cases h : lot = []
  · rw [decide_eq_true h]
    exact iteT rfl
  · rw [decide_eq_false h]
    refine iteF ?_
    obtain ⟨r, x, rfl⟩ := snoc_of h
    apply et_test
    apply ev_op
    apply ev_var hb
    apply ev_op
    apply ev_var ha
    apply ev_un
    apply ev_int
    apply ro_un
    apply ro_ixT (d := nD x) (by exact atI_last)
    apply ro_B0
    refine ⟨_, rfl, ?_⟩
    rw [Bool.false_or, Bool.eq_iff_iff, decide_eq_true_iff, decide_eq_true_iff]
    simp
/-- lot + (number,) -/
theorem lot_more {F : Fm} {ρ : List Sl} {a b : Nat} {lot : List Nat} {m : Nat} (ha : ρ[a]? = some (.val (tupN lot))) (hb : ρ[b]? = some (.val (nD m))) (hl : lot.length ≤ 1000) : EvD F (tOp (rAddX F.K) (tVar a) (tTup (tCons (tVar b) tNil))) ρ fun d => d = tupN (lot ++ [m]) := by
  apply ev_op
  apply ev_var ha
  apply ev_tup
  apply ea_cons
  apply ev_var hb
  apply ea_nil
  refine ⟨len_ok rfl, ?_⟩
  apply ro_catT (by rw [List.length_map]; show lot.length + 1 ≤ _; omega)
  unfold tupN
  rw [List.map_append]
  rfl
theorem lay_len {n : Nat} : ∀ {i : Nat} {l : List Nat}, l ∈ lay n i → l.length = i
  | 0, l, h => by
    have : l = [] := by simpa [lay] using h
    rw [this]
    rfl
  | i + 1, l, h => by
    obtain ⟨r, hr, h2⟩ := List.mem_flatMap.mp h
    obtain ⟨m, _, rfl⟩ := List.mem_map.mp h2
    rw [List.length_append, lay_len hr]
    rfl
theorem ok_lots_of (W : Wf P w K mg base) : FnR P w K mg base (L2.CX P w) 1 (d_lots_of.at_ K) (spD K fun ds k _ => S_lots_of ds k) := by
  refine W.fnD in_lots_of sc_lots_of (fun fd F => F.bindsN fun _ _ _ _ _ _ us hl => match us, hl with | [_], _ => rfl) (fun ds k h => by first | (obtain ⟨rfl, _⟩ := h; rfl) | (obtain ⟨_, rfl, _⟩ := h; rfl) | (obtain ⟨_, _, rfl, _⟩ := h; rfl) | (obtain ⟨_, _, _, rfl, _⟩ := h; rfl) | (obtain ⟨_, _, _, _, rfl, _⟩ := h; rfl) | (obtain ⟨_, _, _, _, _, rfl, _⟩ := h; rfl) | (obtain ⟨_, _, _, _, _, _, rfl, _⟩ := h; rfl) | (obtain ⟨_, _, _, _, _, _, _, rfl, _⟩ := h; rfl) | (obtain ⟨_, _, _, _, _, _, _, _, rfl, _⟩ := h; rfl) | (obtain ⟨_, _, _, _, _, _, _, _, _, rfl, _⟩ := h; rfl)) fun cdv A outer s H E hR F ds kk hF h => ?_
  subst hF
  obtain ⟨rfl, q⟩ := h
  refine ⟨_, (pss_cons (ps_set (i := 1) sc_lots_of.nd rfl (Or.inl rfl) (pe_lst pa_nil))
  (pss_cons (ps_set (i := 2) sc_lots_of.nd rfl (Or.inl rfl) (pe_lst (pa_cons (pe_tup pa_nil) pa_nil)))
  (pss_cons (ps_while PassesOwn.never (pt_cmpR (op_neX hR.units : OpR _ _ (rNeX F.K)) (pv 2) (pe_lst pa_nil) (nomark _))
  (pss_cons (ps_set (i := 1) sc_lots_of.nd rfl (Or.inl rfl) (pe_op (op_addX : OpR _ _ (rAddX F.K)) (pv 1) (pv 2)))
  (pss_one (ps_setLc2 (i := 2) (own := [("lot", 3), ("number", 4)]) (vs1 := [4]) (by rfl) sc_lots_of.nd rfl rfl (sw_true rfl rfl rfl (by decide +kernel)) (pi_seqK (K := F.K) rfl (pv 2)) (blkOk_by (N := n_lots_of) (sc := defScope s_lots_of) (own := [("lot", 3), ("number", 4)]) (by decide +kernel)) (by decide) (fun _ _ _ _ _ => (pg_name (i := 3) sc_lots_of.nd rfl (Or.inl rfl))) (fun _ _ _ _ _ => pts_nil) (fun _ _ _ _ _ => (pi_seqK (K := F.K) rfl (pv 0))) (fun _ _ _ _ _ => (pg_name (i := 4) sc_lots_of.nd rfl (Or.inl rfl))) (fun _ _ _ _ _ => (pts_one (PW.pt (pw_or (pt_cmpR (op_eqX hR.units : OpR _ _ (rEqX F.K)) (pv 3) (pe_tup pa_nil) (nomark _)) (pw_or1 (pt_cmpR op_gt (pv 4) (pe_ix (ix_seq : IxR _ (rIx F.K)) (pv 3) (pe_un un_neg pe_int) (fun _ _ => rfl)) (nomark _))))))) (fun _ _ _ _ _ => (pe_op (op_addX : OpR _ _ (rAddX F.K)) (pv 3) (pe_tup (pa_cons (pv 4) pa_nil))))))))
  (pss_one (ps_ret (pv 1)))))), ?_⟩
  try dsimp only [Xof, cxOf, Cx.nox, Cx.wish, Cx.blk]
  repeat walk_at "d"
  apply s_while fun m ρ => ∃ i, i ≤ 10 ∧ m = 10 - i ∧ ∃ x y, ρ = [.val (tupN (List.range 9)), .val (.lst ((lays 9 i).map tupN)), .val (.lst ((lay 9 i).map tupN)), x, y] ∧ x = .un ∧ y = .un
  · exact ⟨10, 0, by decide, rfl, _, _, rfl, rfl, rfl⟩
  · rintro m ρ' ⟨i, hi, rfl, x, y, rfl, rfl, rfl⟩
    repeat walk_at "d"
    by_cases hl : lay 9 i = []
    · rw [decide_eq_true hl]
      repeat walk_at "d"
      have : i = 10 := by
        rcases Nat.lt_or_ge i 10 with z | z
        · exact absurd hl (lay9n i z)
        · omega
      subst this
      exact q
    · rw [decide_eq_false hl]
      have hi9 : i < 10 := by
        rcases Nat.lt_or_ge i 10 with z | z
        · exact z
        · have : i = 10 := by omega
          rw [this] at hl
          exact absurd lay9 hl
      repeat walk_at "d"
      apply ro_cat (by rw [List.length_map, List.length_map]; have := lays9 i (by omega); have := lay9s i (by omega); omega)
      repeat walk_at "d"
      apply EvN.ev
      refine (nxt_lc (n := 9) (layer := lay 9 i) (un_of rfl) rfl (by decide) (by decide) (ev_var rfl rfl) (fun lot => ?_) (fun lot m => last_test rfl rfl) (fun lot m hm => lot_more rfl rfl (by rw [lay_len hm]; omega)) (by have := lay9s (i + 1) (by omega); show (lay 9 (i + 1)).length < _; omega)).imp fun ds hds => ?_
      · apply ei_seq
        exact ev_var rfl ⟨_, .inr rfl, rfl⟩
      · subst hds
        repeat walk_at "d"
        refine ⟨10 - (i + 1), by omega, i + 1, by omega, rfl, _, _, ?_, rfl, rfl⟩
        show _ = [_, Sl.val (.lst ((lays 9 i ++ lay 9 i).map tupN)), _, _, _]
        rw [List.map_append]
        rfl
theorem cc_lots_of (W : Wf P w K mg base) : Fnc P w K mg base 1 "lots_of" (spD K fun ds k _ => S_lots_of ds k) := W.fnc in_lots_of (fun _ => rfl) (j := 15) rfl (ok_lots_of W)
end
end K33
namespace K33
open PySem PySem.Spec PyProof.Rows L2
def letters : PySem.Str := "abcdefghijklmnopqrstuvwxyz"
structure Good (z : PySem.Str) : Prop where
  l1 : 1 ≤ z.length
  l8 : z.length ≤ 8
  ab : ∀ c ∈ z.cps.toList, c ∈ letters.cps.toList
  nk : z ∉ keptw
theorem pow_pred {n : Nat} : ((2 ^ n : Nat) : Int) - 1 = ((2 ^ n - 1 : Nat) : Int) := by
  have := Nat.one_le_two_pow (n := n)
  omega
section
variable {P : Program} {w : World} {K : PySem.W.Frag} {mg : PySem.Str → Option Value} {base : Heap}
local macro_rules | `(tactic| walk_at "d0") => `(tactic| first
  | ((with_reducible apply ev_var); rfl)
  | with_reducible apply ev_int
  | with_reducible apply ev_bl
  | with_reducible apply ev_str
  | with_reducible apply ev_non
  | with_reducible apply s_seq
  | with_reducible apply s_ret
  | with_reducible apply s_asg
  | with_reducible apply s_next
  | ((with_reducible apply s_app); rfl)
  | with_reducible apply s_drop
  | ((with_reducible apply src_0); rfl; intro _)
  | ((with_reducible apply src_1); rfl; intro _ _ _)
  | ((with_reducible apply src_2); rfl; intro _)
  | ((with_reducible apply s_setSrc0); rfl)
  | ((with_reducible apply s_setSrc2); rfl)
  | ((with_reducible apply ev_callS); rfl)
  | ((with_reducible apply ev_opO); rfl)
  | ((with_reducible apply ev_ixO); rfl)
  | with_reducible apply ev_op
  | with_reducible apply ev_un
  | with_reducible apply et_test
  | with_reducible apply et_B
  | with_reducible apply et_truI
  | with_reducible apply et_and
  | with_reducible apply et_or
  | with_reducible apply et_not
  | with_reducible apply ea_nil
  | with_reducible apply ea_cons
  | with_reducible apply ro_nd_n
  | with_reducible apply ro_and_n
  | with_reducible apply ro_or_n
  | with_reducible apply ro_shr_n
  | with_reducible apply ro_eq_0
  | with_reducible apply ro_ne_0
  | with_reducible apply ro_eq_n
  | with_reducible apply ro_ne_n
  | with_reducible apply ro_add_n
  | with_reducible apply ro_add_1
  | with_reducible apply ro_I0
  | with_reducible apply ro_B0
  | with_reducible apply ro_un
  | ((with_reducible apply ro_isN); rfl)
  | ((with_reducible apply ro_notN); rfl)
  | with_reducible apply ro_eq_t0
  | with_reducible apply ro_ne_lt0
  | with_reducible apply ro_ne_l0
  | with_reducible apply ro_ne_tt
  | with_reducible apply ro_eq_tt
  | with_reducible apply ro_ne_t
  | with_reducible apply ro_eq_i
  | with_reducible apply ro_ne_i
  | with_reducible apply ro_eq_s
  | with_reducible apply ro_add
  | ((with_reducible apply ro_ixT); rfl)
  | ((with_reducible apply ro_ixL); rfl)
  | with_reducible apply ev_list
  | with_reducible apply ev_tuple
  | with_reducible apply ev_sortset
  | with_reducible apply ev_isLT
  | ((with_reducible apply ev_cbO); rfl)
  | with_reducible apply ev_cb
  | with_reducible apply ev_call
  | ((with_reducible apply ev_fldM); rfl; exact Wf.kc2 (by assumption) (by decide +kernel); rfl)
  | with_reducible apply ev_fld
  | with_reducible apply ev_and
  | with_reducible apply ev_or
  | with_reducible apply ev_notV
  | with_reducible apply ev_if
  | with_reducible apply ev_chain
  | with_reducible apply ev_tup
  | with_reducible apply ev_lst
  | with_reducible apply ev_make
  | ((with_reducible apply ev_cm0); exact exok0)
  | ((with_reducible apply ev_cm); exact exok0)
  | ((with_reducible apply ev_meth0); exact exok0)
  | ((with_reducible apply ev_meth); exact exok0)
  | ((with_reducible apply ro_subO); exact exok0)
  | ((with_reducible apply ro_addO); exact exok0)
  | ((with_reducible apply rc_lenO); exact exok0)
  | ((with_reducible apply ev_prop); exact exok0)
  | with_reducible apply rc_int
  | with_reducible apply rc_lenL
  | with_reducible apply rc_lenT
  | ((with_reducible apply rc_is_int); (exact rfl))
  | ((with_reducible apply rc_is_bl); (exact rfl))
  | ((with_reducible apply rc_is_str); (exact rfl))
  | ((with_reducible apply rc_is_tup); (exact rfl))
  | ((with_reducible apply s_fldM); rfl; exact Wf.kc2 (by assumption) (by decide +kernel); decide; rfl)
  | with_reducible apply et_yes
  | with_reducible apply ev_rawc
  | ((with_reducible apply ev_src); rfl)
  | ((with_reducible refine ⟨len_ok ?_, ?_⟩); rfl)
  | with_reducible refine ⟨rfl, ?_⟩
  | with_reducible refine ⟨⟨_, rfl⟩, ?_⟩
  | with_reducible refine ⟨_, rfl, ?_⟩
  | refine ⟨_, _, rfl, rfl, ?_⟩
  | refine ⟨_, _, _, _, rfl, Wf.kc2 (by assumption) (by decide +kernel), rfl, ?_⟩
  | ((with_reducible apply iteTr); rfl)
  | ((with_reducible apply iteFr); rfl)
  | dsimp only)
local macro_rules | `(tactic| walk_at "d") => `(tactic| first
  | walk_at "d0"
  | with_reducible apply s_if)
local macro_rules | `(tactic| walk_at "o") => `(tactic| first
  | ((with_reducible apply so_retO); rfl)
  | ((with_reducible apply et_notcallO); rfl)
  | ((with_reducible apply s_asgO); (with_reducible apply en_lst); (with_reducible apply ea_nil); refine ⟨len_ok rfl, ?_⟩)
  | walk_at "d")

local macro_rules | `(tactic| walk_at "x") => `(tactic| first
  | ((with_reducible apply ev_callX); assumption)
  | walk_at "o")
def S_name_fault : List D → (D → Prop) → Prop := fun ds k => ∃ z : PySem.Str, ds = [.str z] ∧ Good z ∧ k .non
theorem ok_name_fault (W : Wf P w K mg base) : FnR P w K mg base (L2.CX P w) 1 (d_name_fault.at_ K) (spD K fun ds k _ => S_name_fault ds k) := by
  refine W.fnD in_name_fault sc_name_fault (fun fd F => F.bindsN fun _ _ _ _ _ _ us hl => match us, hl with | [_], _ => rfl) (fun ds k h => by first | (obtain ⟨rfl, _⟩ := h; rfl) | (obtain ⟨_, rfl, _⟩ := h; rfl) | (obtain ⟨_, _, rfl, _⟩ := h; rfl) | (obtain ⟨_, _, _, rfl, _⟩ := h; rfl) | (obtain ⟨_, _, _, _, rfl, _⟩ := h; rfl) | (obtain ⟨_, _, _, _, _, rfl, _⟩ := h; rfl) | (obtain ⟨_, _, _, _, _, _, rfl, _⟩ := h; rfl) | (obtain ⟨_, _, _, _, _, _, _, rfl, _⟩ := h; rfl) | (obtain ⟨_, _, _, _, _, _, _, _, rfl, _⟩ := h; rfl) | (obtain ⟨_, _, _, _, _, _, _, _, _, rfl, _⟩ := h; rfl)) fun cdv A outer s H E hR F ds kk hF h => ?_
  subst hF
  obtain ⟨z, rfl, hz, q⟩ := h
  refine ⟨_, (pss_cons (ps_if (PW.pt (pw_or (pt_not (pt_val (pe_callB (cr_isX : CallR _ _ (rIsX F.K)) rfl (W.free 1 _ rfl) (by decide +kernel) (pa_cons (pv 0) (pa_cons (pe_bltn (v := .ty "str") (u := .type "str") rfl (W.free 4 _ rfl) (by decide +kernel) rfl) pa_nil))))) (pw_or1 (pt_not (pt_chain op_le op_le pe_int (pe_callB (cr_lenX : CallR _ _ (rLenX F.K)) rfl (W.free 0 _ rfl) boot_len (pa_cons (pv 0) pa_nil)) (pe_gi rfl (W.intv 2 _ rfl)))))))
  (pss_one (ps_ret pe_str))
  pss_nil)
  (pss_cons (ps_for PassesOwn.never rfl (pi_str (pv 0)) (pg_name (i := 1) sc_name_fault.nd rfl (Or.inl rfl))
  (pss_one (ps_if (pt_cmpR (op_ninX : OpR _ _ (rNiX F.K)) (pv 1) (pe_gs rfl (W.strv 0 _ rfl)) (by rfl))
  (pss_one (ps_ret pe_str))
  pss_nil)))
  (pss_one (ps_ret (pe_ifExp (pt_cmpR (op_inX : OpR _ _ (rInX F.K)) (pv 0) (pe_glob (v := .ref (He.ga F.K "KEPT_WORDS")) rfl (W.glo 31 _ rfl) rfl) (by rfl)) pe_str pe_non))))), ?_⟩
  try dsimp only [Xof, cxOf, Cx.nox, Cx.wish, Cx.blk]
  repeat walk_at "d"
  apply rc_lenS (Nat.le_trans hz.l8 (by decide))
  apply ro_B0
  rw [decide_eq_true (show (1 : Int) ≤ z.length by have := hz.l1; omega)]
  repeat walk_at "d"
  rw [decide_eq_true (show (z.length : Int) ≤ 8 by have := hz.l8; omega)]
  repeat walk_at "d"
  apply s_for
  apply ei_str
  repeat walk_at "d"
  refine ⟨fun i ρ => ∃ x, ρ = [.val (.str z), x], ⟨_, rfl⟩, ?_, ?_⟩
  · rintro i d ρ' hi ⟨x, rfl⟩
    obtain ⟨c, ec, rfl⟩ := map_at hi
    refine ⟨_, g_name, ?_⟩
    repeat walk_at "d"
    apply ro_niS
    have hm : c ∈ ("abcdefghijklmnopqrstuvwxyz" : PySem.Str).cps.toList := hz.ab c (List.mem_of_getElem? ec)
    rw [decide_eq_true hm]
    repeat walk_at "d"
    exact ⟨_, rfl⟩
  · rintro ρ' ⟨x, rfl⟩
    repeat walk_at "d"
    apply ro_inK W.kept
    rw [decide_eq_false hz.nk]
    repeat walk_at "d"
    exact q
theorem cc_name_fault (W : Wf P w K mg base) : Fnc P w K mg base 1 "name_fault" (spD K fun ds k _ => S_name_fault ds k) := W.fnc in_name_fault (fun _ => rfl) (j := 32) rfl (ok_name_fault W)
def S_Marks__init__ : List D → (List PySem.Str → List D → Prop) → Prop := fun ds k => ∃ ns : List PySem.Str, ds = [.lst (ns.map .str)] ∧ 1 ≤ ns.length ∧ ns.length ≤ 4 ∧ (∀ z ∈ ns, Good z) ∧ ns.Nodup ∧
  k ["names", "count", "days", "all_days"] [.tup (ns.map .str), nD ns.length, nD (2 ^ ns.length), nD (2 ^ 2 ^ ns.length - 1)]
theorem ok_Marks__init__ (W : Wf P w K mg base) : ∃ fd, FunD K d_Marks__init__.name d_Marks__init__.qual d_Marks__init__.params d_Marks__init__.body d_Marks__init__.scope (d_Marks__init__.dvs K) (d_Marks__init__.kws K) (d_Marks__init__.at_ K) fd ∧ FnOk P w K mg base (L2.CX P w) 2 (d_Marks__init__.at_ K) fd ["self", "names"] (spI K "Marks" S_Marks__init__) := by
  have c_name_fault := cc_name_fault W
  refine W.fnI in_Marks__init__ sc_Marks__init__ (fun ds k h => by first | (obtain ⟨rfl, _⟩ := h; rfl) | (obtain ⟨_, rfl, _⟩ := h; rfl) | (obtain ⟨_, _, rfl, _⟩ := h; rfl) | (obtain ⟨_, _, _, rfl, _⟩ := h; rfl) | (obtain ⟨_, _, _, _, rfl, _⟩ := h; rfl) | (obtain ⟨_, _, _, _, _, rfl, _⟩ := h; rfl) | (obtain ⟨_, _, _, _, _, _, rfl, _⟩ := h; rfl) | (obtain ⟨_, _, _, _, _, _, _, rfl, _⟩ := h; rfl) | (obtain ⟨_, _, _, _, _, _, _, _, rfl, _⟩ := h; rfl) | (obtain ⟨_, _, _, _, _, _, _, _, _, rfl, _⟩ := h; rfl)) fun cdv A outer s H E hR F sa ds kk hF hsa h => ?_
  subst hF
  obtain ⟨ns, rfl, h1, h4, hg, hn, q⟩ := h
  refine ⟨_, (pss_cons (ps_if (PW.pt (pw_or (pt_not (pt_val (pe_callB (cr_isX : CallR _ _ (rIsX F.K)) rfl (W.free 1 _ rfl) (by decide +kernel) (pa_cons (pv 1) (pa_cons (pe_tup (pa_cons (pe_bltn (v := .ty "list") (u := .type "list") rfl (W.free 5 _ rfl) (by decide +kernel) rfl) (pa_cons (pe_bltn (v := .ty "tuple") (u := .type "tuple") rfl (W.free 6 _ rfl) (by decide +kernel) rfl) pa_nil))) pa_nil))))) (pw_or1 (pt_not (pt_chain op_le op_le pe_int (pe_callB (cr_lenX : CallR _ _ (rLenX F.K)) rfl (W.free 0 _ rfl) boot_len (pa_cons (pv 1) pa_nil)) (pe_gi rfl (W.intv 1 _ rfl)))))))
  (pss_one ps_never)
  pss_nil)
  (pss_cons (ps_set (i := 2) sc_Marks__init__.nd rfl (Or.inl rfl) (pe_lst pa_nil))
  (pss_cons (ps_for PassesOwn.never rfl (pi_enumX (by rfl) (W.free 9 _ rfl) (pa_cons (pv 1) pa_nil)) (pg_tupK (K := F.K) (n := 2) rfl (by rfl) (pgs_cons (pg_name (i := 3) sc_Marks__init__.nd rfl (Or.inl rfl)) (pgs_cons (pg_name (i := 4) sc_Marks__init__.nd rfl (Or.inl rfl)) pgs_nil)))
  (pss_cons (ps_set (i := 5) sc_Marks__init__.nd rfl (Or.inl rfl) (pe_f c_name_fault hR (by decide) rfl passL (pa_cons (pv 4) pa_nil)))
  (pss_cons (ps_if (PW.pt (pw_and (pt_cmpR op_isN (pv 5) pe_non (nomark _)) (pw_and1 (pt_cmpR (op_inX : OpR _ _ (rInX F.K)) (pv 4) (pv 2) (by rfl)))))
  (pss_one (ps_set (i := 5) sc_Marks__init__.nd rfl (Or.inl rfl) pe_str))
  pss_nil)
  (pss_cons (ps_if (pt_cmpR op_notN (pv 5) pe_non (nomark _))
  (pss_one ps_never)
  pss_nil)
  (pss_one (ps_expr (pe_bm PySem.F.plainAttrs_list PySem.F.slot_list_append PySem.F.type_list_append mt_append (pv 2) (pa_cons (pv 4) pa_nil))))))))
  (pss_cons (ps_fld (pv 0) (pe_callTy call_tuple_of rfl (W.free 6 _ rfl) (by decide +kernel) (pa_cons (pv 2) pa_nil)) rfl)
  (pss_cons (ps_fld (pv 0) (pe_callB (cr_lenX : CallR _ _ (rLenX F.K)) rfl (W.free 0 _ rfl) boot_len (pa_cons (pv 2) pa_nil)) rfl)
  (pss_cons (ps_fld (pv 0) (pe_op op_shl pe_int (pe_callB (cr_lenX : CallR _ _ (rLenX F.K)) rfl (W.free 0 _ rfl) boot_len (pa_cons (pv 2) pa_nil))) rfl)
  (pss_one (ps_fld (pv 0) (pe_op op_sub (pe_op op_shl pe_int (pe_fld (pv 0) rfl)) pe_int) rfl)))))))), ?_⟩
  try dsimp only [Xof, cxOf, Cx.nox, Cx.wish, Cx.blk]
  repeat walk_at "d"
  rw [List.length_map, decide_eq_true (show (1 : Int) ≤ ns.length by omega)]
  repeat walk_at "d"
  rw [decide_eq_true (show (ns.length : Int) ≤ 4 by omega)]
  repeat walk_at "o"
  apply s_for
  apply ei_enum
  repeat walk_at "d"
  refine ⟨_, .inl rfl, fun i ρ => ∃ x y z, ρ = [.ins sa "Marks" [] [], .val (.lst (ns.map .str)), .own ((ns.take i).map .str), x, y, z], ⟨_, _, _, rfl⟩, ?_, ?_⟩
  · rintro i d ρ' hi ⟨x, y, z, rfl⟩
    obtain ⟨x, e, rfl⟩ := enumD_at hi
    obtain ⟨nm, en, rfl⟩ := map_at e
    refine ⟨_, g_tup rfl (gs_cons g_name (gs_cons g_name gs_nil)), ?_⟩
    repeat walk_at "d"
    refine ⟨_, rfl, hg nm (List.mem_of_getElem? en), ?_⟩
    repeat walk_at "d"
    apply ro_inLs
    have : nm ∉ ns.take i := fun hm => by
      obtain ⟨j, hj, e2⟩ := List.mem_iff_getElem.mp hm
      rw [List.length_take] at hj
      have e3 : ns[j]? = some nm := by
        rw [List.getElem_take] at e2
        rw [List.getElem?_eq_getElem (by omega), e2]
      have hl := (List.getElem?_eq_some_iff.mp en).1
      have hj2 : j < ns.length := by omega
      have := (List.getElem?_inj hj2 hn).mp (e3.trans en.symm)
      omega
    rw [decide_eq_false this]
    repeat walk_at "d"
    rw [List.length_map, List.length_take]
    omega
    repeat walk_at "d"
    rw [take_at en, List.map_append]
    exact ⟨_, _, _, rfl⟩
  · rintro ρ' ⟨x, y, z, rfl⟩
    rw [enumD_len, List.length_map, List.take_length]
    with_reducible apply so_freeze 2
    rfl
    repeat walk_at "d"
    refine ⟨_, .inl rfl, ?_⟩
    repeat walk_at "d"
    rw [List.length_map]
    repeat walk_at "d"
    apply ro_shl_n (by omega)
    repeat walk_at "d"
    apply ro_shl_n (by have := Nat.pow_le_pow_right (show 0 < 2 by decide) h4; omega)
    repeat walk_at "d"
    refine ⟨_, _, rfl, ?_⟩
    rw [pow_pred]
    exact q

theorem cc_Marks__init__ (W : Wf P w K mg base) : Kls P w K mg base 2 "Marks" (spI K "Marks" S_Marks__init__) := by
  obtain ⟨fd, Fn, G⟩ := ok_Marks__init__ W
  exact kls_of W rfl (W.glo 33 _ rfl) (j := 3) rfl G (Fn.bindsN fun _ _ _ _ _ _ us hl => match us, hl with | [_, _], _ => rfl)
def S_Book__init__ : List D → (List PySem.Str → List D → Prop) → Prop := fun ds k => ∃ b : Bk, ds = [marksD b.ns, .lst (b.rows.map sayD)] ∧ b.Ok ∧ k ["marks", "sayings"] [marksD b.ns, .tup (b.rows.map sayD)]
theorem ok_Book__init__ (W : Wf P w K mg base) : ∃ fd, FunD K d_Book__init__.name d_Book__init__.qual d_Book__init__.params d_Book__init__.body d_Book__init__.scope (d_Book__init__.dvs K) (d_Book__init__.kws K) (d_Book__init__.at_ K) fd ∧ FnOk P w K mg base (L2.CX P w) 1 (d_Book__init__.at_ K) fd ["self", "marks", "sayings"] (spI K "Book" S_Book__init__) := by
  refine W.fnI in_Book__init__ sc_Book__init__ (fun ds k h => by first | (obtain ⟨rfl, _⟩ := h; rfl) | (obtain ⟨_, rfl, _⟩ := h; rfl) | (obtain ⟨_, _, rfl, _⟩ := h; rfl) | (obtain ⟨_, _, _, rfl, _⟩ := h; rfl) | (obtain ⟨_, _, _, _, rfl, _⟩ := h; rfl) | (obtain ⟨_, _, _, _, _, rfl, _⟩ := h; rfl) | (obtain ⟨_, _, _, _, _, _, rfl, _⟩ := h; rfl) | (obtain ⟨_, _, _, _, _, _, _, rfl, _⟩ := h; rfl) | (obtain ⟨_, _, _, _, _, _, _, _, rfl, _⟩ := h; rfl) | (obtain ⟨_, _, _, _, _, _, _, _, _, rfl, _⟩ := h; rfl)) fun cdv A outer s H E hR F sa ds kk hF hsa h => ?_
  subst hF
  obtain ⟨b, rfl, ok, q⟩ := h
  refine ⟨_, (pss_cons (ps_if (pt_not (pt_val (pe_callB (cr_isX : CallR _ _ (rIsX F.K)) rfl (W.free 1 _ rfl) (by decide +kernel) (pa_cons (pv 1) (pa_cons (pe_glob (v := .ref (He.ga F.K "Marks")) rfl (W.glo 33 _ rfl) rfl) pa_nil)))))
  (pss_one ps_never)
  pss_nil)
  (pss_cons (ps_if (PW.pt (pw_or (pt_not (pt_val (pe_callB (cr_isX : CallR _ _ (rIsX F.K)) rfl (W.free 1 _ rfl) (by decide +kernel) (pa_cons (pv 2) (pa_cons (pe_tup (pa_cons (pe_bltn (v := .ty "list") (u := .type "list") rfl (W.free 5 _ rfl) (by decide +kernel) rfl) (pa_cons (pe_bltn (v := .ty "tuple") (u := .type "tuple") rfl (W.free 6 _ rfl) (by decide +kernel) rfl) pa_nil))) pa_nil))))) (pw_or1 (pt_cmpR op_gt (pe_callB (cr_lenX : CallR _ _ (rLenX F.K)) rfl (W.free 0 _ rfl) boot_len (pa_cons (pv 2) pa_nil)) (pe_gi rfl (W.intv 3 _ rfl)) (nomark _)))))
  (pss_one ps_never)
  pss_nil)
  (pss_cons (ps_for PassesOwn.never rfl (pi_enumX (by rfl) (W.free 9 _ rfl) (pa_cons (pv 2) pa_nil)) (pg_tupK (K := F.K) (n := 2) rfl (by rfl) (pgs_cons (pg_name (i := 3) sc_Book__init__.nd rfl (Or.inl rfl)) (pgs_cons (pg_name (i := 4) sc_Book__init__.nd rfl (Or.inl rfl)) pgs_nil)))
  (pss_cons (ps_if (pt_not (pt_val (pe_callB (cr_isX : CallR _ _ (rIsX F.K)) rfl (W.free 1 _ rfl) (by decide +kernel) (pa_cons (pv 4) (pa_cons (pe_glob (v := .ref (He.ga F.K "Saying")) rfl (W.glo 9 _ rfl) rfl) pa_nil)))))
  (pss_one ps_never)
  pss_nil)
  (pss_one (ps_if (pt_cmpR op_gt (pe_op op_or (pe_fld (pv 4) rfl) (pe_fld (pv 4) rfl)) (pe_fld (pv 1) rfl) (nomark _))
  (pss_one ps_never)
  pss_nil))))
  (pss_cons (ps_fld (pv 0) (pv 1) rfl)
  (pss_one (ps_fld (pv 0) (pe_callTy call_tuple_of rfl (W.free 6 _ rfl) (by decide +kernel) (pa_cons (pv 2) pa_nil)) rfl)))))), ?_⟩
  try dsimp only [Xof, cxOf, Cx.nox, Cx.wish, Cx.blk]
  repeat walk_at "d"
  apply rc_is_obj (W.cls 3 _ rfl) (W.ins 3 _ rfl)
  repeat walk_at "d"
  rw [List.length_map, decide_eq_false (show ¬ (12 : Int) < b.rows.length by have := ok.rl; omega)]
  repeat walk_at "d"
  apply s_for
  apply ei_enum
  repeat walk_at "d"
  refine ⟨_, .inl rfl, fun i ρ => ∃ x y, ρ = [.ins sa "Book" [] [], .val (marksD b.ns), .val (.lst (b.rows.map sayD)), x, y], ⟨_, _, rfl⟩, ?_, ?_⟩
  · rintro i d ρ' hi ⟨x, y, rfl⟩
    obtain ⟨x, e, rfl⟩ := enumD_at hi
    obtain ⟨r, er, rfl⟩ := map_at e
    have ri := ok.ri r (List.mem_of_getElem? er)
    refine ⟨_, g_tup rfl (gs_cons g_name (gs_cons g_name gs_nil)), ?_⟩
    repeat walk_at "d"
    apply rc_is_obj (W.cls 0 _ rfl) (W.ins 0 _ rfl)
    repeat walk_at "d"
    have hlt : r.w ||| r.t < 2 ^ b.days := or_lt ri.2.1 ri.2.2
    rw [decide_eq_false (show ¬ ((2 ^ 2 ^ b.ns.length - 1 : Nat) : Int) < ((r.w ||| r.t : Nat) : Int) by unfold Bk.days at hlt; omega)]
    repeat walk_at "d"
    exact ⟨_, _, rfl⟩
  · rintro ρ' ⟨x, y, rfl⟩
    repeat walk_at "d"
    refine ⟨_, .inl rfl, ?_⟩
    repeat walk_at "d"
    exact ⟨_, _, rfl, q⟩

theorem cc_Book__init__ (W : Wf P w K mg base) : Kls P w K mg base 1 "Book" (spI K "Book" S_Book__init__) := by
  obtain ⟨fd, Fn, G⟩ := ok_Book__init__ W
  exact kls_of W rfl (W.glo 34 _ rfl) (j := 4) rfl G (Fn.bindsN fun _ _ _ _ _ _ us hl => match us, hl with | [_, _, _], _ => rfl)
end
end K33
namespace K33
open PySem PySem.Spec PyProof.Rows L2
theorem nodup_len : ∀ {ms ns : List Int}, ms.Nodup → (∀ x ∈ ms, x ∈ ns) → ms.length ≤ ns.length
  | [], _, _, _ => Nat.zero_le _
  | m :: ms, ns, hn, h => by
    have hm := h m (List.mem_cons_self ..)
    have hn' := List.nodup_cons.mp hn
    have := nodup_len (ms := ms) (ns := ns.erase m) hn'.2 fun x hx => by
      have : x ≠ m := fun z => hn'.1 (z ▸ hx)
      exact (List.mem_erase_of_ne this).mpr (h x (List.mem_cons_of_mem _ hx))
    rw [List.length_erase_of_mem hm] at this
    have hp : 0 < ns.length := List.length_pos_of_mem hm
    rw [List.length_cons]
    omega
theorem sum_nat : ∀ xs : List Nat, (xs.map fun (n : Nat) => (n : Int)).sum = ((xs.sum : Nat) : Int)
  | [] => rfl
  | x :: xs => by
    rw [List.map_cons, List.sum_cons, List.sum_cons, sum_nat xs, Int.natCast_add]
theorem rc_sumN {F : Fm} {ρ : List Sl} {k : D → Prop} {xs : List Nat} (q : k (nD xs.sum)) : ROc F (rSum F.K) ρ [.lst (xs.map nD)] k := by
  rw [map_nD]
  exact rc_sum (by rw [sum_nat]; exact q)
theorem find_first {α : Type} {l : List α} {p : α → Bool} {i : Nat} {x : α} (e : l[i]? = some x) (h : p x = true) (h0 : ∀ (j : Nat) (y : α), j < i → l[j]? = some y → p y = false) : l.find? p = some x := by
  rw [List.find?_eq_some_iff_getElem]
  obtain ⟨hl, e2⟩ := List.getElem?_eq_some_iff.mp e
  refine ⟨h, i, hl, e2, fun j hj => ?_⟩
  have := h0 j _ hj (List.getElem?_eq_getElem (Nat.lt_trans hj hl))
  rw [this]
  rfl
/-- Saying(a, b, usual=c) -/
theorem say_binds {K : PySem.W.Frag} {fd : FuncData} (Fn : FunD K d_Saying__init__.name d_Saying__init__.qual d_Saying__init__.params d_Saying__init__.body d_Saying__init__.scope (d_Saying__init__.dvs K) (d_Saying__init__.kws K) (d_Saying__init__.at_ K) fd) :
    ∃ g, KBn K fd ["self", "where", "then", "usual"] 3 ["usual"] g fun vs zs => vs ++ zs := by
  obtain ⟨its, h⟩ := FunD.kbindsD (ps := ["self", "where", "then", "usual"]) Fn 3 ["usual"] (fun {α} us _ ws => us ++ ws) (by intro z; cases z) (fun r1 _ r3 => r1.append r3) (fun T kV doc pm an cdv ct us its ws l1 l2 l3 => by
    match us, l1, its, l2, ws, l3 with
    | [_, _, _], _, [_], _, [_], _ => exact ⟨_, rfl, rfl⟩)
  exact ⟨_, h⟩
section
variable {P : Program} {w : World} {K : PySem.W.Frag} {mg : PySem.Str → Option Value} {base : Heap}
local macro_rules | `(tactic| walk_at "d0") => `(tactic| first
  | ((with_reducible apply ev_var); rfl)
  | with_reducible apply ev_int
  | with_reducible apply ev_bl
  | with_reducible apply ev_str
  | with_reducible apply ev_non
  | with_reducible apply s_seq
  | with_reducible apply s_ret
  | with_reducible apply s_asg
  | with_reducible apply s_next
  | ((with_reducible apply s_app); rfl)
  | with_reducible apply s_drop
  | ((with_reducible apply src_0); rfl; intro _)
  | ((with_reducible apply src_1); rfl; intro _ _ _)
  | ((with_reducible apply src_2); rfl; intro _)
  | ((with_reducible apply s_setSrc0); rfl)
  | ((with_reducible apply s_setSrc2); rfl)
  | ((with_reducible apply ev_callS); rfl)
  | ((with_reducible apply ev_opO); rfl)
  | ((with_reducible apply ev_ixO); rfl)
  | with_reducible apply ev_op
  | with_reducible apply ev_un
  | with_reducible apply et_test
  | with_reducible apply et_B
  | with_reducible apply et_truI
  | with_reducible apply et_and
  | with_reducible apply et_or
  | with_reducible apply et_not
  | with_reducible apply ea_nil
  | with_reducible apply ea_cons
  | with_reducible apply ro_nd_n
  | with_reducible apply ro_and_n
  | with_reducible apply ro_or_n
  | with_reducible apply ro_shr_n
  | with_reducible apply ro_eq_0
  | with_reducible apply ro_ne_0
  | with_reducible apply ro_eq_n
  | with_reducible apply ro_ne_n
  | with_reducible apply ro_add_n
  | with_reducible apply ro_add_1
  | with_reducible apply ro_I0
  | with_reducible apply ro_B0
  | with_reducible apply ro_un
  | ((with_reducible apply ro_isN); rfl)
  | ((with_reducible apply ro_notN); rfl)
  | with_reducible apply ro_eq_t0
  | with_reducible apply ro_ne_lt0
  | with_reducible apply ro_ne_l0
  | with_reducible apply ro_ne_tt
  | with_reducible apply ro_eq_tt
  | with_reducible apply ro_ne_t
  | with_reducible apply ro_eq_i
  | with_reducible apply ro_ne_i
  | with_reducible apply ro_eq_s
  | with_reducible apply ro_add
  | ((with_reducible apply ro_ixT); rfl)
  | ((with_reducible apply ro_ixL); rfl)
  | with_reducible apply ev_list
  | with_reducible apply ev_tuple
  | with_reducible apply ev_sortset
  | with_reducible apply ev_isLT
  | ((with_reducible apply ev_cbO); rfl)
  | with_reducible apply ev_cb
  | with_reducible apply ev_call
  | ((with_reducible apply ev_fldM); rfl; exact Wf.kc2 (by assumption) (by decide +kernel); rfl)
  | with_reducible apply ev_fld
  | with_reducible apply ev_and
  | with_reducible apply ev_or
  | with_reducible apply ev_notV
  | with_reducible apply ev_if
  | with_reducible apply ev_chain
  | with_reducible apply ev_tup
  | with_reducible apply ev_lst
  | with_reducible apply ev_make
  | ((with_reducible apply ev_cm0); exact exok0)
  | ((with_reducible apply ev_cm); exact exok0)
  | ((with_reducible apply ev_meth0); exact exok0)
  | ((with_reducible apply ev_meth); exact exok0)
  | ((with_reducible apply ro_subO); exact exok0)
  | ((with_reducible apply ro_addO); exact exok0)
  | ((with_reducible apply rc_lenO); exact exok0)
  | ((with_reducible apply ev_prop); exact exok0)
  | with_reducible apply rc_int
  | with_reducible apply rc_lenL
  | with_reducible apply rc_lenT
  | ((with_reducible apply rc_is_int); (exact rfl))
  | ((with_reducible apply rc_is_bl); (exact rfl))
  | ((with_reducible apply rc_is_str); (exact rfl))
  | ((with_reducible apply rc_is_tup); (exact rfl))
  | ((with_reducible apply s_fldM); rfl; exact Wf.kc2 (by assumption) (by decide +kernel); decide; rfl)
  | with_reducible apply et_yes
  | with_reducible apply ev_rawc
  | ((with_reducible apply ev_src); rfl)
  | ((with_reducible refine ⟨len_ok ?_, ?_⟩); rfl)
  | with_reducible refine ⟨rfl, ?_⟩
  | with_reducible refine ⟨⟨_, rfl⟩, ?_⟩
  | with_reducible refine ⟨_, rfl, ?_⟩
  | refine ⟨_, _, rfl, rfl, ?_⟩
  | refine ⟨_, _, _, _, rfl, Wf.kc2 (by assumption) (by decide +kernel), rfl, ?_⟩
  | ((with_reducible apply iteTr); rfl)
  | ((with_reducible apply iteFr); rfl)
  | dsimp only)
local macro_rules | `(tactic| walk_at "d") => `(tactic| first
  | walk_at "d0"
  | with_reducible apply s_if)
local macro_rules | `(tactic| walk_at "o") => `(tactic| first
  | ((with_reducible apply so_retO); rfl)
  | ((with_reducible apply et_notcallO); rfl)
  | ((with_reducible apply s_asgO); (with_reducible apply en_lst); (with_reducible apply ea_nil); refine ⟨len_ok rfl, ?_⟩)
  | walk_at "d")

local macro_rules | `(tactic| walk_at "x") => `(tactic| first
  | ((with_reducible apply ev_callX); assumption)
  | walk_at "o")
theorem ro_mod_n {F : Fm} {ρ : List Sl} {k : D → Prop} {c : Int} {m : Nat} (hm : 0 < m) (q : ∀ r : Nat, r < m → k (nD r)) : ROp F (rI (fun _ j => 0 < j) fun i j => .int (i % j)) ρ (.int c) (.int (m : Int)) k := ro_I (by omega) (by
  have h1 := Int.emod_nonneg c (show (m : Int) ≠ 0 by omega)
  have h2 := Int.emod_lt_of_pos c (show (0 : Int) < m by omega)
  have := q (c % (m : Int)).toNat (by omega)
  unfold nD at this
  rw [show (((c % (m : Int)).toNat : Nat) : Int) = c % (m : Int) by omega] at this
  exact this)
theorem ro_mod_i {F : Fm} {ρ : List Sl} {k : D → Prop} {c m : Int} (hm : 0 < m) (q : ∀ z, 0 ≤ z → z < m → k (.int z)) : ROp F (rI (fun _ j => 0 < j) fun i j => .int (i % j)) ρ (.int c) (.int m) k := ro_I hm (q _ (Int.emod_nonneg c (by omega)) (Int.emod_lt_of_pos c hm))
theorem mul_ok {i j : Int} (hi : i.natAbs < 2 ^ 64) (hj : j.natAbs < 2 ^ 64) : CMulW i j := wide_mul hi hj (by decide) (by decide) (by decide)
theorem div_ok {i j : Int} (h : 0 < j) (hj : j.natAbs < 2 ^ 64) : CDivW i j := wide_div h hj (by decide) (by decide)
def S__law_draw : List D → (D → Prop) → Prop := fun ds k => ∃ m : Nat, ds = [nD m] ∧ 1 ≤ m ∧ m < 2 ^ 64 ∧ ∀ r : Nat, r < m → k (nD r)
theorem ok__law_draw (W : Wf P w K mg base) : FnR P w K mg base (L2.CX P w) 1 (d__law_draw.at_ K) (spS K S__law_draw) := by
  refine W.fnS in__law_draw sc__law_draw (fun fd F => F.bindsN fun _ _ _ _ _ _ us hl => match us, hl with | [_, _], _ => rfl) (fun ds k h => by first | (obtain ⟨rfl, _⟩ := h; rfl) | (obtain ⟨_, rfl, _⟩ := h; rfl) | (obtain ⟨_, _, rfl, _⟩ := h; rfl) | (obtain ⟨_, _, _, rfl, _⟩ := h; rfl) | (obtain ⟨_, _, _, _, rfl, _⟩ := h; rfl) | (obtain ⟨_, _, _, _, _, rfl, _⟩ := h; rfl) | (obtain ⟨_, _, _, _, _, _, rfl, _⟩ := h; rfl) | (obtain ⟨_, _, _, _, _, _, _, rfl, _⟩ := h; rfl) | (obtain ⟨_, _, _, _, _, _, _, _, rfl, _⟩ := h; rfl) | (obtain ⟨_, _, _, _, _, _, _, _, _, rfl, _⟩ := h; rfl)) fun cdv A outer s H E hR F sa ds kk hF hsa h => ?_
  subst hF
  obtain ⟨m, rfl, h1, h2, q⟩ := h
  refine ⟨_, (pss_cons (ps_if (pt_cmpR op_gt (pe_ix (ix_seq : IxR _ (rIx F.K)) (pv 0) pe_int (fun _ _ => rfl)) pe_int (nomark _))
  (pss_cons (ps_set (i := 2) sc__law_draw.nd rfl (Or.inl rfl) (pe_op op_mod (pe_callTy call_int1 rfl (W.free 2 _ rfl) (by decide +kernel) (pa_cons (pe_ix (ix_seq : IxR _ (rIx F.K)) (pv 0) pe_int (fun _ _ => rfl)) pa_nil)) (pv 1)))
  (pss_cons (ps_asg (pe_op op_fdivW (pe_ix (ix_seq : IxR _ (rIx F.K)) (pv 0) pe_int (fun _ _ => rfl)) (pv 1)) (pg_sub (pv 0) pe_int set_list))
  (pss_one (ps_ret (pv 2)))))
  pss_nil)
  (pss_cons (ps_asg (pe_op (op_addX : OpR _ _ (rAddX F.K)) (pe_ix (ix_seq : IxR _ (rIx F.K)) (pv 0) pe_int (fun _ _ => rfl)) pe_int) (pg_sub (pv 0) pe_int set_list))
  (pss_cons (ps_asg (pe_op op_mod (pe_callTy call_int1 rfl (W.free 2 _ rfl) (by decide +kernel) (pa_cons (pe_op (op_addX : OpR _ _ (rAddX F.K)) (pe_op (op_addX : OpR _ _ (rAddX F.K)) (pe_op op_mulX2 (pe_ix (ix_seq : IxR _ (rIx F.K)) (pv 0) pe_int (fun _ _ => rfl)) pe_int) (pe_op op_mulX2 pe_int (pe_ix (ix_seq : IxR _ (rIx F.K)) (pv 0) pe_int (fun _ _ => rfl)))) pe_int) pa_nil)) pe_int) (pg_sub (pv 0) pe_int set_list))
  (pss_one (ps_ret (pe_op op_mod (pe_op op_fdivW (pe_op op_mod (pe_callTy call_int1 rfl (W.free 2 _ rfl) (by decide +kernel) (pa_cons (pe_op op_mulX2 (pe_ix (ix_seq : IxR _ (rIx F.K)) (pv 0) pe_int (fun _ _ => rfl)) pe_int) pa_nil)) pe_int) pe_int) (pv 1))))))), ?_⟩
  try dsimp only [Xof, cxOf, Cx.nox, Cx.wish, Cx.blk]
  repeat walk_at "d"
  rename_i c
  by_cases hc : 0 < c
  · rw [decide_eq_true hc]
    repeat walk_at "d"
    refine ro_mod_n (by omega) fun r hr => ?_
    repeat walk_at "d"
    refine ro_I (div_ok (by omega) (by omega)) ?_
    refine ⟨⟨_, rfl⟩, ?_⟩
    repeat walk_at "d"
    exact q r hr
  · rw [decide_eq_false hc]
    repeat walk_at "d"
    apply s_setSrc1 rfl
    repeat walk_at "d"
    apply ro_mul1 (.inr (by omega))
    repeat walk_at "d"
    apply ro_mul1 (.inl (by omega))
    repeat walk_at "d"
    refine ro_mod_i (by omega) fun z h0 h1 => ⟨z, rfl, h0, by omega, ?_⟩
    repeat walk_at "d"
    apply ro_mul1 (.inr (by omega))
    repeat walk_at "d"
    refine ro_mod_i (by omega) fun z h0 h1 => ?_
    repeat walk_at "d"
    refine ro_I (div_ok (by omega) (by omega)) ?_
    repeat walk_at "d"
    refine ro_mod_n (by omega) fun r hr => ?_
    exact q r hr
theorem cc__law_draw (W : Wf P w K mg base) : Fnc P w K mg base 1 "_law_draw" (spS K S__law_draw) := W.fnc in__law_draw (fun _ => rfl) (j := 39) rfl (ok__law_draw W)
def S__law_pick : List D → (D → Prop) → Prop := fun ds k => ∃ xs : List D, ds = [.lst xs] ∧ 1 ≤ xs.length ∧ xs.length ≤ 1000 ∧ ∀ x ∈ xs, k x
theorem ok__law_pick (W : Wf P w K mg base) : FnR P w K mg base (L2.CX P w) 2 (d__law_pick.at_ K) (spS K S__law_pick) := by
  have c__law_draw := cc__law_draw W
  refine W.fnS in__law_pick sc__law_pick (fun fd F => F.bindsN fun _ _ _ _ _ _ us hl => match us, hl with | [_, _], _ => rfl) (fun ds k h => by first | (obtain ⟨rfl, _⟩ := h; rfl) | (obtain ⟨_, rfl, _⟩ := h; rfl) | (obtain ⟨_, _, rfl, _⟩ := h; rfl) | (obtain ⟨_, _, _, rfl, _⟩ := h; rfl) | (obtain ⟨_, _, _, _, rfl, _⟩ := h; rfl) | (obtain ⟨_, _, _, _, _, rfl, _⟩ := h; rfl) | (obtain ⟨_, _, _, _, _, _, rfl, _⟩ := h; rfl) | (obtain ⟨_, _, _, _, _, _, _, rfl, _⟩ := h; rfl) | (obtain ⟨_, _, _, _, _, _, _, _, rfl, _⟩ := h; rfl) | (obtain ⟨_, _, _, _, _, _, _, _, _, rfl, _⟩ := h; rfl)) fun cdv A outer s H E hR F sa ds kk hF hsa h => ?_
  subst hF
  obtain ⟨xs, rfl, h1, h2, q⟩ := h
  refine ⟨_, (pss_one (ps_ret (pe_ix (ix_seq : IxR _ (rIx F.K)) (pv 1) (pe_f c__law_draw hR (by decide) rfl passL (pa_cons (pv 0) (pa_cons (pe_callB (cr_lenX : CallR _ _ (rLenX F.K)) rfl (W.free 0 _ rfl) boot_len (pa_cons (pv 1) pa_nil)) pa_nil))) (fun _ _ => rfl)))), ?_⟩
  try dsimp only [Xof, cxOf, Cx.nox, Cx.wish, Cx.blk]
  repeat walk_at "d"
  refine ⟨_, rfl, h1, by omega, fun r hr => ?_⟩
  apply ro_ixL (atI_nat (List.getElem?_eq_getElem hr))
  exact q _ (List.getElem_mem hr)
theorem cc__law_pick (W : Wf P w K mg base) : Fnc P w K mg base 2 "_law_pick" (spS K S__law_pick) := W.fnc in__law_pick (fun _ => rfl) (j := 40) rfl (ok__law_pick W)
/-! ### levels -/
def S__law_levels_of : List D → (D → Prop) → Prop := fun ds k => ∃ ns : List Nat, ds = [.lst (ns.map nD)] ∧ ns.length ≤ 16 ∧ ∀ ls : List Nat, ls.length ≤ 1000 → k (.lst (ls.map nD))
theorem ok__law_levels_of (W : Wf P w K mg base) : FnR P w K mg base (L2.CX P w) 1 (d__law_levels_of.at_ K) (spD K fun ds k _ => S__law_levels_of ds k) := by
  refine W.fnD in__law_levels_of sc__law_levels_of (fun fd F => F.bindsN fun _ _ _ _ _ _ us hl => match us, hl with | [_], _ => rfl) (fun ds k h => by first | (obtain ⟨rfl, _⟩ := h; rfl) | (obtain ⟨_, rfl, _⟩ := h; rfl) | (obtain ⟨_, _, rfl, _⟩ := h; rfl) | (obtain ⟨_, _, _, rfl, _⟩ := h; rfl) | (obtain ⟨_, _, _, _, rfl, _⟩ := h; rfl) | (obtain ⟨_, _, _, _, _, rfl, _⟩ := h; rfl) | (obtain ⟨_, _, _, _, _, _, rfl, _⟩ := h; rfl) | (obtain ⟨_, _, _, _, _, _, _, rfl, _⟩ := h; rfl) | (obtain ⟨_, _, _, _, _, _, _, _, rfl, _⟩ := h; rfl) | (obtain ⟨_, _, _, _, _, _, _, _, _, rfl, _⟩ := h; rfl)) fun cdv A outer s H E hR F ds kk hF h => ?_
  subst hF
  obtain ⟨ns, rfl, h1, q⟩ := h
  refine ⟨_, (pss_cons (ps_set (i := 1) sc__law_levels_of.nd rfl (Or.inl rfl) (pe_lst pa_nil))
  (pss_cons (ps_for PassesOwn.never rfl (pi_seqK (K := F.K) rfl (pe_callB (cr_sortedSet rfl) rfl (W.free 17 _ rfl) (by decide +kernel) (pa_cons (pe_callTy (cr_setI rfl) rfl (W.free 7 _ rfl) (by decide +kernel) (pa_cons (pv 0) pa_nil)) pa_nil))) (pg_name (i := 2) sc__law_levels_of.nd rfl (Or.inr rfl))
  (pss_one (ps_expr (pe_bm PySem.F.plainAttrs_list PySem.F.slot_list_append PySem.F.type_list_append mt_append (pv 1) (pa_cons (pe_callB (cr_sum rfl : CallR _ _ (rSum F.K)) rfl (W.free 11 _ rfl) (by decide +kernel) (pa_cons (pe_lc (own := [("_law_day", 3), ("_law_layer", 4)]) (by rfl) sc__law_levels_of.nd (pi_enumX (by rfl) (W.free 9 _ rfl) (pa_cons (pv 0) pa_nil)) (blkOk_by (N := n__law_levels_of) (sc := defScope s__law_levels_of) (own := [("_law_day", 3), ("_law_layer", 4)]) (by decide +kernel)) (fun _ _ _ _ _ => (pg_tupK (K := F.K) (n := 2) rfl (by rfl) (pgs_cons (pg_name (i := 3) sc__law_levels_of.nd rfl (Or.inl rfl)) (pgs_cons (pg_name (i := 4) sc__law_levels_of.nd rfl (Or.inl rfl)) pgs_nil)))) (fun _ _ _ _ _ => (pts_one (pt_cmpR (op_eqX hR.units : OpR _ _ (rEqX F.K)) (pv 4) (pv 2) (nomark _)))) (fun _ _ _ _ _ => (pe_op op_shl pe_int (pv 3)))) pa_nil)) pa_nil)))))
  (pss_one (ps_ret (pv 1))))), ?_⟩
  try dsimp only [Xof, cxOf, Cx.nox, Cx.wish, Cx.blk]
  repeat walk_at "o"
  apply s_for
  apply ei_seq
  repeat walk_at "d"
  refine ⟨ns.map fun (n : Nat) => (n : Int), by rw [← map_nD], by rw [List.length_map]; omega, fun ms hms hmem => ?_⟩
  have hml : ms.length ≤ 16 := by
    have := nodup_len (hms.imp fun h => Int.ne_of_lt h) (fun x hx => (hmem x).mp hx)
    rw [List.length_map] at this
    omega
  refine ⟨_, .inl rfl, fun i ρ => ∃ ls : List Nat, ls.length = i ∧ ∃ x, ρ = [.val (.lst (ns.map nD)), .own (ls.map nD), x, .un, .un], ⟨[], rfl, _, rfl⟩, ?_, ?_⟩
  · rintro i d ρ' hi ⟨ls, el, x, rfl⟩
    obtain ⟨m, em, rfl⟩ := map_at hi
    have hi2 := (List.getElem?_eq_some_iff.mp em).1
    refine ⟨_, g_name, ?_⟩
    repeat walk_at "d"
    rw [List.length_map, el]
    omega
    repeat walk_at "d"
    apply EvN.ev
    apply en_lc (un_of rfl)
    apply ei_enum
    repeat walk_at "d"
    refine ⟨_, .inl rfl, fun i acc => ∃ xs : List Nat, xs.length ≤ i ∧ acc = xs.map nD, ⟨[], Nat.le_refl _, rfl⟩, ?_, ?_⟩
    · rintro i d acc hi ⟨xs, hx, rfl⟩
      obtain ⟨y, e, rfl⟩ := enumD_at hi
      obtain ⟨n, en, rfl⟩ := map_at e
      have hi3 := (List.getElem?_eq_some_iff.mp en).1
      refine ⟨_, mem_of rfl, g_tup rfl (gs_cons g_name (gs_cons g_name gs_nil)), ?_⟩
      repeat walk_at "d"
      refine ite2 (fun _ => ?_) (fun _ => ⟨xs, by omega, rfl⟩)
      repeat walk_at "d"
      apply ro_shl_n (by omega)
      refine ⟨by rw [List.length_map]; omega, xs ++ [2 ^ i], by rw [List.length_append]; exact Nat.succ_le_succ hx, ?_⟩
      rw [List.map_append]
      rfl
    · rintro acc ⟨xs, hx, rfl⟩
      repeat walk_at "d"
      apply rc_sumN
      refine ⟨ls ++ [xs.sum], by rw [List.length_append, el]; rfl, ?_⟩
      rw [List.map_append]
      exact ⟨_, rfl⟩
  · rintro ρ' ⟨ls, el, x, rfl⟩
    with_reducible apply so_freeze 1
    rfl
    repeat walk_at "d"
    refine q ls ?_
    rw [el, List.length_map]
    omega
theorem cc__law_levels_of (W : Wf P w K mg base) : Fnc P w K mg base 1 "_law_levels_of" (spD K fun ds k _ => S__law_levels_of ds k) := W.fnc in__law_levels_of (fun _ => rfl) (j := 45) rfl (ok__law_levels_of W)
def S__law_normal : List D → (D → Prop) → Prop := fun ds k => ∃ (ls : List Nat) (w : Nat), ds = [.lst (ls.map nD), nD w] ∧ k (nD (((ls.find? fun l => decide (l &&& w ≠ 0)).getD 0) &&& w))
theorem ok__law_normal (W : Wf P w K mg base) : FnR P w K mg base (L2.CX P w) 1 (d__law_normal.at_ K) (spD K fun ds k _ => S__law_normal ds k) := by
  refine W.fnD in__law_normal sc__law_normal (fun fd F => F.bindsN fun _ _ _ _ _ _ us hl => match us, hl with | [_, _], _ => rfl) (fun ds k h => by first | (obtain ⟨rfl, _⟩ := h; rfl) | (obtain ⟨_, rfl, _⟩ := h; rfl) | (obtain ⟨_, _, rfl, _⟩ := h; rfl) | (obtain ⟨_, _, _, rfl, _⟩ := h; rfl) | (obtain ⟨_, _, _, _, rfl, _⟩ := h; rfl) | (obtain ⟨_, _, _, _, _, rfl, _⟩ := h; rfl) | (obtain ⟨_, _, _, _, _, _, rfl, _⟩ := h; rfl) | (obtain ⟨_, _, _, _, _, _, _, rfl, _⟩ := h; rfl) | (obtain ⟨_, _, _, _, _, _, _, _, rfl, _⟩ := h; rfl) | (obtain ⟨_, _, _, _, _, _, _, _, _, rfl, _⟩ := h; rfl)) fun cdv A outer s H E hR F ds kk hF h => ?_
  subst hF
  obtain ⟨ls, wh, rfl, q⟩ := h
  refine ⟨_, (pss_cons (ps_for PassesOwn.never rfl (pi_seqK (K := F.K) rfl (pv 0)) (pg_name (i := 2) sc__law_normal.nd rfl (Or.inl rfl))
  (pss_one (ps_if (pt_cmpR (op_neX hR.units : OpR _ _ (rNeX F.K)) (pe_op op_and (pv 2) (pv 1)) pe_int (nomark _))
  (pss_one (ps_ret (pe_op op_and (pv 2) (pv 1))))
  pss_nil)))
  (pss_one (ps_ret pe_int))), ?_⟩
  try dsimp only [Xof, cxOf, Cx.nox, Cx.wish, Cx.blk]
  repeat walk_at "d"
  apply s_for
  apply ei_seq
  repeat walk_at "d"
  refine ⟨_, .inl rfl, fun i ρ => (∃ x, ρ = [.val (.lst (ls.map nD)), .val (nD wh), x]) ∧ ∀ (j : Nat) (x : Nat), j < i → ls[j]? = some x → x &&& wh = 0, ⟨⟨_, rfl⟩, fun j x h => absurd h (Nat.not_lt_zero j)⟩, ?_, ?_⟩
  · rintro i d ρ' hi ⟨⟨x, rfl⟩, h0⟩
    obtain ⟨l, el, rfl⟩ := map_at hi
    refine ⟨_, g_name, ?_⟩
    repeat walk_at "d"
    by_cases hl : l &&& wh = 0
    · rw [decide_eq_true hl]
      repeat walk_at "d"
      intro j x hj ej
      by_cases h : j < i
      · exact h0 j x h ej
      · have : j = i := by omega
        subst this
        rw [el] at ej
        cases ej
        exact hl
    · rw [decide_eq_false hl]
      repeat walk_at "d"
      rw [find_first el (by simpa using hl) (fun j x hj ej => by simpa using h0 j x hj ej)] at q
      exact q
  · rintro ρ' ⟨⟨x, rfl⟩, h0⟩
    repeat walk_at "d"
    rw [List.length_map] at h0
    have : (ls.find? fun l => decide (l &&& wh ≠ 0)) = none := by
      rw [List.find?_eq_none]
      intro x hx
      obtain ⟨j, hj, e⟩ := List.mem_iff_getElem.mp hx
      have := h0 j x hj (by rw [List.getElem?_eq_getElem hj, e])
      simpa using this
    rw [this] at q
    rw [show ((none : Option Nat).getD 0 &&& wh) = 0 from Nat.zero_and _] at q
    exact q
theorem cc__law_normal (W : Wf P w K mg base) : Fnc P w K mg base 1 "_law_normal" (spD K fun ds k _ => S__law_normal ds k) := W.fnc in__law_normal (fun _ => rfl) (j := 42) rfl (ok__law_normal W)
/-! ### what is drawn -/
def S__law_guide : List D → (D → Prop) → Prop := fun ds k => ∃ n : Nat, ds = [nD n] ∧ 1 ≤ n ∧ n ≤ 16 ∧ ∀ ls : List Nat, ls.length ≤ 1000 → k (.lst (ls.map nD))
theorem ok__law_guide (W : Wf P w K mg base) : FnR P w K mg base (L2.CX P w) 3 (d__law_guide.at_ K) (spS K S__law_guide) := by
  have c__law_pick := cc__law_pick W
  have c__law_levels_of := cc__law_levels_of W
  have c__law_draw := cc__law_draw W
  refine W.fnS in__law_guide sc__law_guide (fun fd F => F.bindsN fun _ _ _ _ _ _ us hl => match us, hl with | [_, _], _ => rfl) (fun ds k h => by first | (obtain ⟨rfl, _⟩ := h; rfl) | (obtain ⟨_, rfl, _⟩ := h; rfl) | (obtain ⟨_, _, rfl, _⟩ := h; rfl) | (obtain ⟨_, _, _, rfl, _⟩ := h; rfl) | (obtain ⟨_, _, _, _, rfl, _⟩ := h; rfl) | (obtain ⟨_, _, _, _, _, rfl, _⟩ := h; rfl) | (obtain ⟨_, _, _, _, _, _, rfl, _⟩ := h; rfl) | (obtain ⟨_, _, _, _, _, _, _, rfl, _⟩ := h; rfl) | (obtain ⟨_, _, _, _, _, _, _, _, rfl, _⟩ := h; rfl) | (obtain ⟨_, _, _, _, _, _, _, _, _, rfl, _⟩ := h; rfl)) fun cdv A outer s H E hR F sa ds kk hF hsa h => ?_
  subst hF
  obtain ⟨n, rfl, h1, h2, q⟩ := h
  refine ⟨_, (pss_cons (ps_set (i := 2) sc__law_guide.nd rfl (Or.inr rfl) (pe_f c__law_pick hR (by decide) rfl passL (pa_cons (pv 0) (pa_cons (pe_lst (pa_cons pe_int (pa_cons pe_int (pa_cons pe_int (pa_cons pe_int (pa_cons pe_int pa_nil)))))) pa_nil))))
  (pss_one (ps_ret (pe_f c__law_levels_of hR (by decide) rfl passL (pa_cons (pe_lc (own := [("_law_day", 3)]) (by rfl) sc__law_guide.nd (pi_range1 rfl (W.free 8 _ rfl) (pa_cons (pv 1) pa_nil)) (blkOk_by (N := n__law_guide) (sc := defScope s__law_guide) (own := [("_law_day", 3)]) (by decide +kernel)) (fun _ _ _ _ _ => (pg_name (i := 3) sc__law_guide.nd rfl (Or.inl rfl))) (fun _ _ _ _ _ => pts_nil) (fun _ _ _ _ _ => (pe_f c__law_draw hR (by decide) rfl passL (pa_cons (pv 0) (pa_cons (pv 2) pa_nil))))) pa_nil))))), ?_⟩
  try dsimp only [Xof, cxOf, Cx.nox, Cx.wish, Cx.blk]
  repeat walk_at "d"
  refine ⟨_, rfl, by decide, by decide, ?_⟩
  intro x hx
  have : ∃ m : Nat, x = nD m ∧ 1 ≤ m ∧ m ≤ 4 := by
    simp only [List.mem_cons, List.not_mem_nil, or_false] at hx
    rcases hx with rfl | rfl | rfl | rfl | rfl
    · exact ⟨1, rfl, by decide, by decide⟩
    · exact ⟨2, rfl, by decide, by decide⟩
    · exact ⟨3, rfl, by decide, by decide⟩
    · exact ⟨4, rfl, by decide, by decide⟩
    · exact ⟨4, rfl, by decide, by decide⟩
  obtain ⟨m, rfl, hm1, hm4⟩ := this
  repeat walk_at "d"
  apply EvN.ev
  apply en_lc (un_of rfl)
  apply ei_rng1
  repeat walk_at "d"
  refine ⟨by omega, fun i acc => ∃ xs : List Nat, xs.length = i ∧ acc = xs.map nD, ⟨[], rfl, rfl⟩, ?_, ?_⟩
  · rintro i d acc hi ⟨xs, hx, rfl⟩
    obtain ⟨rfl, hi2⟩ := ints_at hi
    refine ⟨_, mem_of rfl, g_name, ?_⟩
    repeat walk_at "d"
    refine ⟨m, rfl, hm1, by omega, fun r hr => ⟨by rw [List.length_map]; omega, xs ++ [r], by rw [List.length_append, hx]; rfl, ?_⟩⟩
    rw [List.map_append]
    rfl
  · rintro acc ⟨xs, hx, rfl⟩
    rw [ints_len] at hx
    repeat walk_at "d"
    exact ⟨xs, rfl, by omega, fun ls hl => q ls hl⟩
theorem cc__law_guide (W : Wf P w K mg base) : Fnc P w K mg base 3 "_law_guide" (spS K S__law_guide) := W.fnc in__law_guide (fun _ => rfl) (j := 46) rfl (ok__law_guide W)
def S__law_one : List D → (D → Prop) → Prop := fun ds k => ∃ (days needs : Nat) (g : List Nat), ds = [nD days, nD needs, .lst (g.map nD)] ∧ 1 ≤ days ∧ days ≤ 16 ∧ (needs = 0 ∨ (needs = 1 ∧ g = [])) ∧ ∀ r : Rw, r.In days → r.u = decide (needs = 0) → k (rowD r)
theorem ok__law_one (W : Wf P w K mg base) : FnR P w K mg base (L2.CX P w) 2 (d__law_one.at_ K) (spS K S__law_one) := by
  have c__law_normal := cc__law_normal W
  have c__law_draw := cc__law_draw W
  refine W.fnS in__law_one sc__law_one (fun fd F => F.bindsN fun _ _ _ _ _ _ us hl => match us, hl with | [_, _, _, _], _ => rfl) (fun ds k h => by first | (obtain ⟨rfl, _⟩ := h; rfl) | (obtain ⟨_, rfl, _⟩ := h; rfl) | (obtain ⟨_, _, rfl, _⟩ := h; rfl) | (obtain ⟨_, _, _, rfl, _⟩ := h; rfl) | (obtain ⟨_, _, _, _, rfl, _⟩ := h; rfl) | (obtain ⟨_, _, _, _, _, rfl, _⟩ := h; rfl) | (obtain ⟨_, _, _, _, _, _, rfl, _⟩ := h; rfl) | (obtain ⟨_, _, _, _, _, _, _, rfl, _⟩ := h; rfl) | (obtain ⟨_, _, _, _, _, _, _, _, rfl, _⟩ := h; rfl) | (obtain ⟨_, _, _, _, _, _, _, _, _, rfl, _⟩ := h; rfl)) fun cdv A outer s H E hR F sa ds kk hF hsa h => ?_
  subst hF
  obtain ⟨days, needs, g, rfl, h1, h2, hn, q⟩ := h
  have hp := Nat.one_le_two_pow (n := days)
  have h2p : 2 ≤ 2 ^ days := Nat.pow_le_pow_right (n := 2) (by decide) h1
  have h16 : 2 ^ days ≤ 2 ^ 16 := Nat.pow_le_pow_right (by decide) h2
  refine ⟨_, (pss_cons (ps_set (i := 4) sc__law_one.nd rfl (Or.inl rfl) (pe_op op_sub (pe_op op_shl pe_int (pv 1)) pe_int))
  (pss_cons (ps_set (i := 5) sc__law_one.nd rfl (Or.inl rfl) (pe_op op_or (pe_op (op_addX : OpR _ _ (rAddX F.K)) pe_int (pe_f c__law_draw hR (by decide) rfl passL (pa_cons (pv 0) (pa_cons (pv 4) pa_nil)))) (pe_f c__law_draw hR (by decide) rfl passL (pa_cons (pv 0) (pa_cons (pe_op (op_addX : OpR _ _ (rAddX F.K)) (pv 4) pe_int) pa_nil)))))
  (pss_cons (ps_if (pt_cmpR (op_eqX hR.units : OpR _ _ (rEqX F.K)) (pe_f c__law_draw hR (by decide) rfl passL (pa_cons (pv 0) (pa_cons pe_int pa_nil))) pe_int (nomark _))
  (pss_one (ps_set (i := 5) sc__law_one.nd rfl (Or.inl rfl) (pe_op op_or (pe_op op_shl pe_int (pe_f c__law_draw hR (by decide) rfl passL (pa_cons (pv 0) (pa_cons (pv 1) pa_nil)))) (pe_op op_shl pe_int (pe_f c__law_draw hR (by decide) rfl passL (pa_cons (pv 0) (pa_cons (pv 1) pa_nil)))))))
  pss_nil)
  (pss_cons (ps_set (i := 6) sc__law_one.nd rfl (Or.inl rfl) (pe_op op_and (pe_f c__law_draw hR (by decide) rfl passL (pa_cons (pv 0) (pa_cons (pe_op (op_addX : OpR _ _ (rAddX F.K)) (pv 4) pe_int) pa_nil))) (pe_f c__law_draw hR (by decide) rfl passL (pa_cons (pv 0) (pa_cons (pe_op (op_addX : OpR _ _ (rAddX F.K)) (pv 4) pe_int) pa_nil)))))
  (pss_cons (ps_set (i := 7) sc__law_one.nd rfl (Or.inl rfl) (pe_or (pe_cmpR (op_eqX hR.units : OpR _ _ (rEqX F.K)) (pv 2) pe_int (nomark _)) (pe_one (pe_cmpR op_gt (pe_f c__law_draw hR (by decide) rfl passL (pa_cons (pv 0) (pa_cons (pe_callB (call_max2 rfl) rfl (W.free 13 _ rfl) (by decide +kernel) (pa_cons (pv 2) (pa_cons pe_int pa_nil))) pa_nil))) pe_int (nomark _)))))
  (pss_cons (ps_if (pt_not (pt_val (pv 7)))
  (pss_one (ps_set (i := 6) sc__law_one.nd rfl (Or.inl rfl) (pe_op op_and (pv 4) (pe_un un_inv (pv 6)))))
  pss_nil)
  (pss_cons (ps_set (i := 8) sc__law_one.nd rfl (Or.inl rfl) (pe_f c__law_normal hR (by decide) rfl passL (pa_cons (pv 3) (pa_cons (pv 5) pa_nil))))
  (pss_cons (ps_if (PW.pt (pw_and (pt_cmpR (op_neX hR.units : OpR _ _ (rNeX F.K)) (pv 3) (pe_lst pa_nil) (nomark _)) (pw_and1 (pt_val (pv 7)))))
  (pss_one (ps_set (i := 6) sc__law_one.nd rfl (Or.inl rfl) (pe_op op_or (pv 6) (pv 8))))
  (pss_one (ps_if (PW.pt (pw_and (pt_cmpR (op_neX hR.units : OpR _ _ (rNeX F.K)) (pv 3) (pe_lst pa_nil) (nomark _)) (pw_and1 (pt_cmpR (op_eqX hR.units : OpR _ _ (rEqX F.K)) (pe_op op_and (pv 8) (pe_un un_inv (pv 6))) pe_int (nomark _)))))
  (pss_one (ps_set (i := 6) sc__law_one.nd rfl (Or.inl rfl) (pe_op op_and (pv 6) (pe_un un_inv (pe_op op_and (pv 8) (pe_un un_neg (pv 8)))))))
  pss_nil)))
  (pss_one (ps_ret (pe_tup (pa_cons (pv 5) (pa_cons (pv 6) (pa_cons (pv 7) pa_nil)))))))))))))), ?_⟩
  try dsimp only [Xof, cxOf, Cx.nox, Cx.wish, Cx.blk]
  repeat walk_at "d"
  apply ro_shl_n (by omega)
  repeat walk_at "d"
  rw [pow_pred]
  repeat walk_at "d"
  refine ⟨_, rfl, by omega, by omega, fun r1 hr1 => ?_⟩
  have hw1 : 1 + r1 < 2 ^ days := by omega
  repeat walk_at "d0"
  rw [show (1 : Int) + (r1 : Nat) = ((1 + r1 : Nat) : Int) by omega]
  repeat walk_at "d0"
  refine ⟨_, rfl, by omega, by omega, fun r2 hr2 => ?_⟩
  repeat walk_at "d0"
  have hr2' : r2 < 2 ^ days := by omega
  refine s_ifset (i := 5) (fun v => 1 ≤ v ∧ v < 2 ^ days) rfl ⟨Nat.le_trans (Nat.le_add_right 1 r1) Nat.left_le_or, or_lt hw1 hr2'⟩ ?_ ?_
  · repeat walk_at "d"
    refine ⟨3, rfl, by omega, by omega, fun r3 hr3 => ?_⟩
    repeat walk_at "d"
    intro _
    repeat walk_at "d"
    refine ⟨_, rfl, by omega, by omega, fun r4 hr4 => ?_⟩
    apply ro_shl_n (by omega)
    repeat walk_at "d"
    refine ⟨_, rfl, by omega, by omega, fun r5 hr5 => ?_⟩
    apply ro_shl_n (by omega)
    repeat walk_at "d"
    exact ⟨Nat.le_trans (Nat.one_le_two_pow (n := r4)) Nat.left_le_or, or_lt (Nat.pow_lt_pow_right (by decide) hr4) (Nat.pow_lt_pow_right (by decide) hr5)⟩
  rintro wv ⟨hwv1, hwv2⟩
  repeat walk_at "d"
  refine ⟨_, rfl, by omega, by omega, fun t1 ht1 => ?_⟩
  repeat walk_at "d"
  refine ⟨_, rfl, by omega, by omega, fun t2 ht2 => ?_⟩
  have htv : t1 &&& t2 < 2 ^ days := and_lt (by omega)
  rcases hn with rfl | ⟨rfl, rfl⟩
  · repeat walk_at "d"
    refine ⟨_, _, rfl, ?_⟩
    repeat walk_at "d"
    by_cases hg : g = []
    · subst hg
      repeat walk_at "d"
      exact q ⟨wv, t1 &&& t2, true⟩ ⟨hwv1, hwv2, htv⟩ rfl
    · rw [decide_eq_false hg]
      repeat walk_at "d"
      exact q ⟨wv, _, true⟩ ⟨hwv1, hwv2, or_lt htv (Nat.lt_of_le_of_lt Nat.and_le_right hwv2)⟩ rfl
  · repeat walk_at "d"
    apply rc_max2
    repeat walk_at "d"
    refine ⟨1, rfl, by omega, by omega, fun r hr => ?_⟩
    have : r = 0 := by omega
    subst this
    repeat walk_at "d"
    refine ⟨_, _, rfl, ?_⟩
    repeat walk_at "d"
    exact q ⟨wv, _, false⟩ ⟨hwv1, hwv2, nd_lt (by omega)⟩ rfl
theorem cc__law_one (W : Wf P w K mg base) : Fnc P w K mg base 2 "_law_one" (spS K S__law_one) := W.fnc in__law_one (fun _ => rfl) (j := 47) rfl (ok__law_one W)
def S__law_rows : List D → (D → Prop) → Prop := fun ds k => ∃ (days many : Nat), ds = [nD days, nD many, nD 0] ∧ 1 ≤ days ∧ days ≤ 16 ∧ many ≤ 12 ∧ ∀ rs : List Rw, rs.length = many → (∀ r ∈ rs, r.In days ∧ r.u = true) → k (.lst (rs.map rowD))
theorem ok__law_rows (W : Wf P w K mg base) : FnR P w K mg base (L2.CX P w) 4 (d__law_rows.at_ K) (spS K S__law_rows) := by
  have c__law_guide := cc__law_guide W
  have c__law_one := cc__law_one W
  have c__law_draw := cc__law_draw W
  refine W.fnS in__law_rows sc__law_rows (fun fd F => F.bindsN fun _ _ _ _ _ _ us hl => match us, hl with | [_, _, _, _], _ => rfl) (fun ds k h => by first | (obtain ⟨rfl, _⟩ := h; rfl) | (obtain ⟨_, rfl, _⟩ := h; rfl) | (obtain ⟨_, _, rfl, _⟩ := h; rfl) | (obtain ⟨_, _, _, rfl, _⟩ := h; rfl) | (obtain ⟨_, _, _, _, rfl, _⟩ := h; rfl) | (obtain ⟨_, _, _, _, _, rfl, _⟩ := h; rfl) | (obtain ⟨_, _, _, _, _, _, rfl, _⟩ := h; rfl) | (obtain ⟨_, _, _, _, _, _, _, rfl, _⟩ := h; rfl) | (obtain ⟨_, _, _, _, _, _, _, _, rfl, _⟩ := h; rfl) | (obtain ⟨_, _, _, _, _, _, _, _, _, rfl, _⟩ := h; rfl)) fun cdv A outer s H E hR F sa ds kk hF hsa h => ?_
  subst hF
  obtain ⟨days, many, rfl, h1, h2, h3, q⟩ := h
  refine ⟨_, (pss_cons (ps_set (i := 4) sc__law_rows.nd rfl (Or.inr rfl) (pe_ifExp (pt_cmpR op_gt (pe_f c__law_draw hR (by decide) rfl passL (pa_cons (pv 0) (pa_cons pe_int pa_nil))) pe_int (nomark _)) (pe_f c__law_guide hR (by decide) rfl passL (pa_cons (pv 0) (pa_cons (pv 1) pa_nil))) (pe_lst pa_nil)))
  (pss_one (ps_ret (pe_lc (own := [("_law_k", 5)]) (by rfl) sc__law_rows.nd (pi_range1 rfl (W.free 8 _ rfl) (pa_cons (pv 2) pa_nil)) (blkOk_by (N := n__law_rows) (sc := defScope s__law_rows) (own := [("_law_k", 5)]) (by decide +kernel)) (fun _ _ _ _ _ => (pg_name (i := 5) sc__law_rows.nd rfl (Or.inl rfl))) (fun _ _ _ _ _ => pts_nil) (fun _ _ _ _ _ => (pe_f c__law_one hR (by decide) rfl passL (pa_cons (pv 0) (pa_cons (pv 1) (pa_cons (pv 3) (pa_cons (pv 4) pa_nil)))))))))), ?_⟩
  try dsimp only [Xof, cxOf, Cx.nox, Cx.wish, Cx.blk]
  have fin : ∀ g : List Nat, EvD F (tLc (iRng1 (tCons (tVar 2) tNil)) (gName 5) tYes (tCl (spS F.K S__law_one) E0 (tCons (tVar 0) (tCons (tVar 1) (tCons (tVar 3) (tCons (tVar 4) tNil))))) (List.map (fun (x : PySem.Str × Nat) => x.2) [("_law_k", 5)]))
      ((Sl.src sa :: ρ0 n__law_rows.tail [nD days, nD many, nD 0]).set 4 (Sl.val (.lst (g.map nD)))) kk := fun g => by
    apply EvN.ev
    apply en_lc (un_of rfl)
    apply ei_rng1
    repeat walk_at "d"
    refine ⟨by omega, fun i acc => ∃ rs : List Rw, rs.length = i ∧ (∀ r ∈ rs, r.In days ∧ r.u = true) ∧ acc = rs.map rowD, ⟨[], rfl, (fun r hr => by cases hr), rfl⟩, ?_, ?_⟩
    · rintro i d acc hi ⟨rs, hl, hr, rfl⟩
      obtain ⟨rfl, hi2⟩ := ints_at hi
      refine ⟨_, mem_of rfl, g_name, ?_⟩
      repeat walk_at "d"
      refine ⟨days, 0, g, rfl, h1, h2, .inl rfl, fun r hr1 hr2 => ⟨by rw [List.length_map]; omega, rs ++ [r], by rw [List.length_append, hl]; rfl, fun x hx => ?_, ?_⟩⟩
      · rcases List.mem_append.mp hx with hx | hx
        · exact hr x hx
        · have : x = r := by simpa using hx
          rw [this]
          exact ⟨hr1, hr2⟩
      · rw [List.map_append]
        rfl
    · rintro acc ⟨rs, hl, hr, rfl⟩
      rw [ints_len] at hl
      exact q rs hl hr
  repeat walk_at "d"
  refine ⟨3, rfl, by omega, by omega, fun r hr => ?_⟩
  repeat walk_at "d"
  refine ite2 (fun _ => ?_) (fun _ => ?_)
  · repeat walk_at "d"
    refine ⟨days, rfl, h1, h2, fun g _ => ?_⟩
    repeat walk_at "d"
    exact fin g
  · repeat walk_at "d"
    exact fin []
theorem cc__law_rows (W : Wf P w K mg base) : Fnc P w K mg base 4 "_law_rows" (spS K S__law_rows) := W.fnc in__law_rows (fun _ => rfl) (j := 48) rfl (ok__law_rows W)
def S__law_saying : List D → (D → Prop) → Prop := fun ds k => ∃ r : Rw, ds = [rowD r] ∧ r.Ok ∧ k (sayD r)
theorem say_gv {F : Fm} : ∀ (B : Hp) (x : Addr) (ds zs : List D) (us ws : List V), RepL F.K B ds us → RepL F.K B zs ws → ∃ vs, (V.ref x :: us) ++ ws = V.ref x :: vs ∧ RepL F.K B (ds ++ zs) vs := fun B x ds zs us ws h1 h2 => ⟨us ++ ws, rfl, h1.append h2⟩
theorem ok__law_saying (W : Wf P w K mg base) : FnR P w K mg base (L2.CX P w) 4 (d__law_saying.at_ K) (spD K fun ds k _ => S__law_saying ds k) := by
  have c_Saying__init__ := cc_Saying__init__ W
  obtain ⟨fdS, FnS, GS⟩ := ok_Saying__init__ W
  obtain ⟨gS, bS⟩ := say_binds FnS
  refine W.fnD in__law_saying sc__law_saying (fun fd F => F.bindsN fun _ _ _ _ _ _ us hl => match us, hl with | [_], _ => rfl) (fun ds k h => by first | (obtain ⟨rfl, _⟩ := h; rfl) | (obtain ⟨_, rfl, _⟩ := h; rfl) | (obtain ⟨_, _, rfl, _⟩ := h; rfl) | (obtain ⟨_, _, _, rfl, _⟩ := h; rfl) | (obtain ⟨_, _, _, _, rfl, _⟩ := h; rfl) | (obtain ⟨_, _, _, _, _, rfl, _⟩ := h; rfl) | (obtain ⟨_, _, _, _, _, _, rfl, _⟩ := h; rfl) | (obtain ⟨_, _, _, _, _, _, _, rfl, _⟩ := h; rfl) | (obtain ⟨_, _, _, _, _, _, _, _, rfl, _⟩ := h; rfl) | (obtain ⟨_, _, _, _, _, _, _, _, _, rfl, _⟩ := h; rfl)) fun cdv A outer s H E hR F ds kk hF h => ?_
  subst hF
  obtain ⟨r, rfl, ok, q⟩ := h
  refine ⟨_, (pss_one (ps_ret (pe_makeN (W.mkr 0 _ rfl) GS (hR.mono (by decide)) rfl (W.glo 9 _ rfl) bS passL (pa_cons (pe_ix (ix_seq : IxR _ (rIx F.K)) (pv 0) pe_int (fun _ _ => rfl)) (pa_cons (pe_ix (ix_seq : IxR _ (rIx F.K)) (pv 0) pe_int (fun _ _ => rfl)) pa_nil)) (pk_cons (pe_ix (ix_seq : IxR _ (rIx F.K)) (pv 0) pe_int (fun _ _ => rfl)) pk_nil)))), ?_⟩
  try dsimp only [Xof, cxOf, Cx.nox, Cx.wish, Cx.blk]
  repeat walk_at "d"
  apply ev_makeN (fun ds zs => ds ++ zs) say_gv
  repeat walk_at "d"
  exact ⟨r, rfl, ok, q⟩
theorem cc__law_saying (W : Wf P w K mg base) : Fnc P w K mg base 4 "_law_saying" (spD K fun ds k _ => S__law_saying ds k) := W.fnc in__law_saying (fun _ => rfl) (j := 49) rfl (ok__law_saying W)
end
end K33
namespace K33
open PySem PySem.Spec PyProof.Rows L2
def nmK (r k : Nat) : PySem.Str := (⟨#[97 + r]⟩ : PySem.Str) ++ (⟨#[97 + k]⟩ : PySem.Str)
def nms (r c : Nat) : List PySem.Str := (List.range c).map (nmK r)
def goodB (z : PySem.Str) : Bool := decide (1 ≤ z.length) && (decide (z.length ≤ 8) && (z.cps.toList.all (fun c => letters.cps.toList.contains c) && !keptw.contains z))
theorem good_of {z : PySem.Str} (h : goodB z = true) : Good z := by
  unfold goodB at h
  simp only [Bool.and_eq_true, decide_eq_true_eq, Bool.not_eq_true', List.all_eq_true] at h
  obtain ⟨h1, h2, h3, h4⟩ := h
  exact ⟨h1, h2, fun c hc => by simpa using h3 c hc, fun hm => by
    have : keptw.contains z = true := by simpa using hm
    rw [this] at h4
    cases h4⟩
theorem nms_good : ∀ r, r < 26 → ∀ c, c < 5 → ((nms r c).all goodB && decide ((nms r c).Nodup)) = true := by decide +kernel
theorem letter_at : ∀ r : Nat, r < 26 → atI ("abcdefghijklmnopqrstuvwxyz" : PySem.Str).cps.toList (r : Int) = some (97 + r) := by decide +kernel
theorem abcd_at : ∀ r : Nat, r < 4 → atI ("abcd" : PySem.Str).cps.toList (r : Int) = some (97 + r) := by decide +kernel
theorem nmK_len : ∀ r, r < 26 → ∀ k, k < 4 → (nmK r k).length = 2 := by decide +kernel
section
variable {P : Program} {w : World} {K : PySem.W.Frag} {mg : PySem.Str → Option Value} {base : Heap}
local macro_rules | `(tactic| walk_at "d0") => `(tactic| first
  | ((with_reducible apply ev_var); rfl)
  | with_reducible apply ev_int
  | with_reducible apply ev_bl
  | with_reducible apply ev_str
  | with_reducible apply ev_non
  | with_reducible apply s_seq
  | with_reducible apply s_ret
  | with_reducible apply s_asg
  | with_reducible apply s_next
  | ((with_reducible apply s_app); rfl)
  | with_reducible apply s_drop
  | ((with_reducible apply src_0); rfl; intro _)
  | ((with_reducible apply src_1); rfl; intro _ _ _)
  | ((with_reducible apply src_2); rfl; intro _)
  | ((with_reducible apply s_setSrc0); rfl)
  | ((with_reducible apply s_setSrc2); rfl)
  | ((with_reducible apply ev_callS); rfl)
  | ((with_reducible apply ev_opO); rfl)
  | ((with_reducible apply ev_ixO); rfl)
  | with_reducible apply ev_op
  | with_reducible apply ev_un
  | with_reducible apply et_test
  | with_reducible apply et_B
  | with_reducible apply et_truI
  | with_reducible apply et_and
  | with_reducible apply et_or
  | with_reducible apply et_not
  | with_reducible apply ea_nil
  | with_reducible apply ea_cons
  | with_reducible apply ro_nd_n
  | with_reducible apply ro_and_n
  | with_reducible apply ro_or_n
  | with_reducible apply ro_shr_n
  | with_reducible apply ro_eq_0
  | with_reducible apply ro_ne_0
  | with_reducible apply ro_eq_n
  | with_reducible apply ro_ne_n
  | with_reducible apply ro_add_n
  | with_reducible apply ro_add_1
  | with_reducible apply ro_I0
  | with_reducible apply ro_B0
  | with_reducible apply ro_un
  | ((with_reducible apply ro_isN); rfl)
  | ((with_reducible apply ro_notN); rfl)
  | with_reducible apply ro_eq_t0
  | with_reducible apply ro_ne_lt0
  | with_reducible apply ro_ne_l0
  | with_reducible apply ro_ne_tt
  | with_reducible apply ro_eq_tt
  | with_reducible apply ro_ne_t
  | with_reducible apply ro_eq_i
  | with_reducible apply ro_ne_i
  | with_reducible apply ro_eq_s
  | with_reducible apply ro_add
  | ((with_reducible apply ro_ixT); rfl)
  | ((with_reducible apply ro_ixL); rfl)
  | with_reducible apply ev_list
  | with_reducible apply ev_tuple
  | with_reducible apply ev_sortset
  | with_reducible apply ev_isLT
  | ((with_reducible apply ev_cbO); rfl)
  | with_reducible apply ev_cb
  | with_reducible apply ev_call
  | ((with_reducible apply ev_fldM); rfl; exact Wf.kc2 (by assumption) (by decide +kernel); rfl)
  | with_reducible apply ev_fld
  | with_reducible apply ev_and
  | with_reducible apply ev_or
  | with_reducible apply ev_notV
  | with_reducible apply ev_if
  | with_reducible apply ev_chain
  | with_reducible apply ev_tup
  | with_reducible apply ev_lst
  | with_reducible apply ev_make
  | ((with_reducible apply ev_cm0); exact exok0)
  | ((with_reducible apply ev_cm); exact exok0)
  | ((with_reducible apply ev_meth0); exact exok0)
  | ((with_reducible apply ev_meth); exact exok0)
  | ((with_reducible apply ro_subO); exact exok0)
  | ((with_reducible apply ro_addO); exact exok0)
  | ((with_reducible apply rc_lenO); exact exok0)
  | ((with_reducible apply ev_prop); exact exok0)
  | with_reducible apply rc_int
  | with_reducible apply rc_lenL
  | with_reducible apply rc_lenT
  | ((with_reducible apply rc_is_int); (exact rfl))
  | ((with_reducible apply rc_is_bl); (exact rfl))
  | ((with_reducible apply rc_is_str); (exact rfl))
  | ((with_reducible apply rc_is_tup); (exact rfl))
  | ((with_reducible apply s_fldM); rfl; exact Wf.kc2 (by assumption) (by decide +kernel); decide; rfl)
  | with_reducible apply et_yes
  | with_reducible apply ev_rawc
  | ((with_reducible apply ev_src); rfl)
  | ((with_reducible refine ⟨len_ok ?_, ?_⟩); rfl)
  | with_reducible refine ⟨rfl, ?_⟩
  | with_reducible refine ⟨⟨_, rfl⟩, ?_⟩
  | with_reducible refine ⟨_, rfl, ?_⟩
  | refine ⟨_, _, rfl, rfl, ?_⟩
  | refine ⟨_, _, _, _, rfl, Wf.kc2 (by assumption) (by decide +kernel), rfl, ?_⟩
  | ((with_reducible apply iteTr); rfl)
  | ((with_reducible apply iteFr); rfl)
  | dsimp only)
local macro_rules | `(tactic| walk_at "d") => `(tactic| first
  | walk_at "d0"
  | with_reducible apply s_if)
local macro_rules | `(tactic| walk_at "o") => `(tactic| first
  | ((with_reducible apply so_retO); rfl)
  | ((with_reducible apply et_notcallO); rfl)
  | ((with_reducible apply s_asgO); (with_reducible apply en_lst); (with_reducible apply ea_nil); refine ⟨len_ok rfl, ?_⟩)
  | walk_at "d")

local macro_rules | `(tactic| walk_at "x") => `(tactic| first
  | ((with_reducible apply ev_callX); assumption)
  | walk_at "o")
theorem eqV_nat {m n : Nat} : eqV (.int (m : Int)) (.int (n : Int)) = decide (m = n) := by
  have : eqV (.int (m : Int)) (.int (n : Int)) = decide ((m : Int) = (n : Int)) := by
    unfold eqV
    rfl
  rw [this, dec_nat]
theorem ev_idx {F : Fm} {ρ : List Sl} {k : D → Prop} {ta tb : TE} (h : EvD F ta ρ fun d => ∃ ns : List Nat, d = .lst (ns.map nD) ∧ EvD F tb ρ fun y => ∃ m j : Nat, y = nD m ∧ ns[j]? = some m ∧ (∀ i, i < j → ns[i]? ≠ some m) ∧ k (nD j)) : EvD F (tBM F.K "list" (rIndex F.K) ta (tCons tb tNil)) ρ k := fun B H σ E Q hQ =>
  h B H σ E _ fun d v B1 H1 ⟨ns, ed, g⟩ S1 r1 => by
    subst ed
    obtain ⟨a, us, rfl, h1, h2⟩ := r1
    rw [map_nD] at h2
    have := h2.ints
    subst this
    refine ⟨.inl ⟨rfl, _, .inl (.inl (S1.env.bs.bh _ _ h1))⟩, ?_⟩
    refine g B1 H1 σ S1.env _ fun y vy B2 H2 ⟨m, j, ey, hj, hn, q⟩ S2 r2 => ?_
    subst ey
    cases r2
    refine ⟨a, _, _, j, .int (m : Int), rfl, rfl, .inl (.inl (S2.env.bs.bh _ _ (S2.bb _ _ h1))), rfl, flat_ints, ?_, by rw [eqV_nat]; simp, fun i z hi hz => ?_, hQ _ _ B2 H2 q (S1.trans S2) rfl⟩
    · rw [List.map_map, List.getElem?_map, hj]
      rfl
    · rw [List.map_map] at hz
      obtain ⟨x, hx, rfl⟩ := map_at hz
      show eqV (.int (x : Int)) _ = false
      rw [eqV_nat]
      apply decide_eq_false
      intro e
      subst e
      exact hn i hi hx
def S__law_book : List D → (D → Prop) → Prop := fun ds k => ∃ (days c : Nat) (rs : List Rw), ds = [nD days, .lst (rs.map rowD)] ∧ 1 ≤ c ∧ c ≤ 4 ∧ days = 2 ^ c ∧ rs.length ≤ 12 ∧ (∀ r ∈ rs, r.In days) ∧ ∀ b : Bk, b.rows = rs → b.Ok → b.days = days → k (bookD b)
theorem days_at : ∀ c, c < 4 → ([2, 4, 8, 16] : List Nat)[c]? = some (2 ^ (c + 1)) ∧ ∀ i, i < c → ([2, 4, 8, 16] : List Nat)[i]? ≠ some (2 ^ (c + 1)) := by decide +kernel
theorem ok__law_book (W : Wf P w K mg base) : FnR P w K mg base (L2.CX P w) 5 (d__law_book.at_ K) (spS K S__law_book) := by
  have c_Book__init__ := cc_Book__init__ W
  have c_Marks__init__ := cc_Marks__init__ W
  have c__law_draw := cc__law_draw W
  have c__law_saying := cc__law_saying W
  refine W.fnS in__law_book sc__law_book (fun fd F => F.bindsN fun _ _ _ _ _ _ us hl => match us, hl with | [_, _, _], _ => rfl) (fun ds k h => by first | (obtain ⟨rfl, _⟩ := h; rfl) | (obtain ⟨_, rfl, _⟩ := h; rfl) | (obtain ⟨_, _, rfl, _⟩ := h; rfl) | (obtain ⟨_, _, _, rfl, _⟩ := h; rfl) | (obtain ⟨_, _, _, _, rfl, _⟩ := h; rfl) | (obtain ⟨_, _, _, _, _, rfl, _⟩ := h; rfl) | (obtain ⟨_, _, _, _, _, _, rfl, _⟩ := h; rfl) | (obtain ⟨_, _, _, _, _, _, _, rfl, _⟩ := h; rfl) | (obtain ⟨_, _, _, _, _, _, _, _, rfl, _⟩ := h; rfl) | (obtain ⟨_, _, _, _, _, _, _, _, _, rfl, _⟩ := h; rfl)) fun cdv A outer s H E hR F sa ds kk hF hsa h => ?_
  subst hF
  obtain ⟨days, c, rs, rfl, h1, h4, hd, hl, hr, q⟩ := h
  refine ⟨_, (pss_cons (ps_asg (pe_tup (pa_cons (pe_op (op_addX : OpR _ _ (rAddX F.K)) (pe_bm PySem.F.plainAttrs_list PySem.F.slot_list_index PySem.F.type_list_index mt_index (pe_lst (pa_cons pe_int (pa_cons pe_int (pa_cons pe_int (pa_cons pe_int pa_nil))))) (pa_cons (pv 1) pa_nil)) pe_int) (pa_cons (pe_ix (ix_seq : IxR _ (rIx F.K)) pe_str (pe_f c__law_draw hR (by decide) rfl passL (pa_cons (pv 0) (pa_cons pe_int pa_nil))) (fun _ _ => rfl)) pa_nil))) (pg_tupK (K := F.K) (n := 2) rfl (by rfl) (pgs_cons (pg_name (i := 3) sc__law_book.nd rfl (Or.inl rfl)) (pgs_cons (pg_name (i := 4) sc__law_book.nd rfl (Or.inr rfl)) pgs_nil))))
  (pss_one (ps_ret (pe_k c_Book__init__ hR (by decide) rfl passL (pa_cons (pe_k c_Marks__init__ hR (by decide) rfl passL (pa_cons (pe_lc (own := [("_law_k", 5)]) (by rfl) sc__law_book.nd (pi_range1 rfl (W.free 8 _ rfl) (pa_cons (pv 3) pa_nil)) (blkOk_by (N := n__law_book) (sc := defScope s__law_book) (own := [("_law_k", 5)]) (by decide +kernel)) (fun _ _ _ _ _ => (pg_name (i := 5) sc__law_book.nd rfl (Or.inl rfl))) (fun _ _ _ _ _ => pts_nil) (fun _ _ _ _ _ => (pe_op (op_addX : OpR _ _ (rAddX F.K)) (pv 4) (pe_ix (ix_seq : IxR _ (rIx F.K)) pe_str (pv 5) (fun _ _ => rfl))))) pa_nil)) (pa_cons (pe_lc (own := [("_law_one_here", 6)]) (by rfl) sc__law_book.nd (pi_seqK (K := F.K) rfl (pv 2)) (blkOk_by (N := n__law_book) (sc := defScope s__law_book) (own := [("_law_one_here", 6)]) (by decide +kernel)) (fun _ _ _ _ _ => (pg_name (i := 6) sc__law_book.nd rfl (Or.inl rfl))) (fun _ _ _ _ _ => pts_nil) (fun _ _ _ _ _ => (pe_f c__law_saying hR (by decide) rfl passL (pa_cons (pv 6) pa_nil)))) pa_nil)))))), ?_⟩
  try dsimp only [Xof, cxOf, Cx.nox, Cx.wish, Cx.blk]
  repeat walk_at "d"
  apply s_asgT
  apply ev_tup
  apply ea_cons
  apply ev_op
  apply ev_idx
  repeat walk_at "d"
  refine ⟨[2, 4, 8, 16], rfl, ?_⟩
  repeat walk_at "d"
  obtain ⟨e1, e2⟩ := days_at (c - 1) (by omega)
  rw [show c - 1 + 1 = c by omega, ← hd] at e1 e2
  refine ⟨days, c - 1, rfl, e1, e2, ?_⟩
  repeat walk_at "d"
  rw [show c - 1 + 1 = c by omega]
  repeat walk_at "d"
  refine ⟨26, rfl, by omega, by omega, fun r hr26 => ?_⟩
  apply ro_ixS (by decide) (letter_at r hr26)
  repeat walk_at "d"
  refine ⟨_, g_tup rfl (gs_cons g_name (gs_cons g_name gs_nil)), ?_⟩
  repeat walk_at "d"
  apply EvN.ev
  apply en_lc (un_of rfl)
  apply ei_rng1
  repeat walk_at "d"
  refine ⟨by omega, fun i acc => acc = ((List.range i).map (nmK r)).map .str, rfl, ?_, ?_⟩
  · rintro i d acc hi rfl
    obtain ⟨rfl, hi2⟩ := ints_at hi
    refine ⟨_, mem_of rfl, g_name, ?_⟩
    repeat walk_at "d"
    apply ro_ixS (by decide) (abcd_at i (by omega))
    apply ro_adds (by show 1 + 1 ≤ _; omega)
    refine ⟨by rw [List.length_map, List.length_map, List.length_range]; omega, ?_⟩
    show _ = _
    rw [List.range_succ, List.map_append, List.map_append]
    rfl
  · rintro acc rfl
    rw [ints_len]
    have hg := nms_good r hr26 c (by omega)
    rw [Bool.and_eq_true, List.all_eq_true, decide_eq_true_eq] at hg
    have hlen : (nms r c).length = c := by
      unfold nms
      rw [List.length_map, List.length_range]
    repeat walk_at "d"
    refine ⟨nms r c, rfl, by omega, by omega, fun z hz => good_of (hg.1 z hz), hg.2, ?_⟩
    repeat walk_at "d"
    apply EvN.ev
    apply en_lc (un_of rfl)
    apply ei_seq
    repeat walk_at "d"
    refine ⟨_, .inl rfl, fun i acc => acc = (rs.take i).map sayD, rfl, ?_, ?_⟩
    · rintro i d acc hi rfl
      obtain ⟨x, ex, rfl⟩ := map_at hi
      refine ⟨_, mem_of rfl, g_name, ?_⟩
      repeat walk_at "d"
      have hdl : days ≤ 16 := by
        rw [hd]
        exact Nat.pow_le_pow_right (n := 2) (by decide) h4
      refine ⟨x, rfl, (hr x (List.mem_of_getElem? ex)).ok hdl, by rw [List.length_map]; have := List.length_take_le' i rs; omega, ?_⟩
      show _ = _
      rw [take_at ex, List.map_append]
      rfl
    · rintro acc rfl
      rw [List.length_map, List.take_length]
      repeat walk_at "d"
      have hbd : (⟨nms r c, rs⟩ : Bk).days = days := by
        unfold Bk.days
        rw [hlen, hd]
      exact ⟨⟨nms r c, rs⟩, rfl, ⟨by show 1 ≤ (nms r c).length; omega, by show (nms r c).length ≤ 4; omega, hl, fun x hx => by rw [hbd]; exact hr x hx⟩, q _ rfl ⟨by show 1 ≤ (nms r c).length; omega, by show (nms r c).length ≤ 4; omega, hl, fun x hx => by rw [hbd]; exact hr x hx⟩ hbd⟩
theorem cc__law_book (W : Wf P w K mg base) : Fnc P w K mg base 5 "_law_book" (spS K S__law_book) := W.fnc in__law_book (fun _ => rfl) (j := 50) rfl (ok__law_book W)
end
end K33
namespace K33
open PySem PySem.Spec PyProof.Rows L2
theorem jn_eq (l : List Rw) : jn l = (nd (jU l) (jB l), jB l) := by
  have h : ∀ (l : List Rw) (c b c' : Nat), (∀ i, (nd c' b).testBit i = c.testBit i) → l.foldl jstep (c, b) = (nd (l.foldl (fun b r => b ||| r.cf) c') (l.foldl (fun b r => b ||| r.br) b), l.foldl (fun b r => b ||| r.br) b) := by
    intro l
    induction l with
    | nil =>
      intro c b c' hc
      have : c = nd c' b := eq_of_bits fun i => (hc i).symm
      rw [this]
      rfl
    | cons r l ih =>
      intro c b c' hc
      refine ih _ _ _ fun i => ?_
      have := hc i
      rw [nd_bit] at this
      rw [nd_bit, nd_bit, Nat.testBit_or, Nat.testBit_or, Nat.testBit_or, ← this]
      cases c'.testBit i <;> cases b.testBit i <;> cases r.cf.testBit i <;> cases r.br.testBit i <;> rfl
  exact h l 0 0 0 (fun i => by rw [nd_bit, Nat.zero_testBit]; rfl)
theorem jB_lt {n : Nat} : ∀ {l : List Rw}, (∀ r ∈ l, r.In n) → jB l < 2 ^ n := by
  have h : ∀ (l : List Rw) (b : Nat), b < 2 ^ n → (∀ r ∈ l, r.In n) → l.foldl (fun b r => b ||| r.br) b < 2 ^ n := by
    intro l
    induction l with
    | nil => intro b hb _; exact hb
    | cons r l ih => exact fun b hb hr => ih _ (or_lt hb (nd_lt (hr r (List.mem_cons_self ..)).2.1)) fun x hx => hr x (List.mem_cons_of_mem _ hx)
  exact fun {l} hr => h l 0 (Nat.two_pow_pos n) hr
theorem jU_lt {n : Nat} : ∀ {l : List Rw}, (∀ r ∈ l, r.In n) → jU l < 2 ^ n := by
  have h : ∀ (l : List Rw) (b : Nat), b < 2 ^ n → (∀ r ∈ l, r.In n) → l.foldl (fun b r => b ||| r.cf) b < 2 ^ n := by
    intro l
    induction l with
    | nil => intro b hb _; exact hb
    | cons r l ih => exact fun b hb hr => ih _ (or_lt hb (and_lt (hr r (List.mem_cons_self ..)).2.1)) fun x hx => hr x (List.mem_cons_of_mem _ hx)
  exact fun {l} hr => h l 0 (Nat.two_pow_pos n) hr
abbrev pick (rows : List Rw) (lot : List Nat) : List Rw := lot.filterMap (rows[·]?)
theorem pick_mem {rows : List Rw} {lot : List Nat} {r : Rw} (h : r ∈ pick rows lot) : r ∈ rows := by
  obtain ⟨n, _, e⟩ := List.mem_filterMap.mp h
  exact List.mem_of_getElem? e
section
variable {P : Program} {w : World} {K : PySem.W.Frag} {mg : PySem.Str → Option Value} {base : Heap}
local macro_rules | `(tactic| walk_at "d0") => `(tactic| first
  | ((with_reducible apply ev_var); rfl)
  | with_reducible apply ev_int
  | with_reducible apply ev_bl
  | with_reducible apply ev_str
  | with_reducible apply ev_non
  | with_reducible apply s_seq
  | with_reducible apply s_ret
  | with_reducible apply s_asg
  | with_reducible apply s_next
  | ((with_reducible apply s_app); rfl)
  | with_reducible apply s_drop
  | ((with_reducible apply src_0); rfl; intro _)
  | ((with_reducible apply src_1); rfl; intro _ _ _)
  | ((with_reducible apply src_2); rfl; intro _)
  | ((with_reducible apply s_setSrc0); rfl)
  | ((with_reducible apply s_setSrc2); rfl)
  | ((with_reducible apply ev_callS); rfl)
  | ((with_reducible apply ev_opO); rfl)
  | ((with_reducible apply ev_ixO); rfl)
  | with_reducible apply ev_op
  | with_reducible apply ev_un
  | with_reducible apply et_test
  | with_reducible apply et_B
  | with_reducible apply et_truI
  | with_reducible apply et_and
  | with_reducible apply et_or
  | with_reducible apply et_not
  | with_reducible apply ea_nil
  | with_reducible apply ea_cons
  | with_reducible apply ro_nd_n
  | with_reducible apply ro_and_n
  | with_reducible apply ro_or_n
  | with_reducible apply ro_shr_n
  | with_reducible apply ro_eq_0
  | with_reducible apply ro_ne_0
  | with_reducible apply ro_eq_n
  | with_reducible apply ro_ne_n
  | with_reducible apply ro_add_n
  | with_reducible apply ro_add_1
  | with_reducible apply ro_I0
  | with_reducible apply ro_B0
  | with_reducible apply ro_un
  | ((with_reducible apply ro_isN); rfl)
  | ((with_reducible apply ro_notN); rfl)
  | with_reducible apply ro_eq_t0
  | with_reducible apply ro_ne_lt0
  | with_reducible apply ro_ne_l0
  | with_reducible apply ro_ne_tt
  | with_reducible apply ro_eq_tt
  | with_reducible apply ro_ne_t
  | with_reducible apply ro_eq_i
  | with_reducible apply ro_ne_i
  | with_reducible apply ro_eq_s
  | with_reducible apply ro_add
  | ((with_reducible apply ro_ixT); rfl)
  | ((with_reducible apply ro_ixL); rfl)
  | with_reducible apply ev_list
  | with_reducible apply ev_tuple
  | with_reducible apply ev_sortset
  | with_reducible apply ev_isLT
  | ((with_reducible apply ev_cbO); rfl)
  | with_reducible apply ev_cb
  | with_reducible apply ev_call
  | ((with_reducible apply ev_fldM); rfl; exact Wf.kc2 (by assumption) (by decide +kernel); rfl)
  | with_reducible apply ev_fld
  | with_reducible apply ev_and
  | with_reducible apply ev_or
  | with_reducible apply ev_notV
  | with_reducible apply ev_if
  | with_reducible apply ev_chain
  | with_reducible apply ev_tup
  | with_reducible apply ev_lst
  | with_reducible apply ev_make
  | ((with_reducible apply ev_cm0); exact exok0)
  | ((with_reducible apply ev_cm); exact exok0)
  | ((with_reducible apply ev_meth0); exact exok0)
  | ((with_reducible apply ev_meth); exact exok0)
  | ((with_reducible apply ro_subO); exact exok0)
  | ((with_reducible apply ro_addO); exact exok0)
  | ((with_reducible apply rc_lenO); exact exok0)
  | ((with_reducible apply ev_prop); exact exok0)
  | with_reducible apply rc_int
  | with_reducible apply rc_lenL
  | with_reducible apply rc_lenT
  | ((with_reducible apply rc_is_int); (exact rfl))
  | ((with_reducible apply rc_is_bl); (exact rfl))
  | ((with_reducible apply rc_is_str); (exact rfl))
  | ((with_reducible apply rc_is_tup); (exact rfl))
  | ((with_reducible apply s_fldM); rfl; exact Wf.kc2 (by assumption) (by decide +kernel); decide; rfl)
  | with_reducible apply et_yes
  | with_reducible apply ev_rawc
  | ((with_reducible apply ev_src); rfl)
  | ((with_reducible refine ⟨len_ok ?_, ?_⟩); rfl)
  | with_reducible refine ⟨rfl, ?_⟩
  | with_reducible refine ⟨⟨_, rfl⟩, ?_⟩
  | with_reducible refine ⟨_, rfl, ?_⟩
  | refine ⟨_, _, rfl, rfl, ?_⟩
  | refine ⟨_, _, _, _, rfl, Wf.kc2 (by assumption) (by decide +kernel), rfl, ?_⟩
  | ((with_reducible apply iteTr); rfl)
  | ((with_reducible apply iteFr); rfl)
  | dsimp only)
local macro_rules | `(tactic| walk_at "d") => `(tactic| first
  | walk_at "d0"
  | with_reducible apply s_if)
local macro_rules | `(tactic| walk_at "o") => `(tactic| first
  | ((with_reducible apply so_retO); rfl)
  | ((with_reducible apply et_notcallO); rfl)
  | ((with_reducible apply s_asgO); (with_reducible apply en_lst); (with_reducible apply ea_nil); refine ⟨len_ok rfl, ?_⟩)
  | walk_at "d")

local macro_rules | `(tactic| walk_at "x") => `(tactic| first
  | ((with_reducible apply ev_callX); assumption)
  | walk_at "o")
def S__law_is_number : List D → (D → Prop) → Prop := fun ds k => ∃ z : Int, ds = [.int z] ∧ k (.bl true)
theorem ok__law_is_number (W : Wf P w K mg base) : FnR P w K mg base (L2.CX P w) 1 (d__law_is_number.at_ K) (spD K fun ds k _ => S__law_is_number ds k) := by
  refine W.fnD in__law_is_number sc__law_is_number (fun fd F => F.bindsN fun _ _ _ _ _ _ us hl => match us, hl with | [_], _ => rfl) (fun ds k h => by first | (obtain ⟨rfl, _⟩ := h; rfl) | (obtain ⟨_, rfl, _⟩ := h; rfl) | (obtain ⟨_, _, rfl, _⟩ := h; rfl) | (obtain ⟨_, _, _, rfl, _⟩ := h; rfl) | (obtain ⟨_, _, _, _, rfl, _⟩ := h; rfl) | (obtain ⟨_, _, _, _, _, rfl, _⟩ := h; rfl) | (obtain ⟨_, _, _, _, _, _, rfl, _⟩ := h; rfl) | (obtain ⟨_, _, _, _, _, _, _, rfl, _⟩ := h; rfl) | (obtain ⟨_, _, _, _, _, _, _, _, rfl, _⟩ := h; rfl) | (obtain ⟨_, _, _, _, _, _, _, _, _, rfl, _⟩ := h; rfl)) fun cdv A outer s H E hR F ds kk hF h => ?_
  subst hF
  obtain ⟨z, rfl, q⟩ := h
  refine ⟨_, (pss_one (ps_ret (pe_and (pe_callB (cr_isX : CallR _ _ (rIsX F.K)) rfl (W.free 1 _ rfl) (by decide +kernel) (pa_cons (pv 0) (pa_cons (pe_bltn (v := .ty "int") (u := .type "int") rfl (W.free 2 _ rfl) (by decide +kernel) rfl) pa_nil))) (pe_one (pe_not (pe_callB (cr_isX : CallR _ _ (rIsX F.K)) rfl (W.free 1 _ rfl) (by decide +kernel) (pa_cons (pv 0) (pa_cons (pe_bltn (v := .ty "bool") (u := .type "bool") rfl (W.free 3 _ rfl) (by decide +kernel) rfl) pa_nil)))))))), ?_⟩
  try dsimp only [Xof, cxOf, Cx.nox, Cx.wish, Cx.blk]
  repeat walk_at "d"
  exact q
theorem cc__law_is_number (W : Wf P w K mg base) : Fnc P w K mg base 1 "_law_is_number" (spD K fun ds k _ => S__law_is_number ds k) := W.fnc in__law_is_number (fun _ => rfl) (j := 51) rfl (ok__law_is_number W)
def S__law_joined : List D → (D → Prop) → Prop := fun ds k => ∃ (rs : List Rw) (lot : List Nat) (x : D), ds = [.lst (rs.map rowD), x] ∧ (x = tupN lot ∨ x = .lst (lot.map nD)) ∧ (∀ n ∈ lot, n < rs.length) ∧ k (.tup [nD (jn (pick rs lot)).1, nD (jn (pick rs lot)).2])
theorem ok__law_joined (W : Wf P w K mg base) : FnR P w K mg base (L2.CX P w) 1 (d__law_joined.at_ K) (spD K fun ds k _ => S__law_joined ds k) := by
  refine W.fnD in__law_joined sc__law_joined (fun fd F => F.bindsN fun _ _ _ _ _ _ us hl => match us, hl with | [_, _], _ => rfl) (fun ds k h => by first | (obtain ⟨rfl, _⟩ := h; rfl) | (obtain ⟨_, rfl, _⟩ := h; rfl) | (obtain ⟨_, _, rfl, _⟩ := h; rfl) | (obtain ⟨_, _, _, rfl, _⟩ := h; rfl) | (obtain ⟨_, _, _, _, rfl, _⟩ := h; rfl) | (obtain ⟨_, _, _, _, _, rfl, _⟩ := h; rfl) | (obtain ⟨_, _, _, _, _, _, rfl, _⟩ := h; rfl) | (obtain ⟨_, _, _, _, _, _, _, rfl, _⟩ := h; rfl) | (obtain ⟨_, _, _, _, _, _, _, _, rfl, _⟩ := h; rfl) | (obtain ⟨_, _, _, _, _, _, _, _, _, rfl, _⟩ := h; rfl)) fun cdv A outer s H E hR F ds kk hF h => ?_
  subst hF
  obtain ⟨rs, lot, x, rfl, hx, hn, q⟩ := h
  refine ⟨_, (pss_cons (ps_asg (pe_tup (pa_cons pe_int (pa_cons pe_int pa_nil))) (pg_tupK (K := F.K) (n := 2) rfl (by rfl) (pgs_cons (pg_name (i := 2) sc__law_joined.nd rfl (Or.inl rfl)) (pgs_cons (pg_name (i := 3) sc__law_joined.nd rfl (Or.inl rfl)) pgs_nil))))
  (pss_cons (ps_for PassesOwn.never rfl (pi_seqK (K := F.K) rfl (pv 1)) (pg_name (i := 4) sc__law_joined.nd rfl (Or.inl rfl))
  (pss_cons (ps_set (i := 5) sc__law_joined.nd rfl (Or.inl rfl) (pe_ix (ix_seq : IxR _ (rIx F.K)) (pv 0) (pv 4) (fun _ _ => rfl)))
  (pss_one (ps_par (i := 2) (j := 3) (by rfl) sc__law_joined.nd rfl rfl (by decide) rfl rfl (pa_cons (pe_op op_or (pv 2) (pe_op op_and (pe_ix (ix_seq : IxR _ (rIx F.K)) (pv 5) pe_int (fun _ _ => rfl)) (pe_ix (ix_seq : IxR _ (rIx F.K)) (pv 5) pe_int (fun _ _ => rfl)))) (pa_cons (pe_op op_or (pv 3) (pe_op op_and (pe_ix (ix_seq : IxR _ (rIx F.K)) (pv 5) pe_int (fun _ _ => rfl)) (pe_un un_inv (pe_ix (ix_seq : IxR _ (rIx F.K)) (pv 5) pe_int (fun _ _ => rfl))))) pa_nil)) (by rfl)))))
  (pss_one (ps_ret (pe_tup (pa_cons (pe_op op_and (pv 2) (pe_un un_inv (pv 3))) (pa_cons (pv 3) pa_nil))))))), ?_⟩
  try dsimp only [Xof, cxOf, Cx.nox, Cx.wish, Cx.blk]
  repeat walk_at "d"
  apply s_asgT
  repeat walk_at "d"
  refine ⟨_, g_tup rfl (gs_cons g_name (gs_cons g_name gs_nil)), ?_⟩
  repeat walk_at "d"
  apply s_for
  apply ei_seq
  repeat walk_at "d"
  refine ⟨lot.map nD, hx.symm, fun i ρ => ∃ y z, ρ = [.val (.lst (rs.map rowD)), .val x, .val (nD (jU (pick rs (lot.take i)))), .val (nD (jB (pick rs (lot.take i)))), y, z], ⟨_, _, rfl⟩, ?_, ?_⟩
  · rintro i d ρ' hi ⟨y, z, rfl⟩
    obtain ⟨n, en, rfl⟩ := map_at hi
    have hlt := hn n (List.mem_of_getElem? en)
    have er := List.getElem?_eq_getElem hlt
    refine ⟨_, g_name, ?_⟩
    repeat walk_at "d"
    apply ro_ixL (atI_map er)
    repeat walk_at "d"
    apply s_par
    repeat walk_at "d"
    refine ⟨_, _, rfl, ?_⟩
    rw [show pick rs (lot.take (i + 1)) = pick rs (lot.take i) ++ [rs[n]] from fm_take (f := (rs[·]?)) en er]
    unfold jU jB
    rw [List.foldl_append, List.foldl_append]
    exact ⟨_, _, rfl⟩
  · rintro ρ' ⟨y, z, rfl⟩
    rw [List.length_map, List.take_length]
    repeat walk_at "d"
    rw [jn_eq] at q
    exact q
theorem cc__law_joined (W : Wf P w K mg base) : Fnc P w K mg base 1 "_law_joined" (spD K fun ds k _ => S__law_joined ds k) := W.fnc in__law_joined (fun _ => rfl) (j := 53) rfl (ok__law_joined W)
def S__law_sharp : List D → (D → Prop) → Prop := fun ds k => ∃ (rs : List Rw) (lot : List Nat) (x : D) (r : Rw), ds = [.lst (rs.map rowD), x, rowD r] ∧ (x = tupN lot ∨ x = .lst (lot.map nD)) ∧ (∀ n ∈ lot, n < rs.length) ∧ k (.bl (sharpB rs lot r))
theorem ok__law_sharp (W : Wf P w K mg base) : FnR P w K mg base (L2.CX P w) 2 (d__law_sharp.at_ K) (spD K fun ds k _ => S__law_sharp ds k) := by
  have c__law_joined := cc__law_joined W
  refine W.fnD in__law_sharp sc__law_sharp (fun fd F => F.bindsN fun _ _ _ _ _ _ us hl => match us, hl with | [_, _, _], _ => rfl) (fun ds k h => by first | (obtain ⟨rfl, _⟩ := h; rfl) | (obtain ⟨_, rfl, _⟩ := h; rfl) | (obtain ⟨_, _, rfl, _⟩ := h; rfl) | (obtain ⟨_, _, _, rfl, _⟩ := h; rfl) | (obtain ⟨_, _, _, _, rfl, _⟩ := h; rfl) | (obtain ⟨_, _, _, _, _, rfl, _⟩ := h; rfl) | (obtain ⟨_, _, _, _, _, _, rfl, _⟩ := h; rfl) | (obtain ⟨_, _, _, _, _, _, _, rfl, _⟩ := h; rfl) | (obtain ⟨_, _, _, _, _, _, _, _, rfl, _⟩ := h; rfl) | (obtain ⟨_, _, _, _, _, _, _, _, _, rfl, _⟩ := h; rfl)) fun cdv A outer s H E hR F ds kk hF h => ?_
  subst hF
  obtain ⟨rs, lot, x, r, rfl, hx, hn, q⟩ := h
  refine ⟨_, (pss_cons (ps_asg (pe_f c__law_joined hR (by decide) rfl passL (pa_cons (pv 0) (pa_cons (pv 1) pa_nil))) (pg_tupK (K := F.K) (n := 2) rfl (by rfl) (pgs_cons (pg_name (i := 3) sc__law_sharp.nd rfl (Or.inl rfl)) (pgs_cons (pg_name (i := 4) sc__law_sharp.nd rfl (Or.inl rfl)) pgs_nil))))
  (pss_one (ps_ret (pe_and (pe_cmpR (op_eqX hR.units : OpR _ _ (rEqX F.K)) (pe_op op_and (pv 3) (pe_un un_inv (pe_op op_and (pe_ix (ix_seq : IxR _ (rIx F.K)) (pv 2) pe_int (fun _ _ => rfl)) (pe_ix (ix_seq : IxR _ (rIx F.K)) (pv 2) pe_int (fun _ _ => rfl))))) pe_int (nomark _)) (pe_one (pe_cmpR (op_eqX hR.units : OpR _ _ (rEqX F.K)) (pe_op op_and (pe_op op_and (pe_ix (ix_seq : IxR _ (rIx F.K)) (pv 2) pe_int (fun _ _ => rfl)) (pe_un un_inv (pe_ix (ix_seq : IxR _ (rIx F.K)) (pv 2) pe_int (fun _ _ => rfl)))) (pe_un un_inv (pv 4))) pe_int (nomark _))))))), ?_⟩
  try dsimp only [Xof, cxOf, Cx.nox, Cx.wish, Cx.blk]
  repeat walk_at "d"
  apply s_asgT
  repeat walk_at "d"
  refine ⟨rs, lot, x, rfl, hx, hn, ?_⟩
  refine ⟨_, g_tup rfl (gs_cons g_name (gs_cons g_name gs_nil)), ?_⟩
  repeat walk_at "d"
  unfold sharpB at q
  cases e : decide (nd (jn (pick rs lot)).1 (r.w &&& r.t) = 0) with
  | false =>
    rw [show decide (nd (jn (pick rs lot)).1 r.cf = 0) = false from e] at q
    repeat walk_at "d"
    exact q
  | true =>
    rw [show decide (nd (jn (pick rs lot)).1 r.cf = 0) = true from e] at q
    repeat walk_at "d"
    exact q
theorem cc__law_sharp (W : Wf P w K mg base) : Fnc P w K mg base 2 "_law_sharp" (spD K fun ds k _ => S__law_sharp ds k) := W.fnc in__law_sharp (fun _ => rfl) (j := 54) rfl (ok__law_sharp W)
/-! ### all lots of at most six numbers -/
theorem lays6 : ∀ n, n < 7 → ∀ i, i < 9 → (lays n i).length ≤ 1000 ∧ (lay n i).length ≤ 1000 := by decide +kernel
def S__law_all_lots : List D → (D → Prop) → Prop := fun ds k => ∃ n : Nat, ds = [nD n] ∧ n ≤ 6 ∧ k (.lst ((lays n (n + 1)).map tupN))
/-- lot == () or number > lot[len(lot) - 1] -/
theorem last_test2 {F : Fm} {ρ : List Sl} {a b : Nat} {lot : List Nat} {m : Nat} (ha : ρ[a]? = some (.val (tupN lot))) (hb : ρ[b]? = some (.val (nD m))) :
    EvT F (tOr (tTest (tOp (rEqX F.K) (tVar a) (tTup tNil))) (tTest (tOp (rI0 fun i j => .bl (decide (j < i))) (tVar b) (tOp (rIx F.K) (tVar a) (tOp (rI0 fun i j => .int (i - j)) (tCB (rLenX F.K) (tCons (tVar a) tNil)) (tC (.int 1))))))) ρ fun c => c = okN lot m := by
  apply et_or
  apply et_test
  apply ev_op
  apply ev_var ha
  apply ev_tup
  apply ea_nil
  refine ⟨by decide, ?_⟩
  apply ro_eq_t0
  refine ⟨_, rfl, ?_⟩
  unfold okN
  by_cases h : lot = []
  · rw [decide_eq_true h]
    exact iteT rfl
  · rw [decide_eq_false h]
    refine iteF ?_
    obtain ⟨r, x, rfl⟩ := snoc_of h
    apply et_test
    apply ev_op
    apply ev_var hb
    apply ev_op
    apply ev_var ha
    apply ev_op
    apply ev_cb
    apply ea_cons
    apply ev_var ha
    apply ea_nil
    apply rc_lenT
    apply ev_int
    apply ro_I0
    apply ro_ixT (d := nD x) (by
      rw [List.length_map, List.length_append]
      show atI _ (((r.length + 1 : Nat) : Int) - 1) = _
      rw [show ((r.length + 1 : Nat) : Int) - 1 = (r.length : Int) by omega]
      exact atI_map (by simp))
    apply ro_B0
    refine ⟨_, rfl, ?_⟩
    rw [Bool.false_or, Bool.eq_iff_iff, decide_eq_true_iff, decide_eq_true_iff]
    simp
theorem mor_len {n i : Nat} {lot : List Nat} (hl : lot ∈ lay n i) : (mor n lot).length ≤ (lay n (i + 1)).length := by
  obtain ⟨j, hj, e⟩ := List.mem_iff_getElem.mp hl
  have := flat_len (f := mor n) (l := lay n i) (i := j) (x := lot) (by rw [List.getElem?_eq_getElem hj, e])
  show _ ≤ (nxt n (lay n i)).length
  unfold nxt
  omega
theorem ok__law_all_lots (W : Wf P w K mg base) : FnR P w K mg base (L2.CX P w) 1 (d__law_all_lots.at_ K) (spD K fun ds k _ => S__law_all_lots ds k) := by
  refine W.fnD in__law_all_lots sc__law_all_lots (fun fd F => F.bindsN fun _ _ _ _ _ _ us hl => match us, hl with | [_], _ => rfl) (fun ds k h => by first | (obtain ⟨rfl, _⟩ := h; rfl) | (obtain ⟨_, rfl, _⟩ := h; rfl) | (obtain ⟨_, _, rfl, _⟩ := h; rfl) | (obtain ⟨_, _, _, rfl, _⟩ := h; rfl) | (obtain ⟨_, _, _, _, rfl, _⟩ := h; rfl) | (obtain ⟨_, _, _, _, _, rfl, _⟩ := h; rfl) | (obtain ⟨_, _, _, _, _, _, rfl, _⟩ := h; rfl) | (obtain ⟨_, _, _, _, _, _, _, rfl, _⟩ := h; rfl) | (obtain ⟨_, _, _, _, _, _, _, _, rfl, _⟩ := h; rfl) | (obtain ⟨_, _, _, _, _, _, _, _, _, rfl, _⟩ := h; rfl)) fun cdv A outer s H E hR F ds kk hF h => ?_
  subst hF
  obtain ⟨n, rfl, hn, q⟩ := h
  refine ⟨_, (pss_cons (ps_par (i := 1) (j := 2) (by rfl) sc__law_all_lots.nd rfl rfl (by decide) rfl rfl (pa_cons (pe_lst pa_nil) (pa_cons (pe_lst (pa_cons (pe_tup pa_nil) pa_nil)) pa_nil)) (by rfl))
  (pss_cons (ps_for PassesOwn.never rfl (pi_range1 rfl (W.free 8 _ rfl) (pa_cons (pe_op (op_addX : OpR _ _ (rAddX F.K)) (pv 0) pe_int) pa_nil)) (pg_name (i := 3) sc__law_all_lots.nd rfl (Or.inl rfl))
  (pss_cons (ps_set (i := 1) sc__law_all_lots.nd rfl (Or.inl rfl) (pe_op (op_addX : OpR _ _ (rAddX F.K)) (pv 1) (pv 2)))
  (pss_cons (ps_set (i := 4) sc__law_all_lots.nd rfl (Or.inl rfl) (pe_lst pa_nil))
  (pss_cons (ps_for PassesOwn.never rfl (pi_seqK (K := F.K) rfl (pv 2)) (pg_name (i := 5) sc__law_all_lots.nd rfl (Or.inr rfl))
  (pss_one (ps_set (i := 4) sc__law_all_lots.nd rfl (Or.inl rfl) (pe_op (op_addX : OpR _ _ (rAddX F.K)) (pv 4) (pe_lc (own := [("_law_number", 6)]) (by rfl) sc__law_all_lots.nd (pi_range1 rfl (W.free 8 _ rfl) (pa_cons (pv 0) pa_nil)) (blkOk_by (N := n__law_all_lots) (sc := defScope s__law_all_lots) (own := [("_law_number", 6)]) (by decide +kernel)) (fun _ _ _ _ _ => (pg_name (i := 6) sc__law_all_lots.nd rfl (Or.inl rfl))) (fun _ _ _ _ _ => (pts_one (PW.pt (pw_or (pt_cmpR (op_eqX hR.units : OpR _ _ (rEqX F.K)) (pv 5) (pe_tup pa_nil) (nomark _)) (pw_or1 (pt_cmpR op_gt (pv 6) (pe_ix (ix_seq : IxR _ (rIx F.K)) (pv 5) (pe_op op_sub (pe_callB (cr_lenX : CallR _ _ (rLenX F.K)) rfl (W.free 0 _ rfl) boot_len (pa_cons (pv 5) pa_nil)) pe_int) (fun _ _ => rfl)) (nomark _))))))) (fun _ _ _ _ _ => (pe_op (op_addX : OpR _ _ (rAddX F.K)) (pv 5) (pe_tup (pa_cons (pv 6) pa_nil)))))))))
  (pss_one (ps_set (i := 2) sc__law_all_lots.nd rfl (Or.inl rfl) (pv 4)))))))
  (pss_one (ps_ret (pv 1))))), ?_⟩
  try dsimp only [Xof, cxOf, Cx.nox, Cx.wish, Cx.blk]
  repeat walk_at "d"
  apply s_par
  repeat walk_at "d"
  refine ⟨_, _, rfl, ?_⟩
  repeat walk_at "d"
  apply s_for
  apply ei_rng1
  repeat walk_at "d"
  refine ⟨by omega, fun i ρ => ∃ x y z, ρ = [.val (nD n), .val (.lst ((lays n i).map tupN)), .val (.lst ((lay n i).map tupN)), x, y, z, .un], ⟨_, _, _, rfl⟩, ?_, ?_⟩
  · rintro i d ρ' hi ⟨x, y, z, rfl⟩
    obtain ⟨rfl, hi2⟩ := ints_at hi
    have h1 := lays6 n (by omega) i (by omega)
    have h2 := lays6 n (by omega) (i + 1) (by omega)
    refine ⟨_, g_name, ?_⟩
    repeat walk_at "d"
    apply ro_cat (by rw [List.length_map, List.length_map]; omega)
    repeat walk_at "d"
    apply s_for
    apply ei_seq
    repeat walk_at "d"
    refine ⟨_, .inl rfl, fun j ρ => ∃ x z, ρ = [.val (nD n), .val (.lst ((lays n (i + 1)).map tupN)), .val (.lst ((lay n i).map tupN)), x, .val (.lst ((((lay n i).take j).flatMap (mor n)).map tupN)), z, .un], ?_, ?_, ?_⟩
    · rw [← List.map_append]
      exact ⟨_, _, rfl⟩
    · rintro j d ρ' hj ⟨x, z, rfl⟩
      obtain ⟨lot, el, rfl⟩ := map_at hj
      have hf := flat_len (f := mor n) el
      have hm := List.mem_of_getElem? el
      have hml := mor_len hm
      have hnx : ((lay n i).flatMap (mor n)).length = (lay n (i + 1)).length := rfl
      refine ⟨_, g_name, ?_⟩
      repeat walk_at "d"
      apply EvN.ev
      apply en_lc (un_of rfl)
      apply ei_rng1
      repeat walk_at "d"
      refine ⟨by omega, fun m acc => acc = (morT n m lot).map tupN, by unfold morT; simp, ?_, ?_⟩
      · rintro m d acc hm2 rfl
        obtain ⟨rfl, hm3⟩ := ints_at hm2
        have e0 : (List.range n)[m]? = some m := List.getElem?_range hm3
        refine ⟨_, mem_of rfl, g_name, (last_test2 rfl rfl).imp fun c hc => ?_⟩
        cases ec : okN lot m with
        | true =>
          have : c = true := hc.trans ec
          subst this
          refine iteT ((lot_more rfl rfl (by rw [lay_len hm]; omega)).imp fun y hy => ?_)
          subst hy
          have e1 : morT n (m + 1) lot = morT n m lot ++ [lot ++ [m]] := by
            unfold morT
            rw [filt_take e0, if_pos ec, List.map_append]
            rfl
          refine ⟨?_, ?_⟩
          · rw [List.length_map]
            have hff := filt_len (l := List.range n) (j := m) (p := okN lot)
            have e2 : (morT n m lot).length ≤ (mor n lot).length := by
              unfold morT mor
              rw [List.length_map, List.length_map]
              exact hff
            omega
          · show _ = _
            rw [e1, List.map_append]
            rfl
        | false =>
          have : c = false := hc.trans ec
          subst this
          refine iteF ?_
          have e1 : morT n (m + 1) lot = morT n m lot := by
            unfold morT
            rw [filt_take e0, if_neg (by rw [ec]; decide)]
          show _ = _
          rw [e1]
      · rintro acc rfl
        rw [ints_len]
        have e1 : morT n n lot = mor n lot := by
          unfold morT mor
          rw [show (List.range n).take n = List.range n by rw [List.take_of_length_le (by rw [List.length_range]; exact Nat.le_refl _)]]
        rw [e1]
        apply ro_cat (by rw [List.length_map, List.length_map]; omega)
        repeat walk_at "d"
        rw [flat_take el, List.map_append]
        exact ⟨_, _, rfl⟩
    · rintro ρ' ⟨x, z, rfl⟩
      rw [List.length_map, List.take_length]
      repeat walk_at "d"
      exact ⟨_, _, _, rfl⟩
  · rintro ρ' ⟨x, y, z, rfl⟩
    rw [ints_len]
    repeat walk_at "d"
    exact q
theorem cc__law_all_lots (W : Wf P w K mg base) : Fnc P w K mg base 1 "_law_all_lots" (spD K fun ds k _ => S__law_all_lots ds k) := W.fnc in__law_all_lots (fun _ => rfl) (j := 55) rfl (ok__law_all_lots W)
theorem s_ifset2 {F : Fm} {ρ : List Sl} {te : TE} {N : List Sl → Prop} {R : D → Prop} {tt : TT} {i : Nat} {a : Nat} (Pv : Nat → Prop) (h0 : ρ[i]? = some (.val (.int (a : Int)))) (h : EvT F tt ρ fun b => if b = true then EvD F te ρ (fun d => ∃ v : Nat, d = .int (v : Int) ∧ Pv v) else Pv a) (g : ∀ v : Nat, Pv v → N (ρ.set i (.val (.int (v : Int))))) : SOk F (tIfS tt (tAsg te (gName i)) tNext) ρ N R := by
  apply s_if
  refine h.imp fun b hb => ?_
  cases b with
  | true => exact iteT (s_asg ((show EvD F te ρ _ from hb).imp fun d ⟨v, ed, hv⟩ => by rw [ed]; exact g v hv))
  | false =>
    refine iteF (s_next ?_)
    have e : ρ.set i (.val (.int (a : Int))) = ρ := by
      apply List.ext_getElem?
      intro j
      by_cases hj : i = j
      · subst hj
        rw [List.getElem?_set_self (List.getElem?_eq_some_iff.mp h0).1, h0]
      · rw [List.getElem?_set_ne hj]
    have := g a hb
    rw [e] at this
    exact this
def S__law_blunter : List D → (D → Prop) → Prop := fun ds k => ∃ (days : Nat) (rs : List Rw) (lot : List Nat), ds = [nD days, .lst (rs.map rowD), .lst (lot.map nD)] ∧ 1 ≤ days ∧ days ≤ 16 ∧ (∀ n ∈ lot, n < rs.length) ∧ (∀ r ∈ rs, r.In days) ∧ ∀ r : Rw, r.In days → r.u = true → k (rowD r)
theorem or_zero {a b : Nat} : a ||| b = 0 ↔ a = 0 ∧ b = 0 := by
  constructor
  · intro h
    have h1 : a ≤ a ||| b := Nat.left_le_or
    have h2 : b ≤ a ||| b := Nat.right_le_or
    omega
  · rintro ⟨rfl, rfl⟩
    rfl
theorem ok__law_blunter (W : Wf P w K mg base) : FnR P w K mg base (L2.CX P w) 2 (d__law_blunter.at_ K) (spS K S__law_blunter) := by
  have c__law_joined := cc__law_joined W
  have c__law_draw := cc__law_draw W
  refine W.fnS in__law_blunter sc__law_blunter (fun fd F => F.bindsN fun _ _ _ _ _ _ us hl => match us, hl with | [_, _, _, _], _ => rfl) (fun ds k h => by first | (obtain ⟨rfl, _⟩ := h; rfl) | (obtain ⟨_, rfl, _⟩ := h; rfl) | (obtain ⟨_, _, rfl, _⟩ := h; rfl) | (obtain ⟨_, _, _, rfl, _⟩ := h; rfl) | (obtain ⟨_, _, _, _, rfl, _⟩ := h; rfl) | (obtain ⟨_, _, _, _, _, rfl, _⟩ := h; rfl) | (obtain ⟨_, _, _, _, _, _, rfl, _⟩ := h; rfl) | (obtain ⟨_, _, _, _, _, _, _, rfl, _⟩ := h; rfl) | (obtain ⟨_, _, _, _, _, _, _, _, rfl, _⟩ := h; rfl) | (obtain ⟨_, _, _, _, _, _, _, _, _, rfl, _⟩ := h; rfl)) fun cdv A outer s H E hR F sa ds kk hF hsa h => ?_
  subst hF
  obtain ⟨days, rs, lot, rfl, h1, h2, hn, hr, q⟩ := h
  have hp := Nat.one_le_two_pow (n := days)
  have h2p : 2 ≤ 2 ^ days := Nat.pow_le_pow_right (n := 2) (by decide) h1
  have h16 : 2 ^ days ≤ 2 ^ 16 := Nat.pow_le_pow_right (by decide) h2
  refine ⟨_, (pss_cons (ps_asg (pe_f c__law_joined hR (by decide) rfl passL (pa_cons (pv 2) (pa_cons (pv 3) pa_nil))) (pg_tupK (K := F.K) (n := 2) rfl (by rfl) (pgs_cons (pg_name (i := 4) sc__law_blunter.nd rfl (Or.inl rfl)) (pgs_cons (pg_name (i := 5) sc__law_blunter.nd rfl (Or.inl rfl)) pgs_nil))))
  (pss_cons (ps_set (i := 6) sc__law_blunter.nd rfl (Or.inl rfl) (pe_op op_and (pv 5) (pe_op op_or (pe_f c__law_draw hR (by decide) rfl passL (pa_cons (pv 0) (pa_cons (pe_op op_shl pe_int (pv 1)) pa_nil))) (pe_f c__law_draw hR (by decide) rfl passL (pa_cons (pv 0) (pa_cons (pe_op op_shl pe_int (pv 1)) pa_nil))))))
  (pss_cons (ps_if (pt_cmpR (op_eqX hR.units : OpR _ _ (rEqX F.K)) (pv 6) pe_int (nomark _))
  (pss_one (ps_set (i := 6) sc__law_blunter.nd rfl (Or.inl rfl) (pe_op op_and (pv 5) (pe_un un_neg (pv 5)))))
  pss_nil)
  (pss_cons (ps_set (i := 7) sc__law_blunter.nd rfl (Or.inl rfl) (pe_op op_and (pe_op op_or (pv 4) (pe_op op_and (pe_f c__law_draw hR (by decide) rfl passL (pa_cons (pv 0) (pa_cons (pe_op op_shl pe_int (pv 1)) pa_nil))) (pe_f c__law_draw hR (by decide) rfl passL (pa_cons (pv 0) (pa_cons (pe_op op_shl pe_int (pv 1)) pa_nil))))) (pe_un un_inv (pv 6))))
  (pss_cons (ps_if (pt_cmpR (op_eqX hR.units : OpR _ _ (rEqX F.K)) (pe_op op_or (pv 6) (pv 7)) pe_int (nomark _))
  (pss_one (ps_set (i := 7) sc__law_blunter.nd rfl (Or.inl rfl) pe_int))
  pss_nil)
  (pss_one (ps_ret (pe_tup (pa_cons (pe_op op_or (pv 6) (pv 7)) (pa_cons (pv 7) (pa_cons pe_bl pa_nil))))))))))), ?_⟩
  try dsimp only [Xof, cxOf, Cx.nox, Cx.wish, Cx.blk]
  repeat walk_at "d"
  apply s_asgT
  repeat walk_at "d"
  refine ⟨rs, lot, _, rfl, .inr rfl, hn, ?_⟩
  refine ⟨_, g_tup rfl (gs_cons g_name (gs_cons g_name gs_nil)), ?_⟩
  have hB : (jn (pick rs lot)).2 < 2 ^ days := by
    rw [jn_eq]
    exact jB_lt fun r h => hr r (pick_mem h)
  have hC : (jn (pick rs lot)).1 < 2 ^ days := by
    rw [jn_eq]
    exact nd_lt (jU_lt fun r h => hr r (pick_mem h))
  generalize (jn (pick rs lot)).2 = bb at hB
  generalize (jn (pick rs lot)).1 = cc at hC
  repeat walk_at "d0"
  apply ro_shl_n (by omega)
  repeat walk_at "d0"
  refine ⟨_, rfl, by omega, by omega, fun r1 hr1 => ?_⟩
  repeat walk_at "d0"
  apply ro_shl_n (by omega)
  repeat walk_at "d0"
  refine ⟨_, rfl, by omega, by omega, fun r2 hr2 => ?_⟩
  repeat walk_at "d0"
  refine s_ifset (i := 6) (fun v => v < 2 ^ days) rfl (and_lt hB) ?_ ?_
  · repeat walk_at "d"
    intro _
    repeat walk_at "d"
    obtain ⟨z, ez, hz⟩ := low_bit bb
    rw [ez]
    exact ⟨z, rfl, by omega⟩
  intro less hless
  repeat walk_at "d0"
  apply ro_shl_n (by omega)
  repeat walk_at "d0"
  refine ⟨_, rfl, by omega, by omega, fun r3 hr3 => ?_⟩
  repeat walk_at "d0"
  apply ro_shl_n (by omega)
  repeat walk_at "d0"
  refine ⟨_, rfl, by omega, by omega, fun r4 hr4 => ?_⟩
  repeat walk_at "d0"
  have hm : nd (cc ||| r3 &&& r4) less < 2 ^ days := nd_lt (or_lt hC (and_lt hr3))
  refine s_ifset2 (i := 7) (fun v => v < 2 ^ days ∧ 1 ≤ less ||| v) rfl ?_ ?_
  · repeat walk_at "d"
    refine ite2 (fun h => ?_) (fun h => ?_)
    · repeat walk_at "d"
      exact ⟨by omega, Nat.right_le_or⟩
    · refine ⟨hm, ?_⟩
      have : less ||| nd (cc ||| r3 &&& r4) less ≠ 0 := by simpa using h
      omega
  rintro more ⟨hm1, hm2⟩
  repeat walk_at "d"
  refine q ⟨less ||| more, more, true⟩ ⟨hm2, or_lt hless hm1, hm1⟩ rfl
theorem cc__law_blunter (W : Wf P w K mg base) : Fnc P w K mg base 2 "_law_blunter" (spS K S__law_blunter) := W.fnc in__law_blunter (fun _ => rfl) (j := 56) rfl (ok__law_blunter W)
def S__law_asked : List D → (D → Prop) → Prop := fun ds k => ∃ (days : Nat) (rs : List Rw), ds = [nD days, .lst (rs.map rowD)] ∧ 1 ≤ days ∧ days ≤ 16 ∧ rs.length ≤ 12 ∧ (∀ r ∈ rs, r.In days) ∧ ∀ r : Rw, r.In days → r.u = true → k (rowD r)
theorem ok__law_asked (W : Wf P w K mg base) : FnR P w K mg base (L2.CX P w) 3 (d__law_asked.at_ K) (spS K S__law_asked) := by
  have c__law_blunter := cc__law_blunter W
  have c__law_draw := cc__law_draw W
  have c__law_one := cc__law_one W
  refine W.fnS in__law_asked sc__law_asked (fun fd F => F.bindsN fun _ _ _ _ _ _ us hl => match us, hl with | [_, _, _], _ => rfl) (fun ds k h => by first | (obtain ⟨rfl, _⟩ := h; rfl) | (obtain ⟨_, rfl, _⟩ := h; rfl) | (obtain ⟨_, _, rfl, _⟩ := h; rfl) | (obtain ⟨_, _, _, rfl, _⟩ := h; rfl) | (obtain ⟨_, _, _, _, rfl, _⟩ := h; rfl) | (obtain ⟨_, _, _, _, _, rfl, _⟩ := h; rfl) | (obtain ⟨_, _, _, _, _, _, rfl, _⟩ := h; rfl) | (obtain ⟨_, _, _, _, _, _, _, rfl, _⟩ := h; rfl) | (obtain ⟨_, _, _, _, _, _, _, _, rfl, _⟩ := h; rfl) | (obtain ⟨_, _, _, _, _, _, _, _, _, rfl, _⟩ := h; rfl)) fun cdv A outer s H E hR F sa ds kk hF hsa h => ?_
  subst hF
  obtain ⟨days, rs, rfl, h1, h2, h3, hr, q⟩ := h
  refine ⟨_, (pss_cons (ps_if (pt_cmpR (op_eqX hR.units : OpR _ _ (rEqX F.K)) (pe_f c__law_draw hR (by decide) rfl passL (pa_cons (pv 0) (pa_cons pe_int pa_nil))) pe_int (nomark _))
  (pss_one (ps_ret (pe_f c__law_one hR (by decide) rfl passL (pa_cons (pv 0) (pa_cons (pv 1) (pa_cons pe_int (pa_cons (pe_lst pa_nil) pa_nil)))))))
  pss_nil)
  (pss_cons (ps_setLc (i := 3) (own := [("_law_number", 4)]) (by rfl) sc__law_asked.nd rfl rfl (sw_true rfl rfl rfl (by decide +kernel)) (pi_range1 rfl (W.free 8 _ rfl) (pa_cons (pe_callB (cr_lenX : CallR _ _ (rLenX F.K)) rfl (W.free 0 _ rfl) boot_len (pa_cons (pv 2) pa_nil)) pa_nil)) (blkOk_by (N := n__law_asked) (sc := defScope s__law_asked) (own := [("_law_number", 4)]) (by decide +kernel)) (fun _ _ _ _ _ => (pg_name (i := 4) sc__law_asked.nd rfl (Or.inl rfl))) (fun _ _ _ _ _ => (pts_one (pt_cmpR op_gt (pe_f c__law_draw hR (by decide) rfl passL (pa_cons (pv 0) (pa_cons pe_int pa_nil))) pe_int (nomark _)))) (fun _ _ _ _ _ => (pv 4)))
  (pss_one (ps_ret (pe_f c__law_blunter hR (by decide) rfl passL (pa_cons (pv 0) (pa_cons (pv 1) (pa_cons (pv 2) (pa_cons (pv 3) pa_nil))))))))), ?_⟩
  try dsimp only [Xof, cxOf, Cx.nox, Cx.wish, Cx.blk]
  repeat walk_at "d"
  refine ⟨3, rfl, by omega, by omega, fun r hr3 => ?_⟩
  repeat walk_at "d"
  refine ite2 (fun _ => ?_) (fun _ => ?_)
  · repeat walk_at "d"
    exact ⟨days, 0, [], rfl, h1, h2, .inl rfl, fun x hx hu => q x hx hu⟩
  · repeat walk_at "d"
    apply EvN.ev
    apply en_lc (un_of rfl)
    apply ei_rng1
    repeat walk_at "d"
    rw [List.length_map]
    refine ⟨by omega, fun i acc => ∃ xs : List Nat, xs.length ≤ i ∧ (∀ n ∈ xs, n < rs.length) ∧ acc = xs.map nD, ⟨[], Nat.le_refl _, (fun n hn => by cases hn), rfl⟩, ?_, ?_⟩
    · rintro i d acc hi ⟨xs, hx, hxs, rfl⟩
      obtain ⟨rfl, hi2⟩ := ints_at hi
      refine ⟨_, mem_of rfl, g_name, ?_⟩
      repeat walk_at "d"
      refine ⟨3, rfl, by omega, by omega, fun r hr3 => ?_⟩
      repeat walk_at "d"
      refine ite2 (fun _ => ?_) (fun _ => ⟨xs, by omega, hxs, rfl⟩)
      repeat walk_at "d"
      refine ⟨by rw [List.length_map]; omega, xs ++ [i], by rw [List.length_append]; exact Nat.succ_le_succ hx, fun n hn => ?_, by rw [List.map_append]; rfl⟩
      rcases List.mem_append.mp hn with hn | hn
      · exact hxs n hn
      · have : n = i := by simpa using hn
        rw [this]
        exact hi2
    · rintro acc ⟨xs, hx, hxs, rfl⟩
      repeat walk_at "d"
      exact ⟨days, rs, xs, rfl, h1, h2, hxs, hr, fun x hx hu => q x hx hu⟩
theorem cc__law_asked (W : Wf P w K mg base) : Fnc P w K mg base 3 "_law_asked" (spS K S__law_asked) := W.fnc in__law_asked (fun _ => rfl) (j := 57) rfl (ok__law_asked W)
end
end K33
namespace K33
open PySem PySem.Spec PyProof.Rows L2
/-- a block that answers by a new list -/
def SN (F : Fm) (ts : TS) (ρ : List Sl) (kk : List D → Prop) : Prop := ∀ B H σ, EnvOk F B H σ ρ → ∀ En : Ends, (∀ xs p us B' H', kk xs → Bs F B' H' → F.H0 p = none → B' p = none → H' p = some (.lst us) → RepL F.K B' xs us → En.rt (.ref p) H') → ts En σ H
theorem cutD_map {α : Type} {f : α → D} {l : List α} {lo hi : Option Int} : cutD (l.map f) lo hi = ((l.drop (HT.sIx l.length 0 lo)).take (HT.sIx l.length l.length hi - HT.sIx l.length 0 lo)).map f := by
  unfold cutD
  rw [List.length_map, List.map_take, List.map_drop]
section
variable {F : Fm} {ρ : List Sl} {kk : List D → Prop} {u ts : TS} {te : TE}
theorem sn_seq (h : SOk F u ρ (fun ρ' => SN F ts ρ' kk) fun _ => False) : SN F (tSeq u ts) ρ kk := fun B H σ E En hr =>
  h B H σ E { En with nx := ts En } (fun ρ' B1 H1 σ1 n _ E1 => n B1 H1 σ1 E1 En hr) fun d v B' H' z => z.elim
theorem sn_ret (h : EvN F te ρ kk) : SN F (tRet te) ρ kk := fun B H σ E En hr => h B H σ E _ fun xs p us B' H' q S hp hB hH r => hr xs p us B' H' q S.env.bs (E.bs.new hp) hB hH r
end
section
variable {P : Program} {w : World} {K : PySem.W.Frag} {mg : PySem.Str → Option Value} {base : Heap}
theorem Wf.fnN2 (W : Wf P w K mg base) {i : Nat} {d : He5.DefA} (hd : fnl[i]? = some d) {N ps : List PySem.Str} {k : Nat} {S : List D → (List D → Prop) → Prop} (sc : FnScope N ps d.scope) (hb : ∀ fd, FunD K d.name d.qual d.params d.body d.scope (d.dvs K) (d.kws K) (d.at_ K) fd → Binds K fd ps [])
    (len : ∀ ds k, S ds k → ds.length = ps.length)
    (hbody : ∀ cdv A outer s H E, Room k (A.deeper (envOfC d.qual d.scope s.heap.objs.size (d.at_ K) cdv)) → ∀ (F : Fm) ds kk, F.K = K → S ds kk → ∃ t, PSs (Xof P w K mg base N d cdv A outer s H E).nox d.body t ∧ SN F t (ρ0 N ds) kk) :
    FnR P w K mg base (L2.CX P w) (k + 1) (d.at_ K) (spN K S) :=
  W.fnN hd sc hb len fun cdv A outer s H E hR F ds kk hF h => by
    obtain ⟨t, h1, h2⟩ := hbody cdv A outer s H E hR F ds kk hF h
    exact ⟨t, h1, fun En σ H' E0 e0 q => h2 _ H' σ E0 En q⟩
local macro_rules | `(tactic| walk_at "d0") => `(tactic| first
  | ((with_reducible apply ev_var); rfl)
  | with_reducible apply ev_int
  | with_reducible apply ev_bl
  | with_reducible apply ev_str
  | with_reducible apply ev_non
  | with_reducible apply s_seq
  | with_reducible apply s_ret
  | with_reducible apply s_asg
  | with_reducible apply s_next
  | ((with_reducible apply s_app); rfl)
  | with_reducible apply s_drop
  | ((with_reducible apply src_0); rfl; intro _)
  | ((with_reducible apply src_1); rfl; intro _ _ _)
  | ((with_reducible apply src_2); rfl; intro _)
  | ((with_reducible apply s_setSrc0); rfl)
  | ((with_reducible apply s_setSrc2); rfl)
  | ((with_reducible apply ev_callS); rfl)
  | ((with_reducible apply ev_opO); rfl)
  | ((with_reducible apply ev_ixO); rfl)
  | with_reducible apply ev_op
  | with_reducible apply ev_un
  | with_reducible apply et_test
  | with_reducible apply et_B
  | with_reducible apply et_truI
  | with_reducible apply et_and
  | with_reducible apply et_or
  | with_reducible apply et_not
  | with_reducible apply ea_nil
  | with_reducible apply ea_cons
  | with_reducible apply ro_nd_n
  | with_reducible apply ro_and_n
  | with_reducible apply ro_or_n
  | with_reducible apply ro_shr_n
  | with_reducible apply ro_eq_0
  | with_reducible apply ro_ne_0
  | with_reducible apply ro_eq_n
  | with_reducible apply ro_ne_n
  | with_reducible apply ro_add_n
  | with_reducible apply ro_add_1
  | with_reducible apply ro_I0
  | with_reducible apply ro_B0
  | with_reducible apply ro_un
  | ((with_reducible apply ro_isN); rfl)
  | ((with_reducible apply ro_notN); rfl)
  | with_reducible apply ro_eq_t0
  | with_reducible apply ro_ne_lt0
  | with_reducible apply ro_ne_l0
  | with_reducible apply ro_ne_tt
  | with_reducible apply ro_eq_tt
  | with_reducible apply ro_ne_t
  | with_reducible apply ro_eq_i
  | with_reducible apply ro_ne_i
  | with_reducible apply ro_eq_s
  | with_reducible apply ro_add
  | ((with_reducible apply ro_ixT); rfl)
  | ((with_reducible apply ro_ixL); rfl)
  | with_reducible apply ev_list
  | with_reducible apply ev_tuple
  | with_reducible apply ev_sortset
  | with_reducible apply ev_isLT
  | ((with_reducible apply ev_cbO); rfl)
  | with_reducible apply ev_cb
  | with_reducible apply ev_call
  | ((with_reducible apply ev_fldM); rfl; exact Wf.kc2 (by assumption) (by decide +kernel); rfl)
  | with_reducible apply ev_fld
  | with_reducible apply ev_and
  | with_reducible apply ev_or
  | with_reducible apply ev_notV
  | with_reducible apply ev_if
  | with_reducible apply ev_chain
  | with_reducible apply ev_tup
  | with_reducible apply ev_lst
  | with_reducible apply ev_make
  | ((with_reducible apply ev_cm0); exact exok0)
  | ((with_reducible apply ev_cm); exact exok0)
  | ((with_reducible apply ev_meth0); exact exok0)
  | ((with_reducible apply ev_meth); exact exok0)
  | ((with_reducible apply ro_subO); exact exok0)
  | ((with_reducible apply ro_addO); exact exok0)
  | ((with_reducible apply rc_lenO); exact exok0)
  | ((with_reducible apply ev_prop); exact exok0)
  | with_reducible apply rc_int
  | with_reducible apply rc_lenL
  | with_reducible apply rc_lenT
  | ((with_reducible apply rc_is_int); (exact rfl))
  | ((with_reducible apply rc_is_bl); (exact rfl))
  | ((with_reducible apply rc_is_str); (exact rfl))
  | ((with_reducible apply rc_is_tup); (exact rfl))
  | ((with_reducible apply s_fldM); rfl; exact Wf.kc2 (by assumption) (by decide +kernel); decide; rfl)
  | with_reducible apply et_yes
  | with_reducible apply ev_rawc
  | ((with_reducible apply ev_src); rfl)
  | ((with_reducible refine ⟨len_ok ?_, ?_⟩); rfl)
  | with_reducible refine ⟨rfl, ?_⟩
  | with_reducible refine ⟨⟨_, rfl⟩, ?_⟩
  | with_reducible refine ⟨_, rfl, ?_⟩
  | refine ⟨_, _, rfl, rfl, ?_⟩
  | refine ⟨_, _, _, _, rfl, Wf.kc2 (by assumption) (by decide +kernel), rfl, ?_⟩
  | ((with_reducible apply iteTr); rfl)
  | ((with_reducible apply iteFr); rfl)
  | dsimp only)
local macro_rules | `(tactic| walk_at "d") => `(tactic| first
  | walk_at "d0"
  | with_reducible apply s_if)
local macro_rules | `(tactic| walk_at "o") => `(tactic| first
  | ((with_reducible apply so_retO); rfl)
  | ((with_reducible apply et_notcallO); rfl)
  | ((with_reducible apply s_asgO); (with_reducible apply en_lst); (with_reducible apply ea_nil); refine ⟨len_ok rfl, ?_⟩)
  | walk_at "d")

local macro_rules | `(tactic| walk_at "x") => `(tactic| first
  | ((with_reducible apply ev_callX); assumption)
  | walk_at "o")
def S__law_source : List D → (List D → Prop) → Prop := fun ds k => ∃ (ns : List Int) (at' : Nat), ds = [.sq ns, nD at'] ∧ at' ≤ 1 ∧ ∀ c n : Int, 0 ≤ n → n < 2147483647 → k [.int c, .int n, .int 0]
theorem ok__law_source (W : Wf P w K mg base) : FnR P w K mg base (L2.CX P w) 1 (d__law_source.at_ K) (spN K S__law_source) := by
  refine W.fnN2 in__law_source sc__law_source (fun fd F => F.bindsN fun _ _ _ _ _ _ us hl => match us, hl with | [_, _], _ => rfl) (fun ds k h => by first | (obtain ⟨rfl, _⟩ := h; rfl) | (obtain ⟨_, rfl, _⟩ := h; rfl) | (obtain ⟨_, _, rfl, _⟩ := h; rfl) | (obtain ⟨_, _, _, rfl, _⟩ := h; rfl) | (obtain ⟨_, _, _, _, rfl, _⟩ := h; rfl) | (obtain ⟨_, _, _, _, _, rfl, _⟩ := h; rfl) | (obtain ⟨_, _, _, _, _, _, rfl, _⟩ := h; rfl) | (obtain ⟨_, _, _, _, _, _, _, rfl, _⟩ := h; rfl) | (obtain ⟨_, _, _, _, _, _, _, _, rfl, _⟩ := h; rfl) | (obtain ⟨_, _, _, _, _, _, _, _, _, rfl, _⟩ := h; rfl)) fun cdv A outer s H E hR F ds kk hF h => ?_
  subst hF
  obtain ⟨ns, at', rfl, h1, q⟩ := h
  refine ⟨_, (pss_cons (ps_set (i := 2) sc__law_source.nd rfl (Or.inl rfl) (pe_ifExp (pt_cmpR op_lt (pv 1) (pe_callB (cr_lenX : CallR _ _ (rLenX F.K)) rfl (W.free 0 _ rfl) boot_len (pa_cons (pv 0) pa_nil)) (nomark _)) (pe_callB call_abs rfl (W.free 16 _ rfl) (by decide +kernel) (pa_cons (pe_ix (ix_seq : IxR _ (rIx F.K)) (pv 0) (pv 1) (fun _ _ => rfl)) pa_nil)) pe_int))
  (pss_cons (ps_set (i := 3) sc__law_source.nd rfl (Or.inl rfl) (pe_op (op_addX : OpR _ _ (rAddX F.K)) pe_int (pe_op op_mulX2 pe_int (pv 1))))
  (pss_cons (ps_for PassesOwn.never rfl (pi_enumX (by rfl) (W.free 9 _ rfl) (pa_cons (pe_slice sl_list (pv 0) po_none (po_some pe_int)) pa_nil)) (pg_tupK (K := F.K) (n := 2) rfl (by rfl) (pgs_cons (pg_name (i := 4) sc__law_source.nd rfl (Or.inl rfl)) (pgs_cons (pg_name (i := 5) sc__law_source.nd rfl (Or.inl rfl)) pgs_nil)))
  (pss_one (ps_set (i := 3) sc__law_source.nd rfl (Or.inl rfl) (pe_op op_mod (pe_callTy call_int1 rfl (W.free 2 _ rfl) (by decide +kernel) (pa_cons (pe_op (op_addX : OpR _ _ (rAddX F.K)) (pe_op (op_addX : OpR _ _ (rAddX F.K)) (pe_op op_mulX2 (pv 3) pe_int) (pe_op op_mod (pe_callTy call_int1 rfl (W.free 2 _ rfl) (by decide +kernel) (pa_cons (pv 5) pa_nil)) pe_int)) (pe_op op_mulX2 pe_int (pv 4))) pa_nil)) pe_int))))
  (pss_one (ps_ret (pe_lst (pa_cons (pe_ifExp (pt_cmpR op_ge (pv 2) (pe_op op_pow pe_int pe_int) (nomark _)) (pv 2) pe_int) (pa_cons (pv 3) (pa_cons pe_int pa_nil))))))))), ?_⟩
  try dsimp only [Xof, cxOf, Cx.nox, Cx.wish, Cx.blk]
  have fin : ∀ c n : Int, 0 ≤ n → n < 2147483647 → ∀ z, EvN F (tLst (tCons (tIf (tTest (tOp (rI0 fun i j => V.bl (decide (j ≤ i))) (tVar 2) (tOp (rI CPow fun i j => V.int (i ^ j.toNat)) (tC (V.int 10)) (tC (V.int 18))))) (tVar 2) (tC (V.int 0))) (tCons (tVar 3) (tCons (tC (V.int 0)) tNil)))) ([.val (.sq ns), .val (nD at'), .val (.int c), .val (.int n)] ++ z) kk := fun c n hn1 hn2 z => by
    apply en_lst
    repeat walk_at "d"
    refine ro_I ⟨by decide, by decide, by decide⟩ ?_
    repeat walk_at "d"
    refine ite2 (fun _ => ?_) (fun _ => ?_)
    · repeat walk_at "d"
      exact q c n hn1 hn2
    · repeat walk_at "d"
      exact q 0 n hn1 hn2
  apply sn_seq
  apply s_asg
  refine EvD.imp (k := fun d => ∃ c : Int, d = .int c) ?_ ?_
  · repeat walk_at "d"
    apply rc_lenQ
    repeat walk_at "d"
    refine ite2 (fun h => ?_) (fun h => ?_)
    · repeat walk_at "d"
      have hl : at' < ns.length := by
        have := of_decide_eq_true h
        omega
      apply ro_ixQ (atI_nat (List.getElem?_eq_getElem hl))
      repeat walk_at "d"
      apply rc_abs
      exact ⟨_, rfl⟩
    · repeat walk_at "d"
      exact ⟨_, rfl⟩
  rintro d ⟨c, rfl⟩
  apply sn_seq
  repeat walk_at "d"
  apply ro_mul1 (.inl (by omega))
  repeat walk_at "d"
  apply sn_seq
  apply s_for
  apply ei_enum
  apply ea_cons
  apply EvN.ev
  apply en_slQ
  repeat walk_at "d"
  apply eo_no
  apply eo_some
  repeat walk_at "d"
  rw [cutD_map]
  refine ⟨_, .inl rfl, fun i ρ => ∃ n y z, ρ = [.val (.sq ns), .val (nD at'), .val (.int c), .val (.int n), y, z] ∧ 0 ≤ n ∧ n < 2147483647, ⟨_, _, _, rfl, by omega, by omega⟩, ?_, ?_⟩
  · rintro i d ρ' hi ⟨n, y, z, rfl, hn1, hn2⟩
    obtain ⟨x, e, rfl⟩ := enumD_at hi
    obtain ⟨m, em, rfl⟩ := map_at e
    refine ⟨_, g_tup rfl (gs_cons g_name (gs_cons g_name gs_nil)), ?_⟩
    repeat walk_at "d"
    apply ro_mul1 (.inr (by omega))
    repeat walk_at "d"
    refine ro_mod_i (by omega) fun z1 h0 h1 => ?_
    repeat walk_at "d"
    apply ro_mul1 (.inl (by omega))
    repeat walk_at "d"
    refine ro_mod_i (by omega) fun z2 h0 h1 => ?_
    exact ⟨z2, _, _, rfl, h0, h1⟩
  · rintro ρ' ⟨n, y, z, rfl, hn1, hn2⟩
    exact sn_ret (fin c n hn1 hn2 [y, z])
theorem cc__law_source (W : Wf P w K mg base) : Fnc P w K mg base 1 "_law_source" (spN K S__law_source) := W.fnc in__law_source (fun _ => rfl) (j := 38) rfl (ok__law_source W)
/-! ### levels -/
abbrev lN (l : List Nat) : D := .lst (l.map nD)
def S__law_all_levels : List D → (D → Prop) → Prop := fun ds k => ∃ n : Nat, ds = [nD n] ∧ n ≤ 4 ∧ ∀ ls : List (List Nat), k (.lst (ls.map lN))
def lvb : Nat → Nat
  | 0 => 1
  | i + 1 => lvb i * 2 ^ (i + 1)
theorem lvb_le : ∀ i, i < 6 → lvb i ≤ 40000 := by decide +kernel
theorem sl_hi {F : Fm} {ρ : List Sl} {k : D → Prop} {a : Nat} {l : List Nat} {te : TE} (ha : ρ[a]? = some (.val (lN l))) (h : EvD F te ρ fun d => ∃ i, d = .int i ∧ ∀ x : List Nat, x.length ≤ l.length → k (lN x)) : EvD F (tSl (rSlL F.K) (tVar a) tNoPart (tPart te)) ρ k := by
  apply EvN.ev
  apply en_sl
  apply ev_var ha
  refine ⟨_, rfl, eo_no (eo_some (h.imp fun d ⟨i, e, g⟩ => ⟨i, e, ?_⟩))⟩
  rw [cutD_map]
  exact g _ (Nat.le_trans (List.length_take_le' _ _) (by rw [List.length_drop]; omega))
theorem sl_lo {F : Fm} {ρ : List Sl} {k : D → Prop} {a : Nat} {l : List Nat} {te : TE} (ha : ρ[a]? = some (.val (lN l))) (h : EvD F te ρ fun d => ∃ i, d = .int i ∧ ∀ x : List Nat, x.length ≤ l.length → k (lN x)) : EvD F (tSl (rSlL F.K) (tVar a) (tPart te) tNoPart) ρ k := by
  apply EvN.ev
  apply en_sl
  apply ev_var ha
  refine ⟨_, rfl, eo_some (h.imp fun d ⟨i, e, g⟩ => ⟨i, e, eo_no ?_⟩)⟩
  rw [cutD_map]
  exact g _ (Nat.le_trans (List.length_take_le' _ _) (by rw [List.length_drop]; omega))
theorem ro_cat1 {F : Fm} {ρ : List Sl} {k : D → Prop} {x : List Nat} {v : Nat} (hx : x.length ≤ 1000) (q : k (lN (x ++ [v]))) : ROp F (rAddX F.K) ρ (lN x) (.lst [.int (v : Int)]) k := by
  apply ro_cat (by rw [List.length_map]; show x.length + 1 ≤ _; omega)
  have e : x.map nD ++ [.int (v : Int)] = (x ++ [v]).map nD := by
    rw [List.map_append]
    rfl
  rw [e]
  exact q
theorem ro_cat2 {F : Fm} {ρ : List Sl} {k : D → Prop} {x y : List Nat} (hx : x.length + y.length ≤ 100000) (q : k (lN (x ++ y))) : ROp F (rAddX F.K) ρ (lN x) (lN y) k := by
  apply ro_cat (by rw [List.length_map, List.length_map]; exact hx)
  rw [← List.map_append]
  exact q
theorem ok__law_all_levels (W : Wf P w K mg base) : FnR P w K mg base (L2.CX P w) 1 (d__law_all_levels.at_ K) (spD K fun ds k _ => S__law_all_levels ds k) := by
  refine W.fnD in__law_all_levels sc__law_all_levels (fun fd F => F.bindsN fun _ _ _ _ _ _ us hl => match us, hl with | [_], _ => rfl) (fun ds k h => by first | (obtain ⟨rfl, _⟩ := h; rfl) | (obtain ⟨_, rfl, _⟩ := h; rfl) | (obtain ⟨_, _, rfl, _⟩ := h; rfl) | (obtain ⟨_, _, _, rfl, _⟩ := h; rfl) | (obtain ⟨_, _, _, _, rfl, _⟩ := h; rfl) | (obtain ⟨_, _, _, _, _, rfl, _⟩ := h; rfl) | (obtain ⟨_, _, _, _, _, _, rfl, _⟩ := h; rfl) | (obtain ⟨_, _, _, _, _, _, _, rfl, _⟩ := h; rfl) | (obtain ⟨_, _, _, _, _, _, _, _, rfl, _⟩ := h; rfl) | (obtain ⟨_, _, _, _, _, _, _, _, _, rfl, _⟩ := h; rfl)) fun cdv A outer s H E hR F ds kk hF h => ?_
  subst hF
  obtain ⟨n, rfl, hn, q⟩ := h
  refine ⟨_, (pss_cons (ps_set (i := 1) sc__law_all_levels.nd rfl (Or.inl rfl) (pe_lst (pa_cons (pe_lst pa_nil) pa_nil)))
  (pss_cons (ps_for PassesOwn.never rfl (pi_range1 rfl (W.free 8 _ rfl) (pa_cons (pv 0) pa_nil)) (pg_name (i := 2) sc__law_all_levels.nd rfl (Or.inl rfl))
  (pss_cons (ps_set (i := 3) sc__law_all_levels.nd rfl (Or.inl rfl) (pe_lst pa_nil))
  (pss_cons (ps_for PassesOwn.never rfl (pi_seqK (K := F.K) rfl (pv 1)) (pg_name (i := 4) sc__law_all_levels.nd rfl (Or.inl rfl))
  (pss_one (ps_for PassesOwn.never rfl (pi_range1 rfl (W.free 8 _ rfl) (pa_cons (pe_op (op_addX : OpR _ _ (rAddX F.K)) (pe_callB (cr_lenX : CallR _ _ (rLenX F.K)) rfl (W.free 0 _ rfl) boot_len (pa_cons (pv 4) pa_nil)) pe_int) pa_nil)) (pg_name (i := 5) sc__law_all_levels.nd rfl (Or.inl rfl))
  (pss_cons (ps_expr (pe_bm PySem.F.plainAttrs_list PySem.F.slot_list_append PySem.F.type_list_append mt_append (pv 3) (pa_cons (pe_op (op_addX : OpR _ _ (rAddX F.K)) (pe_op (op_addX : OpR _ _ (rAddX F.K)) (pe_slice sl_list (pv 4) po_none (po_some (pv 5))) (pe_lst (pa_cons (pe_op op_shl pe_int (pv 2)) pa_nil))) (pe_slice sl_list (pv 4) (po_some (pv 5)) po_none)) pa_nil)))
  (pss_one (ps_if (pt_cmpR op_lt (pv 5) (pe_callB (cr_lenX : CallR _ _ (rLenX F.K)) rfl (W.free 0 _ rfl) boot_len (pa_cons (pv 4) pa_nil)) (nomark _))
  (pss_one (ps_expr (pe_bm PySem.F.plainAttrs_list PySem.F.slot_list_append PySem.F.type_list_append mt_append (pv 3) (pa_cons (pe_op (op_addX : OpR _ _ (rAddX F.K)) (pe_op (op_addX : OpR _ _ (rAddX F.K)) (pe_slice sl_list (pv 4) po_none (po_some (pv 5))) (pe_lst (pa_cons (pe_op op_or (pe_ix (ix_seq : IxR _ (rIx F.K)) (pv 4) (pv 5) (fun _ _ => rfl)) (pe_op op_shl pe_int (pv 2))) pa_nil))) (pe_slice sl_list (pv 4) (po_some (pe_op (op_addX : OpR _ _ (rAddX F.K)) (pv 5) pe_int)) po_none)) pa_nil))))
  pss_nil))))))
  (pss_one (ps_set (i := 1) sc__law_all_levels.nd rfl (Or.inl rfl) (pe_callTy call_list_of rfl (W.free 5 _ rfl) (by decide +kernel) (pa_cons (pv 3) pa_nil)))))))
  (pss_one (ps_ret (pv 1))))), ?_⟩
  try dsimp only [Xof, cxOf, Cx.nox, Cx.wish, Cx.blk]
  repeat walk_at "d"
  apply s_for
  apply ei_rng1
  repeat walk_at "d"
  refine ⟨by omega, fun i ρ => ∃ (ls : List (List Nat)) (x y z u : Sl), ρ = [.val (nD n), .val (.lst (ls.map lN)), x, y, z, u] ∧ ls.length ≤ lvb i ∧ ∀ l ∈ ls, l.length + 1 ≤ 2 ^ i, ⟨[[]], _, _, _, _, rfl, Nat.le_refl _, fun l hl => by
    have : l = [] := by simpa using hl
    rw [this]
    exact Nat.le_refl _⟩, ?_, ?_⟩
  · rintro i d ρ' hi ⟨ls, x, y, z, u, rfl, h1, h2⟩
    obtain ⟨rfl, hi2⟩ := ints_at hi
    have hb := lvb_le (i + 1) (by omega)
    have hb' : lvb (i + 1) = lvb i * 2 ^ (i + 1) := rfl
    have hpi : 2 ^ (i + 1) = 2 * 2 ^ i := by rw [Nat.pow_succ]; omega
    have hp16 : 2 ^ i ≤ 2 ^ 4 := Nat.pow_le_pow_right (by decide) (by omega)
    refine ⟨_, g_name, ?_⟩
    repeat walk_at "o"
    apply s_for
    apply ei_seq
    repeat walk_at "d"
    refine ⟨_, .inl rfl, fun j ρ => ∃ (ws : List (List Nat)) (z u : Sl), ρ = [.val (nD n), .val (.lst (ls.map lN)), .val (nD i), .own (ws.map lN), z, u] ∧ ws.length ≤ j * 2 ^ (i + 1) ∧ ∀ l ∈ ws, l.length + 1 ≤ 2 ^ (i + 1), ⟨[], _, _, rfl, Nat.zero_le _, fun l hl => by cases hl⟩, ?_, ?_⟩
    · rintro j d ρ' hj ⟨ws, z, u, rfl, h3, h4⟩
      obtain ⟨l, el, rfl⟩ := map_at hj
      have hll := h2 l (List.mem_of_getElem? el)
      have hjl := (List.getElem?_eq_some_iff.mp el).1
      have hbj : (j + 1) * 2 ^ (i + 1) ≤ lvb (i + 1) := by
        rw [hb']
        exact Nat.mul_le_mul_right _ (by omega)
      have hsj : (j + 1) * 2 ^ (i + 1) = j * 2 ^ (i + 1) + 2 ^ (i + 1) := by rw [Nat.succ_mul]
      refine ⟨_, g_name, ?_⟩
      apply s_for
      apply ei_rng1
      repeat walk_at "d"
      rw [List.length_map]
      repeat walk_at "d"
      refine ⟨by omega, fun m ρ => ∃ (ws : List (List Nat)) (u : Sl), ρ = [.val (nD n), .val (.lst (ls.map lN)), .val (nD i), .own (ws.map lN), .val (lN l), u] ∧ ws.length ≤ j * 2 ^ (i + 1) + 2 * m ∧ ∀ l ∈ ws, l.length + 1 ≤ 2 ^ (i + 1), ⟨ws, _, rfl, h3, h4⟩, ?_, ?_⟩
      · rintro m d ρ' hm ⟨ws, u, rfl, h5, h6⟩
        obtain ⟨rfl, hm2⟩ := ints_at hm
        have add : ∀ (ws : List (List Nat)) (z : List Nat), z.length ≤ 2 * l.length + 1 → (∀ l ∈ ws, l.length + 1 ≤ 2 ^ (i + 1)) → ∀ l ∈ ws ++ [z], l.length + 1 ≤ 2 ^ (i + 1) := fun ws z hz h l' hl' => by
          rcases List.mem_append.mp hl' with hl' | hl'
          · exact h l' hl'
          · have : l' = z := by simpa using hl'
            rw [this]
            omega
        refine ⟨_, g_name, ?_⟩
        repeat walk_at "d"
        · rw [List.length_map]
          omega
        apply ev_op
        apply ev_op
        apply sl_hi rfl
        apply ev_var rfl
        refine ⟨_, rfl, fun x hx => ?_⟩
        repeat walk_at "d"
        apply ro_shl_n (by omega)
        repeat walk_at "d"
        apply ro_cat1 (by omega)
        apply sl_lo rfl
        apply ev_var rfl
        refine ⟨_, rfl, fun y hy => ?_⟩
        apply ro_cat2 (by rw [List.length_append]; show x.length + 1 + y.length ≤ _; omega)
        have hz : (x ++ [2 ^ i] ++ y).length ≤ 2 * l.length + 1 := by
          rw [List.length_append, List.length_append]
          show x.length + 1 + y.length ≤ _
          omega
        have h7 := add ws _ hz h6
        have e7 : ws.map lN ++ [lN (x ++ [2 ^ i] ++ y)] = (ws ++ [x ++ [2 ^ i] ++ y]).map lN := by
          rw [List.map_append]
          rfl
        rw [e7]
        generalize x ++ [2 ^ i] ++ y = zz at h7
        have h8 : (ws ++ [zz]).length = ws.length + 1 := by
          rw [List.length_append]
          rfl
        generalize ws ++ [zz] = vs at h7 h8
        clear e7 hz
        repeat walk_at "d"
        rw [List.length_map]
        repeat walk_at "d"
        refine ite2 (fun hlt => ?_) (fun _ => s_next ⟨vs, _, rfl, by omega, h7⟩)
        have hml : m < l.length := by
          have := of_decide_eq_true hlt
          omega
        repeat walk_at "d"
        · rw [List.length_map]
          omega
        apply ev_op
        apply ev_op
        apply sl_hi rfl
        apply ev_var rfl
        refine ⟨_, rfl, fun x hx => ?_⟩
        repeat walk_at "d"
        apply ro_ixL (atI_map (List.getElem?_eq_getElem hml))
        repeat walk_at "d"
        apply ro_shl_n (by omega)
        repeat walk_at "d"
        apply ro_cat1 (by omega)
        apply sl_lo rfl
        repeat walk_at "d"
        intro y hy
        apply ro_cat2 (by rw [List.length_append]; show x.length + 1 + y.length ≤ _; omega)
        refine ⟨vs ++ [x ++ [l[m] ||| 2 ^ i] ++ y], _, by rw [List.map_append]; rfl, by rw [List.length_append]; show vs.length + 1 ≤ _; omega, add vs _ ?_ h7⟩
        rw [List.length_append, List.length_append]
        show x.length + 1 + y.length ≤ _
        omega
      · rintro ρ' ⟨ws, u, rfl, h5, h6⟩
        rw [ints_len] at h5
        exact ⟨ws, _, _, rfl, by omega, h6⟩
    · rintro ρ' ⟨ws, z, u, rfl, h3, h4⟩
      rw [List.length_map] at h3
      with_reducible apply so_freeze 3
      rfl
      repeat walk_at "d"
      refine ⟨_, .inl rfl, ws, _, _, _, _, rfl, ?_, h4⟩
      rw [hb']
      exact Nat.le_trans h3 (Nat.mul_le_mul_right _ h1)
  · rintro ρ' ⟨ls, x, y, z, u, rfl, h1, h2⟩
    repeat walk_at "d"
    exact q ls
theorem cc__law_all_levels (W : Wf P w K mg base) : Fnc P w K mg base 1 "_law_all_levels" (spD K fun ds k _ => S__law_all_levels ds k) := W.fnc in__law_all_levels (fun _ => rfl) (j := 41) rfl (ok__law_all_levels W)
def normN (l : List Nat) (w : Nat) : Nat := ((l.find? fun l => decide (l &&& w ≠ 0)).getD 0) &&& w
def keptB (l : List Nat) (r : Rw) : Bool := decide (decide (nd (normN l r.w) r.t = 0) = r.u)
def S__law_kept : List D → (D → Prop) → Prop := fun ds k => ∃ (l : List Nat) (r : Rw), ds = [lN l, rowD r] ∧ k (.bl (keptB l r))
theorem ok__law_kept (W : Wf P w K mg base) : FnR P w K mg base (L2.CX P w) 2 (d__law_kept.at_ K) (spD K fun ds k _ => S__law_kept ds k) := by
  have c__law_normal := cc__law_normal W
  refine W.fnD in__law_kept sc__law_kept (fun fd F => F.bindsN fun _ _ _ _ _ _ us hl => match us, hl with | [_, _], _ => rfl) (fun ds k h => by first | (obtain ⟨rfl, _⟩ := h; rfl) | (obtain ⟨_, rfl, _⟩ := h; rfl) | (obtain ⟨_, _, rfl, _⟩ := h; rfl) | (obtain ⟨_, _, _, rfl, _⟩ := h; rfl) | (obtain ⟨_, _, _, _, rfl, _⟩ := h; rfl) | (obtain ⟨_, _, _, _, _, rfl, _⟩ := h; rfl) | (obtain ⟨_, _, _, _, _, _, rfl, _⟩ := h; rfl) | (obtain ⟨_, _, _, _, _, _, _, rfl, _⟩ := h; rfl) | (obtain ⟨_, _, _, _, _, _, _, _, rfl, _⟩ := h; rfl) | (obtain ⟨_, _, _, _, _, _, _, _, _, rfl, _⟩ := h; rfl)) fun cdv A outer s H E hR F ds kk hF h => ?_
  subst hF
  obtain ⟨l, r, rfl, q⟩ := h
  refine ⟨_, (pss_one (ps_ret (pe_cmpR (op_eqX hR.units : OpR _ _ (rEqX F.K)) (pe_cmpR (op_eqX hR.units : OpR _ _ (rEqX F.K)) (pe_op op_and (pe_f c__law_normal hR (by decide) rfl passL (pa_cons (pv 0) (pa_cons (pe_ix (ix_seq : IxR _ (rIx F.K)) (pv 1) pe_int (fun _ _ => rfl)) pa_nil))) (pe_un un_inv (pe_ix (ix_seq : IxR _ (rIx F.K)) (pv 1) pe_int (fun _ _ => rfl)))) pe_int (nomark _)) (pe_ix (ix_seq : IxR _ (rIx F.K)) (pv 1) pe_int (fun _ _ => rfl)) (nomark _)))), ?_⟩
  try dsimp only [Xof, cxOf, Cx.nox, Cx.wish, Cx.blk]
  repeat walk_at "d"
  refine ⟨l, r.w, rfl, ?_⟩
  repeat walk_at "d"
  apply ro_eq_b
  exact q
theorem cc__law_kept (W : Wf P w K mg base) : Fnc P w K mg base 2 "_law_kept" (spD K fun ds k _ => S__law_kept ds k) := W.fnc in__law_kept (fun _ => rfl) (j := 43) rfl (ok__law_kept W)
def S__law_keeps : List D → (D → Prop) → Prop := fun ds k => ∃ (l : List Nat) (rs : List Rw), ds = [lN l, .lst (rs.map rowD)] ∧ k (.bl (rs.all (keptB l)))
theorem ok__law_keeps (W : Wf P w K mg base) : FnR P w K mg base (L2.CX P w) 3 (d__law_keeps.at_ K) (spD K fun ds k _ => S__law_keeps ds k) := by
  have c__law_kept := cc__law_kept W
  refine W.fnD in__law_keeps sc__law_keeps (fun fd F => F.bindsN fun _ _ _ _ _ _ us hl => match us, hl with | [_, _], _ => rfl) (fun ds k h => by first | (obtain ⟨rfl, _⟩ := h; rfl) | (obtain ⟨_, rfl, _⟩ := h; rfl) | (obtain ⟨_, _, rfl, _⟩ := h; rfl) | (obtain ⟨_, _, _, rfl, _⟩ := h; rfl) | (obtain ⟨_, _, _, _, rfl, _⟩ := h; rfl) | (obtain ⟨_, _, _, _, _, rfl, _⟩ := h; rfl) | (obtain ⟨_, _, _, _, _, _, rfl, _⟩ := h; rfl) | (obtain ⟨_, _, _, _, _, _, _, rfl, _⟩ := h; rfl) | (obtain ⟨_, _, _, _, _, _, _, _, rfl, _⟩ := h; rfl) | (obtain ⟨_, _, _, _, _, _, _, _, _, rfl, _⟩ := h; rfl)) fun cdv A outer s H E hR F ds kk hF h => ?_
  subst hF
  obtain ⟨l, rs, rfl, q⟩ := h
  refine ⟨_, (pss_cons (ps_for PassesOwn.never rfl (pi_seqK (K := F.K) rfl (pv 1)) (pg_name (i := 2) sc__law_keeps.nd rfl (Or.inl rfl))
  (pss_one (ps_if (pt_not (pt_val (pe_f c__law_kept hR (by decide) rfl passL (pa_cons (pv 0) (pa_cons (pv 2) pa_nil)))))
  (pss_one (ps_ret pe_bl))
  pss_nil)))
  (pss_one (ps_ret pe_bl))), ?_⟩
  try dsimp only [Xof, cxOf, Cx.nox, Cx.wish, Cx.blk]
  repeat walk_at "d"
  apply s_for
  apply ei_seq
  repeat walk_at "d"
  refine ⟨_, .inl rfl, fun i ρ => (∃ x, ρ = [.val (lN l), .val (.lst (rs.map rowD)), x]) ∧ ((rs.take i).all (keptB l)) = true, ⟨⟨_, rfl⟩, rfl⟩, ?_, ?_⟩
  · rintro i d ρ' hi ⟨⟨x, rfl⟩, h0⟩
    obtain ⟨r, er, rfl⟩ := map_at hi
    refine ⟨_, g_name, ?_⟩
    repeat walk_at "d"
    refine ⟨l, r, rfl, ?_⟩
    repeat walk_at "d"
    cases hk : keptB l r with
    | true =>
      repeat walk_at "d"
      rw [take_at er, List.all_append, h0]
      simp [hk]
    | false =>
      repeat walk_at "d"
      have : rs.all (keptB l) = false := by
        rw [← Bool.not_eq_true, List.all_eq_true]
        intro z
        rw [z r (List.mem_of_getElem? er)] at hk
        cases hk
      rw [this] at q
      exact q
  · rintro ρ' ⟨⟨x, rfl⟩, h0⟩
    rw [List.length_map, List.take_length] at h0
    repeat walk_at "d"
    rw [h0] at q
    exact q
theorem cc__law_keeps (W : Wf P w K mg base) : Fnc P w K mg base 3 "_law_keeps" (spD K fun ds k _ => S__law_keeps ds k) := W.fnc in__law_keeps (fun _ => rfl) (j := 44) rfl (ok__law_keeps W)
end
end K33
namespace K33
open PySem PySem.Spec PyProof.Rows L2
/-- the numbers of the days of s -/
def selF (ns : List Nat) (s i : Nat) : Option Nat := if s.testBit i = true then ns[i]? else none
def wt (ns : List Nat) (s : Nat) : Nat := ((List.range ns.length).filterMap (selF ns s)).sum
def ratioN (a b : Nat) : Nat × Nat := (a / Nat.gcd a b, b / Nat.gcd a b)
def doubtN (ns : List Nat) (r : Rw) : Nat × Nat := if wt ns r.w = 0 then (0, 1) else ratioN (wt ns (nd r.w r.t)) (wt ns r.w)
def sumStep (p q : Nat × Nat) : Nat × Nat := (p.1 * q.2 + q.1 * p.2, p.2 * q.2)
def sumN (ns : List Nat) (rs : List Rw) : Nat × Nat := rs.foldl (fun p r => sumStep p (doubtN ns r)) (0, 1)
def WOk (ns : List Nat) : Prop := ns.length ≤ 16 ∧ ∀ n ∈ ns, n ≤ 10 ^ 18
theorem sum_le {m : Nat} : ∀ {l : List Nat}, (∀ n ∈ l, n ≤ m) → l.sum ≤ l.length * m
  | [], _ => Nat.zero_le _
  | x :: l, h => by
    have h1 := h x (List.mem_cons_self ..)
    have h2 := sum_le (l := l) fun n hn => h n (List.mem_cons_of_mem _ hn)
    rw [List.sum_cons, List.length_cons, Nat.succ_mul]
    omega
theorem wt_lt {ns : List Nat} {s : Nat} (h : WOk ns) : wt ns s < 2 ^ 64 := by
  have h1 : ∀ n ∈ (List.range ns.length).filterMap (selF ns s), n ≤ 10 ^ 18 := fun n hn => by
    obtain ⟨i, _, e⟩ := List.mem_filterMap.mp hn
    unfold selF at e
    split at e
    · exact h.2 n (List.mem_of_getElem? e)
    · cases e
  have h2 := sum_le h1
  have h3 := List.length_filterMap_le (selF ns s) (List.range ns.length)
  rw [List.length_range] at h3
  have h4 := h.1
  unfold wt
  have : ((List.range ns.length).filterMap (selF ns s)).length * 10 ^ 18 ≤ 16 * 10 ^ 18 := Nat.mul_le_mul_right _ (by omega)
  omega
section
variable {P : Program} {w : World} {K : PySem.W.Frag} {mg : PySem.Str → Option Value} {base : Heap}
local macro_rules | `(tactic| walk_at "d0") => `(tactic| first
  | ((with_reducible apply ev_var); rfl)
  | with_reducible apply ev_int
  | with_reducible apply ev_bl
  | with_reducible apply ev_str
  | with_reducible apply ev_non
  | with_reducible apply s_seq
  | with_reducible apply s_ret
  | with_reducible apply s_asg
  | with_reducible apply s_next
  | ((with_reducible apply s_app); rfl)
  | with_reducible apply s_drop
  | ((with_reducible apply src_0); rfl; intro _)
  | ((with_reducible apply src_1); rfl; intro _ _ _)
  | ((with_reducible apply src_2); rfl; intro _)
  | ((with_reducible apply s_setSrc0); rfl)
  | ((with_reducible apply s_setSrc2); rfl)
  | ((with_reducible apply ev_callS); rfl)
  | ((with_reducible apply ev_opO); rfl)
  | ((with_reducible apply ev_ixO); rfl)
  | with_reducible apply ev_op
  | with_reducible apply ev_un
  | with_reducible apply et_test
  | with_reducible apply et_B
  | with_reducible apply et_truI
  | with_reducible apply et_and
  | with_reducible apply et_or
  | with_reducible apply et_not
  | with_reducible apply ea_nil
  | with_reducible apply ea_cons
  | with_reducible apply ro_nd_n
  | with_reducible apply ro_and_n
  | with_reducible apply ro_or_n
  | with_reducible apply ro_shr_n
  | with_reducible apply ro_eq_0
  | with_reducible apply ro_ne_0
  | with_reducible apply ro_eq_n
  | with_reducible apply ro_ne_n
  | with_reducible apply ro_add_n
  | with_reducible apply ro_add_1
  | with_reducible apply ro_I0
  | with_reducible apply ro_B0
  | with_reducible apply ro_un
  | ((with_reducible apply ro_isN); rfl)
  | ((with_reducible apply ro_notN); rfl)
  | with_reducible apply ro_eq_t0
  | with_reducible apply ro_ne_lt0
  | with_reducible apply ro_ne_l0
  | with_reducible apply ro_ne_tt
  | with_reducible apply ro_eq_tt
  | with_reducible apply ro_ne_t
  | with_reducible apply ro_eq_i
  | with_reducible apply ro_ne_i
  | with_reducible apply ro_eq_s
  | with_reducible apply ro_add
  | ((with_reducible apply ro_ixT); rfl)
  | ((with_reducible apply ro_ixL); rfl)
  | with_reducible apply ev_list
  | with_reducible apply ev_tuple
  | with_reducible apply ev_sortset
  | with_reducible apply ev_isLT
  | ((with_reducible apply ev_cbO); rfl)
  | with_reducible apply ev_cb
  | with_reducible apply ev_call
  | ((with_reducible apply ev_fldM); rfl; exact Wf.kc2 (by assumption) (by decide +kernel); rfl)
  | with_reducible apply ev_fld
  | with_reducible apply ev_and
  | with_reducible apply ev_or
  | with_reducible apply ev_notV
  | with_reducible apply ev_if
  | with_reducible apply ev_chain
  | with_reducible apply ev_tup
  | with_reducible apply ev_lst
  | with_reducible apply ev_make
  | ((with_reducible apply ev_cm0); exact exok0)
  | ((with_reducible apply ev_cm); exact exok0)
  | ((with_reducible apply ev_meth0); exact exok0)
  | ((with_reducible apply ev_meth); exact exok0)
  | ((with_reducible apply ro_subO); exact exok0)
  | ((with_reducible apply ro_addO); exact exok0)
  | ((with_reducible apply rc_lenO); exact exok0)
  | ((with_reducible apply ev_prop); exact exok0)
  | with_reducible apply rc_int
  | with_reducible apply rc_lenL
  | with_reducible apply rc_lenT
  | ((with_reducible apply rc_is_int); (exact rfl))
  | ((with_reducible apply rc_is_bl); (exact rfl))
  | ((with_reducible apply rc_is_str); (exact rfl))
  | ((with_reducible apply rc_is_tup); (exact rfl))
  | ((with_reducible apply s_fldM); rfl; exact Wf.kc2 (by assumption) (by decide +kernel); decide; rfl)
  | with_reducible apply et_yes
  | with_reducible apply ev_rawc
  | ((with_reducible apply ev_src); rfl)
  | ((with_reducible refine ⟨len_ok ?_, ?_⟩); rfl)
  | with_reducible refine ⟨rfl, ?_⟩
  | with_reducible refine ⟨⟨_, rfl⟩, ?_⟩
  | with_reducible refine ⟨_, rfl, ?_⟩
  | refine ⟨_, _, rfl, rfl, ?_⟩
  | refine ⟨_, _, _, _, rfl, Wf.kc2 (by assumption) (by decide +kernel), rfl, ?_⟩
  | ((with_reducible apply iteTr); rfl)
  | ((with_reducible apply iteFr); rfl)
  | dsimp only)
local macro_rules | `(tactic| walk_at "d") => `(tactic| first
  | walk_at "d0"
  | with_reducible apply s_if)
local macro_rules | `(tactic| walk_at "o") => `(tactic| first
  | ((with_reducible apply so_retO); rfl)
  | ((with_reducible apply et_notcallO); rfl)
  | ((with_reducible apply s_asgO); (with_reducible apply en_lst); (with_reducible apply ea_nil); refine ⟨len_ok rfl, ?_⟩)
  | walk_at "d")

local macro_rules | `(tactic| walk_at "x") => `(tactic| first
  | ((with_reducible apply ev_callX); assumption)
  | walk_at "o")
def S__law_ratio : List D → (D → Prop) → Prop := fun ds k => ∃ a b : Nat, ds = [nD a, nD b] ∧ 1 ≤ b ∧ a < 2 ^ 64 ∧ b < 2 ^ 64 ∧ k (.tup [nD (ratioN a b).1, nD (ratioN a b).2])
theorem div_n {a g : Nat} : (a : Int) / (g : Int) = ((a / g : Nat) : Int) := rfl
theorem ok__law_ratio (W : Wf P w K mg base) : FnR P w K mg base (L2.CX P w) 1 (d__law_ratio.at_ K) (spD K fun ds k _ => S__law_ratio ds k) := by
  refine W.fnD in__law_ratio sc__law_ratio (fun fd F => F.bindsN fun _ _ _ _ _ _ us hl => match us, hl with | [_, _], _ => rfl) (fun ds k h => by first | (obtain ⟨rfl, _⟩ := h; rfl) | (obtain ⟨_, rfl, _⟩ := h; rfl) | (obtain ⟨_, _, rfl, _⟩ := h; rfl) | (obtain ⟨_, _, _, rfl, _⟩ := h; rfl) | (obtain ⟨_, _, _, _, rfl, _⟩ := h; rfl) | (obtain ⟨_, _, _, _, _, rfl, _⟩ := h; rfl) | (obtain ⟨_, _, _, _, _, _, rfl, _⟩ := h; rfl) | (obtain ⟨_, _, _, _, _, _, _, rfl, _⟩ := h; rfl) | (obtain ⟨_, _, _, _, _, _, _, _, rfl, _⟩ := h; rfl) | (obtain ⟨_, _, _, _, _, _, _, _, _, rfl, _⟩ := h; rfl)) fun cdv A outer s H E hR F ds kk hF h => ?_
  subst hF
  obtain ⟨a, b, rfl, h1, ha, hb, q⟩ := h
  refine ⟨_, (pss_cons (ps_par (i := 2) (j := 3) (by rfl) sc__law_ratio.nd rfl rfl (by decide) rfl rfl (pa_cons (pe_callB call_abs rfl (W.free 16 _ rfl) (by decide +kernel) (pa_cons (pv 0) pa_nil)) (pa_cons (pv 1) pa_nil)) (by rfl))
  (pss_cons (ps_while PassesOwn.never (pt_cmpR (op_neX hR.units : OpR _ _ (rNeX F.K)) (pv 3) pe_int (nomark _))
  (pss_one (ps_par (i := 2) (j := 3) (by rfl) sc__law_ratio.nd rfl rfl (by decide) rfl rfl (pa_cons (pv 3) (pa_cons (pe_op op_mod (pe_callTy call_int1 rfl (W.free 2 _ rfl) (by decide +kernel) (pa_cons (pv 2) pa_nil)) (pv 3)) pa_nil)) (by rfl))))
  (pss_one (ps_ret (pe_tup (pa_cons (pe_op op_fdivW (pv 0) (pv 2)) (pa_cons (pe_op op_fdivW (pv 1) (pv 2)) pa_nil))))))), ?_⟩
  try dsimp only [Xof, cxOf, Cx.nox, Cx.wish, Cx.blk]
  repeat walk_at "d"
  apply s_par
  repeat walk_at "d"
  apply rc_abs
  repeat walk_at "d"
  refine ⟨_, _, rfl, ?_⟩
  rw [if_neg (show ¬ (a : Int) < 0 by omega)]
  apply s_seq
  apply s_while fun m ρ => ∃ x y, ρ = [.val (nD a), .val (nD b), .val (nD x), .val (nD y)] ∧ Nat.gcd x y = Nat.gcd a b ∧ m = y ∧ y < 2 ^ 64
  · exact ⟨b, a, b, rfl, rfl, rfl, hb⟩
  · rintro m ρ' ⟨x, y, rfl, hg, hm, hy⟩
    repeat walk_at "d"
    by_cases h0 : y = 0
    · rw [decide_eq_true h0]
      subst h0
      have hx : x = Nat.gcd a b := by rw [← hg, Nat.gcd_zero_right]
      have hgp : 0 < Nat.gcd a b := Nat.gcd_pos_of_pos_right a h1
      have hgl : Nat.gcd a b ≤ b := Nat.gcd_le_right a h1
      repeat walk_at "d"
      refine ro_I (div_ok (by omega) (by omega)) ?_
      repeat walk_at "d"
      refine ro_I (div_ok (by omega) (by omega)) ?_
      repeat walk_at "d"
      rw [div_n, div_n, hx]
      exact q
    · rw [decide_eq_false h0]
      repeat walk_at "d"
      apply s_par
      repeat walk_at "d"
      refine ro_I (by omega) ?_
      repeat walk_at "d"
      refine ⟨_, _, rfl, x % y, by rw [hm]; exact Nat.mod_lt _ (by omega), y, x % y, rfl, ?_, rfl, by have := Nat.mod_lt x (show 0 < y by omega); omega⟩
      rw [← hg, Nat.gcd_comm y, ← Nat.gcd_rec, Nat.gcd_comm]
theorem cc__law_ratio (W : Wf P w K mg base) : Fnc P w K mg base 1 "_law_ratio" (spD K fun ds k _ => S__law_ratio ds k) := W.fnc in__law_ratio (fun _ => rfl) (j := 59) rfl (ok__law_ratio W)
def S__law_weight : List D → (D → Prop) → Prop := fun ds k => ∃ (ns : List Nat) (s : Nat), ds = [.lst (ns.map nD), nD s] ∧ ns.length ≤ 1000 ∧ k (nD (wt ns s))
theorem ok__law_weight (W : Wf P w K mg base) : FnR P w K mg base (L2.CX P w) 1 (d__law_weight.at_ K) (spD K fun ds k _ => S__law_weight ds k) := by
  refine W.fnD in__law_weight sc__law_weight (fun fd F => F.bindsN fun _ _ _ _ _ _ us hl => match us, hl with | [_, _], _ => rfl) (fun ds k h => by first | (obtain ⟨rfl, _⟩ := h; rfl) | (obtain ⟨_, rfl, _⟩ := h; rfl) | (obtain ⟨_, _, rfl, _⟩ := h; rfl) | (obtain ⟨_, _, _, rfl, _⟩ := h; rfl) | (obtain ⟨_, _, _, _, rfl, _⟩ := h; rfl) | (obtain ⟨_, _, _, _, _, rfl, _⟩ := h; rfl) | (obtain ⟨_, _, _, _, _, _, rfl, _⟩ := h; rfl) | (obtain ⟨_, _, _, _, _, _, _, rfl, _⟩ := h; rfl) | (obtain ⟨_, _, _, _, _, _, _, _, rfl, _⟩ := h; rfl) | (obtain ⟨_, _, _, _, _, _, _, _, _, rfl, _⟩ := h; rfl)) fun cdv A outer s H E hR F ds kk hF h => ?_
  subst hF
  obtain ⟨ns, s', rfl, hl, q⟩ := h
  refine ⟨_, (pss_one (ps_ret (pe_callB (cr_sum rfl : CallR _ _ (rSum F.K)) rfl (W.free 11 _ rfl) (by decide +kernel) (pa_cons (pe_lc (own := [("_law_day", 2), ("_law_number", 3)]) (by rfl) sc__law_weight.nd (pi_enumX (by rfl) (W.free 9 _ rfl) (pa_cons (pv 0) pa_nil)) (blkOk_by (N := n__law_weight) (sc := defScope s__law_weight) (own := [("_law_day", 2), ("_law_number", 3)]) (by decide +kernel)) (fun _ _ _ _ _ => (pg_tupK (K := F.K) (n := 2) rfl (by rfl) (pgs_cons (pg_name (i := 2) sc__law_weight.nd rfl (Or.inl rfl)) (pgs_cons (pg_name (i := 3) sc__law_weight.nd rfl (Or.inl rfl)) pgs_nil)))) (fun _ _ _ _ _ => (pts_one (pt_cmpR (op_eqX hR.units : OpR _ _ (rEqX F.K)) (pe_op op_and (pe_op op_shr (pv 1) (pv 2)) pe_int) pe_int (nomark _)))) (fun _ _ _ _ _ => (pv 3))) pa_nil)))), ?_⟩
  try dsimp only [Xof, cxOf, Cx.nox, Cx.wish, Cx.blk]
  repeat walk_at "d"
  apply EvN.ev
  apply en_lc (un_of rfl)
  apply ei_enum
  repeat walk_at "d"
  refine ⟨_, .inl rfl, fun i acc => acc = ((List.range i).filterMap (selF ns s')).map nD, rfl, ?_, ?_⟩
  · rintro i d acc hi rfl
    obtain ⟨x, e, rfl⟩ := enumD_at hi
    obtain ⟨n, en, rfl⟩ := map_at e
    refine ⟨_, mem_of rfl, g_tup rfl (gs_cons g_name (gs_cons g_name gs_nil)), ?_⟩
    repeat walk_at "d"
    rw [bit_test]
    have hsucc : List.range (i + 1) = List.range i ++ [i] := List.range_succ
    cases hb : s'.testBit i with
    | true =>
      repeat walk_at "d"
      have hs : selF ns s' i = some n := by
        unfold selF
        rw [if_pos hb, en]
      refine ⟨?_, ?_⟩
      · have h1 := List.length_filterMap_le (selF ns s') (List.range i)
        have h2 := (List.getElem?_eq_some_iff.mp en).1
        rw [List.length_range] at h1
        rw [List.length_map]
        omega
      · show _ = _
        rw [hsucc, List.filterMap_append, List.map_append]
        simp [hs]
    | false =>
      repeat walk_at "d"
      have hs : selF ns s' i = none := by
        unfold selF
        rw [if_neg (by rw [hb]; decide)]
      show _ = _
      rw [hsucc, List.filterMap_append, List.map_append]
      simp [hs]
  · rintro acc rfl
    rw [enumD_len, List.length_map]
    repeat walk_at "d"
    apply rc_sumN
    exact q
theorem cc__law_weight (W : Wf P w K mg base) : Fnc P w K mg base 1 "_law_weight" (spD K fun ds k _ => S__law_weight ds k) := W.fnc in__law_weight (fun _ => rfl) (j := 60) rfl (ok__law_weight W)
def S__law_doubt : List D → (D → Prop) → Prop := fun ds k => ∃ (ns : List Nat) (r : Rw), ds = [.lst (ns.map nD), rowD r] ∧ WOk ns ∧ k (.tup [nD (doubtN ns r).1, nD (doubtN ns r).2])
theorem ok__law_doubt (W : Wf P w K mg base) : FnR P w K mg base (L2.CX P w) 2 (d__law_doubt.at_ K) (spD K fun ds k _ => S__law_doubt ds k) := by
  have c__law_weight := cc__law_weight W
  have c__law_ratio := cc__law_ratio W
  refine W.fnD in__law_doubt sc__law_doubt (fun fd F => F.bindsN fun _ _ _ _ _ _ us hl => match us, hl with | [_, _], _ => rfl) (fun ds k h => by first | (obtain ⟨rfl, _⟩ := h; rfl) | (obtain ⟨_, rfl, _⟩ := h; rfl) | (obtain ⟨_, _, rfl, _⟩ := h; rfl) | (obtain ⟨_, _, _, rfl, _⟩ := h; rfl) | (obtain ⟨_, _, _, _, rfl, _⟩ := h; rfl) | (obtain ⟨_, _, _, _, _, rfl, _⟩ := h; rfl) | (obtain ⟨_, _, _, _, _, _, rfl, _⟩ := h; rfl) | (obtain ⟨_, _, _, _, _, _, _, rfl, _⟩ := h; rfl) | (obtain ⟨_, _, _, _, _, _, _, _, rfl, _⟩ := h; rfl) | (obtain ⟨_, _, _, _, _, _, _, _, _, rfl, _⟩ := h; rfl)) fun cdv A outer s H E hR F ds kk hF h => ?_
  subst hF
  obtain ⟨ns, r, rfl, hw, q⟩ := h
  refine ⟨_, (pss_cons (ps_set (i := 2) sc__law_doubt.nd rfl (Or.inl rfl) (pe_f c__law_weight hR (by decide) rfl passL (pa_cons (pv 0) (pa_cons (pe_ix (ix_seq : IxR _ (rIx F.K)) (pv 1) pe_int (fun _ _ => rfl)) pa_nil))))
  (pss_one (ps_ret (pe_ifExp (pt_cmpR (op_eqX hR.units : OpR _ _ (rEqX F.K)) (pv 2) pe_int (nomark _)) (pe_tup (pa_cons pe_int (pa_cons pe_int pa_nil))) (pe_f c__law_ratio hR (by decide) rfl passL (pa_cons (pe_f c__law_weight hR (by decide) rfl passL (pa_cons (pv 0) (pa_cons (pe_op op_and (pe_ix (ix_seq : IxR _ (rIx F.K)) (pv 1) pe_int (fun _ _ => rfl)) (pe_un un_inv (pe_ix (ix_seq : IxR _ (rIx F.K)) (pv 1) pe_int (fun _ _ => rfl)))) pa_nil))) (pa_cons (pv 2) pa_nil))))))), ?_⟩
  try dsimp only [Xof, cxOf, Cx.nox, Cx.wish, Cx.blk]
  have hl : ns.length ≤ 1000 := Nat.le_trans hw.1 (by decide)
  repeat walk_at "d"
  refine ⟨ns, r.w, rfl, hl, ?_⟩
  repeat walk_at "d"
  by_cases h0 : wt ns r.w = 0
  · rw [decide_eq_true h0]
    repeat walk_at "d"
    unfold doubtN at q
    rw [if_pos h0] at q
    exact q
  · rw [decide_eq_false h0]
    repeat walk_at "d"
    refine ⟨ns, _, rfl, hl, ?_⟩
    repeat walk_at "d"
    refine ⟨_, _, rfl, by omega, wt_lt hw, wt_lt hw, ?_⟩
    unfold doubtN at q
    rw [if_neg h0] at q
    exact q
theorem cc__law_doubt (W : Wf P w K mg base) : Fnc P w K mg base 2 "_law_doubt" (spD K fun ds k _ => S__law_doubt ds k) := W.fnc in__law_doubt (fun _ => rfl) (j := 61) rfl (ok__law_doubt W)
def S__law_sum_of : List D → (D → Prop) → Prop := fun ds k => ∃ (ns : List Nat) (rs : List Rw) (lot : List Nat), ds = [.lst (ns.map nD), .lst (rs.map rowD), tupN lot] ∧ WOk ns ∧ lot.length ≤ 12 ∧ (∀ n ∈ lot, n < rs.length) ∧ k (.tup [nD (sumN ns (pick rs lot)).1, nD (sumN ns (pick rs lot)).2])
theorem doubt_lt {ns : List Nat} {r : Rw} (h : WOk ns) : (doubtN ns r).1 < 2 ^ 64 ∧ (doubtN ns r).2 < 2 ^ 64 := by
  unfold doubtN
  split
  · exact ⟨by decide, by decide⟩
  · unfold ratioN
    exact ⟨Nat.lt_of_le_of_lt (Nat.div_le_self _ _) (wt_lt h), Nat.lt_of_le_of_lt (Nat.div_le_self _ _) (wt_lt h)⟩
theorem mul_n {i j a b : Nat} (hi : i < 2 ^ a) (hj : j < 2 ^ b) (h0 : 0 < a) (h1 : 0 < b) (h : a + b ≤ 1000000) : CMulW (i : Int) (j : Int) := wide_mul (by simpa using hi) (by simpa using hj) h0 h1 h
theorem cast_mul {i j : Nat} : (i : Int) * (j : Int) = ((i * j : Nat) : Int) := (Int.natCast_mul i j).symm
theorem sum_lt {ns : List Nat} (h : WOk ns) : ∀ rs : List Rw, (sumN ns rs).1 < 2 ^ (66 * rs.length + 1) ∧ (sumN ns rs).2 < 2 ^ (66 * rs.length + 1) := by
  have key : ∀ (rs : List Rw) (p : Nat × Nat) (a : Nat), p.1 < 2 ^ a → p.2 < 2 ^ a → (rs.foldl (fun p r => sumStep p (doubtN ns r)) p).1 < 2 ^ (66 * rs.length + a) ∧ (rs.foldl (fun p r => sumStep p (doubtN ns r)) p).2 < 2 ^ (66 * rs.length + a) := by
    intro rs
    induction rs with
    | nil =>
      intro p a h1 h2
      rw [show 66 * ([] : List Rw).length + a = a by simp]
      exact ⟨h1, h2⟩
    | cons r rs ih =>
      intro p a h1 h2
      obtain ⟨d1, d2⟩ := doubt_lt (r := r) h
      have e : 66 * (r :: rs).length + a = 66 * rs.length + (66 + a) := by rw [List.length_cons]; omega
      rw [e]
      have p1 : 2 ^ (66 + a) = 2 ^ 66 * 2 ^ a := Nat.pow_add 2 66 a
      have m1 : p.1 * (doubtN ns r).2 < 2 ^ a * 2 ^ 64 := Nat.mul_lt_mul'' h1 d2
      have m2 : (doubtN ns r).1 * p.2 < 2 ^ 64 * 2 ^ a := Nat.mul_lt_mul'' d1 h2
      have m3 : p.2 * (doubtN ns r).2 < 2 ^ a * 2 ^ 64 := Nat.mul_lt_mul'' h2 d2
      have p2 : 2 ^ 64 * 2 ^ a = 2 ^ a * 2 ^ 64 := Nat.mul_comm _ _
      have p3 : 2 ^ 66 * 2 ^ a = 4 * (2 ^ a * 2 ^ 64) := by
        rw [show (2 : Nat) ^ 66 = 4 * 2 ^ 64 by decide, Nat.mul_assoc, p2]
      refine ih _ _ ?_ ?_
      · show p.1 * (doubtN ns r).2 + (doubtN ns r).1 * p.2 < _
        omega
      · show p.2 * (doubtN ns r).2 < _
        omega
  exact fun rs => key rs (0, 1) 1 (by decide) (by decide)
theorem ok__law_sum_of (W : Wf P w K mg base) : FnR P w K mg base (L2.CX P w) 3 (d__law_sum_of.at_ K) (spD K fun ds k _ => S__law_sum_of ds k) := by
  have c__law_doubt := cc__law_doubt W
  refine W.fnD in__law_sum_of sc__law_sum_of (fun fd F => F.bindsN fun _ _ _ _ _ _ us hl => match us, hl with | [_, _, _], _ => rfl) (fun ds k h => by first | (obtain ⟨rfl, _⟩ := h; rfl) | (obtain ⟨_, rfl, _⟩ := h; rfl) | (obtain ⟨_, _, rfl, _⟩ := h; rfl) | (obtain ⟨_, _, _, rfl, _⟩ := h; rfl) | (obtain ⟨_, _, _, _, rfl, _⟩ := h; rfl) | (obtain ⟨_, _, _, _, _, rfl, _⟩ := h; rfl) | (obtain ⟨_, _, _, _, _, _, rfl, _⟩ := h; rfl) | (obtain ⟨_, _, _, _, _, _, _, rfl, _⟩ := h; rfl) | (obtain ⟨_, _, _, _, _, _, _, _, rfl, _⟩ := h; rfl) | (obtain ⟨_, _, _, _, _, _, _, _, _, rfl, _⟩ := h; rfl)) fun cdv A outer s H E hR F ds kk hF h => ?_
  subst hF
  obtain ⟨ns, rs, lot, rfl, hw, hl, hn, q⟩ := h
  refine ⟨_, (pss_cons (ps_asg (pe_tup (pa_cons pe_int (pa_cons pe_int pa_nil))) (pg_tupK (K := F.K) (n := 2) rfl (by rfl) (pgs_cons (pg_name (i := 3) sc__law_sum_of.nd rfl (Or.inl rfl)) (pgs_cons (pg_name (i := 4) sc__law_sum_of.nd rfl (Or.inl rfl)) pgs_nil))))
  (pss_cons (ps_for PassesOwn.never rfl (pi_seqK (K := F.K) rfl (pv 2)) (pg_name (i := 5) sc__law_sum_of.nd rfl (Or.inl rfl))
  (pss_cons (ps_set (i := 6) sc__law_sum_of.nd rfl (Or.inl rfl) (pe_f c__law_doubt hR (by decide) rfl passL (pa_cons (pv 0) (pa_cons (pe_ix (ix_seq : IxR _ (rIx F.K)) (pv 1) (pv 5) (fun _ _ => rfl)) pa_nil))))
  (pss_one (ps_par (i := 3) (j := 4) (by rfl) sc__law_sum_of.nd rfl rfl (by decide) rfl rfl (pa_cons (pe_op (op_addX : OpR _ _ (rAddX F.K)) (pe_op op_mulX2 (pv 3) (pe_ix (ix_seq : IxR _ (rIx F.K)) (pv 6) pe_int (fun _ _ => rfl))) (pe_op op_mulX2 (pe_ix (ix_seq : IxR _ (rIx F.K)) (pv 6) pe_int (fun _ _ => rfl)) (pv 4))) (pa_cons (pe_op op_mulX2 (pv 4) (pe_ix (ix_seq : IxR _ (rIx F.K)) (pv 6) pe_int (fun _ _ => rfl))) pa_nil)) (by rfl)))))
  (pss_one (ps_ret (pe_tup (pa_cons (pv 3) (pa_cons (pv 4) pa_nil))))))), ?_⟩
  try dsimp only [Xof, cxOf, Cx.nox, Cx.wish, Cx.blk]
  repeat walk_at "d"
  apply s_asgT
  repeat walk_at "d"
  refine ⟨_, g_tup rfl (gs_cons g_name (gs_cons g_name gs_nil)), ?_⟩
  repeat walk_at "d"
  apply s_for
  apply ei_seq
  repeat walk_at "d"
  refine ⟨_, .inr rfl, fun i ρ => ∃ y z, ρ = [.val (.lst (ns.map nD)), .val (.lst (rs.map rowD)), .val (tupN lot), .val (nD (sumN ns (pick rs (lot.take i))).1), .val (nD (sumN ns (pick rs (lot.take i))).2), y, z], ⟨_, _, rfl⟩, ?_, ?_⟩
  · rintro i d ρ' hi ⟨y, z, rfl⟩
    obtain ⟨n, en, rfl⟩ := map_at hi
    have hlt := hn n (List.mem_of_getElem? en)
    have er := List.getElem?_eq_getElem hlt
    have hpl : (pick rs (lot.take i)).length ≤ 12 := by
      have h1 := List.length_filterMap_le (rs[·]?) (lot.take i)
      have h2 := List.length_take_le' i lot
      unfold pick
      omega
    have hb := sum_lt hw (pick rs (lot.take i))
    have hmo : 2 ^ (66 * (pick rs (lot.take i)).length + 1) ≤ 2 ^ 1000 := Nat.pow_le_pow_right (by decide) (by omega)
    have hd := doubt_lt (r := rs[n]) hw
    refine ⟨_, g_name, ?_⟩
    repeat walk_at "d"
    apply ro_ixL (atI_map er)
    repeat walk_at "d"
    refine ⟨ns, rs[n], rfl, hw, ?_⟩
    repeat walk_at "d"
    apply s_par
    repeat walk_at "d"
    apply ro_mul (mul_n (a := 1000) (b := 64) (by omega) hd.2 (by decide) (by decide) (by decide))
    repeat walk_at "d"
    apply ro_mul (mul_n (a := 64) (b := 1000) hd.1 (by omega) (by decide) (by decide) (by decide))
    repeat walk_at "d"
    apply ro_mul (mul_n (a := 1000) (b := 64) (by omega) hd.2 (by decide) (by decide) (by decide))
    repeat walk_at "d"
    refine ⟨_, _, rfl, ?_⟩
    rw [cast_mul, cast_mul, cast_mul, ← Int.natCast_add]
    rw [show pick rs (lot.take (i + 1)) = pick rs (lot.take i) ++ [rs[n]] from fm_take (f := (rs[·]?)) en er]
    unfold sumN
    rw [List.foldl_append]
    exact ⟨_, _, rfl⟩
  · rintro ρ' ⟨y, z, rfl⟩
    rw [List.length_map, List.take_length]
    repeat walk_at "d"
    exact q
theorem cc__law_sum_of (W : Wf P w K mg base) : Fnc P w K mg base 3 "_law_sum_of" (spD K fun ds k _ => S__law_sum_of ds k) := W.fnc in__law_sum_of (fun _ => rfl) (j := 63) rfl (ok__law_sum_of W)
def S__law_drawn_weights : List D → (D → Prop) → Prop := fun ds k => ∃ days : Nat, ds = [nD days] ∧ 1 ≤ days ∧ days ≤ 16 ∧ ∀ ns : List Nat, WOk ns → k (.lst (ns.map nD))
theorem wok_add {ns : List Nat} {v i : Nat} (h : ns.length = i ∧ ∀ n ∈ ns, n ≤ 10 ^ 18) (hv : v ≤ 10 ^ 18) : (ns ++ [v]).length = i + 1 ∧ ∀ n ∈ ns ++ [v], n ≤ 10 ^ 18 := by
  refine ⟨by rw [List.length_append, h.1]; rfl, fun m hm => ?_⟩
  rcases List.mem_append.mp hm with hm | hm
  · exact h.2 m hm
  · rw [List.mem_singleton.mp hm]
    exact hv
theorem rc_maxN {F : Fm} {ρ : List Sl} {k : D → Prop} {ns : List Nat} (h0 : 0 < ns.length) (q : ∀ m, m ∈ ns → k (nD m)) : ROc F (rMax F.K) ρ [.lst (ns.map nD)] k := by
  rw [map_nD]
  refine rc_max (by rw [List.length_map]; exact h0) fun m hm _ => ?_
  obtain ⟨n, hn, rfl⟩ := List.mem_map.mp hm
  exact q n hn
theorem rc_minN {F : Fm} {ρ : List Sl} {k : D → Prop} {ns : List Nat} (h0 : 0 < ns.length) (q : ∀ m, m ∈ ns → k (nD m)) : ROc F (rMin F.K) ρ [.lst (ns.map nD)] k := by
  rw [map_nD]
  refine rc_min (by rw [List.length_map]; exact h0) fun m hm _ => ?_
  obtain ⟨n, hn, rfl⟩ := List.mem_map.mp hm
  exact q n hn
theorem ixN_nat {n r : Nat} (h : r < n) : ixN n (r : Int) = some r := by
  unfold ixN
  rw [if_pos (Int.natCast_nonneg r), if_pos (by omega)]
  simp
theorem ok__law_drawn_weights (W : Wf P w K mg base) : FnR P w K mg base (L2.CX P w) 3 (d__law_drawn_weights.at_ K) (spS K S__law_drawn_weights) := by
  have c__law_draw := cc__law_draw W
  have c__law_pick := cc__law_pick W
  refine W.fnS in__law_drawn_weights sc__law_drawn_weights (fun fd F => F.bindsN fun _ _ _ _ _ _ us hl => match us, hl with | [_, _], _ => rfl) (fun ds k h => by first | (obtain ⟨rfl, _⟩ := h; rfl) | (obtain ⟨_, rfl, _⟩ := h; rfl) | (obtain ⟨_, _, rfl, _⟩ := h; rfl) | (obtain ⟨_, _, _, rfl, _⟩ := h; rfl) | (obtain ⟨_, _, _, _, rfl, _⟩ := h; rfl) | (obtain ⟨_, _, _, _, _, rfl, _⟩ := h; rfl) | (obtain ⟨_, _, _, _, _, _, rfl, _⟩ := h; rfl) | (obtain ⟨_, _, _, _, _, _, _, rfl, _⟩ := h; rfl) | (obtain ⟨_, _, _, _, _, _, _, _, rfl, _⟩ := h; rfl) | (obtain ⟨_, _, _, _, _, _, _, _, _, rfl, _⟩ := h; rfl)) fun cdv A outer s H E hR F sa ds kk hF hsa h => ?_
  subst hF
  obtain ⟨days, rfl, h1, h2, q⟩ := h
  refine ⟨_, (pss_cons (ps_par (i := 2) (j := 3) (by rfl) sc__law_drawn_weights.nd rfl rfl (by decide) rfl rfl (pa_cons (pe_f c__law_draw hR (by decide) rfl passL (pa_cons (pv 0) (pa_cons pe_int pa_nil))) (pa_cons (pe_lst pa_nil) pa_nil)) (by rfl))
  (pss_cons (ps_for PassesOwn.never rfl (pi_range1 rfl (W.free 8 _ rfl) (pa_cons (pv 1) pa_nil)) (pg_name (i := 4) sc__law_drawn_weights.nd rfl (Or.inl rfl))
  (pss_one (ps_if (pt_cmpR (op_eqX hR.units : OpR _ _ (rEqX F.K)) (pv 2) pe_int (nomark _))
  (pss_one (ps_expr (pe_bm PySem.F.plainAttrs_list PySem.F.slot_list_append PySem.F.type_list_append mt_append (pv 3) (pa_cons (pe_f c__law_draw hR (by decide) rfl passL (pa_cons (pv 0) (pa_cons pe_int pa_nil))) pa_nil))))
  (pss_one (ps_if (pt_cmpR (op_eqX hR.units : OpR _ _ (rEqX F.K)) (pv 2) pe_int (nomark _))
  (pss_one (ps_expr (pe_bm PySem.F.plainAttrs_list PySem.F.slot_list_append PySem.F.type_list_append mt_append (pv 3) (pa_cons (pe_f c__law_draw hR (by decide) rfl passL (pa_cons (pv 0) (pa_cons (pe_op op_pow pe_int pe_int) pa_nil))) pa_nil))))
  (pss_one (ps_if (pt_cmpR (op_eqX hR.units : OpR _ _ (rEqX F.K)) (pv 2) pe_int (nomark _))
  (pss_one (ps_expr (pe_bm PySem.F.plainAttrs_list PySem.F.slot_list_append PySem.F.type_list_append mt_append (pv 3) (pa_cons (pe_f c__law_pick hR (by decide) rfl passL (pa_cons (pv 0) (pa_cons (pe_lst (pa_cons pe_int (pa_cons pe_int (pa_cons pe_int (pa_cons pe_int (pa_cons pe_int pa_nil)))))) pa_nil))) pa_nil))))
  (pss_one (ps_expr (pe_bm PySem.F.plainAttrs_list PySem.F.slot_list_append PySem.F.type_list_append mt_append (pv 3) (pa_cons (pe_f c__law_pick hR (by decide) rfl passL (pa_cons (pv 0) (pa_cons (pe_lst (pa_cons pe_int (pa_cons pe_int (pa_cons (pe_op op_pow pe_int pe_int) (pa_cons (pe_op op_pow pe_int pe_int) (pa_cons (pe_op op_pow pe_int pe_int) pa_nil)))))) pa_nil))) pa_nil)))))))))))
  (pss_cons (ps_if (pt_cmpR (op_eqX hR.units : OpR _ _ (rEqX F.K)) (pe_callB (cr_max rfl : CallR _ _ (rMax F.K)) rfl (W.free 13 _ rfl) (by decide +kernel) (pa_cons (pv 3) pa_nil)) pe_int (nomark _))
  (pss_one (ps_asg pe_int (pg_sub (pv 3) (pe_f c__law_draw hR (by decide) rfl passL (pa_cons (pv 0) (pa_cons (pv 1) pa_nil))) set_list)))
  pss_nil)
  (pss_one (ps_ret (pv 3)))))), ?_⟩
  try dsimp only [Xof, cxOf, Cx.nox, Cx.wish, Cx.blk]
  repeat walk_at "d0"
  apply s_parO
  repeat walk_at "d"
  refine ⟨4, rfl, by omega, by omega, fun kind hkind => ?_⟩
  repeat walk_at "d"
  apply s_for
  apply ei_rng1
  repeat walk_at "d"
  refine ⟨by omega, fun i ρ => ∃ (ns : List Nat) (z : Sl), ρ = [.src sa, .val (nD days), .val (nD kind), .own (ns.map nD), z] ∧ ns.length = i ∧ ∀ n ∈ ns, n ≤ 10 ^ 18, ⟨[], _, rfl, rfl, fun n hn => by cases hn⟩, ?_, ?_⟩
  · rintro i d ρ' hi ⟨ns, z, rfl, hw⟩
    obtain ⟨rfl, hi2⟩ := ints_at hi
    have fin : ∀ (v : Nat) (a b c : Sl) (e : Sl), v ≤ 10 ^ 18 → ∃ (ns' : List Nat) (z : Sl), [.src sa, .val (nD days), .val (nD kind), .own (ns.map nD ++ [nD v]), e] = [Sl.src sa, .val (nD days), .val (nD kind), .own (ns'.map nD), z] ∧ ns'.length = i + 1 ∧ ∀ n ∈ ns', n ≤ 10 ^ 18 := fun v a b c e hv => ⟨ns ++ [v], _, by rw [List.map_append]; rfl, wok_add hw hv⟩
    have hlen : (ns.map nD).length < 100000 := by rw [List.length_map, hw.1]; omega
    refine ⟨_, g_name, ?_⟩
    repeat walk_at "d"
    refine ite2 (fun _ => ?_) (fun _ => ?_)
    · repeat walk_at "d"
      · exact hlen
      repeat walk_at "d"
      exact ⟨4, rfl, by omega, by omega, fun r hr => fin r .un .un .un _ (by omega)⟩
    repeat walk_at "d"
    refine ite2 (fun _ => ?_) (fun _ => ?_)
    · repeat walk_at "d"
      · exact hlen
      repeat walk_at "d"
      refine ro_I ⟨by decide, by decide, by decide⟩ ?_
      repeat walk_at "d"
      exact ⟨10 ^ 12, rfl, by omega, by omega, fun r hr => fin r .un .un .un _ (by omega)⟩
    repeat walk_at "d"
    refine ite2 (fun _ => ?_) (fun _ => ?_)
    · repeat walk_at "d"
      · exact hlen
      repeat walk_at "d"
      refine ⟨_, rfl, by decide, by decide, fun x hx => ?_⟩
      simp only [List.mem_cons, List.not_mem_nil, or_false] at hx
      rcases hx with rfl | rfl | rfl | rfl | rfl
      · exact fin 0 .un .un .un _ (by omega)
      · exact fin 0 .un .un .un _ (by omega)
      · exact fin 0 .un .un .un _ (by omega)
      · exact fin 1 .un .un .un _ (by omega)
      · exact fin 7 .un .un .un _ (by omega)
    · repeat walk_at "d"
      · exact hlen
      repeat walk_at "d"
      refine ro_I ⟨by decide, by decide, by decide⟩ ?_
      repeat walk_at "d"
      refine ro_I ⟨by decide, by decide, by decide⟩ ?_
      repeat walk_at "d"
      refine ro_I ⟨by decide, by decide, by decide⟩ ?_
      repeat walk_at "d"
      refine ⟨_, rfl, by decide, by decide, fun x hx => ?_⟩
      simp only [List.mem_cons, List.not_mem_nil, or_false] at hx
      rcases hx with rfl | rfl | rfl | rfl | rfl
      · exact fin 0 .un .un .un _ (by omega)
      · exact fin 1 .un .un .un _ (by omega)
      · exact fin (10 ^ 6) .un .un .un _ (by omega)
      · exact fin (10 ^ 12) .un .un .un _ (by omega)
      · exact fin (10 ^ 18) .un .un .un _ (by omega)
  · rintro ρ' ⟨ns, z, rfl, hl, hw⟩
    rw [ints_len] at hl
    repeat walk_at "d"
    refine rc_maxN (by omega) fun m hm => ?_
    repeat walk_at "d"
    refine ite2 (fun _ => ?_) (fun _ => ?_)
    · apply s_setO rfl
      repeat walk_at "d"
      refine ⟨days, rfl, h1, by omega, fun r hr => ⟨r, r, rfl, ixN_nat (by rw [List.length_map]; omega), ?_⟩⟩
      have e : (ns.map nD).set r (.int 1) = (ns.set r 1).map nD := by
        rw [List.map_set]
        rfl
      rw [e]
      with_reducible apply so_freeze 3
      rfl
      repeat walk_at "d"
      refine q (ns.set r 1) ⟨by rw [List.length_set]; omega, fun n hn => ?_⟩
      rcases List.mem_or_eq_of_mem_set hn with hn | hn
      · exact hw n hn
      · rw [hn]
        decide
    · refine s_next ?_
      with_reducible apply so_freeze 3
      rfl
      repeat walk_at "d"
      exact q ns ⟨by omega, hw⟩
theorem cc__law_drawn_weights (W : Wf P w K mg base) : Fnc P w K mg base 3 "_law_drawn_weights" (spS K S__law_drawn_weights) := W.fnc in__law_drawn_weights (fun _ => rfl) (j := 62) rfl (ok__law_drawn_weights W)
end
end K33
namespace K33
open PySem PySem.Spec PyProof.Rows L2
theorem pe_fldK {X : Cx} {K : PySem.W.Frag} {e : Expr} {f : PySem.Str} {pos : Pos} {ta : TE} (hK : X.K = K) (he : PE X e ta) (hb : attributeBase e f X.env (eval e X.env) = eval e X.env) : PE X (.Attribute e f pos) (tFld K ta f) := by
  subst hK
  exact pe_fld he hb
/-- a Lifting as a value -/
def lobj (L : LSt) : D := .obj "Lifting" lflds [L.rows, L.start, .lst L.layers, .lst L.reasons, .lst L.heights, .int L.known]
def fzB (ms : List Addr) (B H : Hp) : Hp := fun q => if q ∈ ms then H q else B q
def thB (ms : List Addr) (B : Hp) : Hp := fun q => if q ∈ ms then none else B q
section
variable {F : Fm} {ρ : List Sl} {k : D → Prop} {kl : List D → Prop} {kb : Bool → Prop} {te ta : TE} {tt : TT} {N : List Sl → Prop} {R : D → Prop} {B H : Hp} {σ : L2.St} {i : Nat} {p a b c : Addr} {L : LSt}
theorem fz_same {ms : List Addr} (h : ∀ q ∈ ms, B q = none) : Same B (fzB ms B H) := fun q o e => by
  unfold fzB
  rw [if_neg fun z => by rw [h q z] at e; cases e]
  exact e
theorem fz_bh {ms : List Addr} (e : Same B H) : Same (fzB ms B H) H := fun q o h => by
  unfold fzB at h
  split at h
  · exact h
  · exact e q o h
/-- a Lifting known whole -/
theorem LftAt.rep {K : PySem.W.Frag} (h : LftAt K B H p a b c L) : Rep K (fzB [p, a, b, c] B H) (lobj L) (.ref p) := by
  obtain ⟨⟨dx, v1, v2, e, r1, r2⟩, ⟨va, ea, ra⟩, ⟨vb, eb, rb⟩, ⟨vc, ec, rc⟩, nB, _⟩ := h
  have ss := fz_same (B := B) (H := H) nB
  have at_ : ∀ q ∈ [p, a, b, c], fzB [p, a, b, c] B H q = H q := fun q hq => if_pos hq
  refine ⟨p, dx, [v1, v2, .ref a, .ref b, .ref c, .int L.known], rfl, ?_, rfl, ?_⟩
  · rw [at_ p (by simp)]
    exact e
  · refine .cons (r1.mono ss) (.cons (r2.mono ss) (.cons ⟨a, va, rfl, ?_, ra.mono ss⟩ (.cons ⟨b, vb, rfl, ?_, rb.mono ss⟩ (.cons ⟨c, vc, rfl, ?_, rc.mono ss⟩ (.cons rfl RepL.nil)))))
    · rw [at_ a (by simp)]
      exact ea
    · rw [at_ b (by simp)]
      exact eb
    · rw [at_ c (by simp)]
      exact ec
theorem set_at {l : Sl} (h : ρ[i]? = some l) {m : Sl} : (ρ.set i m)[i]? = some m := List.getElem?_set_self (List.getElem?_eq_some_iff.mp h).1
theorem EnvOk.freezeL (E : EnvOk F B H σ ρ) (h : ρ[i]? = some (.lft p a b c L)) : EnvOk F (fzB [p, a, b, c] B H) H σ (ρ.set i (.val (lobj L))) := by
  obtain ⟨h1, h2, h3, h4, h5, h6⟩ := E.at_ i _ h
  have ss := fz_same (B := B) (H := H) h2.nB
  have hi := (List.getElem?_eq_some_iff.mp h).1
  refine ⟨⟨E.bs.b0.trans ss, fz_bh E.bs.bh, E.bs.fh, fun q n1 n2 n3 => ?_, E.bs.al, E.bs.src, E.bs.me⟩, by rw [List.length_set]; exact E.len, fun j l e => ?_, fun j j' l m q e1 e2 o1 o2 f1 f2 => ?_⟩
  · unfold fzB
    rw [if_neg (h3 ▸ n3)]
    exact E.bs.z q n1 n2 n3
  · by_cases hj : i = j
    · subst hj
      rw [List.getElem?_set_self hi] at e
      cases e
      exact ⟨_, h1, h2.rep⟩
    · rw [List.getElem?_set_ne hj] at e
      have g := E.at_ j l e
      have ne : ∀ q, F.H0 q = none → fzB [p, a, b, c] B H q = B q := fun q z => if_neg fun hq => (h6 q (h3 ▸ hq)).1 z
      cases l with
      | un => trivial
      | val d =>
        obtain ⟨v, a1, a2⟩ := g
        exact ⟨v, a1, a2.mono ss⟩
      | own es =>
        obtain ⟨q, us, a1, a2, a3, a4, a5⟩ := g
        exact ⟨q, us, a1, a2, by rw [ne q a4]; exact a3, a4, a5.mono ss⟩
      | ins q c ns es =>
        obtain ⟨_, _, _, _, _, a5, _⟩ := g
        rw [h5] at a5
        cases a5
      | src q => exact absurd e (E.nosrc h j q)
      | lft q a' b' c' L' =>
        obtain ⟨a1, a2, a3, _⟩ := g
        rw [h3] at a3
        cases a3
        exact absurd (E.inj i j _ _ _ h e rfl rfl h1 a1) hj
      | tab P q =>
        obtain ⟨_, _, a3⟩ := g
        rw [h5] at a3
        cases a3
  · have n1 : i ≠ j := fun z => by
      subst z
      rw [List.getElem?_set_self hi] at e1
      cases e1
      cases o1
    have n2 : i ≠ j' := fun z => by
      subst z
      rw [List.getElem?_set_self hi] at e2
      cases e2
      cases o2
    rw [List.getElem?_set_ne n1] at e1
    rw [List.getElem?_set_ne n2] at e2
    exact E.inj j j' l m q e1 e2 o1 o2 f1 f2
theorem Stp.thawL (E : EnvOk F B H σ ρ) (h : ρ[i]? = some (.lft p a b c L)) {B' H' : Hp} (S : Stp F σ (ρ.set i (.val (lobj L))) (fzB [p, a, b, c] B H) H B' H') : Stp F σ ρ B H (thB [p, a, b, c] B') H' := by
  obtain ⟨h1, h2, h3, h4, h5, h6⟩ := E.at_ i _ h
  have hi := (List.getElem?_eq_some_iff.mp h).1
  have nin : ∀ {q o}, B q = some o → q ∉ [p, a, b, c] := fun {q o} e z => by
    rw [h2.nB q z] at e
    cases e
  have ss : Same B (thB [p, a, b, c] B') := fun q o e => by
    unfold thB
    rw [if_neg (nin e)]
    exact S.bb q o (by unfold fzB; rw [if_neg (nin e)]; exact e)
  have nosrc := E.nosrc h
  have nosrc2 : ∀ (j : Nat) (q : Addr), (ρ.set i (.val (lobj L)))[j]? ≠ some (.src q) := fun j q z => by
    by_cases hj : i = j
    · subst hj
      rw [List.getElem?_set_self hi] at z
      cases z
    · rw [List.getElem?_set_ne hj] at z
      exact nosrc j q z
  have kp : ∀ q o, H q = some o → H' q = some o := fun q o e => S.kp q o e fun j => nosrc2 j q
  have zz : ∀ q, H q ≠ none → B q = none → thB [p, a, b, c] B' q = none := fun q e1 e2 => by
    unfold thB
    by_cases hq : q ∈ [p, a, b, c]
    · rw [if_pos hq]
    · rw [if_neg hq]
      exact S.z q e1 (by unfold fzB; rw [if_neg hq]; exact e2)
  have E' := S.env
  refine ⟨⟨⟨E.bs.b0.trans ss, fun q o e => ?_, E'.bs.fh, fun q n1 n2 n3 => zz q (E.bs.al q n1) (E.bs.z q n1 n2 n3), E'.bs.al, E'.bs.src, E'.bs.me⟩, E.len, fun j l e => ?_, E.inj⟩, ss, fun q o e _ => kp q o e, zz, S.al⟩
  · unfold thB at e
    split at e
    · cases e
    · exact E'.bs.bh q o e
  · have g := E.at_ j l e
    cases l with
    | un => trivial
    | val d =>
      obtain ⟨v, a1, a2⟩ := g
      exact ⟨v, a1, a2.mono ss⟩
    | own es =>
      obtain ⟨q, us, a1, a2, a3, a4, a5⟩ := g
      exact ⟨q, us, a1, kp q _ a2, zz q (by rw [a2]; exact Option.some_ne_none _) a3, a4, a5.mono ss⟩
    | ins q c ns es =>
      obtain ⟨_, _, _, _, _, a5, _⟩ := g
      rw [h5] at a5
      cases a5
    | src q => exact absurd e (nosrc j q)
    | lft q a' b' c' L' =>
      obtain ⟨a1, a2, a3, a4, a5, a6⟩ := g
      exact ⟨a1, a2.mono ss (fun x _ o z => kp x o z) (fun x _ z1 z2 => zz x z1 z2), a3, a4, a5, a6⟩
    | tab P q =>
      obtain ⟨_, _, a3⟩ := g
      rw [h5] at a3
      cases a3
theorem ev_frzL (i : Nat) (h : ρ[i]? = some (.lft p a b c L)) (g : EvD F te (ρ.set i (.val (lobj L))) fun d => d.scalar = true ∧ k d) : EvD F te ρ k := fun B H σ E Q hQ =>
  g _ H σ (E.freezeL h) Q fun d v B' H' ⟨sc, q⟩ S r => hQ d v _ H' q (S.thawL E h) (r.scalar sc)
theorem et_frzL (i : Nat) (h : ρ[i]? = some (.lft p a b c L)) (g : EvT F tt (ρ.set i (.val (lobj L))) kb) : EvT F tt ρ kb := fun B H σ E Q hQ =>
  g _ H σ (E.freezeL h) Q fun d B' H' q S => hQ d _ H' q (S.thawL E h)
theorem RepL.scalar {K : PySem.W.Frag} {B B' : Hp} : ∀ {ds : List D} {vs : List V}, RepL K B ds vs → (∀ d ∈ ds, d.scalar = true) → RepL K B' ds vs
  | [], _, h, _ => h
  | d :: ds, _, h, s => by
    obtain ⟨v, r, h1, h2, h3⟩ := h
    exact ⟨v, r, h1, h2.scalar (s d (List.mem_cons_self ..)), RepL.scalar h3 fun x hx => s x (List.mem_cons_of_mem _ hx)⟩
theorem en_frzL (i : Nat) (h : ρ[i]? = some (.lft p a b c L)) (g : EvN F te (ρ.set i (.val (lobj L))) fun ds => (∀ d ∈ ds, d.scalar = true) ∧ kl ds) : EvN F te ρ kl := fun B H σ E Q hQ =>
  g _ H σ (E.freezeL h) Q fun ds q vs B' H' ⟨sc, n⟩ S hp hB hH r => hQ ds q vs _ H' n (S.thawL E h) hp (by
    unfold thB
    split
    · rfl
    · exact hB) hH (r.scalar sc)
/-- one of its objects changes -/
theorem EnvOk.mutL (E : EnvOk F B H σ ρ) (h : ρ[i]? = some (.lft p a b c L)) {q : Addr} {o : HO} {L' : LSt} (hq : q ∈ [p, a, b, c]) (hL : LftAt F.K B (upd H q o) p a b c L') : EnvOk F B (upd H q o) σ (ρ.set i (.lft p a b c L')) := by
  obtain ⟨h1, h2, h3, h4, h5, h6⟩ := E.at_ i _ h
  have hi := (List.getElem?_eq_some_iff.mp h).1
  have hqm : q ∈ F.ms := h3 ▸ hq
  refine ⟨⟨E.bs.b0, Same.mut E.bs.bh (h2.nB q hq), Same.mut E.bs.fh (by unfold hid; rw [if_pos (.inr (.inr hqm))]), E.bs.z, fun x hx => ?_, (fun s hs => by rw [h4] at hs; cases hs), E.bs.me⟩, by rw [List.length_set]; exact E.len, fun j l e => ?_, fun j j' l m x e1 e2 o1 o2 f1 f2 => ?_⟩
  · by_cases hb : x = q
    · subst hb
      rw [upd_same]
      exact Option.some_ne_none _
    · rw [upd_ne hb]
      exact E.bs.al x hx
  · by_cases hj : i = j
    · subst hj
      rw [List.getElem?_set_self hi] at e
      cases e
      exact ⟨h1, hL, h3, h4, h5, h6⟩
    · rw [List.getElem?_set_ne hj] at e
      have g := E.at_ j l e
      cases l with
      | un => trivial
      | val d => exact g
      | own es =>
        obtain ⟨x, us, a1, a2, a3, a4, a5⟩ := g
        have : x ≠ q := fun z => (h6 q hqm).1 (z ▸ a4)
        exact ⟨x, us, a1, by rw [upd_ne this]; exact a2, a3, a4, a5⟩
      | ins x c ns es =>
        obtain ⟨_, _, _, _, _, a5, _⟩ := g
        rw [h5] at a5
        cases a5
      | src x => exact absurd e (E.nosrc h j x)
      | lft x a' b' c' L' =>
        obtain ⟨a1, a2, a3, _⟩ := g
        rw [h3] at a3
        cases a3
        exact absurd (E.inj i j _ _ _ h e rfl rfl h1 a1) hj
      | tab P q =>
        obtain ⟨_, _, a3⟩ := g
        rw [h5] at a3
        cases a3
  · have old : ∀ (j : Nat) (l : Sl), (ρ.set i (.lft p a b c L'))[j]? = some l → l.isOwn = true → ∃ l', ρ[j]? = some l' ∧ l'.isOwn = true := fun j l e o => by
      by_cases hj : i = j
      · subst hj
        exact ⟨_, h, rfl⟩
      · rw [List.getElem?_set_ne hj] at e
        exact ⟨l, e, o⟩
    obtain ⟨l1, a1, a2⟩ := old j l e1 o1
    obtain ⟨l2, b1, b2⟩ := old j' m e2 o2
    exact E.inj j j' l1 l2 x a1 b1 a2 b2 f1 f2
theorem set_self {xs : List D} : ∀ {ds : List D} {vs : List V} {j : Nat} {d : D} {v : V} {K : PySem.W.Frag} {B : Hp}, RepL K B ds vs → Rep K B d v → RepL K B (ds.set j d) (vs.set j v) := fun r1 r2 => r1.set r2
theorem LftAt.neP {K : PySem.W.Frag} (h : LftAt K B H p a b c L) : a ≠ p ∧ b ≠ p ∧ c ≠ p := by
  obtain ⟨dx, v1, v2, e, _⟩ := h.at_
  obtain ⟨va, ea, _⟩ := h.la
  obtain ⟨vb, eb, _⟩ := h.lb
  obtain ⟨vc, ec, _⟩ := h.lc
  refine ⟨fun z => ?_, fun z => ?_, fun z => ?_⟩
  · rw [z, e] at ea; cases ea
  · rw [z, e] at eb; cases eb
  · rw [z, e] at ec; cases ec
/-- self.f[j] = e, f one of the three lists -/
theorem s_setLayers (h : ρ[i]? = some (.lft p a b c L)) (kc : KC F.K "Lifting" "layers") (g : EvD F te ρ fun d => EvD F ta ρ fun y => ∃ (z : Int) (j : Nat), y = .int z ∧ ixN L.layers.length z = some j ∧ N (ρ.set i (.lft p a b c { L with layers := L.layers.set j d }))) : SOk F (tAsg te (gSub (tFld F.K (tVar i) "layers") ta rSetL)) ρ N R := fun B H σ E En hn hr => by
  refine g B H σ E _ fun d v B1 H1 g2 S1 r1 => ?_
  obtain ⟨e1, e2, _⟩ := S1.env.at_ i _ h
  obtain ⟨dx, v1, v2, e3, _⟩ := e2.at_
  refine ⟨_, e1, p, _, dx, _, .ref a, rfl, e3, kc.1, kc.2, rfl, ?_⟩
  refine g2 B1 H1 σ S1.env _ fun y vy B2 H2 ⟨z, j, ey, ej, n⟩ S2 r2 => ?_
  subst ey
  cases r2
  have S := S1.trans S2
  obtain ⟨f1, f2, _⟩ := S.env.at_ i _ h
  have np := f2.neP
  obtain ⟨⟨dx', w1, w2, q3, q4, q5⟩, ⟨vs, q6, q7⟩, ⟨ub, ub1, ub2⟩, ⟨uc, uc1, uc2⟩, m1, m2, m3, m4⟩ := f2
  refine ⟨a, vs, z, j, rfl, rfl, q6, by rw [q7.len]; exact ej, hn _ B2 _ σ n S.bb (S.env.mutL h (by simp) ⟨⟨dx', w1, w2, by rw [upd_ne np.1.symm]; exact q3, q4, q5⟩, ⟨_, upd_same, q7.set (r1.mono S2.bb)⟩, ⟨ub, by rw [upd_ne m2.symm]; exact ub1, ub2⟩, ⟨uc, by rw [upd_ne m3.symm]; exact uc1, uc2⟩, m1, m2, m3, m4⟩)⟩
theorem s_setReasons (h : ρ[i]? = some (.lft p a b c L)) (kc : KC F.K "Lifting" "reasons") (g : EvD F te ρ fun d => EvD F ta ρ fun y => ∃ (z : Int) (j : Nat), y = .int z ∧ ixN L.reasons.length z = some j ∧ N (ρ.set i (.lft p a b c { L with reasons := L.reasons.set j d }))) : SOk F (tAsg te (gSub (tFld F.K (tVar i) "reasons") ta rSetL)) ρ N R := fun B H σ E En hn hr => by
  refine g B H σ E _ fun d v B1 H1 g2 S1 r1 => ?_
  obtain ⟨e1, e2, _⟩ := S1.env.at_ i _ h
  obtain ⟨dx, v1, v2, e3, _⟩ := e2.at_
  refine ⟨_, e1, p, _, dx, _, .ref b, rfl, e3, kc.1, kc.2, rfl, ?_⟩
  refine g2 B1 H1 σ S1.env _ fun y vy B2 H2 ⟨z, j, ey, ej, n⟩ S2 r2 => ?_
  subst ey
  cases r2
  have S := S1.trans S2
  obtain ⟨f1, f2, _⟩ := S.env.at_ i _ h
  have np := f2.neP
  obtain ⟨⟨dx', w1, w2, q3, q4, q5⟩, ⟨ub, ub1, ub2⟩, ⟨vs, q6, q7⟩, ⟨uc, uc1, uc2⟩, m1, m2, m3, m4⟩ := f2
  refine ⟨b, vs, z, j, rfl, rfl, q6, by rw [q7.len]; exact ej, hn _ B2 _ σ n S.bb (S.env.mutL h (by simp) ⟨⟨dx', w1, w2, by rw [upd_ne np.2.1.symm]; exact q3, q4, q5⟩, ⟨ub, by rw [upd_ne m2]; exact ub1, ub2⟩, ⟨_, upd_same, q7.set (r1.mono S2.bb)⟩, ⟨uc, by rw [upd_ne m4.symm]; exact uc1, uc2⟩, m1, m2, m3, m4⟩)⟩
theorem s_setHeights (h : ρ[i]? = some (.lft p a b c L)) (kc : KC F.K "Lifting" "heights") (g : EvD F te ρ fun d => EvD F ta ρ fun y => ∃ (z : Int) (j : Nat), y = .int z ∧ ixN L.heights.length z = some j ∧ N (ρ.set i (.lft p a b c { L with heights := L.heights.set j d }))) : SOk F (tAsg te (gSub (tFld F.K (tVar i) "heights") ta rSetL)) ρ N R := fun B H σ E En hn hr => by
  refine g B H σ E _ fun d v B1 H1 g2 S1 r1 => ?_
  obtain ⟨e1, e2, _⟩ := S1.env.at_ i _ h
  obtain ⟨dx, v1, v2, e3, _⟩ := e2.at_
  refine ⟨_, e1, p, _, dx, _, .ref c, rfl, e3, kc.1, kc.2, rfl, ?_⟩
  refine g2 B1 H1 σ S1.env _ fun y vy B2 H2 ⟨z, j, ey, ej, n⟩ S2 r2 => ?_
  subst ey
  cases r2
  have S := S1.trans S2
  obtain ⟨f1, f2, _⟩ := S.env.at_ i _ h
  have np := f2.neP
  obtain ⟨⟨dx', w1, w2, q3, q4, q5⟩, ⟨ub, ub1, ub2⟩, ⟨uc, uc1, uc2⟩, ⟨vs, q6, q7⟩, m1, m2, m3, m4⟩ := f2
  refine ⟨c, vs, z, j, rfl, rfl, q6, by rw [q7.len]; exact ej, hn _ B2 _ σ n S.bb (S.env.mutL h (by simp) ⟨⟨dx', w1, w2, by rw [upd_ne np.2.2.symm]; exact q3, q4, q5⟩, ⟨ub, by rw [upd_ne m3]; exact ub1, ub2⟩, ⟨uc, by rw [upd_ne m4]; exact uc1, uc2⟩, ⟨_, upd_same, q7.set (r1.mono S2.bb)⟩, m1, m2, m3, m4⟩)⟩
/-- self.known = e -/
theorem s_setKnown (h : ρ[i]? = some (.lft p a b c L)) (kc : KC F.K "Lifting" "known") (g : EvD F te ρ fun d => ∃ z, d = .int z ∧ N (ρ.set i (.lft p a b c { L with known := z }))) : SOk F (sFld F.K (tVar i) te "known") ρ N R := fun B H σ E En hn hr => by
  refine g B H σ E _ fun d v B1 H1 ⟨z, ed, n⟩ S r1 => ?_
  subst ed
  cases r1
  obtain ⟨f1, f2, _⟩ := S.env.at_ i _ h
  have np := f2.neP
  obtain ⟨⟨dx', w1, w2, q3, q4, q5⟩, ⟨ua, ua1, ua2⟩, ⟨ub, ub1, ub2⟩, ⟨uc, uc1, uc2⟩, m1, m2, m3, m4⟩ := f2
  refine ⟨_, f1, p, _, dx', _, rfl, q3, kc.1, kc.2, (by show 6 < 1000; decide), hn _ B1 _ σ n S.bb (S.env.mutL h (by simp) ⟨⟨dx', w1, w2, ?_, q4, q5⟩, ⟨ua, by rw [upd_ne np.1]; exact ua1, ua2⟩, ⟨ub, by rw [upd_ne np.2.1]; exact ub1, ub2⟩, ⟨uc, by rw [upd_ne np.2.2]; exact uc1, uc2⟩, m1, m2, m3, m4⟩)⟩
  rw [upd_same]
  rfl
/-! ### methods that change self -/
def spM (K : PySem.W.Frag) (S : LSt → List D → (D → LSt → Prop) → Prop) : Sp := fun vs H Q _ => ∃ p a b c L vs' ds B k, vs = .ref p :: vs' ∧ LftAt K B H p a b c L ∧ Bs ⟨K, B, H, none, none, [p, a, b, c]⟩ B H ∧ RepL K B ds vs' ∧ S L ds k ∧
  ∀ d v L' B' H', k d L' → Bs ⟨K, B, H, none, none, [p, a, b, c]⟩ B' H' → LftAt K B' H' p a b c L' → Rep K B' d v → Q v H'
theorem bs_startM {K : PySem.W.Frag} {ms : List Addr} (e : Same B H) : Bs ⟨K, B, H, none, none, ms⟩ B H := ⟨Same.refl _, e, fun b o h => hid_some (F := ⟨K, B, H, none, none, ms⟩) h, fun _ _ h _ => h, fun _ h => h, (fun _ h => by cases h), (fun _ h => by cases h)⟩
theorem EnvOk.callM (E : EnvOk F B H σ ρ) (h : ρ[i]? = some (.lft p a b c L)) {B' H' : Hp} {L' : LSt} (b' : Bs ⟨F.K, B, H, none, none, [p, a, b, c]⟩ B' H') (hL : LftAt F.K B' H' p a b c L') : EnvOk F B' H' σ (ρ.set i (.lft p a b c L')) := by
  obtain ⟨h1, h2, h3, h4, h5, h6⟩ := E.at_ i _ h
  have hi := (List.getElem?_eq_some_iff.mp h).1
  have sm : ∀ q o, q ∉ [p, a, b, c] → H q = some o → H' q = some o := fun q o n e => b'.fh q o (by
    unfold hid
    rw [if_neg (by rintro (z | z | z); · cases z
                   · cases z
                   · exact n z)]
    exact e)
  refine ⟨⟨E.bs.b0.trans b'.b0, b'.bh, fun q o e => sm q o (h3 ▸ hid_ms e) (E.bs.fh q o e), fun q n1 n2 n3 => b'.z q (E.bs.al q n1) (E.bs.z q n1 n2 n3) (h3 ▸ n3), fun q n => b'.al q (E.bs.al q n), (fun s hs => by rw [h4] at hs; cases hs), E.bs.me⟩, by rw [List.length_set]; exact E.len, fun j l e => ?_, fun j j' l m x e1 e2 o1 o2 f1 f2 => ?_⟩
  · by_cases hj : i = j
    · subst hj
      rw [List.getElem?_set_self hi] at e
      cases e
      exact ⟨h1, hL, h3, h4, h5, h6⟩
    · rw [List.getElem?_set_ne hj] at e
      have g := E.at_ j l e
      cases l with
      | un => trivial
      | val d =>
        obtain ⟨v, a1, a2⟩ := g
        exact ⟨v, a1, a2.mono b'.b0⟩
      | own es =>
        obtain ⟨x, us, a1, a2, a3, a4, a5⟩ := g
        have nx : x ∉ [p, a, b, c] := fun z => (h6 x (h3 ▸ z)).1 a4
        exact ⟨x, us, a1, sm x _ nx a2, b'.z x (show H x ≠ none by rw [a2]; exact Option.some_ne_none _) a3 nx, a4, a5.mono b'.b0⟩
      | ins x c ns es =>
        obtain ⟨_, _, _, _, _, a5, _⟩ := g
        rw [h5] at a5
        cases a5
      | src x => exact absurd e (E.nosrc h j x)
      | lft x a' b'' c' L' =>
        obtain ⟨a1, a2, a3, _⟩ := g
        rw [h3] at a3
        cases a3
        exact absurd (E.inj i j _ _ _ h e rfl rfl h1 a1) hj
      | tab P q =>
        obtain ⟨_, _, a3⟩ := g
        rw [h5] at a3
        cases a3
  · have old : ∀ (j : Nat) (l : Sl), (ρ.set i (.lft p a b c L'))[j]? = some l → l.isOwn = true → ∃ l', ρ[j]? = some l' ∧ l'.isOwn = true := fun j l e o => by
      by_cases hj : i = j
      · subst hj
        exact ⟨_, h, rfl⟩
      · rw [List.getElem?_set_ne hj] at e
        exact ⟨l, e, o⟩
    obtain ⟨l1, a1, a2⟩ := old j l e1 o1
    obtain ⟨l2, b1, b2⟩ := old j' m e2 o2
    exact E.inj j j' l1 l2 x a1 b1 a2 b2 f1 f2
/-- an expression that changes the Lifting in slot i -/
def EvM (F : Fm) (te : TE) (ρ : List Sl) (i : Nat) (p a b c : Addr) (k : D → LSt → Prop) : Prop := ∀ B H σ, EnvOk F B H σ ρ → ∀ Q : VK, (∀ d v L' B' H', k d L' → Same B B' → EnvOk F B' H' σ (ρ.set i (.lft p a b c L')) → Rep F.K B' d v → Q v H') → te σ H Q
theorem em_meth {m : Str} {t : TA} {S : LSt → List D → (D → LSt → Prop) → Prop} {E : XK} {km : D → LSt → Prop} (hm : lflds.contains m = false) (h : ρ[i]? = some (.lft p a b c L)) (g : EvA F t ρ fun ds => S L ds km) : EvM F (tMethR (He.ga F.K "Lifting") m (spM F.K S) E (tVar i) t) ρ i p a b c km := fun B H σ E0 Q hQ => by
  obtain ⟨e1, e2, _⟩ := E0.at_ i _ h
  obtain ⟨dx, v1, v2, e3, _⟩ := e2.at_
  refine ⟨_, e1, p, dx, _, rfl, e3, ev_meth.look_none hm, ?_⟩
  refine g B H σ E0 _ fun ds vs B1 H1 n S1 r1 => ?_
  obtain ⟨f1, f2, _⟩ := S1.env.at_ i _ h
  exact ⟨p, a, b, c, L, vs, ds, B1, km, rfl, f2, bs_startM S1.env.bs.bh, r1, n, fun d v L' B' H' q b' hL r => hQ d v L' B' H' q (S1.bb.trans b'.b0) (S1.env.callM h b' hL) r⟩
/-- if self.m(..) op e: -/
theorem s_ifM {r : R2} {tm tb : TE} {ts tu : TS} (hm : EvM F tm ρ i p a b c fun d L' => EvD F tb (ρ.set i (.lft p a b c L')) fun y => ROp F r (ρ.set i (.lft p a b c L')) d y fun z => ∃ t, z = .bl t ∧ if t = true then SOk F ts (ρ.set i (.lft p a b c L')) N R else SOk F tu (ρ.set i (.lft p a b c L')) N R) : SOk F (tIfS (tTest (tOp r tm tb)) ts tu) ρ N R := fun B H σ E En hn hr =>
  hm B H σ E _ fun d v L' B1 H1 g ss E1 r1 => g B1 H1 σ E1 _ fun y vy B2 H2 g2 S2 r2 => g2 B2 H2 σ v vy S2.env (r1.mono S2.bb) r2 _ fun z vz B3 H3 ⟨t, ez, q⟩ S3 r3 => by
    subst ez
    cases r3
    have e3 : Same B B3 := ss.trans (S2.bb.trans S3.bb)
    refine ⟨t, rfl, ?_⟩
    cases t with
    | true => exact (show SOk F ts _ N R from q) B3 H3 σ S3.env En (fun ρ2 B2 H2 σ2 n e2 E2 => hn ρ2 B2 H2 σ2 n (e3.trans e2) E2) (fun d v B2 H2 r e2 => hr d v B2 H2 r (e3.trans e2))
    | false => exact (show SOk F tu _ N R from q) B3 H3 σ S3.env En (fun ρ2 B2 H2 σ2 n e2 E2 => hn ρ2 B2 H2 σ2 n (e3.trans e2) E2) (fun d v B2 H2 r e2 => hr d v B2 H2 r (e3.trans e2))
/-- a body that returns beside the changed Lifting in slot 0 -/
def SOkM (F : Fm) (ts : TS) (ρ : List Sl) (p a b c : Addr) (k : D → LSt → Prop) : Prop := ∀ B H σ, EnvOk F B H σ ρ → ∀ En : Ends,
  (∀ ρ' L' B' H' σ', ρ'[0]? = some (.lft p a b c L') → k .non L' → Same B B' → EnvOk F B' H' σ' ρ' → En.nx σ' H') → (∀ d v L' B' H', k d L' → Same B B' → Bs F B' H' → LftAt F.K B' H' p a b c L' → Rep F.K B' d v → En.rt v H') → ts En σ H
theorem som_end {ts : TS} {km : D → LSt → Prop} (h : SOk F ts ρ (fun ρ' => ∃ L', ρ'[0]? = some (.lft p a b c L') ∧ km .non L') (fun _ => False)) : SOkM F ts ρ p a b c km := fun B H σ E En hn hr =>
  h B H σ E En (fun ρ' B' H' σ' ⟨L', e, q⟩ ss E' => hn ρ' L' B' H' σ' e q ss E') (fun d v B' H' z => z.elim)
theorem som_seq {ts tu : TS} {km : D → LSt → Prop} (h : SOk F ts ρ (fun ρ' => SOkM F tu ρ' p a b c km) (fun _ => False)) : SOkM F (tSeq ts tu) ρ p a b c km := fun B H σ E En hn hr =>
  h B H σ E { En with nx := tu En } (fun ρ' B' H' σ' g e E' => g B' H' σ' E' En (fun ρ2 L2 B2 H2 σ2 e2 n s2 E2 => hn ρ2 L2 B2 H2 σ2 e2 n (e.trans s2) E2) (fun d v L2 B2 H2 r s2 => hr d v L2 B2 H2 r (e.trans s2))) (fun d v B' H' z => z.elim)
theorem som_retO {km : D → LSt → Prop} {j : Nat} {ds : List D} (h : ρ[0]? = some (.lft p a b c L)) (hj : ρ[j]? = some (.own ds)) (q : km (.lst ds) L) : SOkM F (tRet (tVar j)) ρ p a b c km := fun B H σ E En hn hr => by
  obtain ⟨q', vs, h1, hB, hH, hr', h0, E2⟩ := E.freeze hj
  have ss : Same B (upd B q' (.lst vs)) := Same.upd hB
  have hj0 : j ≠ 0 := fun z => by
    subst z
    rw [h] at hj
    cases hj
  obtain ⟨_, e2, _⟩ := E2.at_ 0 (.lft p a b c L) (by rw [List.getElem?_set_ne hj0]; exact h)
  exact ⟨_, h1, hr _ _ L _ H q ss E2.bs e2 ⟨q', vs, rfl, upd_same, hr'.mono ss⟩⟩
end
section
variable {P : Program} {w : World} {K : PySem.W.Frag} {mg : PySem.Str → Option Value} {base : Heap}
theorem Wf.fnM (W : Wf P w K mg base) {i : Nat} {d : He5.DefA} (hd : fnl[i]? = some d) {N ps : List PySem.Str} {k : Nat} {S : LSt → List D → (D → LSt → Prop) → Prop} (sc : FnScope N ps d.scope) (hb : ∀ fd, FunD K d.name d.qual d.params d.body d.scope (d.dvs K) (d.kws K) (d.at_ K) fd → Binds K fd ps [])
    (len : ∀ L ds k, S L ds k → ds.length + 1 = ps.length)
    (hbody : ∀ cdv A outer s H E, Room k (A.deeper (envOfC d.qual d.scope s.heap.objs.size (d.at_ K) cdv)) → ∀ (F : Fm) p a b c L ds kk, F.K = K → S L ds kk → ∃ t, PSs (Xof P w K mg base N d cdv A outer s H E).nox d.body t ∧ SOkM F t (.lft p a b c L :: ρ0 N.tail ds) p a b c kk) :
    FnR P w K mg base (L2.CX P w) (k + 1) (d.at_ K) (spM K S) := by
  obtain ⟨fd, Fn⟩ := W.fn i d hd
  have hpl : ps.length ≤ N.length := by
    have := congrArg List.length sc.pre
    rw [List.length_take] at this
    omega
  have G := Fn.ok (P := P) (w := w) (mg := mg) (base := base) (CX := L2.CX P w) (k := k) (sp := spM K S) sc (fun vs H Q E h => by
    obtain ⟨p, a, b, c, L, vs', ds, B, kk, rfl, _, _, r, h, _⟩ := h
    rw [List.length_cons, r.len]
    exact len L ds kk h) fun cdv A outer s H vs Q E hr h => by
      obtain ⟨p, a, b, c, L, vs', ds, B, kk, rfl, hL, bs, r, h, q1⟩ := h
      obtain ⟨t, ht, hS⟩ := hbody cdv A outer s H E hr ⟨K, B, H, none, none, [p, a, b, c]⟩ p a b c L ds kk rfl h
      refine ⟨t, ht.nox, hS B H _ (env_start1 bs r (by rw [len L ds kk h]; exact hpl) ⟨rfl, hL, rfl, rfl, rfl, fun q hq => ⟨hL.mem q hq, hL.nB q hq⟩⟩) _ (fun ρ' L' B' H' σ' e n _ E' => ?_) fun d v L' B' H' q _ b' l' r' => q1 d v L' B' H' q b' l' r'⟩
      obtain ⟨_, e2, _⟩ := E'.at_ 0 _ e
      exact q1 _ _ L' B' H' n E'.bs e2 rfl
  have G2 := G.raw (hb fd Fn) .nil
  exact G2.imp fun vs H Q E h => by
    rw [List.append_nil]
    exact h
/-- o.m(), answered by a new list -/
theorem en_meth0N {F : Fm} {ρ : List Sl} {kl : List D → Prop} {ta : TE} {E : XK} {c m : PySem.Str} {S : List D → (List D → Prop) → Prop} (h : EvD F ta ρ fun d => ∃ ns xs, d = .obj c ns xs ∧ ns.contains m = false ∧ S [d] kl) : EvN F (tM0 (He.ga F.K c) m (spN F.K S) E ta) ρ kl := fun B H σ E0 Q hQ =>
  h B H σ E0 _ fun d v B1 H1 ⟨ns, xs, ed, hm, g⟩ S1 r1 => by
    subst ed
    have r0 := r1
    obtain ⟨a, dx, vs, rfl, h1, h2, h3⟩ := r1
    exact ⟨a, dx, _, rfl, S1.env.bs.bh _ _ h1, ev_meth.look_none hm, _, B1, kl, bs_start S1.env.bs.bh, .cons r0 RepL.nil, g, fun xs p us B' H' q b hp hB hH r => hQ xs p us B' H' q (S1.trans (Stp.call S1.env b)) (fresh_of (S1 := S1) hp) hB hH r⟩
/-! ### a Lifting made -/
/-- the __init__ of a Lifting: its three lists are new and may change -/
def spLI (K : PySem.W.Frag) (S : List D → (LSt → Prop) → Prop) : Sp := fun vs H Q _ => ∃ x dx vs' ds B k, vs = .ref x :: vs' ∧ H x = some (.ins (He.ga K "Lifting") dx []) ∧ B x = none ∧ Bs ⟨K, B, H, none, some x, []⟩ B H ∧ RepL K B ds vs' ∧ S ds k ∧
  ∀ L a b c B' H', k L → Bs ⟨K, B, H, none, some x, []⟩ B' H' → LftAt K B' H' x a b c L → H a = none → H b = none → H c = none → Q .non H'
def SLI (F : Fm) (ts : TS) (ρ : List Sl) (p : Addr) (k : LSt → Prop) : Prop := ∀ B H σ, EnvOk F B H σ ρ → ∀ En : Ends,
  (∀ L a b c B' H' σ', k L → Bs F B' H' → LftAt F.K B' H' p a b c L → F.H0 a = none → F.H0 b = none → F.H0 c = none → En.nx σ' H') → ts En σ H
section
variable {F : Fm} {ρ : List Sl} {p : Addr} {km : LSt → Prop}
theorem sli_seq {ts tu : TS} (h : SOk F ts ρ (fun ρ' => SLI F tu ρ' p km) (fun _ => False)) : SLI F (tSeq ts tu) ρ p km := fun B H σ E En hn =>
  h B H σ E { En with nx := tu En } (fun ρ' B' H' σ' g e E' => g B' H' σ' E' En hn) (fun d v B' H' z => z.elim)
theorem fldN {B H : Hp} {σ : L2.St} {En : Ends} {te : TE} {kl : List D → Prop} (E : EnvOk F B H σ ρ) {i : Nat} {f c : PySem.Str} {ns : List PySem.Str} {xs : List D} (h : ρ[i]? = some (.ins p c ns xs)) (kc : KC F.K c f) (hl : ns.length < 900) (hf : ns.contains f = false) (g : EvN F te ρ kl) (hs : ∀ (j : Nat) (q : Addr), ρ[j]? ≠ some (.src q))
    (nx : ∀ ds a va B1 H1, kl ds → EnvOk F B1 H1 σ (ρ.set i (.ins p c (ns ++ [f]) (xs ++ [.raw (.ref a)]))) → Same B B1 → (∀ q o, q ≠ p → H q = some o → H1 q = some o) → (∀ q, H q ≠ none → B q = none → B1 q = none) → H a = none → B1 a = none → H1 a = some (.lst va) → RepL F.K B1 ds va → a ≠ p → En.nx σ H1) : sFld F.K (tVar i) te f En σ H := by
  refine g B H σ E _ fun ds a va B' H' n S ha hB hH r => ?_
  obtain ⟨dx, vs, h1, h2, h3, h4, h5, h6⟩ := S.env.at_ i _ h
  have hlen : ns.length = vs.length := by rw [h6.len]; exact h5
  have hap : a ≠ p := fun z => by
    rw [z, h2] at hH
    cases hH
  refine ⟨_, h1, p, _, dx, _, rfl, h2, kc.1, kc.2, by rw [List.length_zip]; omega, ?_⟩
  rw [zip_put hlen hf]
  exact nx ds a va B' _ n (S.env.fldM (d := .raw (.ref a)) h h1 h2 h3 h4 h5 h6 rfl) S.bb (fun q o ne e => by rw [upd_ne ne]; exact S.kp q o e fun j => hs j q) S.z ha hB (by rw [upd_ne hap]; exact hH) r hap
theorem nosrc_set {i : Nat} {l : Sl} (hs : ∀ (j : Nat) (q : Addr), ρ[j]? ≠ some (.src q)) (hl : ∀ q, l ≠ .src q) : ∀ (j : Nat) (q : Addr), (ρ.set i l)[j]? ≠ some (.src q) := fun j q z => by
  by_cases hj : i = j
  · subst hj
    have hi := (List.getElem?_eq_some_iff.mp z).1
    rw [List.length_set] at hi
    rw [List.getElem?_set_self hi] at z
    exact hl q (Option.some.inj z)
  · rw [List.getElem?_set_ne hj] at z
    exact hs j q z
theorem sli_end {ta tb tc : TE} {r s : D} {l1 l2 l3 : List D} (h : ρ[0]? = some (.ins p "Lifting" ["rows", "start"] [r, s])) (hs : ∀ (j : Nat) (q : Addr), ρ[j]? ≠ some (.src q)) (k1 : KC F.K "Lifting" "layers") (k2 : KC F.K "Lifting" "reasons") (k3 : KC F.K "Lifting" "heights") (k4 : KC F.K "Lifting" "known")
    (h1 : ∀ ρ' : List Sl, ρ'[2]? = ρ[2]? → EvN F ta ρ' fun ds => ds = l1) (h2 : ∀ ρ' : List Sl, ρ'[2]? = ρ[2]? → EvN F tb ρ' fun ds => ds = l2) (h3 : ∀ ρ' : List Sl, ρ'[2]? = ρ[2]? → EvN F tc ρ' fun ds => ds = l3) (q : km ⟨r, s, l1, l2, l3, 0⟩) :
    SLI F (tSeq (sFld F.K (tVar 0) ta "layers") (tSeq (sFld F.K (tVar 0) tb "reasons") (tSeq (sFld F.K (tVar 0) tc "heights") (sFld F.K (tVar 0) (tC (.int 0)) "known")))) ρ p km := fun B H σ E En hn => by
  refine fldN (En := { En with nx := _ }) E h k1 (by decide) (by decide) (h1 ρ rfl) hs fun d1 a va B1 H1 e1 E1 s1 kp1 z1 fa nBa ha ra hap => ?_
  subst e1
  have g1 := set_at (m := .ins p "Lifting" (([("rows" : PySem.Str), "start"] ++ [("layers" : PySem.Str)])) ([r, s] ++ [.raw (.ref a)])) h
  have hs1 := nosrc_set (i := 0) (l := .ins p "Lifting" (([("rows" : PySem.Str), "start"] ++ [("layers" : PySem.Str)])) ([r, s] ++ [.raw (.ref a)])) hs (fun q z => by cases z)
  refine fldN (En := { En with nx := _ }) E1 g1 k2 (by decide) (by decide) (h2 _ (List.getElem?_set_ne (by decide))) hs1 fun d2 b vb B2 H2 e2 E2 s2 kp2 z2 fb nBb hb rb hbp => ?_
  subst e2
  rw [List.set_set] at E2
  have g2 := set_at (m := .ins p "Lifting" ((([("rows" : PySem.Str), "start"] ++ [("layers" : PySem.Str)])) ++ [("reasons" : PySem.Str)]) (([r, s] ++ [.raw (.ref a)]) ++ [.raw (.ref b)])) h
  have hs2 := nosrc_set (i := 0) (l := .ins p "Lifting" ((([("rows" : PySem.Str), "start"] ++ [("layers" : PySem.Str)])) ++ [("reasons" : PySem.Str)]) (([r, s] ++ [.raw (.ref a)]) ++ [.raw (.ref b)])) hs (fun q z => by cases z)
  refine fldN (En := { En with nx := _ }) E2 g2 k3 (by decide) (by decide) (h3 _ (List.getElem?_set_ne (by decide))) hs2 fun d3 c vc B3 H3 e3 E3 s3 kp3 z3 fc nBc hc rc hcp => ?_
  subst e3
  rw [List.set_set] at E3
  have g3 := set_at (m := .ins p "Lifting" (((([("rows" : PySem.Str), "start"] ++ [("layers" : PySem.Str)])) ++ [("reasons" : PySem.Str)]) ++ [("heights" : PySem.Str)]) ((([r, s] ++ [.raw (.ref a)]) ++ [.raw (.ref b)]) ++ [.raw (.ref c)])) h
  obtain ⟨dx, vs, a1, a2, a3, a4, a5, a6⟩ := E3.at_ 0 _ g3
  have E4 := E3.fldM (f := "known") (d := .int 0) (v := .int 0) g3 a1 a2 a3 a4 a5 a6 rfl
  have nA : H1 a ≠ none := by rw [ha]; exact Option.some_ne_none _
  have nB : H2 b ≠ none := by rw [hb]; exact Option.some_ne_none _
  have ha2 := kp2 a _ hap ha
  have ha3 := kp3 a _ hap ha2
  have hb3 := kp3 b _ hbp hb
  have ab : a ≠ b := fun z => nA (z ▸ fb)
  have ac : a ≠ c := fun z => by rw [z, fc] at ha2; cases ha2
  have bc : b ≠ c := fun z => nB (z ▸ fc)
  have Ba2 := z2 a nA nBa
  have Ba3 := z3 a (by rw [ha2]; exact Option.some_ne_none _) Ba2
  have Bb3 := z3 b nB nBb
  obtain ⟨v1, t1, rfl, r1, v2, t2, rfl, r2, v3, t3, rfl, r3, v4, t4, rfl, r4, v5, t5, rfl, r5, rfl⟩ := a6
  cases r3
  cases r4
  cases r5
  refine ⟨_, a1, p, _, dx, _, rfl, a2, k4.1, k4.2, (by show 5 < 1000; decide), ?_⟩
  rw [zip_put rfl (by decide)]
  refine hn _ a b c B3 _ σ q E4.bs ⟨⟨dx, v1, v2, upd_same, r1, r2⟩, ⟨va, by rw [upd_ne hap]; exact ha3, ra.mono (s2.trans s3)⟩, ⟨vb, by rw [upd_ne hbp]; exact hb3, rb.mono s3⟩, ⟨vc, by rw [upd_ne hcp]; exact hc, rc⟩, fun x hx => ?_, ab, ac, bc⟩ (E.bs.new fa) (E1.bs.new fb) (E2.bs.new fc)
  simp only [List.mem_cons, List.not_mem_nil, or_false] at hx
  rcases hx with rfl | rfl | rfl | rfl
  · exact a3
  · exact Ba3
  · exact Bb3
  · exact nBc
/-- lifting = Lifting(..); lifting.run(); return lifting -/
theorem s_lift {i : Nat} {t : TA} {E E2 : XK} {S1 : List D → (LSt → Prop) → Prop} {S2 : LSt → List D → (D → LSt → Prop) → Prop} {N : List Sl → Prop} {R : D → Prop} (hi : i < ρ.length) (h : EvA F t ρ fun ds => S1 ds fun L => S2 L [] fun _ L' => R (lobj L')) :
    SOk F (tSeq (tAsg (StX.tMakeR (He.ga F.K "Lifting") (spLI F.K S1) E t) (gName i)) (tSeq (tDrop (tM0 (He.ga F.K "Lifting") "run" (spM F.K S2) E2 (tVar i))) (tRet (tVar i)))) ρ N R := fun B H σ E0 En hn hr =>
  h B H σ E0 _ fun ds vs B1 H1 g St r1 => fun x dx hx hdx hne => by
    have E1 := St.env
    have n1 : (upd H1 dx (HO.own x)) x = none := by
      rw [upd_ne (Ne.symm hne)]
      exact hx
    have s1 : Same H1 (upd (upd H1 dx (HO.own x)) x (.ins (He.ga F.K "Lifting") dx [])) := (Same.upd hdx).trans (Same.upd n1)
    have hB : B1 x = none := E1.bs.bnew hx
    generalize eH : upd (upd H1 dx (HO.own x)) x (.ins (He.ga F.K "Lifting") dx []) = H2 at s1
    have hx2 : H2 x = some (.ins (He.ga F.K "Lifting") dx []) := by
      rw [← eH]
      exact upd_same
    have b0 : Bs ⟨F.K, B1, H2, none, some x, []⟩ B1 H2 := ⟨Same.refl _, E1.bs.bh.trans s1, fun b o h => hid_some (F := ⟨F.K, B1, H2, none, some x, []⟩) h, fun _ _ h _ => h, fun _ h => h, (fun s hs => by cases hs), fun s hs => by cases hs; exact ⟨hB, by show H2 x ≠ none; rw [hx2]; exact Option.some_ne_none _⟩⟩
    refine ⟨x, dx, vs, ds, B1, _, rfl, hx2, hB, b0, r1, g, fun L a b c B' H' q bs hL ha hb hc => ⟨rfl, ?_⟩⟩
    obtain ⟨dx', w1, w2, eat, _⟩ := hL.at_
    have hl : i < σ.length := by rw [E0.len]; exact hi
    have isx : (σ.set i (some (V.ref x)))[i]? = some (some (V.ref x)) := List.getElem?_set_self hl
    refine ⟨_, isx, x, dx', _, rfl, eat, rfl, ?_⟩
    refine ⟨x, a, b, c, L, [], [], B', _, rfl, hL, bs_startM bs.bh, RepL.nil, q, fun d v L' B2 H3 q2 b2 hL2 r2 => ?_⟩
    have out : ∀ z o, H1 z = some o → z ∉ [x, a, b, c] := fun z o e m => by
      simp only [List.mem_cons, List.not_mem_nil, or_false] at m
      rcases m with rfl | rfl | rfl | rfl
      · rw [hx] at e; cases e
      · have := s1 _ _ e; rw [ha] at this; cases this
      · have := s1 _ _ e; rw [hb] at this; cases this
      · have := s1 _ _ e; rw [hc] at this; cases this
    have out2 : ∀ z, H1 z ≠ none → z ∉ [x, a, b, c] := fun z e => by
      cases q : H1 z with
      | none => exact absurd q e
      | some o => exact out z o q
    have kp1 : ∀ z o, H1 z = some o → H' z = some o := fun z o e => bs.fh z o (by
      have : z ≠ x := ne_of_none e hx
      unfold hid
      rw [if_neg (by rintro (h | h | h); · cases h
                     · cases h; exact this rfl
                     · cases h)]
      exact s1 z o e)
    have kp2 : ∀ z o, H1 z = some o → H3 z = some o := fun z o e => b2.fh z o (by
      unfold hid
      rw [if_neg (by rintro (h | h | h); · cases h
                     · cases h
                     · exact out z o e h)]
      exact kp1 z o e)
    have al1 : ∀ z, H1 z ≠ none → H' z ≠ none := fun z e => by
      cases q : H1 z with
      | none => exact absurd q e
      | some o => rw [kp1 z o q]; exact Option.some_ne_none _
    have al2 : ∀ z, H1 z ≠ none → H3 z ≠ none := fun z e => by
      cases q : H1 z with
      | none => exact absurd q e
      | some o => rw [kp2 z o q]; exact Option.some_ne_none _
    have s3 : Same B2 (fzB [x, a, b, c] B2 H3) := fz_same hL2.nB
    refine ⟨_, isx, hr (lobj L') (.ref x) (fzB [x, a, b, c] B2 H3) H3 q2 (St.bb.trans (bs.b0.trans (b2.b0.trans s3))) ⟨E1.bs.b0.trans (bs.b0.trans (b2.b0.trans s3)), fz_bh b2.bh, fun z o e => kp2 z o (E1.bs.fh z o e), fun z m1 m2 m3 => ?_, fun z e => al2 z (E1.bs.al z e), fun s hs => ?_, E1.bs.me⟩ hL2.rep⟩
    · have e1 := E1.bs.al z m1
      have e2 := E1.bs.z z m1 m2 m3
      have e3 : B' z = none := bs.z z (show H2 z ≠ none by
        cases q : H1 z with
        | none => exact absurd q e1
        | some o => rw [s1 z o q]; exact Option.some_ne_none _) e2 (by intro h; cases h)
      have e4 := b2.z z (al1 z e1) e3 (out2 z e1)
      unfold fzB
      rw [if_neg (out2 z e1)]
      exact e4
    · obtain ⟨⟨c', n, k, f1, f2⟩, f3⟩ := E1.bs.src s hs
      exact ⟨⟨c', n, k, kp2 _ _ f1, f2⟩, f3⟩
end
theorem Wf.fnLI (W : Wf P w K mg base) {i : Nat} {d : He5.DefA} (hd : fnl[i]? = some d) {N ps : List PySem.Str} {k : Nat} {S : List D → (LSt → Prop) → Prop} (sc : FnScope N ps d.scope)
    (len : ∀ ds k, S ds k → ds.length + 1 = ps.length)
    (hbody : ∀ cdv A outer s H E, Room k (A.deeper (envOfC d.qual d.scope s.heap.objs.size (d.at_ K) cdv)) → ∀ (F : Fm) p ds kk, F.K = K → F.ms = [] → F.me = some p → S ds kk → ∃ t, PSs (Xof P w K mg base N d cdv A outer s H E).nox d.body t ∧ SLI F t (.ins p "Lifting" [] [] :: ρ0 N.tail ds) p kk) :
    ∃ fd, FunD K d.name d.qual d.params d.body d.scope (d.dvs K) (d.kws K) (d.at_ K) fd ∧ FnOk P w K mg base (L2.CX P w) (k + 1) (d.at_ K) fd ps (spLI K S) := by
  obtain ⟨fd, Fn⟩ := W.fn i d hd
  have hpl : ps.length ≤ N.length := by
    have := congrArg List.length sc.pre
    rw [List.length_take] at this
    omega
  refine ⟨fd, Fn, Fn.ok (P := P) (w := w) (mg := mg) (base := base) (CX := L2.CX P w) (k := k) (sp := spLI K S) sc (fun vs H Q E h => by
    obtain ⟨x, dx, vs', ds, B, kk, rfl, _, _, _, r, h, _⟩ := h
    rw [List.length_cons, r.len]
    exact len ds kk h) fun cdv A outer s H vs Q E hr h => ?_⟩
  obtain ⟨p, dx, vs', ds, B, kk, rfl, hx, hB, b, r, h, q1⟩ := h
  obtain ⟨t, ht, hS⟩ := hbody cdv A outer s H E hr ⟨K, B, H, none, some p, []⟩ p ds kk rfl rfl rfl h
  exact ⟨t, ht.nox, hS B H _ (env_start1 b r (by rw [len ds kk h]; exact hpl) ⟨dx, [], rfl, hx, hB, rfl, rfl, RepL.nil⟩) _ fun L a b c B' H' σ' q b' hL ha hb hc => q1 L a b c B' H' q b' hL ha hb hc⟩
end
end K33
namespace K33
open PySem PySem.Spec PyProof.Rows L2
section
variable {P : Program} {w : World} {K : PySem.W.Frag} {mg : PySem.Str → Option Value} {base : Heap}
theorem ll_bind {dV : Value} {D : Addr} {doc pm cdv ct : Value} {an : Option Addr} {x y : Value} (e : dV = .none) :
    ∃ (α β γ : Type) (k1 : Option Value → Sem α) (k2 : α → Sem β) (k3 : β → Sem (List (PySem.Str × Value))) (a : α),
      bindArgs (PySem.W.fnOf d_lifted_layers.name d_lifted_layers.qual d_lifted_layers.params d_lifted_layers.body d_lifted_layers.scope dV (.ref D) doc pm an cdv ct) ⟨[x, y], []⟩ = ((nsGet D "start" >>= k1) >>= k2) >>= k3 ∧ k1 (some .none) = pure a ∧
      (k2 a >>= k3) = (newTuple [y] >>= fun t => pure [(("book" : PySem.Str), x), ("start", .none), ("further", t)]) := by
  subst e
  exact ⟨_, _, PUnit, _, _, _, _, rfl, rfl, rfl⟩
theorem vals2 {v1 v2 : V} {us : List Value} (r : Vals [v1, v2] us) : ∃ x y, us = [x, y] ∧ RelV v1 x ∧ RelV v2 y := by
  cases r with
  | cons a t => cases t with
    | cons b t => cases t with
      | nil => exact ⟨_, _, rfl, a, b⟩
theorem Wf.fnL (W : Wf P w K mg base) {k : Nat} {sp : Sp}
    (hbody : ∀ (cdv : Value) (A : Around) (outer : List Env) (s : Shared) (H : Hp) (vs : List V) (Q : VK) (E : XK), Room k (A.deeper (envOfC d_lifted_layers.qual d_lifted_layers.scope s.heap.objs.size (d_lifted_layers.at_ K) cdv)) → sp vs H Q E →
      ∃ t, PSs (Xof P w K mg base n_lifted_layers d_lifted_layers cdv A outer s H E) d_lifted_layers.body t ∧ t { nx := fun _ H' => Q .non H', rt := Q } (L2.start n_lifted_layers vs) H) :
    FnR P w K mg base (L2.CX P w) (k + 1) (d_lifted_layers.at_ K) (fun vs H Q E => ∃ v1 v2, vs = [v1, v2] ∧ ∀ p, H p = none → sp [v1, .non, .ref p] (upd H p (.tup [v2])) Q E) := by
  obtain ⟨fd, F⟩ := W.fn _ _ in_lifted_layers
  obtain ⟨oc, od, dV, kV, doc, pm, an, cdv, ct, osl, efd, lk, hcd, hD, hK⟩ := F.ex
  subst efd
  have edV : dV = .none := by
    rcases hD with ⟨_, z⟩ | ⟨z, _⟩
    · exact z
    · exact absurd rfl z
  intro A outer st H us vs Q E hr e0 rel hsp
  obtain ⟨v1, v2, ev, hq⟩ := hsp
  subst ev
  obtain ⟨x, y, eu, r1, r2⟩ := vals2 rel
  subst eu
  rcases hK with z | ⟨D, ek, hkw⟩
  · cases z
  subst ek
  obtain ⟨u, hu, ru⟩ := hkw ("start", .non) (by exact List.mem_singleton.mpr rfl)
  have eun : u = .none := ru
  subst eun
  have fresh : H st.heap.objs.size = none := e0.hok.fresh (Nat.le_refl _)
  have KX : K.In st.heap := e0.mod.kin.keeps fun b o e => (e0.bs b o e).1
  refine StX.run_bnd (ps := ["book", "start", "further"]) (N := n_lifted_layers) lk hcd sc_lifted_layers hr e0 (G := fun zs H2 => ∃ p, H p = none ∧ zs = [v1, V.non, V.ref p] ∧ H2 = upd H p (.tup [v2])) (fun A' Ex Q' hh => ?_) fun st2 H2 zs ⟨p, hp, ez, eH⟩ hr' => ?_
  · obtain ⟨_, _, _, k1, k2, k3, a, q1, q2, q3⟩ := ll_bind (D := D) (doc := doc) (pm := pm) (cdv := cdv) (ct := ct) (an := an) (x := x) (y := y) edV
    rw [q1, bind_assoc]
    have look : PySem.W.Looks (model P w) st.heap (nsGet D "start" >>= k1) a := (PySem.W.looks_nsIn KX hu).andThen (PySem.W.Looks.of_pure q2)
    refine wpAny_bind (look.here ?_)
    rw [q3]
    refine wpAny_bind (wpAny_newTuple (wpAny_pure ?_) (by show 1 ≤ sizeLine; decide))
    have obj : ObjOk P w (upd H st.heap.objs.size (.tup [v2])) (st.heap.push ({ cls := .type "tuple", data := .seq [y].toArray } : Obj)) st.heap.objs.size (.tup [v2]) := ⟨(by show 1 ≤ sizeLine; decide), [y], .cons r2 .nil, ⟨_, Heap.get?_push_size _ rfl, rfl, _, rfl⟩⟩
    have gr := StX.un_laid (fs := frs outer) (s := st) (o := ({ cls := .type "tuple", data := .seq [y].toArray } : Obj)) (u := .tup [v2]) fresh
    exact hh _ _ [v1, V.non, V.ref st.heap.objs.size] [x, Value.none, Value.ref st.heap.objs.size] (StX.env0_laid e0 obj) gr rfl (fun e s' => StX.cxUp outer st H _ _ E e s' gr (fun b o q => Heap.get?_push_of_some _ q) rfl) (.cons r1 (.cons rfl (.cons rfl .nil))) rfl ⟨_, fresh, rfl, rfl⟩
  · subst ez eH
    exact hbody cdv A outer st2 _ _ Q E hr' (hq p hp)
end
end K33
namespace K33
open PySem PySem.Spec PyProof.Rows L2
/-- a Lifting of "usually" alone, all starts 0 -/
structure LfS where
  rs : List Rw
  n : Nat
  ls : List (Option Nat)
  re : List D
  he : List D
  kn : Nat
abbrev LfS.L (s : LfS) : LSt := ⟨.lst (s.rs.map lhsD), .lst ((List.replicate s.n 0).map nD), s.ls.map optD, s.re, s.he, (s.kn : Int)⟩
structure LfS.Ok (s : LfS) : Prop where
  u : ∀ r ∈ s.rs, r.u = true
  n16 : s.n ≤ 16
  l1 : s.ls.length = s.n
  l2 : s.re.length = s.n
  l3 : s.he.length = s.n
  kn : ∀ d, s.kn.testBit d = true ↔ ∃ v, s.ls[d]? = some (some v)
def isOpen (ls : List (Option Nat)) (d : Nat) : Bool := decide (ls[d]? = some none)
def openD (ls : List (Option Nat)) : List Nat := (List.range ls.length).filter (isOpen ls)
theorem mem_open {ls : List (Option Nat)} {d : Nat} : d ∈ openD ls ↔ ls[d]? = some none := by
  unfold openD isOpen
  rw [List.mem_filter, List.mem_range, decide_eq_true_iff]
  constructor
  · exact fun h => h.2
  · exact fun h => ⟨(List.getElem?_eq_some_iff.mp h).1, h⟩
theorem open_nodup (ls : List (Option Nat)) : (openD ls).Nodup := List.Nodup.sublist List.filter_sublist List.nodup_range
/-- no row lifts the day above -/
def stays (s : LfS) (d : Nat) : Bool := (firstR s.rs d s.kn).isNone
def setD (s : LfS) : List Nat := (openD s.ls).filter (stays s)
def Settled (s : LfS) (t : Nat) (s' : LfS) : Prop := ∀ d, s'.ls[d]? = if d ∈ setD s then some (some t) else s.ls[d]?
/-- no set that rises by itself has a settled day -/
def Rises (rs : List Rw) (n : Nat) (S : Nat → Prop) : Prop := ∀ d, S d → d < n ∧ ∃ r ∈ rs, r.hi.testBit d = true ∧ ∀ e, r.lo.testBit e = true → S e
def Dis (s : LfS) : Prop := ∀ S : Nat → Prop, Rises s.rs s.n S → ∀ d, S d → s.kn.testBit d = false
theorem so_forget {F : Fm} {ρ : List Sl} {ts : TS} {N : List Sl → Prop} {R : D → Prop} (i : Nat) (h : SOk F ts (ρ.set i .un) N R) : SOk F ts ρ N R := fun B H σ E En hn hr => by
  refine h B H σ ⟨E.bs, by rw [List.length_set]; exact E.len, fun j l e => ?_, fun j j' l m q e1 e2 o1 o2 f1 f2 => ?_⟩ En hn hr
  · by_cases hj : i = j
    · subst hj
      have hi := (List.getElem?_eq_some_iff.mp e).1
      rw [List.length_set] at hi
      rw [List.getElem?_set_self hi] at e
      cases e
      trivial
    · rw [List.getElem?_set_ne hj] at e
      exact E.at_ j l e
  · have old : ∀ (j : Nat) (l : Sl), (ρ.set i .un)[j]? = some l → l.isOwn = true → ρ[j]? = some l := fun j l e o => by
      by_cases hj : i = j
      · subst hj
        have hi := (List.getElem?_eq_some_iff.mp e).1
        rw [List.length_set] at hi
        rw [List.getElem?_set_self hi] at e
        cases e
        cases o
      · rwa [List.getElem?_set_ne hj] at e
    exact E.inj j j' l m q (old j l e1 o1) (old j' m e2 o2) o1 o2 f1 f2
theorem som_retV {F : Fm} {ρ : List Sl} {p a b c : Addr} {L : LSt} {km : D → LSt → Prop} {j : Nat} {d : D} (h : ρ[0]? = some (.lft p a b c L)) (hj : ρ[j]? = some (.val d)) (q : km d L) : SOkM F (tRet (tVar j)) ρ p a b c km := fun B H σ E En hn hr => by
  obtain ⟨v, e1, e2⟩ := E.at_ j _ hj
  obtain ⟨_, e3, _⟩ := E.at_ 0 _ h
  exact ⟨v, e1, hr d v L B H q (Same.refl B) E.bs e3 e2⟩
theorem optD_sc (o : Option Nat) : (optD o).scalar = true := by cases o <;> rfl
theorem ro_isN_opt {F : Fm} {ρ : List Sl} {k : D → Prop} {o : Option Nat} (q : k (.bl o.isNone)) : ROp F (fun x y H Q => y = .non ∧ Q (.bl (decide (x = .non))) H) ρ (optD o) .non k := by
  cases o with
  | none => exact ro_isN rfl q
  | some n => exact ro_isN rfl q
theorem ro_notN_opt {F : Fm} {ρ : List Sl} {k : D → Prop} {o : Option Nat} (q : k (.bl o.isSome)) : ROp F (fun x y H Q => y = .non ∧ Q (.bl (!decide (x = .non))) H) ρ (optD o) .non k := by
  cases o with
  | none => exact ro_notN rfl q
  | some n => exact ro_notN rfl q
section
variable {P : Program} {w : World} {K : PySem.W.Frag} {mg : PySem.Str → Option Value} {base : Heap}
local macro_rules | `(tactic| walk_at "d0") => `(tactic| first
  | ((with_reducible apply ev_var); rfl)
  | with_reducible apply ev_int
  | with_reducible apply ev_bl
  | with_reducible apply ev_str
  | with_reducible apply ev_non
  | with_reducible apply s_seq
  | with_reducible apply s_ret
  | with_reducible apply s_asg
  | with_reducible apply s_next
  | ((with_reducible apply s_app); rfl)
  | with_reducible apply s_drop
  | ((with_reducible apply src_0); rfl; intro _)
  | ((with_reducible apply src_1); rfl; intro _ _ _)
  | ((with_reducible apply src_2); rfl; intro _)
  | ((with_reducible apply s_setSrc0); rfl)
  | ((with_reducible apply s_setSrc2); rfl)
  | ((with_reducible apply ev_callS); rfl)
  | ((with_reducible apply ev_opO); rfl)
  | ((with_reducible apply ev_ixO); rfl)
  | with_reducible apply ev_op
  | with_reducible apply ev_un
  | with_reducible apply et_test
  | with_reducible apply et_B
  | with_reducible apply et_truI
  | with_reducible apply et_and
  | with_reducible apply et_or
  | with_reducible apply et_not
  | with_reducible apply ea_nil
  | with_reducible apply ea_cons
  | with_reducible apply ro_nd_n
  | with_reducible apply ro_and_n
  | with_reducible apply ro_or_n
  | with_reducible apply ro_shr_n
  | with_reducible apply ro_eq_0
  | with_reducible apply ro_ne_0
  | with_reducible apply ro_eq_n
  | with_reducible apply ro_ne_n
  | with_reducible apply ro_add_n
  | with_reducible apply ro_add_1
  | with_reducible apply ro_I0
  | with_reducible apply ro_B0
  | with_reducible apply ro_un
  | ((with_reducible apply ro_isN); rfl)
  | ((with_reducible apply ro_notN); rfl)
  | with_reducible apply ro_eq_t0
  | with_reducible apply ro_ne_lt0
  | with_reducible apply ro_ne_l0
  | with_reducible apply ro_ne_tt
  | with_reducible apply ro_eq_tt
  | with_reducible apply ro_ne_t
  | with_reducible apply ro_eq_i
  | with_reducible apply ro_ne_i
  | with_reducible apply ro_eq_s
  | with_reducible apply ro_add
  | ((with_reducible apply ro_ixT); rfl)
  | ((with_reducible apply ro_ixL); rfl)
  | with_reducible apply ev_list
  | with_reducible apply ev_tuple
  | with_reducible apply ev_sortset
  | with_reducible apply ev_isLT
  | ((with_reducible apply ev_cbO); rfl)
  | with_reducible apply ev_cb
  | with_reducible apply ev_call
  | ((with_reducible apply ev_fldM); rfl; exact Wf.kc2 (by assumption) (by decide +kernel); rfl)
  | with_reducible apply ev_fld
  | with_reducible apply ev_and
  | with_reducible apply ev_or
  | with_reducible apply ev_notV
  | with_reducible apply ev_if
  | with_reducible apply ev_chain
  | with_reducible apply ev_tup
  | with_reducible apply ev_lst
  | with_reducible apply ev_make
  | ((with_reducible apply ev_cm0); exact exok0)
  | ((with_reducible apply ev_cm); exact exok0)
  | ((with_reducible apply ev_meth0); exact exok0)
  | ((with_reducible apply ev_meth); exact exok0)
  | ((with_reducible apply ro_subO); exact exok0)
  | ((with_reducible apply ro_addO); exact exok0)
  | ((with_reducible apply rc_lenO); exact exok0)
  | ((with_reducible apply ev_prop); exact exok0)
  | with_reducible apply rc_int
  | with_reducible apply rc_lenL
  | with_reducible apply rc_lenT
  | ((with_reducible apply rc_is_int); (exact rfl))
  | ((with_reducible apply rc_is_bl); (exact rfl))
  | ((with_reducible apply rc_is_str); (exact rfl))
  | ((with_reducible apply rc_is_tup); (exact rfl))
  | ((with_reducible apply s_fldM); rfl; exact Wf.kc2 (by assumption) (by decide +kernel); decide; rfl)
  | with_reducible apply et_yes
  | with_reducible apply ev_rawc
  | ((with_reducible apply ev_src); rfl)
  | ((with_reducible refine ⟨len_ok ?_, ?_⟩); rfl)
  | with_reducible refine ⟨rfl, ?_⟩
  | with_reducible refine ⟨⟨_, rfl⟩, ?_⟩
  | with_reducible refine ⟨_, rfl, ?_⟩
  | refine ⟨_, _, rfl, rfl, ?_⟩
  | refine ⟨_, _, _, _, rfl, Wf.kc2 (by assumption) (by decide +kernel), rfl, ?_⟩
  | ((with_reducible apply iteTr); rfl)
  | ((with_reducible apply iteFr); rfl)
  | dsimp only)
local macro_rules | `(tactic| walk_at "d") => `(tactic| first
  | walk_at "d0"
  | with_reducible apply s_if)
local macro_rules | `(tactic| walk_at "o") => `(tactic| first
  | ((with_reducible apply so_retO); rfl)
  | ((with_reducible apply et_notcallO); rfl)
  | ((with_reducible apply s_asgO); (with_reducible apply en_lst); (with_reducible apply ea_nil); refine ⟨len_ok rfl, ?_⟩)
  | walk_at "d")

local macro_rules | `(tactic| walk_at "x") => `(tactic| first
  | ((with_reducible apply ev_callX); assumption)
  | walk_at "o")
def S_Lifting_open_days : List D → (List D → Prop) → Prop := fun ds k => ∃ s : LfS, ds = [lobj s.L] ∧ s.ls.length ≤ 1000 ∧ k ((openD s.ls).map nD)
theorem ok_Lifting_open_days (W : Wf P w K mg base) : FnR P w K mg base (L2.CX P w) 1 (d_Lifting_open_days.at_ K) (spN K S_Lifting_open_days) := by
  refine W.fnN2 in_Lifting_open_days sc_Lifting_open_days (fun fd F => F.bindsN fun _ _ _ _ _ _ us hl => match us, hl with | [_], _ => rfl) (fun ds k h => by first | (obtain ⟨rfl, _⟩ := h; rfl) | (obtain ⟨_, rfl, _⟩ := h; rfl) | (obtain ⟨_, _, rfl, _⟩ := h; rfl) | (obtain ⟨_, _, _, rfl, _⟩ := h; rfl) | (obtain ⟨_, _, _, _, rfl, _⟩ := h; rfl) | (obtain ⟨_, _, _, _, _, rfl, _⟩ := h; rfl) | (obtain ⟨_, _, _, _, _, _, rfl, _⟩ := h; rfl) | (obtain ⟨_, _, _, _, _, _, _, rfl, _⟩ := h; rfl) | (obtain ⟨_, _, _, _, _, _, _, _, rfl, _⟩ := h; rfl) | (obtain ⟨_, _, _, _, _, _, _, _, _, rfl, _⟩ := h; rfl)) fun cdv A outer s H E hR F ds kk hF h => ?_
  subst hF
  obtain ⟨s, rfl, hl, q⟩ := h
  refine ⟨_, (pss_one (ps_ret (pe_lc (own := [("day", 1), ("layer", 2)]) (by rfl) sc_Lifting_open_days.nd (pi_enumX (by rfl) (W.free 9 _ rfl) (pa_cons (pe_fld (pv 0) rfl) pa_nil)) (blkOk_by (N := n_Lifting_open_days) (sc := defScope s_Lifting_open_days) (own := [("day", 1), ("layer", 2)]) (by decide +kernel)) (fun _ _ _ _ _ => (pg_tupK (K := F.K) (n := 2) rfl (by rfl) (pgs_cons (pg_name (i := 1) sc_Lifting_open_days.nd rfl (Or.inl rfl)) (pgs_cons (pg_name (i := 2) sc_Lifting_open_days.nd rfl (Or.inl rfl)) pgs_nil)))) (fun _ _ _ _ _ => (pts_one (pt_cmpR op_isN (pv 2) pe_non (nomark _)))) (fun _ _ _ _ _ => (pv 1))))), ?_⟩
  try dsimp only [Xof, cxOf, Cx.nox, Cx.wish, Cx.blk]
  apply sn_ret
  apply en_lc (un_of rfl)
  apply ei_enum
  repeat walk_at "d"
  refine ⟨_, .inl rfl, fun i acc => acc = ((List.range i).filter (isOpen s.ls)).map nD, rfl, ?_, ?_⟩
  · rintro i d acc hi rfl
    obtain ⟨x, e, rfl⟩ := enumD_at hi
    obtain ⟨o, eo, rfl⟩ := map_at e
    have hlt := (List.getElem?_eq_some_iff.mp eo).1
    refine ⟨_, mem_of rfl, g_tup rfl (gs_cons g_name (gs_cons g_name gs_nil)), ?_⟩
    repeat walk_at "d"
    apply ro_isN_opt
    have hsucc : (List.range (i + 1)).filter (isOpen s.ls) = (List.range i).filter (isOpen s.ls) ++ [i].filter (isOpen s.ls) := by rw [List.range_succ, List.filter_append]
    have hio : isOpen s.ls i = o.isNone := by
      unfold isOpen
      rw [eo]
      cases o <;> rfl
    rw [← hio]
    repeat walk_at "d"
    cases hb : isOpen s.ls i with
    | true =>
      repeat walk_at "d"
      refine ⟨?_, ?_⟩
      · have h1 := List.length_filter_le (isOpen s.ls) (List.range i)
        rw [List.length_range] at h1
        rw [List.length_map]
        omega
      · show _ = _
        rw [hsucc, List.map_append, List.filter_cons_of_pos hb]
        rfl
    | false =>
      repeat walk_at "d"
      show _ = _
      rw [hsucc, List.filter_cons_of_neg (by rw [hb]; decide)]
      simp
  · rintro acc rfl
    rw [enumD_len, List.length_map]
    exact q
theorem cc_Lifting_open_days (W : Wf P w K mg base) : Mth P w K mg base 1 "Lifting" "open_days" (spN K S_Lifting_open_days) := ⟨ok_Lifting_open_days W, W.cls 5 _ rfl, W.meth 2 _ rfl⟩
theorem kcL (W : Wf P w K mg base) (f : PySem.Str) (h : (("Lifting" : PySem.Str), f) ∈ kcl) : KC K "Lifting" f := W.kc2 h
theorem filter_take {f : Nat → Bool} {l : List Nat} {i d : Nat} (e : l[i]? = some d) : (l.take (i + 1)).filter f = (l.take i).filter f ++ [d].filter f := by rw [take_at e, List.filter_append]
theorem filter_le {f : Nat → Bool} {l : List Nat} {i m : Nat} (h : l.length ≤ m) : ((l.take i).filter f).length ≤ m := Nat.le_trans (List.length_filter_le _ _) (Nat.le_trans (by rw [List.length_take]; omega) h)
/-- the rows as the walk sees them -/
abbrev LfS.wt (s : LfS) (re he : List D) : LfS := ⟨s.rs, s.n, s.ls, re, he, s.kn⟩
def S_Lifting_settle : LSt → List D → (D → LSt → Prop) → Prop := fun L ds k => ∃ (s : LfS) (t : Nat), L = s.L ∧ ds = [nD t] ∧ s.Ok ∧ ∀ s' : LfS, s'.rs = s.rs → s'.n = s.n → s'.Ok → Settled s t s' → k (.lst ((setD s).map nD)) s'.L
theorem start_at0 {n d : Nat} (h : d < n) : atI ((List.replicate n 0).map nD) (d : Int) = some (nD 0) := atI_map (by rw [List.getElem?_replicate, if_pos h])
theorem open_lt {s : LfS} (ok : s.Ok) {d : Nat} (h : d ∈ openD s.ls) : d < s.n := by
  rw [← ok.l1]
  exact (List.getElem?_eq_some_iff.mp (mem_open.mp h)).1
theorem open_len {s : LfS} (ok : s.Ok) : (openD s.ls).length ≤ 16 := by
  have h1 := List.length_filter_le (isOpen s.ls) (List.range s.ls.length)
  rw [List.length_range, ok.l1] at h1
  have := ok.n16
  unfold openD
  rw [ok.l1]
  omega
theorem sc_n {l : List Nat} : ∀ d ∈ l.map nD, d.scalar = true := fun d h => by
  obtain ⟨n, _, rfl⟩ := List.mem_map.mp h
  rfl
theorem ok_Lifting_settle (W : Wf P w K mg base) : FnR P w K mg base (L2.CX P w) 2 (d_Lifting_settle.at_ K) (spM K S_Lifting_settle) := by
  have c_Lifting_open_days := cc_Lifting_open_days W
  have c_first_reason := cc_first_reason W
  refine W.fnM in_Lifting_settle sc_Lifting_settle (fun fd F => F.bindsN fun _ _ _ _ _ _ us hl => match us, hl with | [_, _], _ => rfl) (fun L ds k h => by first | (obtain ⟨rfl, _⟩ := h; rfl) | (obtain ⟨_, rfl, _⟩ := h; rfl) | (obtain ⟨_, _, rfl, _⟩ := h; rfl) | (obtain ⟨_, _, _, rfl, _⟩ := h; rfl) | (obtain ⟨_, _, _, _, rfl, _⟩ := h; rfl) | (obtain ⟨_, _, _, _, _, rfl, _⟩ := h; rfl) | (obtain ⟨_, _, _, _, _, _, rfl, _⟩ := h; rfl) | (obtain ⟨_, _, _, _, _, _, _, rfl, _⟩ := h; rfl) | (obtain ⟨_, _, _, _, _, _, _, _, rfl, _⟩ := h; rfl) | (obtain ⟨_, _, _, _, _, _, _, _, _, rfl, _⟩ := h; rfl)) fun cdv A outer s H E hR F sp sa sb sc L ds kk hF h => ?_
  subst hF
  obtain ⟨s, t, rfl, rfl, ok, q⟩ := h
  refine ⟨_, (pss_cons (ps_setLc (i := 2) (own := [("day", 6)]) (by rfl) sc_Lifting_settle.nd rfl rfl (sw_true rfl rfl rfl (by decide +kernel)) (pi_seqK (K := F.K) rfl (pe_m0 (pv 0) c_Lifting_open_days hR (by decide) passL)) (blkOk_by (N := n_Lifting_settle) (sc := defScope s_Lifting_settle) (own := [("day", 6)]) (by decide +kernel)) (fun _ _ _ _ _ => (pg_name (i := 6) sc_Lifting_settle.nd rfl (Or.inl rfl))) (fun _ _ _ _ _ => (pts_one (pt_cmpR op_le (pe_ix (ix_seq : IxR _ (rIx F.K)) (pe_fldK (K := F.K) rfl (pv 0) rfl) (pv 6) (fun _ _ => rfl)) (pv 1) (nomark _)))) (fun _ _ _ _ _ => (pv 6)))
  (pss_cons (ps_set (i := 3) sc_Lifting_settle.nd rfl (Or.inl rfl) pe_int)
  (pss_cons (ps_set (i := 4) sc_Lifting_settle.nd rfl (Or.inr rfl) (pe_lst (pa_cons pe_int pa_nil)))
  (pss_cons (ps_while PassesOwn.never (pt_cmpR (op_neX hR.units : OpR _ _ (rNeX F.K)) (pv 4) (pe_lst pa_nil) (nomark _))
  (pss_cons (ps_set (i := 5) sc_Lifting_settle.nd rfl (Or.inl rfl) (pe_callB (cr_sum rfl : CallR _ _ (rSum F.K)) rfl (W.free 11 _ rfl) (by decide +kernel) (pa_cons (pe_lc (own := [("day", 6)]) (by rfl) sc_Lifting_settle.nd (pi_seqK (K := F.K) rfl (pv 2)) (blkOk_by (N := n_Lifting_settle) (sc := defScope s_Lifting_settle) (own := [("day", 6)]) (by decide +kernel)) (fun _ _ _ _ _ => (pg_name (i := 6) sc_Lifting_settle.nd rfl (Or.inl rfl))) (fun _ _ _ _ _ => pts_nil) (fun _ _ _ _ _ => (pe_op op_shl pe_int (pv 6)))) pa_nil)))
  (pss_cons (ps_set (i := 4) sc_Lifting_settle.nd rfl (Or.inr rfl) (pe_lst pa_nil))
  (pss_cons (ps_for PassesOwn.never rfl (pi_seqK (K := F.K) rfl (pv 2)) (pg_name (i := 6) sc_Lifting_settle.nd rfl (Or.inl rfl))
  (pss_cons (ps_set (i := 7) sc_Lifting_settle.nd rfl (Or.inl rfl) (pe_f c_first_reason hR (by decide) rfl passL (pa_cons (pe_fld (pv 0) rfl) (pa_cons (pv 6) (pa_cons (pe_fld (pv 0) rfl) (pa_cons (pv 5) pa_nil))))))
  (pss_one (ps_if (pt_cmpR op_notN (pv 7) pe_non (nomark _))
  (pss_cons (ps_asg (pv 7) (pg_sub (pe_fld (pv 0) rfl) (pv 6) set_list))
  (pss_cons (ps_asg (pv 3) (pg_sub (pe_fld (pv 0) rfl) (pv 6) set_list))
  (pss_one (ps_expr (pe_bm PySem.F.plainAttrs_list PySem.F.slot_list_append PySem.F.type_list_append mt_append (pv 4) (pa_cons (pv 6) pa_nil))))))
  pss_nil))))
  (pss_cons (ps_setLc (i := 2) (own := [("day", 6)]) (by rfl) sc_Lifting_settle.nd rfl rfl (sw_true rfl rfl rfl (by decide +kernel)) (pi_seqK (K := F.K) rfl (pv 2)) (blkOk_by (N := n_Lifting_settle) (sc := defScope s_Lifting_settle) (own := [("day", 6)]) (by decide +kernel)) (fun _ _ _ _ _ => (pg_name (i := 6) sc_Lifting_settle.nd rfl (Or.inl rfl))) (fun _ _ _ _ _ => (pts_one (pt_cmpR (op_ninX : OpR _ _ (rNiX F.K)) (pv 6) (pv 4) (by rfl)))) (fun _ _ _ _ _ => (pv 6)))
  (pss_one (ps_set (i := 3) sc_Lifting_settle.nd rfl (Or.inl rfl) (pe_op (op_addX : OpR _ _ (rAddX F.K)) (pv 3) pe_int))))))))
  (pss_cons (ps_for PassesOwn.never rfl (pi_seqK (K := F.K) rfl (pv 2)) (pg_name (i := 6) sc_Lifting_settle.nd rfl (Or.inl rfl))
  (pss_cons (ps_asg (pv 1) (pg_sub (pe_fld (pv 0) rfl) (pv 6) set_list))
  (pss_one (ps_fld (pv 0) (pe_op op_or (pe_fld (pv 0) rfl) (pe_op op_shl pe_int (pv 6))) rfl))))
  (pss_one (ps_ret (pv 2)))))))), ?_⟩
  try dsimp only [Xof, cxOf, Cx.nox, Cx.wish, Cx.blk]
  have n16 := ok.n16
  have olen := open_len ok
  apply som_seq
  apply s_asgO
  with_reducible apply en_frzL 0
  rfl
  apply en_lc (un_of rfl)
  apply ei_seq
  apply EvN.ev
  apply en_meth0N
  repeat walk_at "d"
  refine ⟨s, rfl, by rw [ok.l1]; omega, _, .inl rfl, fun i acc => acc = ((openD s.ls).take i).map nD, rfl, ?_, ?_⟩
  · rintro i d acc hi rfl
    obtain ⟨x, ex, rfl⟩ := map_at hi
    have hx := open_lt ok (List.mem_of_getElem? ex)
    refine ⟨_, mem_of rfl, g_name, ?_⟩
    repeat walk_at "d"
    apply ro_ixL (start_at0 hx)
    repeat walk_at "d"
    refine ⟨by rw [List.length_map, List.length_take]; omega, ?_⟩
    show _ = _
    rw [take_at ex, List.map_append]
    rfl
  rintro acc rfl
  rw [List.length_map, List.take_length]
  refine ⟨sc_n, ?_⟩
  apply som_seq
  repeat walk_at "d"
  apply som_seq
  repeat walk_at "d"
  apply som_seq
  with_reducible apply so_freeze 2
  rfl
  have nstay : ∀ d, (firstR s.rs d s.kn).isSome = !stays s d := fun d => by
    unfold stays
    cases firstR s.rs d s.kn <;> rfl
  apply s_while fun m ρ => ∃ (re he : List D) (tu : Int) (dy lv : List Nat) (x5 x6 x7 : Sl), ρ = [.lft sp sa sb sc (s.wt re he).L, .val (nD t), .val (.lst (dy.map nD)), .val (.int tu), .val (.lst (lv.map nD)), x5, x6, x7] ∧ re.length = s.n ∧ he.length = s.n ∧
    ((m = 2 ∧ dy = openD s.ls ∧ lv ≠ []) ∨ (m = 1 ∧ dy = setD s) ∨ (m = 0 ∧ dy = setD s ∧ lv = []))
  · exact ⟨2, s.re, s.he, 0, openD s.ls, [0], _, _, _, rfl, ok.l2, ok.l3, .inl ⟨rfl, rfl, by decide⟩⟩
  rintro m ρ' ⟨re, he, tu, dy, lv, x5, x6, x7, rfl, hre, hhe, hm⟩
  have dyo : ∀ d ∈ dy, d ∈ openD s.ls := fun d hd => by
    rcases hm with ⟨_, e, _⟩ | ⟨_, e⟩ | ⟨_, e, _⟩
    · exact e ▸ hd
    · rw [e] at hd
      exact (List.mem_filter.mp hd).1
    · rw [e] at hd
      exact (List.mem_filter.mp hd).1
  have dyl : dy.length ≤ 16 := by
    have : (setD s).length ≤ 16 := Nat.le_trans (List.length_filter_le _ _) olen
    rcases hm with ⟨_, e, _⟩ | ⟨_, e⟩ | ⟨_, e, _⟩ <;> rw [e] <;> assumption
  repeat walk_at "d"
  by_cases hlv : lv = []
  · rw [decide_eq_true hlv]
    refine iteFr rfl ?_
    have hdy : dy = setD s := by
      rcases hm with ⟨_, _, e⟩ | ⟨_, e⟩ | ⟨_, e, _⟩
      · exact absurd hlv e
      · exact e
      · exact e
    subst hdy
    apply som_seq
    apply s_for
    apply ei_seq
    repeat walk_at "d"
    refine ⟨_, .inl rfl, fun i ρ => ∃ (s1 : LfS) (x3 x4 x5 x6 x7 : Sl), ρ = [.lft sp sa sb sc s1.L, .val (nD t), .val (.lst ((setD s).map nD)), x3, x4, x5, x6, x7] ∧ s1.rs = s.rs ∧ s1.n = s.n ∧ s1.Ok ∧ ∀ d, s1.ls[d]? = if d ∈ (setD s).take i then some (some t) else s.ls[d]?, ⟨s.wt re he, _, _, _, _, _, rfl, rfl, rfl, ⟨ok.u, ok.n16, ok.l1, hre, hhe, ok.kn⟩, fun d => by rw [List.take_zero, if_neg List.not_mem_nil]⟩, ?_, ?_⟩
    · rintro i d ρ' hi ⟨⟨rs1, n1, ls1, re1, he1, kn1⟩, x3, x4, x5, x6, x7, rfl, e1, e2, ok1, hs1⟩
      obtain ⟨x, ex, rfl⟩ := map_at hi
      have hx2 := open_lt ok (dyo x (List.mem_of_getElem? ex))
      have l1 : ls1.length = s.n := ok1.l1.trans e2
      refine ⟨_, g_name, ?_⟩
      apply s_seq
      with_reducible apply s_setLayers
      rfl
      exact kcL W _ (by decide +kernel)
      repeat walk_at "d"
      refine ⟨_, x, rfl, ixN_nat (by rw [List.length_map]; omega), ?_⟩
      have em : (ls1.map optD).set x (nD t) = (ls1.set x (some t)).map optD := by rw [List.map_set]; rfl
      rw [em]
      with_reducible apply s_setKnown
      rfl
      exact kcL W _ (by decide +kernel)
      with_reducible apply ev_frzL 0
      rfl
      repeat walk_at "d"
      apply ro_shl_n (by omega)
      repeat walk_at "d"
      refine ⟨⟨rs1, n1, ls1.set x (some t), re1, he1, kn1 ||| 2 ^ x⟩, _, _, _, _, _, rfl, e1, e2, ⟨ok1.u, ok1.n16, ?_, ok1.l2, ok1.l3, fun d => ?_⟩, fun d => ?_⟩
      · show (ls1.set x (some t)).length = n1
        rw [List.length_set, l1]
        exact e2.symm
      · show (kn1 ||| 2 ^ x).testBit d = true ↔ ∃ v, (ls1.set x (some t))[d]? = some (some v)
        rw [Nat.testBit_or, Nat.testBit_two_pow]
        by_cases hd : x = d
        · subst hd
          rw [List.getElem?_set_self (by omega), decide_eq_true rfl, Bool.or_true]
          exact ⟨fun _ => ⟨t, rfl⟩, fun _ => rfl⟩
        · rw [List.getElem?_set_ne hd, decide_eq_false hd, Bool.or_false]
          exact ok1.kn d
      · show (ls1.set x (some t))[d]? = _
        have hsd := hs1 d
        rw [take_at ex]
        by_cases hd : x = d
        · subst hd
          rw [List.getElem?_set_self (by omega), if_pos (List.mem_append_right _ (List.mem_singleton.mpr rfl))]
        · rw [List.getElem?_set_ne hd]
          refine hsd.trans ?_
          have : d ∈ (setD s).take i ++ [x] ↔ d ∈ (setD s).take i := by
            rw [List.mem_append, List.mem_singleton]
            constructor
            · rintro (h | h)
              · exact h
              · exact absurd h.symm hd
            · exact .inl
          by_cases hm2 : d ∈ (setD s).take i
          · rw [if_pos hm2, if_pos (this.mpr hm2)]
          · rw [if_neg hm2, if_neg fun z => hm2 (this.mp z)]
    rintro ρ' ⟨s1, x3, x4, x5, x6, x7, rfl, e1, e2, ok1, hs1⟩
    rw [List.length_map, List.take_length] at hs1
    exact som_retV rfl rfl (q s1 e1 e2 ok1 hs1)
  · rw [decide_eq_false hlv]
    refine iteTr rfl ?_
    apply s_seq
    with_reducible apply so_forget 6
    apply s_asg
    apply ev_cb
    apply ea_cons
    apply EvN.ev
    apply en_lc (un_of rfl)
    apply ei_seq
    repeat walk_at "d"
    refine ⟨_, .inl rfl, fun i acc => ∃ xs : List Nat, xs.length = i ∧ acc = xs.map nD, ⟨[], rfl, rfl⟩, ?_, ?_⟩
    · rintro i d acc hi ⟨xs, hx, rfl⟩
      obtain ⟨x, ex, rfl⟩ := map_at hi
      have hx2 := open_lt ok (dyo x (List.mem_of_getElem? ex))
      have hi2 := (List.getElem?_eq_some_iff.mp ex).1
      refine ⟨_, mem_of rfl, g_name, ?_⟩
      repeat walk_at "d"
      apply ro_shl_n (by omega)
      refine ⟨by rw [List.length_map]; omega, xs ++ [2 ^ x], by rw [List.length_append, hx]; rfl, ?_⟩
      rw [List.map_append]
      rfl
    rintro acc ⟨xs, hx, rfl⟩
    repeat walk_at "d"
    apply rc_sumN
    generalize xs.sum = st
    repeat walk_at "o"
    apply s_for
    apply ei_seq
    repeat walk_at "d"
    refine ⟨_, .inl rfl, fun i ρ => ∃ (re he : List D) (x6 x7 : Sl), ρ = [.lft sp sa sb sc (s.wt re he).L, .val (nD t), .val (.lst (dy.map nD)), .val (.int tu), .own (((dy.take i).filter fun d => !stays s d).map nD), .val (nD st), x6, x7] ∧ re.length = s.n ∧ he.length = s.n, ⟨_, _, _, _, rfl, hre, hhe⟩, ?_, ?_⟩
    · rintro i d ρ' hi ⟨re, he, x6, x7, rfl, hre, hhe⟩
      obtain ⟨x, ex, rfl⟩ := map_at hi
      have hx2 := open_lt ok (dyo x (List.mem_of_getElem? ex))
      have hf := filter_take (f := fun d => !stays s d) ex
      have hln : ((dy.take i).filter fun d => !stays s d).length ≤ 16 := filter_le dyl
      refine ⟨_, g_name, ?_⟩
      apply s_seq
      apply s_asg
      with_reducible apply ev_frzL 0
      rfl
      repeat walk_at "d"
      refine ⟨s.rs, x, s.kn, st, rfl, ok.u, optD_sc _, ?_⟩
      apply s_if
      repeat walk_at "d"
      apply ro_notN_opt
      repeat walk_at "d"
      rw [nstay x]
      cases hs : stays s x with
      | true =>
        refine iteFr rfl ?_
        repeat walk_at "d"
        rw [List.filter_cons_of_neg (by rw [hs]; decide), List.filter_nil, List.append_nil] at hf
        rw [hf]
        exact ⟨_, _, _, _, rfl, hre, hhe⟩
      | false =>
        refine iteTr rfl ?_
        rw [List.filter_cons_of_pos (by rw [hs]; decide), List.filter_nil] at hf
        apply s_seq
        with_reducible apply s_setReasons
        rfl
        exact kcL W _ (by decide +kernel)
        repeat walk_at "d"
        refine ⟨_, x, rfl, ixN_nat (by show x < re.length; omega), ?_⟩
        apply s_seq
        with_reducible apply s_setHeights
        rfl
        exact kcL W _ (by decide +kernel)
        repeat walk_at "d"
        refine ⟨_, x, rfl, ixN_nat (by show x < he.length; omega), ?_⟩
        repeat walk_at "d"
        · rw [List.length_map]
          omega
        repeat walk_at "d"
        rw [hf, List.map_append]
        exact ⟨re.set x _, he.set x _, _, _, rfl, by rw [List.length_set]; exact hre, by rw [List.length_set]; exact hhe⟩
    rintro ρ' ⟨re, he, x6, x7, rfl, hre, hhe⟩
    rw [List.length_map, List.take_length]
    apply s_seq
    with_reducible apply so_freeze 4
    rfl
    with_reducible apply so_forget 6
    apply s_asgO
    apply en_lc (un_of rfl)
    apply ei_seq
    repeat walk_at "d"
    refine ⟨_, .inl rfl, fun i acc => acc = ((dy.take i).filter (stays s)).map nD, rfl, ?_, ?_⟩
    · rintro i d acc hi rfl
      obtain ⟨x, ex, rfl⟩ := map_at hi
      have hm2 := List.mem_of_getElem? ex
      have hf := filter_take (f := stays s) ex
      have hln : ((dy.take i).filter (stays s)).length ≤ 16 := filter_le dyl
      refine ⟨_, mem_of rfl, g_name, ?_⟩
      repeat walk_at "d"
      apply ro_niLn
      have hmem : (!decide (x ∈ dy.filter fun d => !stays s d)) = stays s x := by
        have : (x ∈ dy.filter fun d => !stays s d) ↔ stays s x = false := by
          rw [List.mem_filter]
          constructor
          · intro h
            simpa using h.2
          · intro h
            exact ⟨hm2, by rw [h]; rfl⟩
        cases hs : stays s x with
        | true => rw [decide_eq_false (by rw [this, hs]; decide)]; rfl
        | false => rw [decide_eq_true (this.mpr hs)]; rfl
      rw [hmem]
      repeat walk_at "d"
      cases hs : stays s x with
      | true =>
        repeat walk_at "d"
        rw [List.filter_cons_of_pos hs, List.filter_nil] at hf
        refine ⟨by rw [List.length_map]; omega, ?_⟩
        show _ = _
        rw [hf, List.map_append]
        rfl
      | false =>
        repeat walk_at "d"
        rw [List.filter_cons_of_neg (by rw [hs]; decide), List.filter_nil, List.append_nil] at hf
        show _ = _
        rw [hf]
    rintro acc rfl
    rw [List.length_map, List.take_length]
    with_reducible apply so_freeze 2
    rfl
    repeat walk_at "d"
    have hset : dy.filter (stays s) = setD s := by
      rcases hm with ⟨_, e, _⟩ | ⟨_, e⟩ | ⟨_, e, _⟩
      · rw [e]; rfl
      · rw [e]; unfold setD; rw [List.filter_filter]; simp
      · rw [e]; unfold setD; rw [List.filter_filter]; simp
    rw [hset]
    rcases hm with ⟨e1, e, _⟩ | ⟨e1, e⟩ | ⟨_, _, e⟩
    · exact ⟨1, by omega, re, he, _, setD s, _, _, _, _, rfl, hre, hhe, .inr (.inl ⟨rfl, rfl⟩)⟩
    · refine ⟨0, by omega, re, he, _, setD s, _, _, _, _, rfl, hre, hhe, .inr (.inr ⟨rfl, rfl, ?_⟩)⟩
      rw [e]
      unfold setD
      rw [List.filter_filter]
      apply List.filter_eq_nil_iff.mpr
      intro d _
      cases stays s d <;> decide
    · exact absurd e hlv
theorem cc_Lifting_settle (W : Wf P w K mg base) : Mth P w K mg base 2 "Lifting" "settle" (spM K S_Lifting_settle) := ⟨ok_Lifting_settle W, W.cls 5 _ rfl, W.meth 3 _ rfl⟩
end
end K33
namespace K33
open PySem PySem.Spec PyProof.Rows L2
section
variable {P : Program} {w : World} {K : PySem.W.Frag} {mg : PySem.Str → Option Value} {base : Heap}
local macro_rules | `(tactic| walk_at "d0") => `(tactic| first
  | ((with_reducible apply ev_var); rfl)
  | with_reducible apply ev_int
  | with_reducible apply ev_bl
  | with_reducible apply ev_str
  | with_reducible apply ev_non
  | with_reducible apply s_seq
  | with_reducible apply s_ret
  | with_reducible apply s_asg
  | with_reducible apply s_next
  | ((with_reducible apply s_app); rfl)
  | with_reducible apply s_drop
  | ((with_reducible apply src_0); rfl; intro _)
  | ((with_reducible apply src_1); rfl; intro _ _ _)
  | ((with_reducible apply src_2); rfl; intro _)
  | ((with_reducible apply s_setSrc0); rfl)
  | ((with_reducible apply s_setSrc2); rfl)
  | ((with_reducible apply ev_callS); rfl)
  | ((with_reducible apply ev_opO); rfl)
  | ((with_reducible apply ev_ixO); rfl)
  | with_reducible apply ev_op
  | with_reducible apply ev_un
  | with_reducible apply et_test
  | with_reducible apply et_B
  | with_reducible apply et_truI
  | with_reducible apply et_and
  | with_reducible apply et_or
  | with_reducible apply et_not
  | with_reducible apply ea_nil
  | with_reducible apply ea_cons
  | with_reducible apply ro_nd_n
  | with_reducible apply ro_and_n
  | with_reducible apply ro_or_n
  | with_reducible apply ro_shr_n
  | with_reducible apply ro_eq_0
  | with_reducible apply ro_ne_0
  | with_reducible apply ro_eq_n
  | with_reducible apply ro_ne_n
  | with_reducible apply ro_add_n
  | with_reducible apply ro_add_1
  | with_reducible apply ro_I0
  | with_reducible apply ro_B0
  | with_reducible apply ro_un
  | ((with_reducible apply ro_isN); rfl)
  | ((with_reducible apply ro_notN); rfl)
  | with_reducible apply ro_eq_t0
  | with_reducible apply ro_ne_lt0
  | with_reducible apply ro_ne_l0
  | with_reducible apply ro_ne_tt
  | with_reducible apply ro_eq_tt
  | with_reducible apply ro_ne_t
  | with_reducible apply ro_eq_i
  | with_reducible apply ro_ne_i
  | with_reducible apply ro_eq_s
  | with_reducible apply ro_add
  | ((with_reducible apply ro_ixT); rfl)
  | ((with_reducible apply ro_ixL); rfl)
  | with_reducible apply ev_list
  | with_reducible apply ev_tuple
  | with_reducible apply ev_sortset
  | with_reducible apply ev_isLT
  | ((with_reducible apply ev_cbO); rfl)
  | with_reducible apply ev_cb
  | with_reducible apply ev_call
  | ((with_reducible apply ev_fldM); rfl; exact Wf.kc2 (by assumption) (by decide +kernel); rfl)
  | with_reducible apply ev_fld
  | with_reducible apply ev_and
  | with_reducible apply ev_or
  | with_reducible apply ev_notV
  | with_reducible apply ev_if
  | with_reducible apply ev_chain
  | with_reducible apply ev_tup
  | with_reducible apply ev_lst
  | with_reducible apply ev_make
  | ((with_reducible apply ev_cm0); exact exok0)
  | ((with_reducible apply ev_cm); exact exok0)
  | ((with_reducible apply ev_meth0); exact exok0)
  | ((with_reducible apply ev_meth); exact exok0)
  | ((with_reducible apply ro_subO); exact exok0)
  | ((with_reducible apply ro_addO); exact exok0)
  | ((with_reducible apply rc_lenO); exact exok0)
  | ((with_reducible apply ev_prop); exact exok0)
  | with_reducible apply rc_int
  | with_reducible apply rc_lenL
  | with_reducible apply rc_lenT
  | ((with_reducible apply rc_is_int); (exact rfl))
  | ((with_reducible apply rc_is_bl); (exact rfl))
  | ((with_reducible apply rc_is_str); (exact rfl))
  | ((with_reducible apply rc_is_tup); (exact rfl))
  | ((with_reducible apply s_fldM); rfl; exact Wf.kc2 (by assumption) (by decide +kernel); decide; rfl)
  | with_reducible apply et_yes
  | with_reducible apply ev_rawc
  | ((with_reducible apply ev_src); rfl)
  | ((with_reducible refine ⟨len_ok ?_, ?_⟩); rfl)
  | with_reducible refine ⟨rfl, ?_⟩
  | with_reducible refine ⟨⟨_, rfl⟩, ?_⟩
  | with_reducible refine ⟨_, rfl, ?_⟩
  | refine ⟨_, _, rfl, rfl, ?_⟩
  | refine ⟨_, _, _, _, rfl, Wf.kc2 (by assumption) (by decide +kernel), rfl, ?_⟩
  | ((with_reducible apply iteTr); rfl)
  | ((with_reducible apply iteFr); rfl)
  | dsimp only)
local macro_rules | `(tactic| walk_at "d") => `(tactic| first
  | walk_at "d0"
  | with_reducible apply s_if)
local macro_rules | `(tactic| walk_at "o") => `(tactic| first
  | ((with_reducible apply so_retO); rfl)
  | ((with_reducible apply et_notcallO); rfl)
  | ((with_reducible apply s_asgO); (with_reducible apply en_lst); (with_reducible apply ea_nil); refine ⟨len_ok rfl, ?_⟩)
  | walk_at "d")

local macro_rules | `(tactic| walk_at "x") => `(tactic| first
  | ((with_reducible apply ev_callX); assumption)
  | walk_at "o")
/-- what a lifting that has run is -/
structure LfEnd (rs : List Rw) (n : Nat) (s : LfS) : Prop where
  rs_ : s.rs = rs
  n_ : s.n = n
  ok : s.Ok
  dis : Dis s
  nil : setD s = []
theorem firstR_ex {rs : List Rw} {d k : Nat} : (firstR rs d k).isNone = false → ∃ r ∈ rs, r.hi.testBit d = true ∧ r.lo &&& k = 0 := fun h => by
  unfold firstR at h
  cases e : rs.findIdx? fun r => r.hi.testBit d && decide (r.lo &&& k = 0) with
  | none => rw [e] at h; cases h
  | some i =>
    rw [List.findIdx?_eq_some_iff_getElem] at e
    obtain ⟨hi, h1, _⟩ := e
    rw [Bool.and_eq_true, decide_eq_true_iff] at h1
    exact ⟨rs[i], List.getElem_mem hi, h1.1, h1.2⟩
theorem firstR_no {rs : List Rw} {d k : Nat} (h : (firstR rs d k).isNone = true) : ∀ r ∈ rs, r.hi.testBit d = true → r.lo &&& k ≠ 0 := fun r hr e z => by
  unfold firstR at h
  cases q : rs.findIdx? fun r => r.hi.testBit d && decide (r.lo &&& k = 0) with
  | some i => rw [q] at h; cases h
  | none =>
    rw [List.findIdx?_eq_none_iff] at q
    have := q r hr
    rw [e, z] at this
    cases this
theorem and_bit {a b : Nat} (h : a &&& b ≠ 0) : ∃ i, a.testBit i = true ∧ b.testBit i = true := by
  apply Classical.byContradiction
  intro hn
  apply h
  apply eq_of_bits
  intro i
  rw [Nat.zero_testBit, Nat.testBit_and]
  cases e1 : a.testBit i with
  | false => rfl
  | true =>
    cases e2 : b.testBit i with
    | false => rfl
    | true => exact absurd ⟨i, e1, e2⟩ hn
/-- a settled layer keeps what rises apart -/
theorem Dis.next {s s' : LfS} {t : Nat} (ok : s.Ok) (h : Dis s) (e1 : s'.rs = s.rs) (e2 : s'.n = s.n) (ok' : s'.Ok) (hs : Settled s t s') : Dis s' := fun S hS d hd => by
  rw [e1, e2] at hS
  have hk := h S hS
  cases q : s'.kn.testBit d with
  | false => rfl
  | true =>
    obtain ⟨v, ev⟩ := (ok'.kn d).mp q
    have := hs d
    rw [ev] at this
    by_cases hm : d ∈ setD s
    · obtain ⟨_, r, hr, h1, h2⟩ := hS d hd
      obtain ⟨i, i1, i2⟩ := and_bit (firstR_no (List.mem_filter.mp hm).2 r hr h1)
      have := hk i (h2 i i1)
      rw [i2] at this
      cases this
    · rw [if_neg hm] at this
      have := (ok.kn d).mpr ⟨v, this.symm⟩
      rw [hk d hd] at this
      cases this
theorem sub_len : ∀ {ms ns : List Nat}, ms.Nodup → (∀ x ∈ ms, x ∈ ns) → ms.length ≤ ns.length
  | [], _, _, _ => Nat.zero_le _
  | m :: ms, ns, hn, h => by
    have hm := h m (List.mem_cons_self ..)
    have hn' := List.nodup_cons.mp hn
    have := sub_len (ms := ms) (ns := ns.erase m) hn'.2 fun x hx => by
      have : x ≠ m := fun z => hn'.1 (z ▸ hx)
      exact (List.mem_erase_of_ne this).mpr (h x (List.mem_cons_of_mem _ hx))
    rw [List.length_erase_of_mem hm] at this
    have hp : 0 < ns.length := List.length_pos_of_mem hm
    rw [List.length_cons]
    omega
theorem open_less {s s' : LfS} {t : Nat} (hs : Settled s t s') (h : setD s ≠ []) : (openD s'.ls).length < (openD s.ls).length := by
  obtain ⟨d, hd⟩ := List.exists_mem_of_ne_nil _ h
  have hdo : d ∈ openD s.ls := (List.mem_filter.mp hd).1
  have nd' : d ∉ openD s'.ls := fun z => by
    have := mem_open.mp z
    rw [hs d, if_pos hd] at this
    cases this
  have hsub : ∀ x ∈ d :: openD s'.ls, x ∈ openD s.ls := fun x hx => by
    rcases List.mem_cons.mp hx with rfl | hx
    · exact hdo
    · have h1 := mem_open.mp hx
      rw [hs x] at h1
      by_cases hm : x ∈ setD s
      · exact (List.mem_filter.mp hm).1
      · rw [if_neg hm] at h1
        exact mem_open.mpr h1
  have := sub_len (List.nodup_cons.mpr ⟨nd', open_nodup s'.ls⟩) hsub
  rw [List.length_cons] at this
  omega
theorem set_same {s s' : LfS} {t : Nat} (e1 : s'.rs = s.rs) (ok : s.Ok) (ok' : s'.Ok) (hs : Settled s t s') (h : setD s = []) : setD s' = [] := by
  have el : s'.ls = s.ls := List.ext_getElem? fun d => by
    rw [hs d, h, if_neg List.not_mem_nil]
  have ek : s'.kn = s.kn := eq_of_bits fun d => by
    have h1 := ok.kn d
    have h2 := ok'.kn d
    rw [el] at h2
    cases q1 : s'.kn.testBit d <;> cases q2 : s.kn.testBit d
    · rfl
    · rw [h2.mpr (h1.mp q2)] at q1; cases q1
    · rw [h1.mpr (h2.mp q1)] at q2; cases q2
    · rfl
  rw [← h]
  unfold setD
  rw [el]
  apply List.filter_congr
  intro d _
  unfold stays
  rw [e1, ek]
def S_Lifting_run : LSt → List D → (D → LSt → Prop) → Prop := fun L ds k => ∃ s : LfS, L = s.L ∧ ds = [] ∧ s.Ok ∧ 1 ≤ s.n ∧ Dis s ∧ ∀ s' : LfS, LfEnd s.rs s.n s' → k .non s'.L
theorem ev_minD {F : Fm} {ρ : List Sl} {k : D → Prop} {t tk : TA} (h : EvA F t ρ fun ds => ds = [.lst []] ∧ EvA F tk ρ fun zs => zs = [.non] ∧ k .non) : EvD F (tCKw (rMinD F.K) t tk) ρ k := fun B H σ E Q hQ =>
  h B H σ E _ fun ds vs B1 H1 ⟨e1, g⟩ S1 r1 => g B1 H1 σ S1.env _ fun zs ws B2 H2 ⟨e2, q⟩ S2 r2 => by
    subst e1 e2
    obtain ⟨v, t, rfl, ⟨a, us, rfl, h1, h2⟩, rfl⟩ := r1
    obtain ⟨u, t', rfl, h3, rfl⟩ := r2
    cases h3
    cases h2
    exact ⟨a, rfl, rfl, .inl (.inl (S2.env.bs.bh _ _ (S2.bb _ _ h1))), hQ _ _ B2 H2 q (S1.trans S2) rfl⟩
theorem ok_Lifting_run (W : Wf P w K mg base) : FnR P w K mg base (L2.CX P w) 3 (d_Lifting_run.at_ K) (spM K S_Lifting_run) := by
  have c_Lifting_settle := cc_Lifting_settle W
  have c_Lifting_open_days := cc_Lifting_open_days W
  refine W.fnM in_Lifting_run sc_Lifting_run (fun fd F => F.bindsN fun _ _ _ _ _ _ us hl => match us, hl with | [_], _ => rfl) (fun L ds k h => by first | (obtain ⟨rfl, _⟩ := h; rfl) | (obtain ⟨_, rfl, _⟩ := h; rfl) | (obtain ⟨_, _, rfl, _⟩ := h; rfl) | (obtain ⟨_, _, _, rfl, _⟩ := h; rfl) | (obtain ⟨_, _, _, _, rfl, _⟩ := h; rfl) | (obtain ⟨_, _, _, _, _, rfl, _⟩ := h; rfl) | (obtain ⟨_, _, _, _, _, _, rfl, _⟩ := h; rfl) | (obtain ⟨_, _, _, _, _, _, _, rfl, _⟩ := h; rfl) | (obtain ⟨_, _, _, _, _, _, _, _, rfl, _⟩ := h; rfl) | (obtain ⟨_, _, _, _, _, _, _, _, _, rfl, _⟩ := h; rfl)) fun cdv A outer s H E hR F sp sa sb sc L ds kk hF h => ?_
  subst hF
  obtain ⟨s, rfl, rfl, ok, hn1, hdis, q⟩ := h
  refine ⟨_, (pss_cons (ps_set (i := 1) sc_Lifting_run.nd rfl (Or.inr rfl) (pe_callB (cr_min rfl : CallR _ _ (rMin F.K)) rfl (W.free 12 _ rfl) (by decide +kernel) (pa_cons (pe_fld (pv 0) rfl) pa_nil)))
  (pss_one (ps_while PassesOwn.never (pt_cmpR op_notN (pv 1) pe_non (nomark _))
  (pss_one (ps_if (pt_cmpR (op_neX hR.units : OpR _ _ (rNeX F.K)) (pe_m (pv 0) c_Lifting_settle hR (by decide) passL (pa_cons (pv 1) pa_nil)) (pe_lst pa_nil) (nomark _))
  (pss_one (ps_set (i := 1) sc_Lifting_run.nd rfl (Or.inr rfl) (pe_op (op_addX : OpR _ _ (rAddX F.K)) (pv 1) pe_int)))
  (pss_cons (ps_setLc (i := 2) (own := [("day", 3)]) (by rfl) sc_Lifting_run.nd rfl rfl (sw_true rfl rfl rfl (by decide +kernel)) (pi_seqK (K := F.K) rfl (pe_m0 (pv 0) c_Lifting_open_days hR (by decide) passL)) (blkOk_by (N := n_Lifting_run) (sc := defScope s_Lifting_run) (own := [("day", 3)]) (by decide +kernel)) (fun _ _ _ _ _ => (pg_name (i := 3) sc_Lifting_run.nd rfl (Or.inl rfl))) (fun _ _ _ _ _ => (pts_one (pt_cmpR op_gt (pe_ix (ix_seq : IxR _ (rIx F.K)) (pe_fldK (K := F.K) rfl (pv 0) rfl) (pv 3) (fun _ _ => rfl)) (pv 1) (nomark _)))) (fun _ _ _ _ _ => (pe_ix (ix_seq : IxR _ (rIx F.K)) (pe_fldK (K := F.K) rfl (pv 0) rfl) (pv 3) (fun _ _ => rfl))))
  (pss_one (ps_set (i := 1) sc_Lifting_run.nd rfl (Or.inr rfl) (pe_callBK (cr_minD rfl) rfl (W.free 12 _ rfl) (by decide +kernel) (pa_cons (pv 2) pa_nil) (pk_cons pe_non pk_nil)))))))))), ?_⟩
  try dsimp only [Xof, cxOf, Cx.nox, Cx.wish, Cx.blk]
  have n16 := ok.n16
  apply som_end
  apply s_seq
  apply s_asg
  with_reducible apply ev_frzL 0
  rfl
  repeat walk_at "d"
  refine rc_minN (by rw [List.length_replicate]; omega) fun m hm => ⟨rfl, ?_⟩
  have hm0 : m = 0 := (List.mem_replicate.mp hm).2
  subst hm0
  apply s_while fun m ρ => ∃ (s1 : LfS) (x1 : D) (x2 : Sl), ρ = [.lft sp sa sb sc s1.L, .val x1, x2, .un] ∧ s1.rs = s.rs ∧ s1.n = s.n ∧ s1.Ok ∧ Dis s1 ∧ ((∃ t : Nat, x1 = nD t ∧ m = (openD s1.ls).length + 1) ∨ (x1 = .non ∧ m = 0 ∧ setD s1 = []))
  · exact ⟨_, s, _, _, rfl, rfl, rfl, ok, hdis, .inl ⟨0, rfl, rfl⟩⟩
  rintro m ρ' ⟨s1, x1, x2, rfl, e1, e2, ok1, hd1, hm⟩
  rcases hm with ⟨t, rfl, rfl⟩ | ⟨rfl, rfl, hnil⟩
  · with_reducible apply et_test
    with_reducible apply ev_op
    with_reducible apply ev_var
    rfl
    with_reducible apply ev_non
    apply ro_notN rfl
    refine ⟨_, rfl, ?_⟩
    refine iteTr rfl ?_
    with_reducible apply s_ifM
    with_reducible apply em_meth
    decide
    rfl
    repeat walk_at "d"
    refine ⟨ok1, fun s' f1 f2 ok' hs => ?_⟩
    have hd' := hd1.next ok1 f1 f2 ok' hs
    repeat walk_at "d"
    by_cases h0 : setD s1 = []
    · rw [decide_eq_true h0]
      refine iteFr rfl ?_
      apply s_seq
      apply s_asgO
      with_reducible apply en_frzL 0
      rfl
      apply en_lc (un_of rfl)
      apply ei_seq
      apply EvN.ev
      apply en_meth0N
      repeat walk_at "d"
      refine ⟨s', rfl, by rw [ok'.l1]; have := ok'.n16; omega, _, .inl rfl, fun i acc => acc = [], rfl, ?_, ?_⟩
      · rintro i d acc hi rfl
        obtain ⟨x, ex, rfl⟩ := map_at hi
        have hx := open_lt ok' (List.mem_of_getElem? ex)
        refine ⟨_, mem_of rfl, g_name, ?_⟩
        repeat walk_at "d"
        apply ro_ixL (start_at0 hx)
        repeat walk_at "d"
      rintro acc rfl
      refine ⟨(fun d h => by cases h), ?_⟩
      with_reducible apply so_freeze 2
      rfl
      repeat walk_at "d"
      apply ev_minD
      repeat walk_at "d"
      exact ⟨0, by omega, s', _, _, rfl, f1.trans e1, f2.trans e2, ok', hd', .inr ⟨rfl, rfl, set_same f1 ok1 ok' hs h0⟩⟩
    · rw [decide_eq_false h0]
      refine iteTr rfl ?_
      repeat walk_at "d"
      have hlt := open_less hs h0
      exact ⟨_, by omega, s', _, _, rfl, f1.trans e1, f2.trans e2, ok', hd', .inl ⟨t + 1, rfl, rfl⟩⟩
  · repeat walk_at "d"
    exact q s1 ⟨e1, e2, ok1, hd1, hnil⟩
theorem cc_Lifting_run (W : Wf P w K mg base) : Mth P w K mg base 3 "Lifting" "run" (spM K S_Lifting_run) := ⟨ok_Lifting_run W, W.cls 5 _ rfl, W.meth 4 _ rfl⟩
def S_Lifting__init__ : List D → (LSt → Prop) → Prop := fun ds k => ∃ (rs : List Rw) (n : Nat), ds = [.lst (rs.map sayD), .lst ((List.replicate n 0).map nD)] ∧ n ≤ 1000 ∧ rs.length ≤ 1000 ∧ k (LfS.L ⟨rs, n, List.replicate n none, List.replicate n .non, List.replicate n (.int 0), 0⟩)
theorem rep_repl {K : PySem.W.Frag} {B : Hp} {d : D} {v : V} (r : Rep K B d v) : ∀ n, RepL K B (List.replicate n d) (List.replicate n v)
  | 0 => rfl
  | n + 1 => .cons r (rep_repl r n)
theorem flat_repl {α : Type} (v : α) : ∀ n, (List.replicate n [v]).flatten = List.replicate n v
  | 0 => rfl
  | n + 1 => congrArg (v :: ·) (flat_repl v n)
theorem en_rep {F : Fm} {ρ : List Sl} {kl : List D → Prop} {tn tl : TE} (h : EvD F tl ρ fun x => ∃ d, x = .lst [d] ∧ EvD F tn ρ fun y => ∃ n : Nat, y = nD n ∧ n ≤ 1000 ∧ kl (List.replicate n d)) : EvN F (tOp rMulX tl tn) ρ kl := fun B H σ E Q hQ =>
  h B H σ E _ fun x vx B1 H1 ⟨d, ex, g⟩ S1 r1 => g B1 H1 σ S1.env _ fun y vy B2 H2 ⟨n, ey, hn, q⟩ S2 r2 => by
    subst ex ey
    obtain ⟨a, us, rfl, h1, v, t, rfl, h2, rfl⟩ := r1
    cases r2
    have S := S1.trans S2
    refine .inr (.inr ⟨a, n, [v], rfl, rfl, S2.env.bs.bh _ _ (S2.bb _ _ h1), by omega, by omega, ?_, fun p hp => ?_⟩)
    · refine sz5 ?_
      show 1 * ((n : Int)).toNat ≤ _
      omega
    · refine hQ _ p _ B2 _ q (S.grow (Same.upd hp)) (fresh_of (S1 := S) hp) (S.env.bs.bnew hp) upd_same ?_
      rw [flat_repl, Int.toNat_natCast]
      exact rep_repl (h2.mono S2.bb) n
theorem ro_rep {F : Fm} {ρ : List Sl} {k : D → Prop} {d : D} {n : Nat} (hn : n ≤ 1000) (q : k (.lst (List.replicate n d))) : ROp F rMulX ρ (.lst [d]) (nD n) k := fun B H σ vx vy E rx ry Q hQ => by
  obtain ⟨a, us, rfl, h1, v, t, rfl, h2, rfl⟩ := rx
  cases ry
  refine .inr (.inr ⟨a, n, [v], rfl, rfl, E.bs.bh _ _ h1, by omega, by omega, ?_, fun p hp => ?_⟩)
  · refine sz5 ?_
    show 1 * ((n : Int)).toNat ≤ _
    omega
  · refine hQ _ _ _ _ q (.new E _ hp) ⟨p, _, rfl, upd_same, ?_⟩
    rw [flat_repl, Int.toNat_natCast]
    exact rep_repl (h2.mono (E.sameB _ hp)) n
theorem ok_Lifting__init__ (W : Wf P w K mg base) : ∃ fd, FunD K d_Lifting__init__.name d_Lifting__init__.qual d_Lifting__init__.params d_Lifting__init__.body d_Lifting__init__.scope (d_Lifting__init__.dvs K) (d_Lifting__init__.kws K) (d_Lifting__init__.at_ K) fd ∧ FnOk P w K mg base (L2.CX P w) 1 (d_Lifting__init__.at_ K) fd ["self", "sayings", "start"] (spLI K S_Lifting__init__) := by
  refine W.fnLI in_Lifting__init__ sc_Lifting__init__ (fun ds k h => by first | (obtain ⟨rfl, _⟩ := h; rfl) | (obtain ⟨_, rfl, _⟩ := h; rfl) | (obtain ⟨_, _, rfl, _⟩ := h; rfl) | (obtain ⟨_, _, _, rfl, _⟩ := h; rfl) | (obtain ⟨_, _, _, _, rfl, _⟩ := h; rfl) | (obtain ⟨_, _, _, _, _, rfl, _⟩ := h; rfl) | (obtain ⟨_, _, _, _, _, _, rfl, _⟩ := h; rfl) | (obtain ⟨_, _, _, _, _, _, _, rfl, _⟩ := h; rfl) | (obtain ⟨_, _, _, _, _, _, _, _, rfl, _⟩ := h; rfl) | (obtain ⟨_, _, _, _, _, _, _, _, _, rfl, _⟩ := h; rfl)) fun cdv A outer s H E hR F sa ds kk hF hMs hsa h => ?_
  subst hF
  obtain ⟨rs, n, rfl, hn, hrs, q⟩ := h
  refine ⟨_, (pss_cons (ps_fld (pv 0) (pe_lc (own := [("saying", 3)]) (by rfl) sc_Lifting__init__.nd (pi_seqK (K := F.K) rfl (pv 1)) (blkOk_by (N := n_Lifting__init__) (sc := defScope s_Lifting__init__) (own := [("saying", 3)]) (by decide +kernel)) (fun _ _ _ _ _ => (pg_name (i := 3) sc_Lifting__init__.nd rfl (Or.inl rfl))) (fun _ _ _ _ _ => pts_nil) (fun _ _ _ _ _ => (pe_tup (pa_cons (pe_fldK (K := F.K) rfl (pv 3) rfl) (pa_cons (pe_fldK (K := F.K) rfl (pv 3) rfl) (pa_cons (pe_fldK (K := F.K) rfl (pv 3) rfl) pa_nil)))))) rfl)
  (pss_cons (ps_fld (pv 0) (pv 2) rfl)
  (pss_cons (ps_fld (pv 0) (pe_op op_mulX2 (pe_lst (pa_cons pe_non pa_nil)) (pe_callB (cr_lenX : CallR _ _ (rLenX F.K)) rfl (W.free 0 _ rfl) boot_len (pa_cons (pv 2) pa_nil))) rfl)
  (pss_cons (ps_fld (pv 0) (pe_op op_mulX2 (pe_lst (pa_cons pe_non pa_nil)) (pe_callB (cr_lenX : CallR _ _ (rLenX F.K)) rfl (W.free 0 _ rfl) boot_len (pa_cons (pv 2) pa_nil))) rfl)
  (pss_cons (ps_fld (pv 0) (pe_op op_mulX2 (pe_lst (pa_cons pe_int pa_nil)) (pe_callB (cr_lenX : CallR _ _ (rLenX F.K)) rfl (W.free 0 _ rfl) boot_len (pa_cons (pv 2) pa_nil))) rfl)
  (pss_one (ps_fld (pv 0) pe_int rfl))))))), ?_⟩
  try dsimp only [Xof, cxOf, Cx.nox, Cx.wish, Cx.blk]
  apply sli_seq
  with_reducible apply s_fldM
  rfl
  exact kcL W _ (by decide +kernel)
  decide
  rfl
  apply EvN.ev
  apply en_lc (un_of rfl)
  apply ei_seq
  repeat walk_at "d"
  refine ⟨_, .inl rfl, fun i acc => acc = (rs.take i).map lhsD, rfl, ?_, ?_⟩
  · rintro i d acc hi rfl
    obtain ⟨r, er, rfl⟩ := map_at hi
    refine ⟨_, mem_of rfl, g_name, ?_⟩
    repeat walk_at "d"
    refine ⟨by rw [List.length_map, List.length_take]; omega, ?_⟩
    show _ = _
    rw [take_at er, List.map_append]
    rfl
  rintro acc rfl
  rw [List.length_map, List.take_length]
  apply sli_seq
  repeat walk_at "d"
  apply sli_end (l1 := List.replicate n .non) (l2 := List.replicate n .non) (l3 := List.replicate n (.int 0)) rfl
  · intro j q z
    match j, z with
    | 0, z => cases z
    | 1, z => cases z
    | 2, z => cases z
    | 3, z => cases z
    | j + 4, z => cases z
  · exact kcL W _ (by decide +kernel)
  · exact kcL W _ (by decide +kernel)
  · exact kcL W _ (by decide +kernel)
  · exact kcL W _ (by decide +kernel)
  · intro ρ' h2
    apply en_rep
    repeat walk_at "d"
    apply ev_var (h2.trans rfl)
    repeat walk_at "d"
    rw [List.length_map, List.length_replicate]
    exact ⟨hn, rfl⟩
  · intro ρ' h2
    apply en_rep
    repeat walk_at "d"
    apply ev_var (h2.trans rfl)
    repeat walk_at "d"
    rw [List.length_map, List.length_replicate]
    exact ⟨hn, rfl⟩
  · intro ρ' h2
    apply en_rep
    repeat walk_at "d"
    apply ev_var (h2.trans rfl)
    repeat walk_at "d"
    rw [List.length_map, List.length_replicate]
    exact ⟨hn, rfl⟩
  · have e : (List.replicate n (none : Option Nat)).map optD = List.replicate n .non := by
      rw [List.map_replicate]
      rfl
    have q' : kk ⟨.lst (rs.map lhsD), .lst ((List.replicate n 0).map nD), (List.replicate n (none : Option Nat)).map optD, List.replicate n .non, List.replicate n (.int 0), 0⟩ := q
    rw [e] at q'
    exact q'

theorem cc_Lifting__init__ (W : Wf P w K mg base) : Kls P w K mg base 1 "Lifting" (spLI K S_Lifting__init__) := by
  obtain ⟨fd, Fn, G⟩ := ok_Lifting__init__ W
  exact kls_of W rfl (W.glo 5 _ rfl) (j := 5) rfl G (Fn.bindsN fun _ _ _ _ _ _ us hl => match us, hl with | [_, _, _], _ => rfl)
def S_lifting_of : List D → (D → Prop) → Prop := fun ds k => ∃ (rs : List Rw) (n : Nat), ds = [.lst (rs.map sayD), .lst ((List.replicate n 0).map nD)] ∧ (∀ r ∈ rs, r.u = true) ∧ 1 ≤ n ∧ n ≤ 16 ∧ rs.length ≤ 1000 ∧ ∀ s : LfS, LfEnd rs n s → k (lobj s.L)
theorem ok_lifting_of (W : Wf P w K mg base) : FnR P w K mg base (L2.CX P w) 4 (d_lifting_of.at_ K) (spD K fun ds k _ => S_lifting_of ds k) := by
  have c_Lifting__init__ := cc_Lifting__init__ W
  have c_Lifting_run := cc_Lifting_run W
  refine W.fnD in_lifting_of sc_lifting_of (fun fd F => F.bindsN fun _ _ _ _ _ _ us hl => match us, hl with | [_, _], _ => rfl) (fun ds k h => by first | (obtain ⟨rfl, _⟩ := h; rfl) | (obtain ⟨_, rfl, _⟩ := h; rfl) | (obtain ⟨_, _, rfl, _⟩ := h; rfl) | (obtain ⟨_, _, _, rfl, _⟩ := h; rfl) | (obtain ⟨_, _, _, _, rfl, _⟩ := h; rfl) | (obtain ⟨_, _, _, _, _, rfl, _⟩ := h; rfl) | (obtain ⟨_, _, _, _, _, _, rfl, _⟩ := h; rfl) | (obtain ⟨_, _, _, _, _, _, _, rfl, _⟩ := h; rfl) | (obtain ⟨_, _, _, _, _, _, _, _, rfl, _⟩ := h; rfl) | (obtain ⟨_, _, _, _, _, _, _, _, _, rfl, _⟩ := h; rfl)) fun cdv A outer s H E hR F ds kk hF h => ?_
  subst hF
  obtain ⟨rs, n, rfl, hu, h1, h16, hl, q⟩ := h
  refine ⟨_, (pss_cons (ps_set (i := 2) sc_lifting_of.nd rfl (Or.inl rfl) (pe_k c_Lifting__init__ hR (by decide) rfl passL (pa_cons (pv 0) (pa_cons (pv 1) pa_nil))))
  (pss_cons (ps_expr (pe_m0 (pv 2) c_Lifting_run hR (by decide) passL))
  (pss_one (ps_ret (pv 2))))), ?_⟩
  try dsimp only [Xof, cxOf, Cx.nox, Cx.wish, Cx.blk]
  apply s_lift (by show 2 < 3; decide)
  repeat walk_at "d"
  refine ⟨rs, n, rfl, by omega, hl, ⟨rs, n, List.replicate n none, List.replicate n .non, List.replicate n (.int 0), 0⟩, rfl, rfl, ⟨hu, h16, List.length_replicate, List.length_replicate, List.length_replicate, fun d => ?_⟩, h1, ?_, fun s' hs' => q s' hs'⟩
  · rw [Nat.zero_testBit]
    constructor
    · intro h
      cases h
    · rintro ⟨v, e⟩
      rw [List.getElem?_replicate] at e
      split at e <;> cases e
  · intro S _ d _
    exact Nat.zero_testBit d
theorem cc_lifting_of (W : Wf P w K mg base) : Fnc P w K mg base 4 "lifting_of" (spD K fun ds k _ => S_lifting_of ds k) := W.fnc in_lifting_of (fun _ => rfl) (j := 6) rfl (ok_lifting_of W)
def S_lifted_layers : List D → (D → Prop) → Prop := fun ds k => ∃ (b : Bk) (r : Rw), ds = [bookD b, sayD r] ∧ b.Ok ∧ r.In b.days ∧ (∀ q ∈ b.rows, q.u = true) ∧ r.u = true ∧ ∀ s : LfS, LfEnd (b.rows ++ [r]) b.days s → k (.tup (s.ls.map optD))

def S_ll : List D → (D → Prop) → Prop := fun ds k => ∃ (b : Bk) (r : Rw), ds = [bookD b, .non, .tup [sayD r]] ∧ b.Ok ∧ r.In b.days ∧ (∀ q ∈ b.rows, q.u = true) ∧ r.u = true ∧ ∀ s : LfS, LfEnd (b.rows ++ [r]) b.days s → k (.tup (s.ls.map optD))
theorem Bs.up {B H B1 H1 B' H' : Hp} (e1 : Same B B1) (e2 : Same H H1) (z : ∀ p, H p ≠ none → B p = none → B1 p = none) (b : Bs ⟨K, B1, H1, none, none, []⟩ B' H') : Bs ⟨K, B, H, none, none, []⟩ B' H' := by
  have sm := b.same
  have up : ∀ p, H p ≠ none → H1 p ≠ none := fun p h => by
    cases q : H p with
    | none => exact absurd q h
    | some o => rw [e2 p o q]; exact Option.some_ne_none _
  exact ⟨e1.trans b.b0, b.bh, fun p o h => sm p o (e2 p o (by rw [hid_nn] at h; exact h)), fun p h1 h2 _ => b.z0 p (up p h1) (z p h1 h2), fun p h => b.al p (up p h), (fun s hs => by cases hs), (fun s hs => by cases hs)⟩
theorem ok_lifted_layers (W : Wf P w K mg base) : FnR P w K mg base (L2.CX P w) 5 (d_lifted_layers.at_ K) (spD K fun ds k _ => S_lifted_layers ds k) := by
  have c_all_sayings := cc_all_sayings W
  have c_lifting_of := cc_lifting_of W
  refine (W.fnL (k := 4) (sp := spD K fun ds k _ => S_ll ds k) fun cdv A outer s H vs Q E hR h => ?_).imp fun vs H Q E h => ?_
  · obtain ⟨ds, B, kk, XX, bs, r, h, q1, q2⟩ := h
    have hlen : ds.length = 3 := by
      obtain ⟨_, _, rfl, _⟩ := h
      rfl
    have key : ∀ F : Fm, F.K = K → ∃ t, PSs (Xof P w K mg base n_lifted_layers d_lifted_layers cdv A outer s H E).nox d_lifted_layers.body t ∧ SOk F t (ρ0 n_lifted_layers ds) (fun _ => kk .non) kk := by
      intro F hF
      obtain ⟨b, rr, rfl, bok, hri, hu, hru, q⟩ := h
      subst hF
      refine ⟨_, (pss_cons (ps_set (i := 3) sc_lifted_layers.nd rfl (Or.inl rfl) (pe_f c_all_sayings hR (by decide) rfl passL (pa_cons (pv 0) (pa_cons (pv 2) pa_nil))))
  (pss_cons (ps_set (i := 4) sc_lifted_layers.nd rfl (Or.inl rfl) (pe_fld (pe_fld (pv 0) rfl) rfl))
  (pss_cons (ps_if (pt_cmpR op_isN (pv 1) pe_non (nomark _))
  (pss_one (ps_ret (pe_callTy call_tuple_of rfl (W.free 6 _ rfl) (by decide +kernel) (pa_cons (pe_fld (pe_f c_lifting_of hR (by decide) rfl passL (pa_cons (pv 3) (pa_cons (pe_op op_mulX2 (pe_lst (pa_cons pe_int pa_nil)) (pv 4)) pa_nil))) rfl) pa_nil))))
  pss_nil)
  (pss_cons ps_never
  (pss_cons ps_never
  (pss_cons ps_never
  (pss_one ps_never))))))), ?_⟩
      dsimp only [Xof, cxOf, Cx.nox, Cx.wish, Cx.blk]
      have d16 := bok.d16
      repeat walk_at "d"
      refine ⟨b, [rr], rfl, fun x hx => ?_, ?_, ?_⟩
      · rw [List.mem_singleton.mp hx]
        exact hri
      · have := bok.rl
        rw [List.length_singleton]
        omega
      repeat walk_at "d"
      have hd : (2 ^ b.ns.length) = b.days := rfl
      apply ro_rep (by omega)
      repeat walk_at "d"
      refine ⟨b.rows ++ [rr], b.days, ?_, fun x hx => ?_, Nat.one_le_two_pow, d16, ?_, fun s hs => ?_⟩
      · rw [List.map_replicate]
        rfl
      · rcases List.mem_append.mp hx with hx | hx
        · exact hu x hx
        · rw [List.mem_singleton.mp hx]
          exact hru
      · have := bok.rl
        rw [List.length_append, List.length_singleton]
        omega
      · repeat walk_at "d"
        exact ⟨_, .inl rfl, q s hs⟩
    obtain ⟨t, ht, hS⟩ := key ⟨K, B, H, none, none, []⟩ rfl
    exact ⟨t, ht.nox, hS B H _ (env_start bs r (by rw [hlen]; decide)) _ (fun ρ' B' H' σ' n _ E' => q1 _ _ B' H' n E'.bs rfl) fun d v B' H' q _ b' r' => q1 d v B' H' q b' r'⟩
  · obtain ⟨ds, B, kk, XX, bs, rp, ⟨b, rr, rfl, hh⟩, q1, q2⟩ := h
    obtain ⟨v1, t1, rfl, r1, v2, t2, rfl, r2, rfl⟩ := rp
    refine ⟨v1, v2, rfl, fun p hp => ?_⟩
    have hBp : B p = none := bs.bh.free hp
    have sB : Same B (upd B p (.tup [v2])) := Same.upd hBp
    have zz : ∀ q, H q ≠ none → B q = none → upd B p (.tup [v2]) q = none := fun q e1 e2 => by
      have : q ≠ p := fun z => e1 (z ▸ hp)
      rw [upd_ne this]
      exact e2
    have sBH : Same (upd B p (.tup [v2])) (upd H p (.tup [v2])) := fun q o e => by
      by_cases hq : q = p
      · subst hq
        rw [upd_same] at e ⊢
        exact e
      · rw [upd_ne hq] at e ⊢
        exact bs.bh q o e
    exact ⟨[bookD b, .non, .tup [sayD rr]], upd B p (.tup [v2]), kk, XX, bs_start sBH, .cons (r1.mono sB) (.cons rfl (.cons ⟨p, [v2], rfl, .inl (.inl upd_same), .cons (r2.mono sB) RepL.nil⟩ RepL.nil)), ⟨b, rr, rfl, hh⟩, fun d v B' H' k b' r' => q1 d v B' H' k (Bs.up sB (Same.upd hp) zz b') r', fun x cls dx B' H' k b' e => q2 x cls dx B' H' k (Bs.up sB (Same.upd hp) zz b') e⟩
theorem cc_lifted_layers (W : Wf P w K mg base) : Fnc P w K mg base 5 "lifted_layers" (spD K fun ds k _ => S_lifted_layers ds k) := W.fnc in_lifted_layers (fun _ => rfl) (j := 7) rfl (ok_lifted_layers W)
end
end K33
namespace K33
open PySem PySem.Spec PyProof.Rows L2
/-- D[t], D a written dict -/
theorem ix_kd {X : Cx} {d : Addr} {es : Array DictEntry} {n : Nat} (D : KDict X.K X.w d es n) :
    IxR X (fun x y H Q => ∃ (z : PySem.Str) (u0 : Value) (v0 : V), x = .ref d ∧ y = .str z ∧ PySem.W.nsIn X.K d z = some (some u0) ∧ RelV v0 u0 ∧ Q v0 H) := by
  intro value slice pins s σ H x y v u Q I rx ry h hs
  have h' := h
  obtain ⟨z, u0, v0, rfl, rfl, e, r, q⟩ := h
  have hv : v = .ref d := by cases rx; rfl
  subst hv
  exact tail_any (kd_type D I) PySem.F.slot_dict_getitem.lookup (op_item_kd D pins s σ H _ _ _ _ Q I rx ry h') hs
def rInC (K : PySem.W.Frag) : R2 := fun x y H Q => ∃ (z : PySem.Str) (r : Option Value), x = .str z ∧ y = .ref (He.ga K "COUNTS") ∧ PySem.W.nsIn K (He.ga K "COUNTS") z = some r ∧ Q (.bl r.isSome) H
def rNiC (K : PySem.W.Frag) : R2 := fun x y H Q => ∃ (z : PySem.Str) (r : Option Value), x = .str z ∧ y = .ref (He.ga K "COUNTS") ∧ PySem.W.nsIn K (He.ga K "COUNTS") z = some r ∧ Q (.bl (!r.isSome)) H
def rIxC (K : PySem.W.Frag) : R2 := fun x y H Q => ∃ (z : PySem.Str) (u0 : Value) (v0 : V), x = .ref (He.ga K "COUNTS") ∧ y = .str z ∧ PySem.W.nsIn K (He.ga K "COUNTS") z = some (some u0) ∧ RelV v0 u0 ∧ Q v0 H
section
variable {P : Program} {w : World} {K : PySem.W.Frag} {mg : PySem.Str → Option Value} {base : Heap} {X : Cx}
theorem Wf.kd_nin (W : Wf P w K mg base) (hK : X.K = K) (hw : X.w = w) : OpR X (compareOp .NotIn) (rNiC K) := by
  subst hK hw
  obtain ⟨es, n, D⟩ := W.cnt
  exact op_notIn_kd D
theorem Wf.kd_in (W : Wf P w K mg base) (hK : X.K = K) (hw : X.w = w) : OpR X (compareOp .In) (rInC K) := by
  subst hK hw
  obtain ⟨es, n, D⟩ := W.cnt
  exact op_in_kd D
theorem Wf.kd_ix (W : Wf P w K mg base) (hK : X.K = K) (hw : X.w = w) : IxR X (rIxC K) := by
  subst hK hw
  obtain ⟨es, n, D⟩ := W.cnt
  exact ix_kd D
variable {F : Fm} {ρ : List Sl} {k : D → Prop} {te : TE}
theorem ro_niC (W : Wf P w F.K mg base) (i : Nat) {z : PySem.Str} {n : Int} (e : cntl[i]? = some (z, n)) (q : k (.bl false)) : ROp F (rNiC F.K) ρ (.str z) (.raw (.ref (He.ga F.K "COUNTS"))) k := ro_v q fun B H vx vy Q s rx ry hv => by
  obtain ⟨t, e1⟩ := W.cntv i _ e
  cases rx
  cases ry
  exact ⟨z, _, rfl, rfl, e1, hv _ rfl⟩
theorem ro_ixC (W : Wf P w F.K mg base) (i : Nat) {z : PySem.Str} {n : Int} (e : cntl[i]? = some (z, n)) (q : k (.int n)) : ROp F (rIxC F.K) ρ (.raw (.ref (He.ga F.K "COUNTS"))) (.str z) k := ro_v q fun B H vx vy Q s rx ry hv => by
  obtain ⟨t, e1⟩ := W.cntv i _ e
  cases rx
  cases ry
  exact ⟨z, _, .int n, rfl, rfl, e1, ⟨t, rfl⟩, hv _ rfl⟩
/-- return x, x a list of the def's own -/
theorem so_retO {N : List Sl → Prop} {R : D → Prop} {i : Nat} {ds : List D} (h : ρ[i]? = some (.own ds)) (q : R (.lst ds)) : SOk F (tRet (tVar i)) ρ N R := by
  refine so_freeze i h ?_
  apply s_ret
  apply ev_var (d := .lst ds)
  · rw [List.getElem?_set_self (List.getElem?_eq_some_iff.mp h).1]
  · exact q
/-! ### a dict of the def's own -/
/-- {text: number, ..} -/
def trsOf (kvs : List (PySem.Str × Int)) : List (TE × TE) := kvs.map fun p => (tC (.str p.1), tC (.int p.2))
def kvsOf (kvs : List (PySem.Str × Int)) : List (Key × V) := kvs.map fun p => ((Sum.inr p.1 : Key), V.int p.2)
theorem pairs_run : ∀ {kvs : List (PySem.Str × Int)} {σ : L2.St} {H : Hp} {Q : List (V × V) → Hp → Prop}, Q ((kvsOf kvs).map fun kv => (kV kv.1, kv.2)) H → tPairs (trsOf kvs) σ H Q
  | [], _, _, _, h => h
  | p :: kvs, σ, H, Q, h => pairs_run (kvs := kvs) (Q := fun ps H3 => Q ((V.str p.1, V.int p.2) :: ps) H3) h
theorem ev_disp {kvs : List (PySem.Str × Int)} (hl : kvs.length ≤ 15) (q : k (.dk (mergeK [] (kvsOf kvs)))) : EvD F (tDisp (trsOf kvs)) ρ k := fun B H σ E Q hQ p hp => by
  refine pairs_run (show _ ∧ _ from ⟨upd_same, kvsOf kvs, rfl, by unfold kvsOf; rw [List.length_map]; exact hl, ?_⟩)
  have S := Stp.new E (.dK (mergeK [] (kvsOf kvs))) hp
  have e : upd (upd H p (.dK [])) p (.dK (mergeK [] (kvsOf kvs))) = upd H p (.dK (mergeK [] (kvsOf kvs))) := by
    funext b
    by_cases hb : b = p
    · subst hb
      rw [upd_same, upd_same]
    · rw [upd_ne hb, upd_ne hb, upd_ne hb]
  rw [e]
  exact hQ _ _ _ _ q S ⟨p, rfl, upd_same⟩
theorem ev_dget {ty td : TE} (h : EvD F td ρ fun d => EvD F ty ρ fun y => ∃ z kvs n, y = .str z ∧ d = .dk kvs ∧ valV kvs (Sum.inr z : Key) = some (.int n) ∧ k (.int n)) : EvD F (tDGet td ty) ρ k := fun B H σ E Q hQ =>
  h B H σ E _ fun d v B1 H1 g S1 r1 => g B1 H1 σ S1.env _ fun y u B2 H2 ⟨z, kvs, n, ey, ed, e, q⟩ S2 r2 => by
    subst ey ed
    obtain ⟨a, rfl, h1⟩ := r1
    cases r2
    exact ⟨a, _, rfl, .inl ⟨kvs, .inr z, .inl ((S2.bb.trans S2.env.bs.bh) _ _ h1), rfl, e.symm⟩, hQ _ _ B2 H2 q (S1.trans S2) rfl⟩
theorem ev_dnotin {ty td : TE} (h : EvD F ty ρ fun y => EvD F td ρ fun d => ∃ z kvs b, (y = .str z ∧ d = .dk kvs) ∧ (valV kvs (Sum.inr z : Key)).isSome = b ∧ k (.bl (!b))) : EvD F (tDNotIn ty td) ρ k := fun B H σ E Q hQ =>
  h B H σ E _ fun y v B1 H1 g S1 r1 => g B1 H1 σ S1.env _ fun d u B2 H2 ⟨z, kvs, b, ⟨ey, ed⟩, eb, q⟩ S2 r2 => by
    subst ey ed eb
    obtain ⟨a, rfl, h1⟩ := r2
    cases r1
    exact ⟨a, _, rfl, .inl ⟨kvs, .inr z, .inl (S2.env.bs.bh _ _ h1), rfl, rfl⟩, hQ _ _ B2 H2 q (S1.trans S2) rfl⟩
end
end K33
namespace K33
open PySem PySem.Spec PyProof.Rows L2
abbrev MStep.r (s : MStep) : Rw := ⟨s.w, s.t, true⟩
def narrowM (a : Rw) (last : Nat) (r : Rw) : List MStep :=
  (if a.w = r.w then [] else [⟨"weaker", [last], r.w ||| nd a.w r.w, r.w⟩, ⟨"cautious", [last + 1, last], a.cf ||| nd r.w a.cf, a.cf⟩]) ++
  (if a.cf = r.cf then [] else [⟨"weaker", [if a.w = r.w then last else last + 2], r.w, r.t⟩])
/-- the union of lots, ascending -/
def uni (ls : List (List Nat)) : List Nat := (List.range 12).filter fun n => ls.any fun l => decide (n ∈ l)
def restStep (found : List (List Nat)) (s : MStep) : List (List Nat) := found ++ [if s.rule = "given" then [s.lines.headD 0] else uni (s.lines.map fun i => found.getD i [])]
def restM (ss : List MStep) : List (List Nat) := ss.foldl restStep []
/-- a right step: s at i -/
inductive Why (rs : List Rw) (ss : List MStep) (i : Nat) : MStep → Prop where
  | given (n w t : Nat) (r : Rw) : rs[n]? = some r → r.u = true → w = r.w → w &&& t = r.cf → Why rs ss i ⟨"given", [n], w, t⟩
  | itself (w t : Nat) : nd w t = 0 → Why rs ss i ⟨"itself", [], w, t⟩
  | weaker (l w t : Nat) (o : MStep) : l < i → ss[l]? = some o → w = o.w → nd o.r.cf (w &&& t) = 0 → Why rs ss i ⟨"weaker", [l], w, t⟩
  | joined (l m w t : Nat) (o p : MStep) : l < i → m < i → ss[l]? = some o → ss[m]? = some p → w = o.w ||| p.w → w &&& t = nd w (o.r.br ||| p.r.br) → Why rs ss i ⟨"joined", [l, m], w, t⟩
  | cautious (l m w t : Nat) (o p : MStep) : l < i → m < i → ss[l]? = some o → ss[m]? = some p → o.w = p.w → w = o.r.cf → w &&& t = o.r.cf &&& p.r.cf → Why rs ss i ⟨"cautious", [l, m], w, t⟩
/-- right steps over the rows rs -/
structure Der (rs : List Rw) (ss : List MStep) : Prop where
  why : ∀ i s, ss[i]? = some s → Why rs ss i s
  ok : ∀ s ∈ ss, s.r.Ok
  rl : rs.length ≤ 12
  sl : ss.length ≤ 40
theorem join_cf (a b : Rw) : (joinR a b).cf = nd (a.w ||| b.w) (a.br ||| b.br) := by
  apply eq_of_bits
  intro i
  unfold joinR Rw.cf
  simp only [Nat.testBit_or, Nat.testBit_and, nd_bit]
  generalize (nd (a.w ||| b.w) (a.br ||| b.br)) = x
  cases a.w.testBit i <;> cases b.w.testBit i <;> cases a.br.testBit i <;> cases b.br.testBit i <;> rfl
theorem uni_lt {ls : List (List Nat)} : ∀ n ∈ uni ls, n < 12 := fun n h => by
  unfold uni at h
  exact List.mem_range.mp (List.mem_filter.mp h).1
theorem restStep_len (f : List (List Nat)) (s : MStep) : (restStep f s).length = f.length + 1 := by
  unfold restStep
  rw [List.length_append]
  rfl
theorem restM_app (a b : List MStep) : restM (a ++ b) = b.foldl restStep (restM a) := List.foldl_append
theorem restM_len (ss : List MStep) : (restM ss).length = ss.length := by
  have h : ∀ (ss : List MStep) (f : List (List Nat)), (ss.foldl restStep f).length = f.length + ss.length := by
    intro ss
    induction ss with
    | nil => intro f; rfl
    | cons s ss ih =>
      intro f
      show (ss.foldl restStep (restStep f s)).length = _
      rw [ih, restStep_len, List.length_cons]
      omega
  rw [show restM ss = ss.foldl restStep [] from rfl, h]
  simp
theorem restM_take {ss : List MStep} {i : Nat} {s : MStep} (h : ss[i]? = some s) : restM (ss.take (i + 1)) = restStep (restM (ss.take i)) s := by
  rw [take_at h, restM_app]
  rfl
theorem asc_eq {a b : List Nat} (ha : a.Pairwise (· < ·)) (hb : b.Pairwise (· < ·)) (h : ∀ n, n ∈ a ↔ n ∈ b) : a = b := by
  have na : a.Nodup := ha.imp fun z => Nat.ne_of_lt z
  have nb : b.Nodup := hb.imp fun z => Nat.ne_of_lt z
  exact List.Perm.eq_of_pairwise (le := (· < ·)) (fun x y _ _ h1 h2 => absurd h1 (Nat.lt_asymm h2)) ha hb ((List.perm_ext_iff_of_nodup na nb).mpr h)
theorem uni_asc {ls : List (List Nat)} : (uni ls).Pairwise (· < ·) := List.Pairwise.filter _ (List.pairwise_lt_range ..)
theorem ints_nat : ∀ {ms : List Int}, (∀ z ∈ ms, (0 : Int) ≤ z) → ∃ ns : List Nat, ms = ns.map fun n : Nat => (n : Int)
  | [], _ => ⟨[], rfl⟩
  | z :: ms, h => by
    obtain ⟨ns, e⟩ := ints_nat (ms := ms) fun y hy => h y (List.mem_cons_of_mem _ hy)
    exact ⟨z.toNat :: ns, by rw [List.map_cons, e, Int.toNat_of_nonneg (h z (List.mem_cons_self ..))]⟩
theorem lt_ok {α : Type} {l : List α} (h : Nat.ble (l.length + 1) 100000 = true) : l.length < 100000 := Nat.le_of_ble_eq_true h
theorem Why.giv {rs : List Rw} {ss : List MStep} {i : Nat} {s : MStep} (h : Why rs ss i s) (e : s.rule = "given") : ∃ n, s.lines = [n] ∧ n < rs.length := by
  cases h with
  | given n w t r h1 => exact ⟨n, rfl, (List.getElem?_eq_some_iff.mp h1).1⟩
  | itself => exact absurd e (show ("itself" : PySem.Str) ≠ "given" by decide)
  | weaker => exact absurd e (show ("weaker" : PySem.Str) ≠ "given" by decide)
  | joined => exact absurd e (show ("joined" : PySem.Str) ≠ "given" by decide)
  | cautious => exact absurd e (show ("cautious" : PySem.Str) ≠ "given" by decide)
theorem Why.oth {rs : List Rw} {ss : List MStep} {i : Nat} {s : MStep} (h : Why rs ss i s) (e : s.rule ≠ "given") : s.lines.length ≤ 2 ∧ ∀ l ∈ s.lines, l < i := by
  cases h with
  | given n w t r h1 => exact absurd rfl e
  | itself => exact ⟨Nat.zero_le 2, fun l h => by cases h⟩
  | weaker l w t o h1 => exact ⟨show 1 ≤ 2 by decide, fun m h => by rw [List.mem_singleton.mp h]; exact h1⟩
  | joined l m w t o p h1 h2 => exact ⟨Nat.le_refl 2, fun j h => by
      rcases List.mem_cons.mp h with rfl | h
      · exact h1
      · rw [List.mem_singleton.mp h]
        exact h2⟩
  | cautious l m w t o p h1 h2 => exact ⟨Nat.le_refl 2, fun j h => by
      rcases List.mem_cons.mp h with rfl | h
      · exact h1
      · rw [List.mem_singleton.mp h]
        exact h2⟩
theorem uni_len {ls : List (List Nat)} : (uni ls).length ≤ 12 := by
  have h := List.length_filter_le (fun n => ls.any fun l => decide (n ∈ l)) (List.range 12)
  rw [List.length_range] at h
  exact h
/-- a lot of the givens -/
structure LotOk (l : List Nat) : Prop where
  lt : ∀ n ∈ l, n < 12
  len : l.length ≤ 12
  asc : l.Pairwise (· < ·)
theorem Der.lots {rs : List Rw} {ss : List MStep} (d : Der rs ss) : ∀ i, i ≤ ss.length → ∀ l ∈ restM (ss.take i), LotOk l
  | 0, _, l, h => by cases h
  | i + 1, hi, l, h => by
    have e := List.getElem?_eq_getElem (l := ss) (i := i) hi
    rw [restM_take e] at h
    unfold restStep at h
    rcases List.mem_append.mp h with h | h
    · exact d.lots i (by omega) l h
    · rw [List.mem_singleton.mp h]
      split
      · rename_i hg
        obtain ⟨n, h1, h2⟩ := (d.why i _ e).giv hg
        have := d.rl
        rw [h1]
        exact ⟨fun m hm => by rw [List.mem_singleton.mp hm]; show n < 12; omega, show 1 ≤ 12 by decide, List.pairwise_singleton ..⟩
      · exact ⟨uni_lt, uni_len, uni_asc⟩
theorem getD_at {l : List (List Nat)} {i : Nat} (h : i < l.length) : l[i]? = some (l.getD i []) := by
  rw [List.getElem?_eq_getElem h, List.getD_eq_getElem?_getD, List.getElem?_eq_getElem h]
  rfl
theorem flat2 {ls : List Nat} {f : Nat → List Nat} (h : ls.length ≤ 2) (hf : ∀ l ∈ ls, (f l).length ≤ 12) : (ls.flatMap f).length ≤ 24 := by
  match ls, h with
  | [], _ => exact Nat.zero_le _
  | [a], _ =>
    have := hf a (List.mem_cons_self ..)
    simp only [List.flatMap_cons, List.flatMap_nil, List.append_nil]
    omega
  | [a, b], _ =>
    have := hf a (List.mem_cons_self ..)
    have := hf b (List.mem_cons_of_mem _ (List.mem_cons_self ..))
    simp only [List.flatMap_cons, List.flatMap_nil, List.append_nil, List.length_append]
    omega
theorem uni_of {ls : List Nat} {f : Nat → List Nat} {ms : List Int} (hl : ∀ l ∈ ls, ∀ n ∈ f l, n < 12) (h1 : ms.Pairwise (· < ·)) (h2 : ∀ z : Int, z ∈ ms ↔ z ∈ (ls.flatMap f).map fun n : Nat => (n : Int)) : ms.map D.int = (uni (ls.map f)).map nD := by
  obtain ⟨ns, rfl⟩ := ints_nat (ms := ms) fun z hz => by
    obtain ⟨n, _, e⟩ := List.mem_map.mp ((h2 z).mp hz)
    rw [← e]
    exact Int.natCast_nonneg n
  have e : ns = uni (ls.map f) := by
    refine asc_eq ?_ uni_asc fun n => ?_
    · have := List.pairwise_map.mp h1
      exact this.imp fun z => by omega
    · have h3 : n ∈ ns ↔ n ∈ ls.flatMap f := by
        have := h2 (n : Int)
        constructor
        · intro h
          obtain ⟨m, hm, e⟩ := List.mem_map.mp (this.mp (List.mem_map.mpr ⟨n, h, rfl⟩))
          rw [← Int.ofNat.inj e]
          exact hm
        · intro h
          obtain ⟨m, hm, e⟩ := List.mem_map.mp (this.mpr (List.mem_map.mpr ⟨n, h, rfl⟩))
          rw [← Int.ofNat.inj e]
          exact hm
      rw [h3]
      unfold uni
      rw [List.mem_filter, List.mem_range, List.any_map, List.any_eq_true, List.mem_flatMap]
      constructor
      · rintro ⟨l, hl1, hl2⟩
        exact ⟨hl l hl1 n hl2, l, hl1, decide_eq_true hl2⟩
      · rintro ⟨_, l, hl1, hl2⟩
        exact ⟨l, hl1, of_decide_eq_true hl2⟩
  rw [e, List.map_map]
  rfl
section
variable {P : Program} {w : World} {K : PySem.W.Frag} {mg : PySem.Str → Option Value} {base : Heap}
local macro_rules | `(tactic| walk_at "d0") => `(tactic| first
  | ((with_reducible apply ev_var); rfl)
  | with_reducible apply ev_int
  | with_reducible apply ev_bl
  | with_reducible apply ev_str
  | with_reducible apply ev_non
  | with_reducible apply s_seq
  | with_reducible apply s_ret
  | with_reducible apply s_asg
  | with_reducible apply s_next
  | ((with_reducible apply s_app); rfl)
  | with_reducible apply s_drop
  | ((with_reducible apply src_0); rfl; intro _)
  | ((with_reducible apply src_1); rfl; intro _ _ _)
  | ((with_reducible apply src_2); rfl; intro _)
  | ((with_reducible apply s_setSrc0); rfl)
  | ((with_reducible apply s_setSrc2); rfl)
  | ((with_reducible apply ev_callS); rfl)
  | ((with_reducible apply ev_opO); rfl)
  | ((with_reducible apply ev_ixO); rfl)
  | with_reducible apply ev_op
  | with_reducible apply ev_un
  | with_reducible apply et_test
  | with_reducible apply et_B
  | with_reducible apply et_truI
  | with_reducible apply et_and
  | with_reducible apply et_or
  | with_reducible apply et_not
  | with_reducible apply ea_nil
  | with_reducible apply ea_cons
  | with_reducible apply ro_nd_n
  | with_reducible apply ro_and_n
  | with_reducible apply ro_or_n
  | with_reducible apply ro_shr_n
  | with_reducible apply ro_eq_0
  | with_reducible apply ro_ne_0
  | with_reducible apply ro_eq_n
  | with_reducible apply ro_ne_n
  | with_reducible apply ro_add_n
  | with_reducible apply ro_add_1
  | with_reducible apply ro_I0
  | with_reducible apply ro_B0
  | with_reducible apply ro_un
  | ((with_reducible apply ro_isN); rfl)
  | ((with_reducible apply ro_notN); rfl)
  | with_reducible apply ro_eq_t0
  | with_reducible apply ro_ne_lt0
  | with_reducible apply ro_ne_l0
  | with_reducible apply ro_ne_tt
  | with_reducible apply ro_eq_tt
  | with_reducible apply ro_ne_t
  | with_reducible apply ro_eq_i
  | with_reducible apply ro_ne_i
  | with_reducible apply ro_eq_s
  | with_reducible apply ro_add
  | ((with_reducible apply ro_ixT); rfl)
  | ((with_reducible apply ro_ixL); rfl)
  | with_reducible apply ev_list
  | with_reducible apply ev_tuple
  | with_reducible apply ev_sortset
  | with_reducible apply ev_isLT
  | ((with_reducible apply ev_cbO); rfl)
  | with_reducible apply ev_cb
  | with_reducible apply ev_call
  | ((with_reducible apply ev_fldM); rfl; exact Wf.kc2 (by assumption) (by decide +kernel); rfl)
  | with_reducible apply ev_fld
  | with_reducible apply ev_and
  | with_reducible apply ev_or
  | with_reducible apply ev_notV
  | with_reducible apply ev_if
  | with_reducible apply ev_chain
  | with_reducible apply ev_tup
  | with_reducible apply ev_lst
  | with_reducible apply ev_make
  | ((with_reducible apply ev_cm0); exact exok0)
  | ((with_reducible apply ev_cm); exact exok0)
  | ((with_reducible apply ev_meth0); exact exok0)
  | ((with_reducible apply ev_meth); exact exok0)
  | ((with_reducible apply ro_subO); exact exok0)
  | ((with_reducible apply ro_addO); exact exok0)
  | ((with_reducible apply rc_lenO); exact exok0)
  | ((with_reducible apply ev_prop); exact exok0)
  | with_reducible apply rc_int
  | with_reducible apply rc_lenL
  | with_reducible apply rc_lenT
  | ((with_reducible apply rc_is_int); (exact rfl))
  | ((with_reducible apply rc_is_bl); (exact rfl))
  | ((with_reducible apply rc_is_str); (exact rfl))
  | ((with_reducible apply rc_is_tup); (exact rfl))
  | ((with_reducible apply s_fldM); rfl; exact Wf.kc2 (by assumption) (by decide +kernel); decide; rfl)
  | with_reducible apply et_yes
  | with_reducible apply ev_rawc
  | ((with_reducible apply ev_src); rfl)
  | ((with_reducible refine ⟨len_ok ?_, ?_⟩); rfl)
  | with_reducible refine ⟨rfl, ?_⟩
  | with_reducible refine ⟨⟨_, rfl⟩, ?_⟩
  | with_reducible refine ⟨_, rfl, ?_⟩
  | refine ⟨_, _, rfl, rfl, ?_⟩
  | refine ⟨_, _, _, _, rfl, Wf.kc2 (by assumption) (by decide +kernel), rfl, ?_⟩
  | ((with_reducible apply iteTr); rfl)
  | ((with_reducible apply iteFr); rfl)
  | dsimp only)
local macro_rules | `(tactic| walk_at "d") => `(tactic| first
  | walk_at "d0"
  | with_reducible apply s_if)
local macro_rules | `(tactic| walk_at "o") => `(tactic| first
  | ((with_reducible apply so_retO); rfl)
  | ((with_reducible apply et_notcallO); rfl)
  | ((with_reducible apply s_asgO); (with_reducible apply en_lst); (with_reducible apply ea_nil); refine ⟨len_ok rfl, ?_⟩)
  | walk_at "d")

local macro_rules | `(tactic| walk_at "x") => `(tactic| first
  | ((with_reducible apply ev_callX); assumption)
  | walk_at "o")
def S_narrowed : List D → (D → Prop) → Prop := fun ds k => ∃ (a r : Rw) (last : Nat), ds = [sayD a, nD last, sayD r] ∧ a.Ok ∧ r.Ok ∧ r.u = true ∧ k (.lst ((narrowM a last r).map stepD))
theorem ok_narrowed (W : Wf P w K mg base) : FnR P w K mg base (L2.CX P w) 5 (d_narrowed.at_ K) (spD K fun ds k _ => S_narrowed ds k) := by
  obtain ⟨_, c_of_days⟩ := cc_Saying_of_days W
  have c_Step__init__ := cc_Step__init__ W
  refine W.fnD in_narrowed sc_narrowed (fun fd F => F.bindsN fun _ _ _ _ _ _ us hl => match us, hl with | [_, _, _], _ => rfl) (fun ds k h => by first | (obtain ⟨rfl, _⟩ := h; rfl) | (obtain ⟨_, rfl, _⟩ := h; rfl) | (obtain ⟨_, _, rfl, _⟩ := h; rfl) | (obtain ⟨_, _, _, rfl, _⟩ := h; rfl) | (obtain ⟨_, _, _, _, rfl, _⟩ := h; rfl) | (obtain ⟨_, _, _, _, _, rfl, _⟩ := h; rfl) | (obtain ⟨_, _, _, _, _, _, rfl, _⟩ := h; rfl) | (obtain ⟨_, _, _, _, _, _, _, rfl, _⟩ := h; rfl) | (obtain ⟨_, _, _, _, _, _, _, _, rfl, _⟩ := h; rfl) | (obtain ⟨_, _, _, _, _, _, _, _, _, rfl, _⟩ := h; rfl)) fun cdv A outer s H E hR F ds kk hF h => ?_
  subst hF
  obtain ⟨a, r, last, rfl, ha, hr, hu, q⟩ := h
  obtain ⟨rw', rt, ru⟩ := r
  dsimp only at hu
  subst hu
  refine ⟨_, (pss_cons (ps_set (i := 3) sc_narrowed.nd rfl (Or.inl rfl) (pe_lst pa_nil))
  (pss_cons (ps_if (pt_cmpR (op_neX hR.units : OpR _ _ (rNeX F.K)) (pe_fld (pv 0) rfl) (pe_fld (pv 2) rfl) (nomark _))
  (pss_cons (ps_expr (pe_bm PySem.F.plainAttrs_list PySem.F.slot_list_append PySem.F.type_list_append mt_append (pv 3) (pa_cons (pe_k c_Step__init__ hR (by decide) rfl passL (pa_cons pe_str (pa_cons (pe_tup (pa_cons (pv 1) pa_nil)) (pa_cons (pe_cm (pe_glob (v := .ref (He.ga F.K "Saying")) rfl (W.glo 9 _ rfl) rfl) c_of_days hR (by decide) passL (pa_cons (pe_fld (pv 2) rfl) (pa_cons (pe_op op_and (pe_fld (pv 0) rfl) (pe_un un_inv (pe_fld (pv 2) rfl))) pa_nil))) pa_nil)))) pa_nil)))
  (pss_cons (ps_set (i := 4) sc_narrowed.nd rfl (Or.inl rfl) (pe_cm (pe_glob (v := .ref (He.ga F.K "Saying")) rfl (W.glo 9 _ rfl) rfl) c_of_days hR (by decide) passL (pa_cons (pe_fld (pv 0) rfl) (pa_cons (pe_op op_and (pe_fld (pv 2) rfl) (pe_un un_inv (pe_fld (pv 0) rfl))) pa_nil))))
  (pss_cons (ps_expr (pe_bm PySem.F.plainAttrs_list PySem.F.slot_list_append PySem.F.type_list_append mt_append (pv 3) (pa_cons (pe_k c_Step__init__ hR (by decide) rfl passL (pa_cons pe_str (pa_cons (pe_tup (pa_cons (pe_op (op_addX : OpR _ _ (rAddX F.K)) (pv 1) pe_int) (pa_cons (pv 1) pa_nil))) (pa_cons (pv 4) pa_nil)))) pa_nil)))
  (pss_one (ps_set (i := 1) sc_narrowed.nd rfl (Or.inl rfl) (pe_op (op_addX : OpR _ _ (rAddX F.K)) (pv 1) pe_int))))))
  pss_nil)
  (pss_cons (ps_if (pt_cmpR (op_neX hR.units : OpR _ _ (rNeX F.K)) (pe_fld (pv 0) rfl) (pe_fld (pv 2) rfl) (nomark _))
  (pss_one (ps_expr (pe_bm PySem.F.plainAttrs_list PySem.F.slot_list_append PySem.F.type_list_append mt_append (pv 3) (pa_cons (pe_k c_Step__init__ hR (by decide) rfl passL (pa_cons pe_str (pa_cons (pe_tup (pa_cons (pv 1) pa_nil)) (pa_cons (pv 2) pa_nil)))) pa_nil))))
  pss_nil)
  (pss_one (ps_ret (pv 3)))))), ?_⟩
  try dsimp only [Xof, cxOf, Cx.nox, Cx.wish, Cx.blk]
  repeat walk_at "o"
  have hlt := b16.mp ha.2.1
  have hlr := b16.mp hr.2.1
  by_cases h0 : a.w = rw'
  · rw [decide_eq_true h0]
    repeat walk_at "o"
    by_cases h1 : a.cf = Rw.cf ⟨rw', rt, true⟩
    · rw [decide_eq_true h1]
      repeat walk_at "o"
      unfold narrowM at q
      rw [if_pos h0, if_pos h1] at q
      exact q
    · rw [decide_eq_false h1]
      repeat walk_at "o"
      exact lt_ok rfl
      repeat walk_at "o"
      refine ⟨_, _, _, rfl, ?_⟩
      repeat walk_at "o"
      unfold narrowM at q
      rw [if_pos h0, if_neg h1, if_pos h0] at q
      exact q
  · rw [decide_eq_false h0]
    repeat walk_at "o"
    exact lt_ok rfl
    repeat walk_at "o"
    refine ⟨_, _, _, rfl, hr.2.1, b16.mpr (nd_lt hlt), ?_, Nat.le_trans hr.1 Nat.left_le_or, ?_⟩
    · apply eq_of_bits
      intro i
      simp only [Nat.testBit_and, nd_bit, Nat.zero_testBit]
      cases a.w.testBit i <;> cases rw'.testBit i <;> rfl
    repeat walk_at "o"
    refine ⟨_, _, _, rfl, ?_⟩
    repeat walk_at "o"
    refine ⟨_, _, _, rfl, b16.mpr (and_lt hlt), b16.mpr (nd_lt hlr), ?_, ?_, ?_⟩
    · apply eq_of_bits
      intro i
      simp only [Nat.testBit_and, nd_bit, Nat.zero_testBit]
      cases a.cf.testBit i <;> cases rw'.testBit i <;> rfl
    · have e : a.cf ||| nd rw' a.cf = a.cf ||| rw' := eq_of_bits fun i => by
        simp only [Nat.testBit_or, nd_bit]
        cases a.cf.testBit i <;> cases rw'.testBit i <;> rfl
      show 1 ≤ a.cf ||| nd rw' a.cf
      rw [e]
      exact Nat.le_trans hr.1 Nat.right_le_or
    repeat walk_at "o"
    exact lt_ok rfl
    repeat walk_at "o"
    refine ⟨_, _, _, rfl, ?_⟩
    repeat walk_at "o"
    by_cases h1 : a.cf = Rw.cf ⟨rw', rt, true⟩
    · rw [decide_eq_true h1]
      repeat walk_at "o"
      unfold narrowM at q
      rw [if_neg h0, if_pos h1] at q
      exact q
    · rw [decide_eq_false h1]
      repeat walk_at "o"
      exact lt_ok rfl
      repeat walk_at "o"
      refine ⟨_, _, _, rfl, ?_⟩
      repeat walk_at "o"
      unfold narrowM at q
      rw [if_neg h0, if_neg h1, if_neg h0] at q
      exact q
theorem cc_narrowed (W : Wf P w K mg base) : Fnc P w K mg base 5 "narrowed" (spD K fun ds k _ => S_narrowed ds k) := W.fnc in_narrowed (fun _ => rfl) (j := 25) rfl (ok_narrowed W)
def S_resting : List D → (D → Prop) → Prop := fun ds k => ∃ (rs : List Rw) (ss : List MStep), ds = [.tup (ss.map stepD)] ∧ Der rs ss ∧ k (.tup ((restM ss).map tupN))
theorem ok_resting (W : Wf P w K mg base) : FnR P w K mg base (L2.CX P w) 1 (d_resting.at_ K) (spD K fun ds k _ => S_resting ds k) := by
  refine W.fnD in_resting sc_resting (fun fd F => F.bindsN fun _ _ _ _ _ _ us hl => match us, hl with | [_], _ => rfl) (fun ds k h => by first | (obtain ⟨rfl, _⟩ := h; rfl) | (obtain ⟨_, rfl, _⟩ := h; rfl) | (obtain ⟨_, _, rfl, _⟩ := h; rfl) | (obtain ⟨_, _, _, rfl, _⟩ := h; rfl) | (obtain ⟨_, _, _, _, rfl, _⟩ := h; rfl) | (obtain ⟨_, _, _, _, _, rfl, _⟩ := h; rfl) | (obtain ⟨_, _, _, _, _, _, rfl, _⟩ := h; rfl) | (obtain ⟨_, _, _, _, _, _, _, rfl, _⟩ := h; rfl) | (obtain ⟨_, _, _, _, _, _, _, _, rfl, _⟩ := h; rfl) | (obtain ⟨_, _, _, _, _, _, _, _, _, rfl, _⟩ := h; rfl)) fun cdv A outer s H E hR F ds kk hF h => ?_
  subst hF
  obtain ⟨rs, ss, rfl, dr, q⟩ := h
  refine ⟨_, (pss_cons (ps_set (i := 1) sc_resting.nd rfl (Or.inr rfl) (pe_lst pa_nil))
  (pss_cons (ps_for PassesOwn.never rfl (pi_seqK (K := F.K) rfl (pv 0)) (pg_name (i := 2) sc_resting.nd rfl (Or.inl rfl))
  (pss_one (ps_if (pt_cmpR (op_eqX hR.units : OpR _ _ (rEqX F.K)) (pe_fld (pv 2) rfl) pe_str (nomark _))
  (pss_one (ps_expr (pe_bm PySem.F.plainAttrs_list PySem.F.slot_list_append PySem.F.type_list_append mt_append (pv 1) (pa_cons (pe_tup (pa_cons (pe_ix (ix_seq : IxR _ (rIx F.K)) (pe_fld (pv 2) rfl) pe_int (fun _ _ => rfl)) pa_nil)) pa_nil))))
  (pss_cons (ps_setLc2 (i := 3) (own := [("line", 4), ("number", 5)]) (vs1 := [5]) (by rfl) sc_resting.nd rfl rfl (sw_true rfl rfl rfl (by decide +kernel)) (pi_seqK (K := F.K) rfl (pe_fld (pv 2) rfl)) (blkOk_by (N := n_resting) (sc := defScope s_resting) (own := [("line", 4), ("number", 5)]) (by decide +kernel)) (by decide) (fun _ _ _ _ _ => (pg_name (i := 4) sc_resting.nd rfl (Or.inl rfl))) (fun _ _ _ _ _ => pts_nil) (fun _ _ _ _ _ => (pi_seqK (K := F.K) rfl (pe_ix (ix_seq : IxR _ (rIx F.K)) (pv 1) (pv 4) (fun _ _ => rfl)))) (fun _ _ _ _ _ => (pg_name (i := 5) sc_resting.nd rfl (Or.inl rfl))) (fun _ _ _ _ _ => pts_nil) (fun _ _ _ _ _ => (pv 5)))
  (pss_one (ps_expr (pe_bm PySem.F.plainAttrs_list PySem.F.slot_list_append PySem.F.type_list_append mt_append (pv 1) (pa_cons (pe_callTy call_tuple_of rfl (W.free 6 _ rfl) (by decide +kernel) (pa_cons (pe_callB (cr_sortedSet rfl) rfl (W.free 17 _ rfl) (by decide +kernel) (pa_cons (pe_callTy (cr_setI rfl) rfl (W.free 7 _ rfl) (by decide +kernel) (pa_cons (pv 3) pa_nil)) pa_nil)) pa_nil)) pa_nil))))))))
  (pss_one (ps_ret (pe_callTy call_tuple_of rfl (W.free 6 _ rfl) (by decide +kernel) (pa_cons (pv 1) pa_nil)))))), ?_⟩
  try dsimp only [Xof, cxOf, Cx.nox, Cx.wish, Cx.blk]
  repeat walk_at "o"
  apply s_for
  apply ei_seq
  repeat walk_at "d"
  refine ⟨_, .inr rfl, fun i ρ => ∃ x y, ρ = [.val (.tup (ss.map stepD)), .own ((restM (ss.take i)).map tupN), x, y, .un, .un], ⟨_, _, rfl⟩, ?_, ?_⟩
  · rintro i d ρ' hi ⟨x, y, rfl⟩
    obtain ⟨s', es, rfl⟩ := map_at hi
    refine ⟨_, g_name, ?_⟩
    repeat walk_at "d"
    have hi' := (List.getElem?_eq_some_iff.mp es).1
    have hw := dr.why i s' es
    have hlots := dr.lots i (Nat.le_of_lt hi')
    have hln : (restM (ss.take i)).length = i := by rw [restM_len, List.length_take]; omega
    have hsl := dr.sl
    by_cases hg : s'.rule = "given"
    · rw [decide_eq_true hg]
      obtain ⟨n, e1, e2⟩ := hw.giv hg
      have : restM (ss.take (i + 1)) = restM (ss.take i) ++ [[n]] := by
        rw [restM_take es]
        unfold restStep
        rw [if_pos hg, e1]
        rfl
      repeat walk_at "d"
      rw [List.length_map, hln]
      omega
      repeat walk_at "d"
      rw [e1]
      repeat walk_at "d"
      rw [this, List.map_append]
      exact ⟨_, _, rfl⟩
    · rw [decide_eq_false hg]
      obtain ⟨e1, e2⟩ := hw.oth hg
      have : restM (ss.take (i + 1)) = restM (ss.take i) ++ [uni (s'.lines.map fun i' => (restM (ss.take i)).getD i' [])] := by
        rw [restM_take es]
        unfold restStep
        rw [if_neg hg]
      have hat : ∀ l ∈ s'.lines, (restM (ss.take i))[l]? = some ((restM (ss.take i)).getD l []) := fun l hl => getD_at (by rw [hln]; exact e2 l hl)
      have hlo : ∀ l ∈ s'.lines, LotOk ((restM (ss.take i)).getD l []) := fun l hl => hlots _ (List.mem_of_getElem? (hat l hl))
      have hfl : (s'.lines.flatMap fun l => (restM (ss.take i)).getD l []).length ≤ 24 := flat2 e1 fun l hl => (hlo l hl).len
      generalize restM (ss.take i) = found at *
      repeat walk_at "d"
      apply EvN.ev
      apply en_lc2 (un_of rfl) (un_of rfl)
      apply ei_seq
      repeat walk_at "d"
      refine ⟨_, .inr rfl, fun j acc => acc = ((s'.lines.take j).flatMap fun l => found.getD l []).map nD, rfl, ?_, ?_⟩
      · rintro j d acc hj rfl
        obtain ⟨l, el, rfl⟩ := map_at hj
        have hm := List.mem_of_getElem? el
        have hh := flat_len (f := fun l => found.getD l []) el
        have hall := flat_take (f := fun l => found.getD l []) el
        refine ⟨[(4, nD l)], mem_of rfl, fun q hq => ?_, g_name, et_yes (iteT ?_)⟩
        · have : q = (4, nD l) := by simpa using hq
          rw [this]
          exact (show 4 ∉ [5] by decide)
        apply ei_seq
        repeat walk_at "d"
        refine ⟨_, _, rfl, atI_map (hat l hm), _, .inr rfl, fun j1 acc1 => acc1 = (((s'.lines.take j).flatMap fun l => found.getD l []) ++ (found.getD l []).take j1).map nD, ?_, ?_, ?_⟩
        · show _ = _
          rw [List.take_zero, List.append_nil]
        · rintro j1 e acc1 hj1 rfl
          obtain ⟨n, en, rfl⟩ := map_at hj1
          refine ⟨[(5, nD n)], mem_of rfl, g_name, et_yes (iteT ?_)⟩
          repeat walk_at "d"
          refine ⟨?_, ?_⟩
          · have h3 : ((found.getD l []).take j1).length ≤ (found.getD l []).length := by rw [List.length_take]; omega
            rw [List.length_map, List.length_append]
            have h1 : (found.getD l []).length ≤ 12 := (hlo l hm).len
            have hfl' : (s'.lines.flatMap fun l => found.getD l []).length ≤ 24 := hfl
            have hh' : ((s'.lines.take j).flatMap fun l => found.getD l []).length + (found.getD l []).length ≤ (s'.lines.flatMap fun l => found.getD l []).length := hh
            omega
          · show _ = _
            rw [take_at en, ← List.append_assoc, List.map_append (l₂ := [n])]
            rfl
        · rintro acc1 rfl
          show _ = _
          rw [List.length_map, List.take_length, hall]
      · rintro acc rfl
        rw [List.length_map, List.take_length]
        repeat walk_at "d"
        rw [List.length_map, hln]
        omega
        repeat walk_at "d"
        refine ⟨(s'.lines.flatMap fun l => found.getD l []).map fun n : Nat => (n : Int), ?_, ?_, fun ms h1 h2 => ?_⟩
        · rw [List.map_map]
          rfl
        · rw [List.length_map]
          omega
        have e9 := uni_of (fun l hl => (hlo l hl).lt) h1 h2
        rw [e9]
        repeat walk_at "d"
        refine ⟨_, .inl rfl, ?_⟩
        rw [this, List.map_append]
        exact ⟨_, _, rfl⟩
  · rintro ρ' ⟨x, y, rfl⟩
    rw [List.length_map, List.take_length]
    with_reducible apply so_freeze 1
    rfl
    repeat walk_at "d"
    refine ⟨_, .inl rfl, ?_⟩
    exact q
theorem cc_resting (W : Wf P w K mg base) : Fnc P w K mg base 1 "resting" (spD K fun ds k _ => S_resting ds k) := W.fnc in_resting (fun _ => rfl) (j := 26) rfl (ok_resting W)
def S_follows : List D → (D → Prop) → Prop := fun ds k => ∃ (b : Bk) (ss : List MStep) (i : Nat) (s : MStep), ds = [bookD b, .tup (ss.map stepD), stepD s] ∧ Why b.rows ss i s ∧ (∀ s ∈ ss, s.r.Ok) ∧ s.r.Ok ∧ k (.bl true)
theorem ok_follows (W : Wf P w K mg base) : FnR P w K mg base (L2.CX P w) 6 (d_follows.at_ K) (spD K fun ds k _ => S_follows ds k) := by
  have c_is_same := cc_is_same W
  have c_Book__getitem__ := cc_Book__getitem__ W
  have c_join_of := cc_join_of W
  refine W.fnD in_follows sc_follows (fun fd F => F.bindsN fun _ _ _ _ _ _ us hl => match us, hl with | [_, _, _], _ => rfl) (fun ds k h => by first | (obtain ⟨rfl, _⟩ := h; rfl) | (obtain ⟨_, rfl, _⟩ := h; rfl) | (obtain ⟨_, _, rfl, _⟩ := h; rfl) | (obtain ⟨_, _, _, rfl, _⟩ := h; rfl) | (obtain ⟨_, _, _, _, rfl, _⟩ := h; rfl) | (obtain ⟨_, _, _, _, _, rfl, _⟩ := h; rfl) | (obtain ⟨_, _, _, _, _, _, rfl, _⟩ := h; rfl) | (obtain ⟨_, _, _, _, _, _, _, rfl, _⟩ := h; rfl) | (obtain ⟨_, _, _, _, _, _, _, _, rfl, _⟩ := h; rfl) | (obtain ⟨_, _, _, _, _, _, _, _, _, rfl, _⟩ := h; rfl)) fun cdv A outer s H E hR F ds kk hF h => ?_
  subst hF
  obtain ⟨b, ss, i, s', rfl, hw, hok, hs, q⟩ := h
  refine ⟨_, (pss_cons (ps_set (i := 3) sc_follows.nd rfl (Or.inl rfl) (pe_fld (pv 2) rfl))
  (pss_cons (ps_if (pt_cmpR (op_eqX hR.units : OpR _ _ (rEqX F.K)) (pe_fld (pv 2) rfl) pe_str (nomark _))
  (pss_one (ps_ret (pe_f c_is_same hR (by decide) rfl passL (pa_cons (pv 3) (pa_cons (pe_subO W.osub c_Book__getitem__ hR (by decide) passL (pv 0) (pe_ix (ix_seq : IxR _ (rIx F.K)) (pe_fld (pv 2) rfl) pe_int (fun _ _ => rfl))) pa_nil)))))
  pss_nil)
  (pss_cons (ps_if (pt_cmpR (op_eqX hR.units : OpR _ _ (rEqX F.K)) (pe_fld (pv 2) rfl) pe_str (nomark _))
  (pss_one (ps_ret (pe_cmpR (op_eqX hR.units : OpR _ _ (rEqX F.K)) (pe_fld (pv 3) rfl) pe_int (nomark _))))
  pss_nil)
  (pss_cons (ps_set (i := 4) sc_follows.nd rfl (Or.inl rfl) (pe_fld (pe_ix (ix_seq : IxR _ (rIx F.K)) (pv 1) (pe_ix (ix_seq : IxR _ (rIx F.K)) (pe_fld (pv 2) rfl) pe_int (fun _ _ => rfl)) (fun _ _ => rfl)) rfl))
  (pss_cons (ps_if (pt_cmpR (op_eqX hR.units : OpR _ _ (rEqX F.K)) (pe_fld (pv 2) rfl) pe_str (nomark _))
  (pss_one (ps_ret (pe_and (pe_cmpR (op_eqX hR.units : OpR _ _ (rEqX F.K)) (pe_fld (pv 3) rfl) (pe_fld (pv 4) rfl) (nomark _)) (pe_one (pe_cmpR (op_eqX hR.units : OpR _ _ (rEqX F.K)) (pe_op op_and (pe_fld (pv 4) rfl) (pe_un un_inv (pe_fld (pv 3) rfl))) pe_int (nomark _))))))
  pss_nil)
  (pss_cons (ps_set (i := 5) sc_follows.nd rfl (Or.inl rfl) (pe_fld (pe_ix (ix_seq : IxR _ (rIx F.K)) (pv 1) (pe_ix (ix_seq : IxR _ (rIx F.K)) (pe_fld (pv 2) rfl) pe_int (fun _ _ => rfl)) (fun _ _ => rfl)) rfl))
  (pss_cons (ps_if (pt_cmpR (op_eqX hR.units : OpR _ _ (rEqX F.K)) (pe_fld (pv 2) rfl) pe_str (nomark _))
  (pss_one (ps_ret (pe_f c_is_same hR (by decide) rfl passL (pa_cons (pv 3) (pa_cons (pe_f c_join_of hR (by decide) rfl passL (pa_cons (pv 4) (pa_cons (pv 5) pa_nil))) pa_nil)))))
  pss_nil)
  (pss_cons (ps_if (pt_cmpR (op_neX hR.units : OpR _ _ (rNeX F.K)) (pe_fld (pv 4) rfl) (pe_fld (pv 5) rfl) (nomark _))
  (pss_one (ps_ret pe_bl))
  pss_nil)
  (pss_one (ps_ret (pe_and (pe_cmpR (op_eqX hR.units : OpR _ _ (rEqX F.K)) (pe_fld (pv 3) rfl) (pe_fld (pv 4) rfl) (nomark _)) (pe_one (pe_cmpR (op_eqX hR.units : OpR _ _ (rEqX F.K)) (pe_fld (pv 3) rfl) (pe_op op_and (pe_fld (pv 4) rfl) (pe_fld (pv 5) rfl)) (nomark _)))))))))))))), ?_⟩
  try dsimp only [Xof, cxOf, Cx.nox, Cx.wish, Cx.blk]
  repeat walk_at "d"
  cases hw with
  | given n w t r h1 h2 h3 h4 =>
    repeat walk_at "d"
    refine ⟨b, n, r, rfl, h1, ?_⟩
    repeat walk_at "d"
    refine ⟨_, r, rfl, ?_⟩
    rw [decide_eq_true (show Rw.w ⟨w, t, true⟩ = r.w from h3), decide_eq_true (show Rw.cf ⟨w, t, true⟩ = r.cf from h4)]
    exact q
  | itself w t h1 =>
    repeat walk_at "d"
    rw [decide_eq_true (show Rw.br ⟨w, t, true⟩ = 0 from h1)]
    exact q
  | weaker l w t o h1 h2 h3 h4 =>
    repeat walk_at "d"
    apply ro_ixT (atI_map h2)
    repeat walk_at "d"
    rw [decide_eq_true h3]
    repeat walk_at "d"
    rw [decide_eq_true (show nd (Rw.cf ⟨o.w, o.t, true⟩) (Rw.cf ⟨w, t, true⟩) = 0 from h4)]
    exact q
  | joined l m w t o p h1 h2 h3 h4 h5 h6 =>
    repeat walk_at "d"
    apply ro_ixT (atI_map h3)
    repeat walk_at "d"
    apply ro_ixT (atI_map h4)
    repeat walk_at "d"
    refine ⟨o.r, p.r, rfl, hok _ (List.mem_of_getElem? h3), hok _ (List.mem_of_getElem? h4), ?_⟩
    repeat walk_at "d"
    refine ⟨_, _, rfl, ?_⟩
    rw [decide_eq_true (show Rw.w ⟨w, t, true⟩ = (joinR o.r p.r).w by rw [join_w]; exact h5), decide_eq_true (show Rw.cf ⟨w, t, true⟩ = (joinR o.r p.r).cf by rw [join_cf]; exact h6.trans (by rw [h5]))]
    exact q
  | cautious l m w t o p h1 h2 h3 h4 h5 h6 h7 =>
    repeat walk_at "d"
    apply ro_ixT (atI_map h3)
    repeat walk_at "d"
    apply ro_ixT (atI_map h4)
    repeat walk_at "d"
    rw [decide_eq_true h5]
    repeat walk_at "d"
    rw [decide_eq_true (show w = Rw.cf ⟨o.w, o.t, true⟩ from h6)]
    repeat walk_at "d"
    rw [decide_eq_true (show Rw.cf ⟨w, t, true⟩ = Rw.cf ⟨o.w, o.t, true⟩ &&& Rw.cf ⟨p.w, p.t, true⟩ from h7)]
    exact q
theorem cc_follows (W : Wf P w K mg base) : Fnc P w K mg base 6 "follows" (spD K fun ds k _ => S_follows ds k) := W.fnc in_follows (fun _ => rfl) (j := 29) rfl (ok_follows W)
end
end K33
namespace K33
open PySem PySem.Spec PyProof.Rows L2
section
variable {F : Fm} {ρ : List Sl} {k : D → Prop}
theorem two_lt {l m i j : Nat} (h1 : l < i) (h2 : m < i) (h : j ∈ [l, m]) : j < i := by
  rcases List.mem_cons.mp h with rfl | h
  · exact h1
  · rw [List.mem_singleton.mp h]
    exact h2
/-- [e for x in ls], e always True -/
theorem ev_lcT {wi : TI} {te : TE} {ls : List Nat} {j : Nat} (hu : ρ[j]? = some .un) (h : EvI F wi ρ fun ds => ds = ls.map nD) (hy : ∀ l ∈ ls, EvD F te (putE ρ [(j, nD l)]) fun d => d = .bl true) (hl : ls.length ≤ 1000)
    (q : k (.lst ((List.replicate ls.length true).map .bl))) : EvD F (tLc wi (gName j) tYes te [j]) ρ k := by
  apply EvN.ev
  apply en_lc (fun i hi => by rw [List.mem_singleton.mp hi]; exact hu)
  refine h.imp fun ds e => ?_
  subst e
  refine ⟨fun i acc => acc = (List.replicate i true).map .bl, rfl, ?_, ?_⟩
  · rintro i d acc hi rfl
    obtain ⟨l, el, rfl⟩ := map_at hi
    have hlt := (List.getElem?_eq_some_iff.mp el).1
    refine ⟨[(j, nD l)], fun a ha => by rw [List.mem_singleton.mp ha]; exact List.mem_singleton.mpr rfl, g_name, et_yes (iteT ((hy l (List.mem_of_getElem? el)).imp fun d ed => ?_))⟩
    subst ed
    refine ⟨?_, ?_⟩
    · rw [List.length_map, List.length_replicate]
      omega
    · show _ = _
      rw [List.replicate_succ', List.map_append]
      rfl
  · rintro acc rfl
    rw [List.length_map]
    exact q
end
section
variable {P : Program} {w : World} {K : PySem.W.Frag} {mg : PySem.Str → Option Value} {base : Heap}
local macro_rules | `(tactic| walk_at "d0") => `(tactic| first
  | ((with_reducible apply ev_var); rfl)
  | with_reducible apply ev_int
  | with_reducible apply ev_bl
  | with_reducible apply ev_str
  | with_reducible apply ev_non
  | with_reducible apply s_seq
  | with_reducible apply s_ret
  | with_reducible apply s_asg
  | with_reducible apply s_next
  | ((with_reducible apply s_app); rfl)
  | with_reducible apply s_drop
  | ((with_reducible apply src_0); rfl; intro _)
  | ((with_reducible apply src_1); rfl; intro _ _ _)
  | ((with_reducible apply src_2); rfl; intro _)
  | ((with_reducible apply s_setSrc0); rfl)
  | ((with_reducible apply s_setSrc2); rfl)
  | ((with_reducible apply ev_callS); rfl)
  | ((with_reducible apply ev_opO); rfl)
  | ((with_reducible apply ev_ixO); rfl)
  | with_reducible apply ev_op
  | with_reducible apply ev_un
  | with_reducible apply et_test
  | with_reducible apply et_B
  | with_reducible apply et_truI
  | with_reducible apply et_and
  | with_reducible apply et_or
  | with_reducible apply et_not
  | with_reducible apply ea_nil
  | with_reducible apply ea_cons
  | with_reducible apply ro_nd_n
  | with_reducible apply ro_and_n
  | with_reducible apply ro_or_n
  | with_reducible apply ro_shr_n
  | with_reducible apply ro_eq_0
  | with_reducible apply ro_ne_0
  | with_reducible apply ro_eq_n
  | with_reducible apply ro_ne_n
  | with_reducible apply ro_add_n
  | with_reducible apply ro_add_1
  | with_reducible apply ro_I0
  | with_reducible apply ro_B0
  | with_reducible apply ro_un
  | ((with_reducible apply ro_isN); rfl)
  | ((with_reducible apply ro_notN); rfl)
  | with_reducible apply ro_eq_t0
  | with_reducible apply ro_ne_lt0
  | with_reducible apply ro_ne_l0
  | with_reducible apply ro_ne_tt
  | with_reducible apply ro_eq_tt
  | with_reducible apply ro_ne_t
  | with_reducible apply ro_eq_i
  | with_reducible apply ro_ne_i
  | with_reducible apply ro_eq_s
  | with_reducible apply ro_add
  | ((with_reducible apply ro_ixT); rfl)
  | ((with_reducible apply ro_ixL); rfl)
  | with_reducible apply ev_list
  | with_reducible apply ev_tuple
  | with_reducible apply ev_sortset
  | with_reducible apply ev_isLT
  | ((with_reducible apply ev_cbO); rfl)
  | with_reducible apply ev_cb
  | with_reducible apply ev_call
  | ((with_reducible apply ev_fldM); rfl; exact Wf.kc2 (by assumption) (by decide +kernel); rfl)
  | with_reducible apply ev_fld
  | with_reducible apply ev_and
  | with_reducible apply ev_or
  | with_reducible apply ev_notV
  | with_reducible apply ev_if
  | with_reducible apply ev_chain
  | with_reducible apply ev_tup
  | with_reducible apply ev_lst
  | with_reducible apply ev_make
  | ((with_reducible apply ev_cm0); exact exok0)
  | ((with_reducible apply ev_cm); exact exok0)
  | ((with_reducible apply ev_meth0); exact exok0)
  | ((with_reducible apply ev_meth); exact exok0)
  | ((with_reducible apply ro_subO); exact exok0)
  | ((with_reducible apply ro_addO); exact exok0)
  | ((with_reducible apply rc_lenO); exact exok0)
  | ((with_reducible apply ev_prop); exact exok0)
  | with_reducible apply rc_int
  | with_reducible apply rc_lenL
  | with_reducible apply rc_lenT
  | ((with_reducible apply rc_is_int); (exact rfl))
  | ((with_reducible apply rc_is_bl); (exact rfl))
  | ((with_reducible apply rc_is_str); (exact rfl))
  | ((with_reducible apply rc_is_tup); (exact rfl))
  | ((with_reducible apply s_fldM); rfl; exact Wf.kc2 (by assumption) (by decide +kernel); decide; rfl)
  | with_reducible apply et_yes
  | with_reducible apply ev_rawc
  | ((with_reducible apply ev_src); rfl)
  | ((with_reducible refine ⟨len_ok ?_, ?_⟩); rfl)
  | with_reducible refine ⟨rfl, ?_⟩
  | with_reducible refine ⟨⟨_, rfl⟩, ?_⟩
  | with_reducible refine ⟨_, rfl, ?_⟩
  | refine ⟨_, _, rfl, rfl, ?_⟩
  | refine ⟨_, _, _, _, rfl, Wf.kc2 (by assumption) (by decide +kernel), rfl, ?_⟩
  | ((with_reducible apply iteTr); rfl)
  | ((with_reducible apply iteFr); rfl)
  | dsimp only)
local macro_rules | `(tactic| walk_at "d") => `(tactic| first
  | walk_at "d0"
  | with_reducible apply s_if)
local macro_rules | `(tactic| walk_at "o") => `(tactic| first
  | ((with_reducible apply so_retO); rfl)
  | ((with_reducible apply et_notcallO); rfl)
  | ((with_reducible apply s_asgO); (with_reducible apply en_lst); (with_reducible apply ea_nil); refine ⟨len_ok rfl, ?_⟩)
  | walk_at "d")

local macro_rules | `(tactic| walk_at "x") => `(tactic| first
  | ((with_reducible apply ev_callX); assumption)
  | walk_at "o")
def S_has_right_lines : List D → (D → Prop) → Prop := fun ds k => ∃ (b : Bk) (ss : List MStep) (i : Nat) (s : MStep), ds = [bookD b, stepD s, nD i] ∧ Why b.rows ss i s ∧ b.rows.length ≤ 12 ∧ k (.bl true)
theorem ok_has_right_lines (W : Wf P w K mg base) : FnR P w K mg base (L2.CX P w) 4 (d_has_right_lines.at_ K) (spD K fun ds k _ => S_has_right_lines ds k) := by
  have c_is_whole := cc_is_whole W
  have c_Book__getitem__ := cc_Book__getitem__ W
  have c_Book__len__ := cc_Book__len__ W
  refine W.fnD in_has_right_lines sc_has_right_lines (fun fd F => F.bindsN fun _ _ _ _ _ _ us hl => match us, hl with | [_, _, _], _ => rfl) (fun ds k h => by first | (obtain ⟨rfl, _⟩ := h; rfl) | (obtain ⟨_, rfl, _⟩ := h; rfl) | (obtain ⟨_, _, rfl, _⟩ := h; rfl) | (obtain ⟨_, _, _, rfl, _⟩ := h; rfl) | (obtain ⟨_, _, _, _, rfl, _⟩ := h; rfl) | (obtain ⟨_, _, _, _, _, rfl, _⟩ := h; rfl) | (obtain ⟨_, _, _, _, _, _, rfl, _⟩ := h; rfl) | (obtain ⟨_, _, _, _, _, _, _, rfl, _⟩ := h; rfl) | (obtain ⟨_, _, _, _, _, _, _, _, rfl, _⟩ := h; rfl) | (obtain ⟨_, _, _, _, _, _, _, _, _, rfl, _⟩ := h; rfl)) fun cdv A outer s H E hR F ds kk hF h => ?_
  subst hF
  obtain ⟨b, ss, i, s', rfl, hw, hb, q⟩ := h
  refine ⟨_, (pss_cons (ps_if (pt_cmpR (op_neX hR.units : OpR _ _ (rNeX F.K)) (pe_callB (cr_lenX : CallR _ _ (rLenX F.K)) rfl (W.free 0 _ rfl) boot_len (pa_cons (pe_fld (pv 1) rfl) pa_nil)) (pe_ix (W.kd_ix rfl rfl) (pe_glob (v := .ref (He.ga F.K "COUNTS")) rfl (W.glo 21 _ rfl) rfl) (pe_fld (pv 1) rfl) (fun _ _ => rfl)) (nomark _))
  (pss_one (ps_ret pe_bl))
  pss_nil)
  (pss_cons (ps_if (pt_cmpR (op_eqX hR.units : OpR _ _ (rEqX F.K)) (pe_fld (pv 1) rfl) pe_str (nomark _))
  (pss_one (ps_ret (pe_and (pe_f c_is_whole hR (by decide) rfl passL (pa_cons (pe_ix (ix_seq : IxR _ (rIx F.K)) (pe_fld (pv 1) rfl) pe_int (fun _ _ => rfl)) (pa_cons pe_int (pa_cons (pe_op op_sub (pe_callB (cr_lenO W.olen.1 W.olen.2 c_Book__len__ hR (by decide) passL) rfl (W.free 0 _ rfl) boot_len (pa_cons (pv 0) pa_nil)) pe_int) pa_nil)))) (pe_one (pe_fld (pe_subO W.osub c_Book__getitem__ hR (by decide) passL (pv 0) (pe_ix (ix_seq : IxR _ (rIx F.K)) (pe_fld (pv 1) rfl) pe_int (fun _ _ => rfl))) rfl)))))
  pss_nil)
  (pss_one (ps_ret (pe_callB (cr_all rfl : CallR _ _ (rAll F.K)) rfl (W.free 15 _ rfl) (by decide +kernel) (pa_cons (pe_lc (own := [("line", 3)]) (by rfl) sc_has_right_lines.nd (pi_seqK (K := F.K) rfl (pe_fld (pv 1) rfl)) (blkOk_by (N := n_has_right_lines) (sc := defScope s_has_right_lines) (own := [("line", 3)]) (by decide +kernel)) (fun _ _ _ _ _ => (pg_name (i := 3) sc_has_right_lines.nd rfl (Or.inl rfl))) (fun _ _ _ _ _ => pts_nil) (fun _ _ _ _ _ => (pe_f c_is_whole hR (by decide) rfl passL (pa_cons (pv 3) (pa_cons pe_int (pa_cons (pe_op op_sub (pv 2) pe_int) pa_nil)))))) pa_nil)))))), ?_⟩
  try dsimp only [Xof, cxOf, Cx.nox, Cx.wish, Cx.blk]
  cases hw with
  | given n w t r h1 h2 h3 h4 =>
    have hlt := (List.getElem?_eq_some_iff.mp h1).1
    repeat walk_at "d"
    apply ro_ixC W 0 rfl
    repeat walk_at "d"
    refine ⟨b, rfl, _, rfl, by omega, ?_⟩
    repeat walk_at "d"
    refine ⟨_, _, _, rfl, ?_⟩
    rw [decide_eq_true (show (0 : Int) ≤ (n : Int) by omega), decide_eq_true (show (n : Int) ≤ (b.rows.length : Int) - 1 by omega)]
    repeat walk_at "d"
    refine ⟨b, n, r, rfl, h1, ?_⟩
    repeat walk_at "d"
    rw [h2]
    exact q
  | itself w t h1 =>
    repeat walk_at "d"
    apply ro_ixC W 1 rfl
    repeat walk_at "d"
    apply ev_lcT (ls := []) rfl
    · apply ei_seq
      repeat walk_at "d"
      exact ⟨_, .inr rfl, rfl⟩
    · intro l' hl'
      have hlt : l' < i := by cases hl'
      repeat walk_at "d"
      refine ⟨_, _, _, rfl, ?_⟩
      rw [decide_eq_true (show (0 : Int) ≤ (l' : Int) by omega), decide_eq_true (show (l' : Int) ≤ (i : Int) - 1 by omega)]
      repeat walk_at "d"
      exact rfl
    · exact Nat.le_of_ble_eq_true rfl
    · repeat walk_at "d"
      apply rc_all
      exact q
  | weaker l w t o h1 h2 h3 h4 =>
    repeat walk_at "d"
    apply ro_ixC W 2 rfl
    repeat walk_at "d"
    apply ev_lcT (ls := [l]) rfl
    · apply ei_seq
      repeat walk_at "d"
      exact ⟨_, .inr rfl, rfl⟩
    · intro l' hl'
      have hlt : l' < i := by rw [List.mem_singleton.mp hl']; exact h1
      repeat walk_at "d"
      refine ⟨_, _, _, rfl, ?_⟩
      rw [decide_eq_true (show (0 : Int) ≤ (l' : Int) by omega), decide_eq_true (show (l' : Int) ≤ (i : Int) - 1 by omega)]
      repeat walk_at "d"
      exact rfl
    · exact Nat.le_of_ble_eq_true rfl
    · repeat walk_at "d"
      apply rc_all
      exact q
  | joined l m w t o p h1 h2 h3 h4 h5 h6 =>
    repeat walk_at "d"
    apply ro_ixC W 3 rfl
    repeat walk_at "d"
    apply ev_lcT (ls := [l, m]) rfl
    · apply ei_seq
      repeat walk_at "d"
      exact ⟨_, .inr rfl, rfl⟩
    · intro l' hl'
      have hlt : l' < i := two_lt h1 h2 hl'
      repeat walk_at "d"
      refine ⟨_, _, _, rfl, ?_⟩
      rw [decide_eq_true (show (0 : Int) ≤ (l' : Int) by omega), decide_eq_true (show (l' : Int) ≤ (i : Int) - 1 by omega)]
      repeat walk_at "d"
      exact rfl
    · exact Nat.le_of_ble_eq_true rfl
    · repeat walk_at "d"
      apply rc_all
      exact q
  | cautious l m w t o p h1 h2 h3 h4 h5 h6 h7 =>
    repeat walk_at "d"
    apply ro_ixC W 4 rfl
    repeat walk_at "d"
    apply ev_lcT (ls := [l, m]) rfl
    · apply ei_seq
      repeat walk_at "d"
      exact ⟨_, .inr rfl, rfl⟩
    · intro l' hl'
      have hlt : l' < i := two_lt h1 h2 hl'
      repeat walk_at "d"
      refine ⟨_, _, _, rfl, ?_⟩
      rw [decide_eq_true (show (0 : Int) ≤ (l' : Int) by omega), decide_eq_true (show (l' : Int) ≤ (i : Int) - 1 by omega)]
      repeat walk_at "d"
      exact rfl
    · exact Nat.le_of_ble_eq_true rfl
    · repeat walk_at "d"
      apply rc_all
      exact q
theorem cc_has_right_lines (W : Wf P w K mg base) : Fnc P w K mg base 4 "has_right_lines" (spD K fun ds k _ => S_has_right_lines ds k) := W.fnc in_has_right_lines (fun _ => rfl) (j := 27) rfl (ok_has_right_lines W)
def S_derivation_fault : List D → (D → Prop) → Prop := fun ds k => ∃ (b : Bk) (ss : List MStep), ds = [bookD b, .tup (ss.map stepD)] ∧ Der b.rows ss ∧ k .non
theorem ok_derivation_fault (W : Wf P w K mg base) : FnR P w K mg base (L2.CX P w) 7 (d_derivation_fault.at_ K) (spD K fun ds k _ => S_derivation_fault ds k) := by
  have c_has_right_lines := cc_has_right_lines W
  have c_follows := cc_follows W
  refine W.fnD in_derivation_fault sc_derivation_fault (fun fd F => F.bindsN fun _ _ _ _ _ _ us hl => match us, hl with | [_, _], _ => rfl) (fun ds k h => by first | (obtain ⟨rfl, _⟩ := h; rfl) | (obtain ⟨_, rfl, _⟩ := h; rfl) | (obtain ⟨_, _, rfl, _⟩ := h; rfl) | (obtain ⟨_, _, _, rfl, _⟩ := h; rfl) | (obtain ⟨_, _, _, _, rfl, _⟩ := h; rfl) | (obtain ⟨_, _, _, _, _, rfl, _⟩ := h; rfl) | (obtain ⟨_, _, _, _, _, _, rfl, _⟩ := h; rfl) | (obtain ⟨_, _, _, _, _, _, _, rfl, _⟩ := h; rfl) | (obtain ⟨_, _, _, _, _, _, _, _, rfl, _⟩ := h; rfl) | (obtain ⟨_, _, _, _, _, _, _, _, _, rfl, _⟩ := h; rfl)) fun cdv A outer s H E hR F ds kk hF h => ?_
  subst hF
  obtain ⟨b, ss, rfl, dr, q⟩ := h
  refine ⟨_, (pss_cons (ps_for PassesOwn.never rfl (pi_enumX (by rfl) (W.free 9 _ rfl) (pa_cons (pv 1) pa_nil)) (pg_tupK (K := F.K) (n := 2) rfl (by rfl) (pgs_cons (pg_name (i := 2) sc_derivation_fault.nd rfl (Or.inl rfl)) (pgs_cons (pg_name (i := 3) sc_derivation_fault.nd rfl (Or.inl rfl)) pgs_nil)))
  (pss_cons (ps_if (pt_cmpR (W.kd_nin rfl rfl) (pe_fld (pv 3) rfl) (pe_glob (v := .ref (He.ga F.K "COUNTS")) rfl (W.glo 21 _ rfl) rfl) (by rfl))
  (pss_one (ps_ret (pe_tup (pa_cons (pv 2) (pa_cons pe_str pa_nil)))))
  pss_nil)
  (pss_cons (ps_if (pt_not (pt_val (pe_f c_has_right_lines hR (by decide) rfl passL (pa_cons (pv 0) (pa_cons (pv 3) (pa_cons (pv 2) pa_nil))))))
  (pss_one (ps_ret (pe_tup (pa_cons (pv 2) (pa_cons pe_str pa_nil)))))
  pss_nil)
  (pss_cons (ps_if (pt_not (pt_val (pe_fld (pe_fld (pv 3) rfl) rfl)))
  (pss_one (ps_ret (pe_tup (pa_cons (pv 2) (pa_cons pe_str pa_nil)))))
  pss_nil)
  (pss_one (ps_if (pt_not (pt_val (pe_f c_follows hR (by decide) rfl passL (pa_cons (pv 0) (pa_cons (pv 1) (pa_cons (pv 3) pa_nil))))))
  (pss_one (ps_ret (pe_tup (pa_cons (pv 2) (pa_cons pe_str pa_nil)))))
  pss_nil))))))
  (pss_one (ps_ret pe_non))), ?_⟩
  try dsimp only [Xof, cxOf, Cx.nox, Cx.wish, Cx.blk]
  repeat walk_at "d"
  apply s_for
  apply ei_enum
  repeat walk_at "d"
  refine ⟨_, .inr rfl, fun i ρ => ∃ x y, ρ = [.val (bookD b), .val (.tup (ss.map stepD)), x, y], ⟨_, _, rfl⟩, ?_, ?_⟩
  · rintro i d ρ' hi ⟨x, y, rfl⟩
    obtain ⟨x, e, rfl⟩ := enumD_at hi
    obtain ⟨s', es, rfl⟩ := map_at e
    have hw := dr.why i s' es
    have hC : ∃ (j : Nat) (n : Int), cntl[j]? = some (s'.rule, n) := by
      cases hw with
      | given => exact ⟨0, 1, rfl⟩
      | itself => exact ⟨1, 0, rfl⟩
      | weaker => exact ⟨2, 1, rfl⟩
      | joined => exact ⟨3, 2, rfl⟩
      | cautious => exact ⟨4, 2, rfl⟩
    obtain ⟨j, n, hC⟩ := hC
    refine ⟨_, g_tup rfl (gs_cons g_name (gs_cons g_name gs_nil)), ?_⟩
    repeat walk_at "d"
    apply ro_niC W j hC
    repeat walk_at "d"
    refine ⟨b, ss, i, s', rfl, hw, dr.rl, ?_⟩
    repeat walk_at "d"
    refine ⟨b, ss, i, s', rfl, hw, dr.ok, dr.ok _ (List.mem_of_getElem? es), ?_⟩
    repeat walk_at "d"
    exact ⟨_, _, rfl⟩
  · rintro ρ' ⟨x, y, rfl⟩
    repeat walk_at "d"
    exact q
theorem cc_derivation_fault (W : Wf P w K mg base) : Fnc P w K mg base 7 "derivation_fault" (spD K fun ds k _ => S_derivation_fault ds k) := W.fnc in_derivation_fault (fun _ => rfl) (j := 30) rfl (ok_derivation_fault W)
end
end K33
namespace K33
open PySem PySem.Spec PyProof.Rows L2
abbrev plainD (s : MStep) : D := .tup [.str s.rule, tupN s.lines, nD s.w, nD (s.w &&& s.t)]
theorem nd_full {w t : Nat} (h : nd w t = 0) : w &&& t = w := by
  apply eq_of_bits
  intro i
  have := congrArg (Nat.testBit · i) h
  simp only [nd_bit, Nat.zero_testBit] at this
  rw [Nat.testBit_and]
  cases e1 : w.testBit i <;> cases e2 : t.testBit i <;> simp_all
theorem nd_cf (w t : Nat) : nd w (w &&& t) = nd w t := by
  apply eq_of_bits
  intro i
  rw [nd_bit, nd_bit, Nat.testBit_and]
  cases w.testBit i <;> cases t.testBit i <;> rfl
theorem take_get {α : Type} {l : List α} {i j : Nat} {x : α} (h : l[j]? = some x) (hj : j < i) : (l.take i)[j]? = some x := by
  rw [List.getElem?_take, if_pos hj]
  exact h
/-- a lot of the rows is sharp -/
def yields (rs : List Rw) (lot : List Nat) (r : Rw) : Prop := ∃ part ∈ lays lot.length (lot.length + 1), sharpB rs (part.filterMap (lot[·]?)) r = true
theorem lay_lt {n : Nat} : ∀ i, ∀ p ∈ lay n i, ∀ m ∈ p, m < n
  | 0, p, hp, m, hm => by
    rw [List.mem_singleton.mp hp] at hm
    cases hm
  | i + 1, p, hp, m, hm => by
    obtain ⟨q, hq, h⟩ := List.mem_flatMap.mp (show p ∈ (lay n i).flatMap (mor n) from hp)
    unfold mor at h
    obtain ⟨x, hx, rfl⟩ := List.mem_map.mp h
    rcases List.mem_append.mp hm with hm | hm
    · exact lay_lt i q hq m hm
    · rw [List.mem_singleton.mp hm]
      exact List.mem_range.mp (List.mem_filter.mp hx).1
theorem lays_lt {n : Nat} : ∀ i, ∀ p ∈ lays n i, ∀ m ∈ p, m < n
  | 0, p, hp, m, hm => by cases hp
  | i + 1, p, hp, m, hm => by
    rcases List.mem_append.mp (show p ∈ lays n i ++ lay n i from hp) with h | h
    · exact lays_lt i p h m hm
    · exact lay_lt i p h m hm
theorem lays_len {n : Nat} : ∀ i, ∀ p ∈ lays n i, p.length < i
  | 0, p, hp => by cases hp
  | i + 1, p, hp => by
    rcases List.mem_append.mp (show p ∈ lays n i ++ lay n i from hp) with h | h
    · exact Nat.lt_succ_of_lt (lays_len i p h)
    · rw [lay_len h]
      exact Nat.lt_succ_self _
section
variable {P : Program} {w : World} {K : PySem.W.Frag} {mg : PySem.Str → Option Value} {base : Heap}
local macro_rules | `(tactic| walk_at "d0") => `(tactic| first
  | ((with_reducible apply ev_var); rfl)
  | with_reducible apply ev_int
  | with_reducible apply ev_bl
  | with_reducible apply ev_str
  | with_reducible apply ev_non
  | with_reducible apply s_seq
  | with_reducible apply s_ret
  | with_reducible apply s_asg
  | with_reducible apply s_next
  | ((with_reducible apply s_app); rfl)
  | with_reducible apply s_drop
  | ((with_reducible apply src_0); rfl; intro _)
  | ((with_reducible apply src_1); rfl; intro _ _ _)
  | ((with_reducible apply src_2); rfl; intro _)
  | ((with_reducible apply s_setSrc0); rfl)
  | ((with_reducible apply s_setSrc2); rfl)
  | ((with_reducible apply ev_callS); rfl)
  | ((with_reducible apply ev_opO); rfl)
  | ((with_reducible apply ev_ixO); rfl)
  | with_reducible apply ev_op
  | with_reducible apply ev_un
  | with_reducible apply et_test
  | with_reducible apply et_B
  | with_reducible apply et_truI
  | with_reducible apply et_and
  | with_reducible apply et_or
  | with_reducible apply et_not
  | with_reducible apply ea_nil
  | with_reducible apply ea_cons
  | with_reducible apply ro_nd_n
  | with_reducible apply ro_and_n
  | with_reducible apply ro_or_n
  | with_reducible apply ro_shr_n
  | with_reducible apply ro_eq_0
  | with_reducible apply ro_ne_0
  | with_reducible apply ro_eq_n
  | with_reducible apply ro_ne_n
  | with_reducible apply ro_add_n
  | with_reducible apply ro_add_1
  | with_reducible apply ro_I0
  | with_reducible apply ro_B0
  | with_reducible apply ro_un
  | ((with_reducible apply ro_isN); rfl)
  | ((with_reducible apply ro_notN); rfl)
  | with_reducible apply ro_eq_t0
  | with_reducible apply ro_ne_lt0
  | with_reducible apply ro_ne_l0
  | with_reducible apply ro_ne_tt
  | with_reducible apply ro_eq_tt
  | with_reducible apply ro_ne_t
  | with_reducible apply ro_eq_i
  | with_reducible apply ro_ne_i
  | with_reducible apply ro_eq_s
  | with_reducible apply ro_add
  | ((with_reducible apply ro_ixT); rfl)
  | ((with_reducible apply ro_ixL); rfl)
  | with_reducible apply ev_list
  | with_reducible apply ev_tuple
  | with_reducible apply ev_sortset
  | with_reducible apply ev_isLT
  | ((with_reducible apply ev_cbO); rfl)
  | with_reducible apply ev_cb
  | with_reducible apply ev_call
  | ((with_reducible apply ev_fldM); rfl; exact Wf.kc2 (by assumption) (by decide +kernel); rfl)
  | with_reducible apply ev_fld
  | with_reducible apply ev_and
  | with_reducible apply ev_or
  | with_reducible apply ev_notV
  | with_reducible apply ev_if
  | with_reducible apply ev_chain
  | with_reducible apply ev_tup
  | with_reducible apply ev_lst
  | with_reducible apply ev_make
  | ((with_reducible apply ev_cm0); exact exok0)
  | ((with_reducible apply ev_cm); exact exok0)
  | ((with_reducible apply ev_meth0); exact exok0)
  | ((with_reducible apply ev_meth); exact exok0)
  | ((with_reducible apply ro_subO); exact exok0)
  | ((with_reducible apply ro_addO); exact exok0)
  | ((with_reducible apply rc_lenO); exact exok0)
  | ((with_reducible apply ev_prop); exact exok0)
  | with_reducible apply rc_int
  | with_reducible apply rc_lenL
  | with_reducible apply rc_lenT
  | ((with_reducible apply rc_is_int); (exact rfl))
  | ((with_reducible apply rc_is_bl); (exact rfl))
  | ((with_reducible apply rc_is_str); (exact rfl))
  | ((with_reducible apply rc_is_tup); (exact rfl))
  | ((with_reducible apply s_fldM); rfl; exact Wf.kc2 (by assumption) (by decide +kernel); decide; rfl)
  | with_reducible apply et_yes
  | with_reducible apply ev_rawc
  | ((with_reducible apply ev_src); rfl)
  | ((with_reducible refine ⟨len_ok ?_, ?_⟩); rfl)
  | with_reducible refine ⟨rfl, ?_⟩
  | with_reducible refine ⟨⟨_, rfl⟩, ?_⟩
  | with_reducible refine ⟨_, rfl, ?_⟩
  | refine ⟨_, _, rfl, rfl, ?_⟩
  | refine ⟨_, _, _, _, rfl, Wf.kc2 (by assumption) (by decide +kernel), rfl, ?_⟩
  | ((with_reducible apply iteTr); rfl)
  | ((with_reducible apply iteFr); rfl)
  | dsimp only)
local macro_rules | `(tactic| walk_at "d") => `(tactic| first
  | walk_at "d0"
  | with_reducible apply s_if)
local macro_rules | `(tactic| walk_at "o") => `(tactic| first
  | ((with_reducible apply so_retO); rfl)
  | ((with_reducible apply et_notcallO); rfl)
  | ((with_reducible apply s_asgO); (with_reducible apply en_lst); (with_reducible apply ea_nil); refine ⟨len_ok rfl, ?_⟩)
  | walk_at "d")

local macro_rules | `(tactic| walk_at "x") => `(tactic| first
  | ((with_reducible apply ev_callX); assumption)
  | walk_at "o")
def S__law_follows : List D → (D → Prop) → Prop := fun ds k => ∃ (rs : List Rw) (ss : List MStep) (i : Nat) (s : MStep), ds = [.lst (rs.map rowD), .lst ((ss.take (i + 1)).map plainD), nD i] ∧ ss[i]? = some s ∧ Why rs ss i s ∧ k (.bl true)
theorem ok__law_follows (W : Wf P w K mg base) : FnR P w K mg base (L2.CX P w) 1 (d__law_follows.at_ K) (spD K fun ds k _ => S__law_follows ds k) := by
  refine W.fnD in__law_follows sc__law_follows (fun fd F => F.bindsN fun _ _ _ _ _ _ us hl => match us, hl with | [_, _, _], _ => rfl) (fun ds k h => by first | (obtain ⟨rfl, _⟩ := h; rfl) | (obtain ⟨_, rfl, _⟩ := h; rfl) | (obtain ⟨_, _, rfl, _⟩ := h; rfl) | (obtain ⟨_, _, _, rfl, _⟩ := h; rfl) | (obtain ⟨_, _, _, _, rfl, _⟩ := h; rfl) | (obtain ⟨_, _, _, _, _, rfl, _⟩ := h; rfl) | (obtain ⟨_, _, _, _, _, _, rfl, _⟩ := h; rfl) | (obtain ⟨_, _, _, _, _, _, _, rfl, _⟩ := h; rfl) | (obtain ⟨_, _, _, _, _, _, _, _, rfl, _⟩ := h; rfl) | (obtain ⟨_, _, _, _, _, _, _, _, _, rfl, _⟩ := h; rfl)) fun cdv A outer s H E hR F ds kk hF h => ?_
  subst hF
  obtain ⟨rs, ss, i, s', rfl, es, hw, q⟩ := h
  refine ⟨_, (pss_cons (ps_asg (pe_ix (ix_seq : IxR _ (rIx F.K)) (pv 1) (pv 2) (fun _ _ => rfl)) (pg_tupK (K := F.K) (n := 4) rfl (by rfl) (pgs_cons (pg_name (i := 3) sc__law_follows.nd rfl (Or.inl rfl)) (pgs_cons (pg_name (i := 4) sc__law_follows.nd rfl (Or.inl rfl)) (pgs_cons (pg_name (i := 5) sc__law_follows.nd rfl (Or.inl rfl)) (pgs_cons (pg_name (i := 6) sc__law_follows.nd rfl (Or.inl rfl)) pgs_nil))))))
  (pss_cons (ps_if (pt_cmpR (op_eqX hR.units : OpR _ _ (rEqX F.K)) (pv 3) pe_str (nomark _))
  (pss_one (ps_ret (pe_and (pe_cmpR (op_eqX hR.units : OpR _ _ (rEqX F.K)) (pv 5) (pe_ix (ix_seq : IxR _ (rIx F.K)) (pe_ix (ix_seq : IxR _ (rIx F.K)) (pv 0) (pe_ix (ix_seq : IxR _ (rIx F.K)) (pv 4) pe_int (fun _ _ => rfl)) (fun _ _ => rfl)) pe_int (fun _ _ => rfl)) (nomark _)) (pe_one (pe_cmpR (op_eqX hR.units : OpR _ _ (rEqX F.K)) (pv 6) (pe_op op_and (pe_ix (ix_seq : IxR _ (rIx F.K)) (pe_ix (ix_seq : IxR _ (rIx F.K)) (pv 0) (pe_ix (ix_seq : IxR _ (rIx F.K)) (pv 4) pe_int (fun _ _ => rfl)) (fun _ _ => rfl)) pe_int (fun _ _ => rfl)) (pe_ix (ix_seq : IxR _ (rIx F.K)) (pe_ix (ix_seq : IxR _ (rIx F.K)) (pv 0) (pe_ix (ix_seq : IxR _ (rIx F.K)) (pv 4) pe_int (fun _ _ => rfl)) (fun _ _ => rfl)) pe_int (fun _ _ => rfl))) (nomark _))))))
  pss_nil)
  (pss_cons (ps_if (pt_cmpR (op_eqX hR.units : OpR _ _ (rEqX F.K)) (pv 3) pe_str (nomark _))
  (pss_one (ps_ret (pe_cmpR (op_eqX hR.units : OpR _ _ (rEqX F.K)) (pv 6) (pv 5) (nomark _))))
  pss_nil)
  (pss_cons (ps_set (i := 7) sc__law_follows.nd rfl (Or.inl rfl) (pe_ix (ix_seq : IxR _ (rIx F.K)) (pv 1) (pe_ix (ix_seq : IxR _ (rIx F.K)) (pv 4) pe_int (fun _ _ => rfl)) (fun _ _ => rfl)))
  (pss_cons (ps_if (pt_cmpR (op_eqX hR.units : OpR _ _ (rEqX F.K)) (pv 3) pe_str (nomark _))
  (pss_one (ps_ret (pe_and (pe_cmpR (op_eqX hR.units : OpR _ _ (rEqX F.K)) (pv 5) (pe_ix (ix_seq : IxR _ (rIx F.K)) (pv 7) pe_int (fun _ _ => rfl)) (nomark _)) (pe_one (pe_cmpR (op_eqX hR.units : OpR _ _ (rEqX F.K)) (pe_op op_and (pe_ix (ix_seq : IxR _ (rIx F.K)) (pv 7) pe_int (fun _ _ => rfl)) (pe_un un_inv (pv 6))) pe_int (nomark _))))))
  pss_nil)
  (pss_cons (ps_set (i := 8) sc__law_follows.nd rfl (Or.inl rfl) (pe_ix (ix_seq : IxR _ (rIx F.K)) (pv 1) (pe_ix (ix_seq : IxR _ (rIx F.K)) (pv 4) pe_int (fun _ _ => rfl)) (fun _ _ => rfl)))
  (pss_cons (ps_if (pt_cmpR (op_eqX hR.units : OpR _ _ (rEqX F.K)) (pv 3) pe_str (nomark _))
  (pss_cons (ps_set (i := 9) sc__law_follows.nd rfl (Or.inl rfl) (pe_op op_or (pe_op op_and (pe_ix (ix_seq : IxR _ (rIx F.K)) (pv 7) pe_int (fun _ _ => rfl)) (pe_un un_inv (pe_ix (ix_seq : IxR _ (rIx F.K)) (pv 7) pe_int (fun _ _ => rfl)))) (pe_op op_and (pe_ix (ix_seq : IxR _ (rIx F.K)) (pv 8) pe_int (fun _ _ => rfl)) (pe_un un_inv (pe_ix (ix_seq : IxR _ (rIx F.K)) (pv 8) pe_int (fun _ _ => rfl))))))
  (pss_one (ps_ret (pe_and (pe_cmpR (op_eqX hR.units : OpR _ _ (rEqX F.K)) (pv 5) (pe_op op_or (pe_ix (ix_seq : IxR _ (rIx F.K)) (pv 7) pe_int (fun _ _ => rfl)) (pe_ix (ix_seq : IxR _ (rIx F.K)) (pv 8) pe_int (fun _ _ => rfl))) (nomark _)) (pe_one (pe_cmpR (op_eqX hR.units : OpR _ _ (rEqX F.K)) (pv 6) (pe_op op_and (pv 5) (pe_un un_inv (pv 9))) (nomark _)))))))
  pss_nil)
  (pss_one (ps_ret (pe_and (pe_cmpR (op_eqX hR.units : OpR _ _ (rEqX F.K)) (pe_ix (ix_seq : IxR _ (rIx F.K)) (pv 7) pe_int (fun _ _ => rfl)) (pe_ix (ix_seq : IxR _ (rIx F.K)) (pv 8) pe_int (fun _ _ => rfl)) (nomark _)) (pe_and (pe_cmpR (op_eqX hR.units : OpR _ _ (rEqX F.K)) (pv 5) (pe_ix (ix_seq : IxR _ (rIx F.K)) (pv 7) pe_int (fun _ _ => rfl)) (nomark _)) (pe_one (pe_cmpR (op_eqX hR.units : OpR _ _ (rEqX F.K)) (pv 6) (pe_op op_and (pe_ix (ix_seq : IxR _ (rIx F.K)) (pv 7) pe_int (fun _ _ => rfl)) (pe_ix (ix_seq : IxR _ (rIx F.K)) (pv 8) pe_int (fun _ _ => rfl))) (nomark _)))))))))))))), ?_⟩
  try dsimp only [Xof, cxOf, Cx.nox, Cx.wish, Cx.blk]
  have es' := take_get es (Nat.lt_succ_self i)
  repeat walk_at "d"
  apply s_asgT
  repeat walk_at "d"
  apply ro_ixL (atI_map es')
  refine ⟨_, g_tup rfl (gs_cons g_name (gs_cons g_name (gs_cons g_name (gs_cons g_name gs_nil)))), ?_⟩
  repeat walk_at "d"
  cases hw with
  | given n w t r h1 h2 h3 h4 =>
    repeat walk_at "d"
    apply ro_ixL (atI_map h1)
    repeat walk_at "d"
    rw [decide_eq_true h3]
    repeat walk_at "d"
    apply ro_ixL (atI_map h1)
    repeat walk_at "d"
    apply ro_ixL (atI_map h1)
    repeat walk_at "d"
    rw [decide_eq_true (show w &&& t = r.w &&& r.t from h4)]
    exact q
  | itself w t h1 =>
    repeat walk_at "d"
    rw [decide_eq_true (nd_full h1)]
    exact q
  | weaker l w t o h1 h2 h3 h4 =>
    have h2' := take_get h2 (Nat.lt_succ_of_lt h1)
    repeat walk_at "d"
    apply ro_ixL (atI_map h2')
    repeat walk_at "d"
    rw [decide_eq_true h3]
    repeat walk_at "d"
    rw [decide_eq_true (show nd (o.w &&& o.t) (w &&& t) = 0 from h4)]
    exact q
  | joined l m w t o p h1 h2 h3 h4 h5 h6 =>
    have h3' := take_get h3 (Nat.lt_succ_of_lt h1)
    have h4' := take_get h4 (Nat.lt_succ_of_lt h2)
    repeat walk_at "d"
    apply ro_ixL (atI_map h3')
    repeat walk_at "d"
    apply ro_ixL (atI_map h4')
    repeat walk_at "d"
    rw [decide_eq_true h5]
    repeat walk_at "d"
    rw [decide_eq_true (show w &&& t = nd w (nd o.w (o.w &&& o.t) ||| nd p.w (p.w &&& p.t)) by rw [nd_cf, nd_cf]; exact h6)]
    exact q
  | cautious l m w t o p h1 h2 h3 h4 h5 h6 h7 =>
    have h3' := take_get h3 (Nat.lt_succ_of_lt h1)
    have h4' := take_get h4 (Nat.lt_succ_of_lt h2)
    repeat walk_at "d"
    apply ro_ixL (atI_map h3')
    repeat walk_at "d"
    apply ro_ixL (atI_map h4')
    repeat walk_at "d"
    rw [decide_eq_true h5]
    repeat walk_at "d"
    rw [decide_eq_true (show w = o.w &&& o.t from h6)]
    repeat walk_at "d"
    rw [decide_eq_true (show w &&& t = (o.w &&& o.t) &&& (p.w &&& p.t) from h7)]
    exact q
theorem cc__law_follows (W : Wf P w K mg base) : Fnc P w K mg base 1 "_law_follows" (spD K fun ds k _ => S__law_follows ds k) := W.fnc in__law_follows (fun _ => rfl) (j := 64) rfl (ok__law_follows W)
end
end K33
namespace K33
open PySem PySem.Spec PyProof.Rows L2
theorem mem_int {i : Nat} {ns : List Nat} : ((i : Int) ∈ ns.map fun n : Nat => (n : Int)) ↔ i ∈ ns := by
  rw [List.mem_map]
  exact ⟨fun ⟨n, h, e⟩ => by rw [← Int.ofNat.inj e]; exact h, fun h => ⟨i, h, rfl⟩⟩
theorem ints_map {ns : List Nat} : (ns.map fun n : Nat => (n : Int)).map D.int = ns.map nD := by rw [List.map_map]; rfl
section
variable {F : Fm} {ρ : List Sl} {k : D → Prop}
theorem ro_niN {i : Nat} {ns : List Nat} (q : k (.bl (!decide (i ∈ ns)))) : ROp F (rNiX F.K) ρ (nD i) (lN ns) k := by
  have h := ro_niL (F := F) (ρ := ρ) (k := k) (i := (i : Int)) (ns := ns.map fun n : Nat => (n : Int)) (by rw [show decide ((i : Int) ∈ ns.map fun n : Nat => (n : Int)) = decide (i ∈ ns) from decide_eq_decide.mpr mem_int]; exact q)
  rw [ints_map] at h
  exact h
theorem rc_sortedN {ns : List Nat} (hl : ns.length < 64) (q : ∀ ms : List Int, ms.Pairwise (· ≤ ·) → ms.Perm (ns.map fun n : Nat => (n : Int)) → k (.lst (ms.map .int))) : ROc F (rSorted F.K) ρ [lN ns] k := by
  have h := rc_sorted (F := F) (ρ := ρ) (k := k) (ns := ns.map fun n : Nat => (n : Int)) (by rw [List.length_map]; exact hl) q
  rw [ints_map] at h
  exact h
end
section
variable {P : Program} {w : World} {K : PySem.W.Frag} {mg : PySem.Str → Option Value} {base : Heap}
local macro_rules | `(tactic| walk_at "d0") => `(tactic| first
  | ((with_reducible apply ev_var); rfl)
  | with_reducible apply ev_int
  | with_reducible apply ev_bl
  | with_reducible apply ev_str
  | with_reducible apply ev_non
  | with_reducible apply s_seq
  | with_reducible apply s_ret
  | with_reducible apply s_asg
  | with_reducible apply s_next
  | ((with_reducible apply s_app); rfl)
  | with_reducible apply s_drop
  | ((with_reducible apply src_0); rfl; intro _)
  | ((with_reducible apply src_1); rfl; intro _ _ _)
  | ((with_reducible apply src_2); rfl; intro _)
  | ((with_reducible apply s_setSrc0); rfl)
  | ((with_reducible apply s_setSrc2); rfl)
  | ((with_reducible apply ev_callS); rfl)
  | ((with_reducible apply ev_opO); rfl)
  | ((with_reducible apply ev_ixO); rfl)
  | with_reducible apply ev_op
  | with_reducible apply ev_un
  | with_reducible apply et_test
  | with_reducible apply et_B
  | with_reducible apply et_truI
  | with_reducible apply et_and
  | with_reducible apply et_or
  | with_reducible apply et_not
  | with_reducible apply ea_nil
  | with_reducible apply ea_cons
  | with_reducible apply ro_nd_n
  | with_reducible apply ro_and_n
  | with_reducible apply ro_or_n
  | with_reducible apply ro_shr_n
  | with_reducible apply ro_eq_0
  | with_reducible apply ro_ne_0
  | with_reducible apply ro_eq_n
  | with_reducible apply ro_ne_n
  | with_reducible apply ro_add_n
  | with_reducible apply ro_add_1
  | with_reducible apply ro_I0
  | with_reducible apply ro_B0
  | with_reducible apply ro_un
  | ((with_reducible apply ro_isN); rfl)
  | ((with_reducible apply ro_notN); rfl)
  | with_reducible apply ro_eq_t0
  | with_reducible apply ro_ne_lt0
  | with_reducible apply ro_ne_l0
  | with_reducible apply ro_ne_tt
  | with_reducible apply ro_eq_tt
  | with_reducible apply ro_ne_t
  | with_reducible apply ro_eq_i
  | with_reducible apply ro_ne_i
  | with_reducible apply ro_eq_s
  | with_reducible apply ro_add
  | ((with_reducible apply ro_ixT); rfl)
  | ((with_reducible apply ro_ixL); rfl)
  | with_reducible apply ev_list
  | with_reducible apply ev_tuple
  | with_reducible apply ev_sortset
  | with_reducible apply ev_isLT
  | ((with_reducible apply ev_cbO); rfl)
  | with_reducible apply ev_cb
  | with_reducible apply ev_call
  | ((with_reducible apply ev_fldM); rfl; exact Wf.kc2 (by assumption) (by decide +kernel); rfl)
  | with_reducible apply ev_fld
  | with_reducible apply ev_and
  | with_reducible apply ev_or
  | with_reducible apply ev_notV
  | with_reducible apply ev_if
  | with_reducible apply ev_chain
  | with_reducible apply ev_tup
  | with_reducible apply ev_lst
  | with_reducible apply ev_make
  | ((with_reducible apply ev_cm0); exact exok0)
  | ((with_reducible apply ev_cm); exact exok0)
  | ((with_reducible apply ev_meth0); exact exok0)
  | ((with_reducible apply ev_meth); exact exok0)
  | ((with_reducible apply ro_subO); exact exok0)
  | ((with_reducible apply ro_addO); exact exok0)
  | ((with_reducible apply rc_lenO); exact exok0)
  | ((with_reducible apply ev_prop); exact exok0)
  | with_reducible apply rc_int
  | with_reducible apply rc_lenL
  | with_reducible apply rc_lenT
  | ((with_reducible apply rc_is_int); (exact rfl))
  | ((with_reducible apply rc_is_bl); (exact rfl))
  | ((with_reducible apply rc_is_str); (exact rfl))
  | ((with_reducible apply rc_is_tup); (exact rfl))
  | ((with_reducible apply s_fldM); rfl; exact Wf.kc2 (by assumption) (by decide +kernel); decide; rfl)
  | with_reducible apply et_yes
  | with_reducible apply ev_rawc
  | ((with_reducible apply ev_src); rfl)
  | ((with_reducible refine ⟨len_ok ?_, ?_⟩); rfl)
  | with_reducible refine ⟨rfl, ?_⟩
  | with_reducible refine ⟨⟨_, rfl⟩, ?_⟩
  | with_reducible refine ⟨_, rfl, ?_⟩
  | refine ⟨_, _, rfl, rfl, ?_⟩
  | refine ⟨_, _, _, _, rfl, Wf.kc2 (by assumption) (by decide +kernel), rfl, ?_⟩
  | ((with_reducible apply iteTr); rfl)
  | ((with_reducible apply iteFr); rfl)
  | dsimp only)
local macro_rules | `(tactic| walk_at "d") => `(tactic| first
  | walk_at "d0"
  | with_reducible apply s_if)
local macro_rules | `(tactic| walk_at "o") => `(tactic| first
  | ((with_reducible apply so_retO); rfl)
  | ((with_reducible apply et_notcallO); rfl)
  | ((with_reducible apply s_asgO); (with_reducible apply en_lst); (with_reducible apply ea_nil); refine ⟨len_ok rfl, ?_⟩)
  | walk_at "d")

local macro_rules | `(tactic| walk_at "x") => `(tactic| first
  | ((with_reducible apply ev_callX); assumption)
  | walk_at "o")
def S__law_shape : List D → (D → Prop) → Prop := fun ds k => ∃ ss : List MStep, ds = [.tup (ss.map stepD)] ∧ 1 ≤ ss.length ∧ ss.length ≤ 40 ∧ k (.bl true)
theorem ok__law_shape (W : Wf P w K mg base) : FnR P w K mg base (L2.CX P w) 2 (d__law_shape.at_ K) (spD K fun ds k _ => S__law_shape ds k) := by
  have c__law_is_number := cc__law_is_number W
  refine W.fnD in__law_shape sc__law_shape (fun fd F => F.bindsN fun _ _ _ _ _ _ us hl => match us, hl with | [_], _ => rfl) (fun ds k h => by first | (obtain ⟨rfl, _⟩ := h; rfl) | (obtain ⟨_, rfl, _⟩ := h; rfl) | (obtain ⟨_, _, rfl, _⟩ := h; rfl) | (obtain ⟨_, _, _, rfl, _⟩ := h; rfl) | (obtain ⟨_, _, _, _, rfl, _⟩ := h; rfl) | (obtain ⟨_, _, _, _, _, rfl, _⟩ := h; rfl) | (obtain ⟨_, _, _, _, _, _, rfl, _⟩ := h; rfl) | (obtain ⟨_, _, _, _, _, _, _, rfl, _⟩ := h; rfl) | (obtain ⟨_, _, _, _, _, _, _, _, rfl, _⟩ := h; rfl) | (obtain ⟨_, _, _, _, _, _, _, _, _, rfl, _⟩ := h; rfl)) fun cdv A outer s H E hR F ds kk hF h => ?_
  subst hF
  obtain ⟨ss, rfl, h1, h2, q⟩ := h
  refine ⟨_, (pss_cons (ps_if (PW.pt (pw_or (pt_not (pt_val (pe_callB (cr_isX : CallR _ _ (rIsX F.K)) rfl (W.free 1 _ rfl) (by decide +kernel) (pa_cons (pv 0) (pa_cons (pe_bltn (v := .ty "tuple") (u := .type "tuple") rfl (W.free 6 _ rfl) (by decide +kernel) rfl) pa_nil))))) (pw_or1 (pt_not (pt_chain op_le op_le pe_int (pe_callB (cr_lenX : CallR _ _ (rLenX F.K)) rfl (W.free 0 _ rfl) boot_len (pa_cons (pv 0) pa_nil)) pe_int)))))
  (pss_one (ps_ret pe_bl))
  pss_nil)
  (pss_cons (ps_for PassesOwn.never rfl (pi_seqK (K := F.K) rfl (pv 0)) (pg_name (i := 1) sc__law_shape.nd rfl (Or.inl rfl))
  (pss_cons (ps_if (PW.pt (pw_or (pt_not (pt_val (pe_callB (cr_isX : CallR _ _ (rIsX F.K)) rfl (W.free 1 _ rfl) (by decide +kernel) (pa_cons (pv 1) (pa_cons (pe_glob (v := .ref (He.ga F.K "Step")) rfl (W.glo 22 _ rfl) rfl) pa_nil))))) (pw_or (pt_not (pt_val (pe_callB (cr_isX : CallR _ _ (rIsX F.K)) rfl (W.free 1 _ rfl) (by decide +kernel) (pa_cons (pe_fld (pv 1) rfl) (pa_cons (pe_bltn (v := .ty "tuple") (u := .type "tuple") rfl (W.free 6 _ rfl) (by decide +kernel) rfl) pa_nil))))) (pw_or1 (pt_not (pt_val (pe_callB (cr_isX : CallR _ _ (rIsX F.K)) rfl (W.free 1 _ rfl) (by decide +kernel) (pa_cons (pe_fld (pv 1) rfl) (pa_cons (pe_glob (v := .ref (He.ga F.K "Saying")) rfl (W.glo 9 _ rfl) rfl) pa_nil)))))))))
  (pss_one (ps_ret pe_bl))
  pss_nil)
  (pss_one (ps_if (pt_cmpR op_gt (pe_callB (cr_lenX : CallR _ _ (rLenX F.K)) rfl (W.free 0 _ rfl) boot_len (pa_cons (pe_lc (own := [("_law_line", 2)]) (by rfl) sc__law_shape.nd (pi_seqK (K := F.K) rfl (pe_fld (pv 1) rfl)) (blkOk_by (N := n__law_shape) (sc := defScope s__law_shape) (own := [("_law_line", 2)]) (by decide +kernel)) (fun _ _ _ _ _ => (pg_name (i := 2) sc__law_shape.nd rfl (Or.inl rfl))) (fun _ _ _ _ _ => (pts_one (pt_not (pt_val (pe_f c__law_is_number hR (by decide) rfl passL (pa_cons (pv 2) pa_nil)))))) (fun _ _ _ _ _ => (pv 2))) pa_nil)) pe_int (nomark _))
  (pss_one (ps_ret pe_bl))
  pss_nil))))
  (pss_one (ps_ret pe_bl)))), ?_⟩
  try dsimp only [Xof, cxOf, Cx.nox, Cx.wish, Cx.blk]
  repeat walk_at "d"
  rw [List.length_map, decide_eq_true (show (1 : Int) ≤ ss.length by omega)]
  repeat walk_at "d"
  rw [decide_eq_true (show (ss.length : Int) ≤ 40 by omega)]
  repeat walk_at "d"
  apply s_for
  apply ei_seq
  repeat walk_at "d"
  refine ⟨_, .inr rfl, fun i ρ => ∃ x, ρ = [.val (.tup (ss.map stepD)), x, .un], ⟨_, rfl⟩, ?_, ?_⟩
  · rintro i d ρ' hi ⟨x, rfl⟩
    obtain ⟨s', es, rfl⟩ := map_at hi
    refine ⟨_, g_name, ?_⟩
    repeat walk_at "d"
    apply rc_is_obj (W.cls 2 _ rfl) (W.ins 2 _ rfl)
    repeat walk_at "d"
    apply rc_is_obj (W.cls 0 _ rfl) (W.ins 0 _ rfl)
    repeat walk_at "d"
    apply EvN.ev
    apply en_lc (un_of rfl)
    apply ei_seq
    repeat walk_at "d"
    refine ⟨_, .inr rfl, fun i acc => acc = [], rfl, ?_, ?_⟩
    · rintro i d acc hi rfl
      obtain ⟨n, en, rfl⟩ := map_at hi
      refine ⟨_, mem_of rfl, g_name, ?_⟩
      repeat walk_at "d"
      refine ⟨_, rfl, ?_⟩
      repeat walk_at "d"
    · rintro acc rfl
      repeat walk_at "d"
      exact ⟨_, rfl⟩
  · rintro ρ' ⟨x, rfl⟩
    repeat walk_at "d"
    exact q
theorem cc__law_shape (W : Wf P w K mg base) : Fnc P w K mg base 2 "_law_shape" (spD K fun ds k _ => S__law_shape ds k) := W.fnc in__law_shape (fun _ => rfl) (j := 69) rfl (ok__law_shape W)
def S__law_yielded : List D → (D → Prop) → Prop := fun ds k => ∃ (rs : List Rw) (lot : List Nat) (r : Rw), ds = [.lst (rs.map rowD), tupN lot, rowD r] ∧ lot.length ≤ 6 ∧ (∀ n ∈ lot, n < rs.length) ∧ yields rs lot r ∧ k (.bl true)
theorem ok__law_yielded (W : Wf P w K mg base) : FnR P w K mg base (L2.CX P w) 3 (d__law_yielded.at_ K) (spD K fun ds k _ => S__law_yielded ds k) := by
  have c__law_all_lots := cc__law_all_lots W
  have c__law_sharp := cc__law_sharp W
  refine W.fnD in__law_yielded sc__law_yielded (fun fd F => F.bindsN fun _ _ _ _ _ _ us hl => match us, hl with | [_, _, _], _ => rfl) (fun ds k h => by first | (obtain ⟨rfl, _⟩ := h; rfl) | (obtain ⟨_, rfl, _⟩ := h; rfl) | (obtain ⟨_, _, rfl, _⟩ := h; rfl) | (obtain ⟨_, _, _, rfl, _⟩ := h; rfl) | (obtain ⟨_, _, _, _, rfl, _⟩ := h; rfl) | (obtain ⟨_, _, _, _, _, rfl, _⟩ := h; rfl) | (obtain ⟨_, _, _, _, _, _, rfl, _⟩ := h; rfl) | (obtain ⟨_, _, _, _, _, _, _, rfl, _⟩ := h; rfl) | (obtain ⟨_, _, _, _, _, _, _, _, rfl, _⟩ := h; rfl) | (obtain ⟨_, _, _, _, _, _, _, _, _, rfl, _⟩ := h; rfl)) fun cdv A outer s H E hR F ds kk hF h => ?_
  subst hF
  obtain ⟨rs, lot, r, rfl, h6, hn, hy, q⟩ := h
  refine ⟨_, (pss_cons (ps_for PassesOwn.never rfl (pi_seqK (K := F.K) rfl (pe_f c__law_all_lots hR (by decide) rfl passL (pa_cons (pe_callB (cr_lenX : CallR _ _ (rLenX F.K)) rfl (W.free 0 _ rfl) boot_len (pa_cons (pv 1) pa_nil)) pa_nil))) (pg_name (i := 3) sc__law_yielded.nd rfl (Or.inl rfl))
  (pss_one (ps_if (pt_val (pe_f c__law_sharp hR (by decide) rfl passL (pa_cons (pv 0) (pa_cons (pe_lc (own := [("_law_k", 4)]) (by rfl) sc__law_yielded.nd (pi_seqK (K := F.K) rfl (pv 3)) (blkOk_by (N := n__law_yielded) (sc := defScope s__law_yielded) (own := [("_law_k", 4)]) (by decide +kernel)) (fun _ _ _ _ _ => (pg_name (i := 4) sc__law_yielded.nd rfl (Or.inl rfl))) (fun _ _ _ _ _ => pts_nil) (fun _ _ _ _ _ => (pe_ix (ix_seq : IxR _ (rIx F.K)) (pv 1) (pv 4) (fun _ _ => rfl)))) (pa_cons (pv 2) pa_nil)))))
  (pss_one (ps_ret pe_bl))
  pss_nil)))
  (pss_one (ps_ret pe_bl))), ?_⟩
  try dsimp only [Xof, cxOf, Cx.nox, Cx.wish, Cx.blk]
  repeat walk_at "d"
  apply s_for
  apply ei_seq
  repeat walk_at "d"
  rw [List.length_map]
  refine ⟨lot.length, rfl, h6, ?_⟩
  dsimp only
  refine ⟨_, .inl rfl, fun i ρ => (∀ p ∈ (lays lot.length (lot.length + 1)).take i, sharpB rs (p.filterMap (lot[·]?)) r ≠ true) ∧ ∃ x, ρ = [.val (.lst (rs.map rowD)), .val (tupN lot), .val (rowD r), x, .un], ⟨(fun p hp => by cases hp), _, rfl⟩, ?_, ?_⟩
  · rintro i d ρ' hi ⟨hno, x, rfl⟩
    obtain ⟨p, ep, rfl⟩ := map_at hi
    have hp := List.mem_of_getElem? ep
    have hlt := lays_lt _ p hp
    have hlen := lays_len _ p hp
    refine ⟨_, g_name, ?_⟩
    repeat walk_at "d"
    apply EvN.ev
    apply en_lc (un_of rfl)
    apply ei_seq
    repeat walk_at "d"
    refine ⟨_, .inr rfl, fun i acc => acc = ((p.take i).filterMap (lot[·]?)).map nD, rfl, ?_, ?_⟩
    · rintro i d acc hi rfl
      obtain ⟨m, em, rfl⟩ := map_at hi
      have hm := hlt m (List.mem_of_getElem? em)
      have el := List.getElem?_eq_getElem hm
      refine ⟨_, mem_of rfl, g_name, ?_⟩
      repeat walk_at "d"
      apply ro_ixT (atI_map el)
      refine ⟨?_, ?_⟩
      · have h1 := List.length_filterMap_le (lot[·]?) (p.take i)
        rw [List.length_take] at h1
        rw [List.length_map]
        omega
      · show _ = _
        rw [take_at em, List.filterMap_append, List.map_append]
        simp [el]
    · rintro acc rfl
      rw [List.length_map, List.take_length]
      repeat walk_at "d"
      refine ⟨rs, p.filterMap (lot[·]?), _, r, rfl, .inr rfl, fun n h => ?_, ?_⟩
      · obtain ⟨m, _, e⟩ := List.mem_filterMap.mp h
        exact hn n (List.mem_of_getElem? e)
      cases hs : sharpB rs (p.filterMap (lot[·]?)) r with
      | true =>
        repeat walk_at "d"
        exact q
      | false =>
        repeat walk_at "d"
        refine ⟨fun p' hp' => ?_, _, rfl⟩
        rw [take_at ep] at hp'
        rcases List.mem_append.mp hp' with h | h
        · exact hno p' h
        · rw [List.mem_singleton.mp h, hs]
          exact Bool.false_ne_true
  · rintro ρ' ⟨hno, x, rfl⟩
    obtain ⟨p, hp, hs⟩ := hy
    rw [List.length_map, List.take_length] at hno
    exact absurd hs (hno p hp)
theorem cc__law_yielded (W : Wf P w K mg base) : Fnc P w K mg base 3 "_law_yielded" (spD K fun ds k _ => S__law_yielded ds k) := W.fnc in__law_yielded (fun _ => rfl) (j := 67) rfl (ok__law_yielded W)
def S__law_rests : List D → (D → Prop) → Prop := fun ds k => ∃ (rs : List Rw) (ss : List MStep), ds = [.tup (ss.map stepD)] ∧ Der rs ss ∧ k (.tup ((restM ss).map tupN))
theorem ok__law_rests (W : Wf P w K mg base) : FnR P w K mg base (L2.CX P w) 1 (d__law_rests.at_ K) (spD K fun ds k _ => S__law_rests ds k) := by
  refine W.fnD in__law_rests sc__law_rests (fun fd F => F.bindsN fun _ _ _ _ _ _ us hl => match us, hl with | [_], _ => rfl) (fun ds k h => by first | (obtain ⟨rfl, _⟩ := h; rfl) | (obtain ⟨_, rfl, _⟩ := h; rfl) | (obtain ⟨_, _, rfl, _⟩ := h; rfl) | (obtain ⟨_, _, _, rfl, _⟩ := h; rfl) | (obtain ⟨_, _, _, _, rfl, _⟩ := h; rfl) | (obtain ⟨_, _, _, _, _, rfl, _⟩ := h; rfl) | (obtain ⟨_, _, _, _, _, _, rfl, _⟩ := h; rfl) | (obtain ⟨_, _, _, _, _, _, _, rfl, _⟩ := h; rfl) | (obtain ⟨_, _, _, _, _, _, _, _, rfl, _⟩ := h; rfl) | (obtain ⟨_, _, _, _, _, _, _, _, _, rfl, _⟩ := h; rfl)) fun cdv A outer s H E hR F ds kk hF h => ?_
  subst hF
  obtain ⟨rs, ss, rfl, dr, q⟩ := h
  refine ⟨_, (pss_cons (ps_set (i := 1) sc__law_rests.nd rfl (Or.inl rfl) (pe_lst pa_nil))
  (pss_cons (ps_for PassesOwn.never rfl (pi_seqK (K := F.K) rfl (pv 0)) (pg_name (i := 2) sc__law_rests.nd rfl (Or.inl rfl))
  (pss_one (ps_if (pt_cmpR (op_eqX hR.units : OpR _ _ (rEqX F.K)) (pe_fld (pv 2) rfl) pe_str (nomark _))
  (pss_one (ps_expr (pe_bm PySem.F.plainAttrs_list PySem.F.slot_list_append PySem.F.type_list_append mt_append (pv 1) (pa_cons (pe_tup (pa_cons (pe_ix (ix_seq : IxR _ (rIx F.K)) (pe_fld (pv 2) rfl) pe_int (fun _ _ => rfl)) pa_nil)) pa_nil))))
  (pss_cons (ps_set (i := 3) sc__law_rests.nd rfl (Or.inr rfl) (pe_lst pa_nil))
  (pss_cons (ps_for PassesOwn.never rfl (pi_seqK (K := F.K) rfl (pe_fld (pv 2) rfl)) (pg_name (i := 4) sc__law_rests.nd rfl (Or.inl rfl))
  (pss_one (ps_set (i := 3) sc__law_rests.nd rfl (Or.inr rfl) (pe_op (op_addX : OpR _ _ (rAddX F.K)) (pv 3) (pe_lc (own := [("_law_number", 5)]) (by rfl) sc__law_rests.nd (pi_seqK (K := F.K) rfl (pe_ix (ix_seq : IxR _ (rIx F.K)) (pv 1) (pv 4) (fun _ _ => rfl))) (blkOk_by (N := n__law_rests) (sc := defScope s__law_rests) (own := [("_law_number", 5)]) (by decide +kernel)) (fun _ _ _ _ _ => (pg_name (i := 5) sc__law_rests.nd rfl (Or.inl rfl))) (fun _ _ _ _ _ => (pts_one (pt_cmpR (op_ninX : OpR _ _ (rNiX F.K)) (pv 5) (pv 3) (by rfl)))) (fun _ _ _ _ _ => (pv 5)))))))
  (pss_one (ps_expr (pe_bm PySem.F.plainAttrs_list PySem.F.slot_list_append PySem.F.type_list_append mt_append (pv 1) (pa_cons (pe_callTy call_tuple_of rfl (W.free 6 _ rfl) (by decide +kernel) (pa_cons (pe_callB cr_sorted rfl (W.free 17 _ rfl) (by decide +kernel) (pa_cons (pv 3) pa_nil)) pa_nil)) pa_nil)))))))))
  (pss_one (ps_ret (pe_callTy call_tuple_of rfl (W.free 6 _ rfl) (by decide +kernel) (pa_cons (pv 1) pa_nil)))))), ?_⟩
  try dsimp only [Xof, cxOf, Cx.nox, Cx.wish, Cx.blk]
  repeat walk_at "o"
  apply s_for
  apply ei_seq
  repeat walk_at "d"
  refine ⟨_, .inr rfl, fun i ρ => ∃ x y z, ρ = [.val (.tup (ss.map stepD)), .own ((restM (ss.take i)).map tupN), x, y, z, .un], ⟨_, _, _, rfl⟩, ?_, ?_⟩
  · rintro i d ρ' hi ⟨x, y, z, rfl⟩
    obtain ⟨s', es, rfl⟩ := map_at hi
    refine ⟨_, g_name, ?_⟩
    repeat walk_at "d"
    have hi' := (List.getElem?_eq_some_iff.mp es).1
    have hw := dr.why i s' es
    have hlots := dr.lots i (Nat.le_of_lt hi')
    have hln : (restM (ss.take i)).length = i := by rw [restM_len, List.length_take]; omega
    have hsl := dr.sl
    by_cases hg : s'.rule = "given"
    · rw [decide_eq_true hg]
      obtain ⟨n, e1, e2⟩ := hw.giv hg
      have : restM (ss.take (i + 1)) = restM (ss.take i) ++ [[n]] := by
        rw [restM_take es]
        unfold restStep
        rw [if_pos hg, e1]
        rfl
      repeat walk_at "d"
      rw [List.length_map, hln]
      omega
      repeat walk_at "d"
      rw [e1]
      repeat walk_at "d"
      rw [this, List.map_append]
      exact ⟨_, _, _, rfl⟩
    · rw [decide_eq_false hg]
      obtain ⟨e1, e2⟩ := hw.oth hg
      have : restM (ss.take (i + 1)) = restM (ss.take i) ++ [uni (s'.lines.map fun i' => (restM (ss.take i)).getD i' [])] := by
        rw [restM_take es]
        unfold restStep
        rw [if_neg hg]
      have hat : ∀ l ∈ s'.lines, (restM (ss.take i))[l]? = some ((restM (ss.take i)).getD l []) := fun l hl => getD_at (by rw [hln]; exact e2 l hl)
      have hlo : ∀ l ∈ s'.lines, LotOk ((restM (ss.take i)).getD l []) := fun l hl => hlots _ (List.mem_of_getElem? (hat l hl))
      have hfl : (s'.lines.flatMap fun l => (restM (ss.take i)).getD l []).length ≤ 24 := flat2 e1 fun l hl => (hlo l hl).len
      generalize restM (ss.take i) = found at *
      repeat walk_at "d"
      apply s_for
      apply ei_seq
      repeat walk_at "d"
      refine ⟨_, .inr rfl, fun j ρ => ∃ ns z, ρ = [.val (.tup (ss.map stepD)), .own (found.map tupN), .val (stepD s'), .val (lN ns), z, .un] ∧ ns.Nodup ∧ (∀ n, n ∈ ns ↔ n ∈ (s'.lines.take j).flatMap fun l => found.getD l []) ∧ ns.length ≤ ((s'.lines.take j).flatMap fun l => found.getD l []).length, ⟨[], _, rfl, List.nodup_nil, fun n => Iff.rfl, Nat.le_refl _⟩, ?_, ?_⟩
      · rintro j d ρ' hj ⟨ns, z, rfl, hnd, hmem, hnl⟩
        obtain ⟨l, el, rfl⟩ := map_at hj
        have hm := List.mem_of_getElem? el
        have hh : ((s'.lines.take j).flatMap fun l => found.getD l []).length + (found.getD l []).length ≤ (s'.lines.flatMap fun l => found.getD l []).length := flat_len (f := fun l => found.getD l []) el
        have hall := flat_take (f := fun l => found.getD l []) el
        have hlk := hlo l hm
        refine ⟨_, g_name, ?_⟩
        repeat walk_at "d"
        apply EvN.ev
        apply en_lc (un_of rfl)
        apply ei_seq
        repeat walk_at "d"
        refine ⟨_, _, rfl, atI_map (hat l hm), _, .inr rfl, fun j1 acc => acc = (((found.getD l []).take j1).filter fun n => !decide (n ∈ ns)).map nD, rfl, ?_, ?_⟩
        · rintro j1 d acc hj1 rfl
          obtain ⟨n, en, rfl⟩ := map_at hj1
          refine ⟨_, mem_of rfl, g_name, ?_⟩
          repeat walk_at "d"
          apply ro_niN
          have hf := filt_take (p := fun n => !decide (n ∈ ns)) en
          by_cases hin : n ∈ ns
          · rw [decide_eq_true hin] at hf ⊢
            repeat walk_at "d"
            rw [hf, if_neg (by decide)]
          · rw [decide_eq_false hin] at hf ⊢
            repeat walk_at "d"
            refine ⟨?_, ?_⟩
            · have h1 := List.length_filter_le (fun n => !decide (n ∈ ns)) ((found.getD l []).take j1)
              rw [List.length_take] at h1
              have h2 : (found.getD l []).length ≤ 12 := hlk.len
              rw [List.length_map]
              omega
            · rw [hf, if_pos (by decide), List.map_append (l₂ := [n])]
              rfl
        · rintro acc rfl
          rw [List.length_map, List.take_length]
          have h1 := List.length_filter_le (fun n => !decide (n ∈ ns)) (found.getD l [])
          repeat walk_at "d"
          apply ro_cat2
          · omega
          refine ⟨_, _, rfl, ?_, ?_, ?_⟩
          · refine List.nodup_append.mpr ⟨hnd, (hlk.asc.imp fun z => Nat.ne_of_lt z).filter _, fun a ha b hb e => ?_⟩
            subst e
            have := (List.mem_filter.mp hb).2
            rw [decide_eq_true ha] at this
            exact absurd this (by decide)
          · intro n
            rw [hall, List.mem_append, List.mem_append, hmem, List.mem_filter]
            by_cases hin : n ∈ ns
            · have := (hmem n).mp hin
              exact ⟨fun _ => .inl this, fun _ => .inl this⟩
            · rw [decide_eq_false hin]
              exact ⟨fun h => h.elim .inl fun h => .inr h.1, fun h => h.elim .inl fun h => .inr ⟨h, rfl⟩⟩
          · rw [hall, List.length_append, List.length_append]
            omega
      · rintro ρ' ⟨ns, z, rfl, hnd, hmem, hnl⟩
        rw [List.length_map, List.take_length] at hmem hnl
        repeat walk_at "d"
        rw [List.length_map, hln]
        omega
        repeat walk_at "d"
        apply rc_sortedN (ns := ns) (by omega)
        intro ms h1 h2
        have hn2 : (ns.map fun n : Nat => (n : Int)).Nodup := List.pairwise_map.mpr (hnd.imp fun hne he => hne (Int.ofNat.inj he))
        have h3 : ms.Pairwise (· < ·) := (h1.and (h2.nodup_iff.mpr hn2)).imp fun ⟨a, b⟩ => by omega
        have e9 := uni_of (fun l hl => (hlo l hl).lt) h3 fun z => by
          rw [h2.mem_iff, List.mem_map, List.mem_map]
          exact ⟨fun ⟨n, h, e⟩ => ⟨n, (hmem n).mp h, e⟩, fun ⟨n, h, e⟩ => ⟨n, (hmem n).mpr h, e⟩⟩
        rw [e9]
        repeat walk_at "d"
        refine ⟨_, .inl rfl, ?_⟩
        rw [this, List.map_append]
        exact ⟨_, _, _, rfl⟩
  · rintro ρ' ⟨x, y, z, rfl⟩
    rw [List.length_map, List.take_length]
    with_reducible apply so_freeze 1
    rfl
    repeat walk_at "d"
    refine ⟨_, .inl rfl, ?_⟩
    exact q
theorem cc__law_rests (W : Wf P w K mg base) : Fnc P w K mg base 1 "_law_rests" (spD K fun ds k _ => S__law_rests ds k) := W.fnc in__law_rests (fun _ => rfl) (j := 66) rfl (ok__law_rests W)
end
end K33
namespace K33
open PySem PySem.Spec PyProof.Rows L2
theorem Why.cnt {rs : List Rw} {ss : List MStep} {i : Nat} {s : MStep} (h : Why rs ss i s) : ∃ j : Nat, cntl[j]? = some (s.rule, (s.lines.length : Int)) := by
  cases h with
  | given => exact ⟨0, rfl⟩
  | itself => exact ⟨1, rfl⟩
  | weaker => exact ⟨2, rfl⟩
  | joined => exact ⟨3, rfl⟩
  | cautious => exact ⟨4, rfl⟩
theorem Why.row {rs : List Rw} {ss : List MStep} {i n : Nat} {s : MStep} (h : Why rs ss i s) (e : s.rule = "given") (el : s.lines = [n]) : ∃ r, rs[n]? = some r ∧ r.u = true := by
  cases h with
  | given m w t r h1 h2 =>
    cases el
    exact ⟨r, h1, h2⟩
  | itself => exact absurd e (show ("itself" : PySem.Str) ≠ "given" by decide)
  | weaker => exact absurd e (show ("weaker" : PySem.Str) ≠ "given" by decide)
  | joined => exact absurd e (show ("joined" : PySem.Str) ≠ "given" by decide)
  | cautious => exact absurd e (show ("cautious" : PySem.Str) ≠ "given" by decide)
theorem cnt_val {j : Nat} {z : PySem.Str} {n : Int} (h : cntl[j]? = some (z, n)) : valV (mergeK [] (kvsOf cntl)) (Sum.inr z : Key) = some (.int n) := by
  match j, h with
  | 0, h => cases h; rfl
  | 1, h => cases h; rfl
  | 2, h => cases h; rfl
  | 3, h => cases h; rfl
  | 4, h => cases h; rfl
theorem ev_lcF {F : Fm} {ρ : List Sl} {k : D → Prop} {wi : TI} {tt : TT} {te : TE} {ls : List Nat} {j : Nat} (hu : ρ[j]? = some .un) (h : EvI F wi ρ fun ds => ds = ls.map nD) (hy : ∀ l ∈ ls, EvT F tt (putE ρ [(j, nD l)]) fun b => b = false)
    (q : k (.lst [])) : EvD F (tLc wi (gName j) tt te [j]) ρ k := by
  apply EvN.ev
  apply en_lc (fun i hi => by rw [List.mem_singleton.mp hi]; exact hu)
  refine h.imp fun ds e => ?_
  subst e
  refine ⟨fun i acc => acc = [], rfl, ?_, ?_⟩
  · rintro i d acc hi rfl
    obtain ⟨l, el, rfl⟩ := map_at hi
    refine ⟨[(j, nD l)], fun a ha => by rw [List.mem_singleton.mp ha]; exact List.mem_singleton.mpr rfl, g_name, (hy l (List.mem_of_getElem? el)).imp fun b eb => ?_⟩
    subst eb
    exact iteF rfl
  · rintro acc rfl
    exact q
theorem et_notcallO {F : Fm} {ρ : List Sl} {kb : Bool → Prop} {S : List D → Wish} {E : XK} {ta : TE} {t : TA} {i : Nat} {ds : List D} (h : ρ[i]? = some (.own ds)) (g : EvT F (tNot (tB (tCl (spD F.K S) E (tCons ta (tCons (tVar i) t))))) (ρ.set i (.val (.lst ds))) kb) : EvT F (tNot (tB (tCl (spD F.K S) E (tCons ta (tCons (tVar i) t))))) ρ kb := et_freeze i h g
section
variable {P : Program} {w : World} {K : PySem.W.Frag} {mg : PySem.Str → Option Value} {base : Heap}
local macro_rules | `(tactic| walk_at "d0") => `(tactic| first
  | ((with_reducible apply ev_var); rfl)
  | with_reducible apply ev_int
  | with_reducible apply ev_bl
  | with_reducible apply ev_str
  | with_reducible apply ev_non
  | with_reducible apply s_seq
  | with_reducible apply s_ret
  | with_reducible apply s_asg
  | with_reducible apply s_next
  | ((with_reducible apply s_app); rfl)
  | with_reducible apply s_drop
  | ((with_reducible apply src_0); rfl; intro _)
  | ((with_reducible apply src_1); rfl; intro _ _ _)
  | ((with_reducible apply src_2); rfl; intro _)
  | ((with_reducible apply s_setSrc0); rfl)
  | ((with_reducible apply s_setSrc2); rfl)
  | ((with_reducible apply ev_callS); rfl)
  | ((with_reducible apply ev_opO); rfl)
  | ((with_reducible apply ev_ixO); rfl)
  | with_reducible apply ev_op
  | with_reducible apply ev_un
  | with_reducible apply et_test
  | with_reducible apply et_B
  | with_reducible apply et_truI
  | with_reducible apply et_and
  | with_reducible apply et_or
  | with_reducible apply et_not
  | with_reducible apply ea_nil
  | with_reducible apply ea_cons
  | with_reducible apply ro_nd_n
  | with_reducible apply ro_and_n
  | with_reducible apply ro_or_n
  | with_reducible apply ro_shr_n
  | with_reducible apply ro_eq_0
  | with_reducible apply ro_ne_0
  | with_reducible apply ro_eq_n
  | with_reducible apply ro_ne_n
  | with_reducible apply ro_add_n
  | with_reducible apply ro_add_1
  | with_reducible apply ro_I0
  | with_reducible apply ro_B0
  | with_reducible apply ro_un
  | ((with_reducible apply ro_isN); rfl)
  | ((with_reducible apply ro_notN); rfl)
  | with_reducible apply ro_eq_t0
  | with_reducible apply ro_ne_lt0
  | with_reducible apply ro_ne_l0
  | with_reducible apply ro_ne_tt
  | with_reducible apply ro_eq_tt
  | with_reducible apply ro_ne_t
  | with_reducible apply ro_eq_i
  | with_reducible apply ro_ne_i
  | with_reducible apply ro_eq_s
  | with_reducible apply ro_add
  | ((with_reducible apply ro_ixT); rfl)
  | ((with_reducible apply ro_ixL); rfl)
  | with_reducible apply ev_list
  | with_reducible apply ev_tuple
  | with_reducible apply ev_sortset
  | with_reducible apply ev_isLT
  | ((with_reducible apply ev_cbO); rfl)
  | with_reducible apply ev_cb
  | with_reducible apply ev_call
  | ((with_reducible apply ev_fldM); rfl; exact Wf.kc2 (by assumption) (by decide +kernel); rfl)
  | with_reducible apply ev_fld
  | with_reducible apply ev_and
  | with_reducible apply ev_or
  | with_reducible apply ev_notV
  | with_reducible apply ev_if
  | with_reducible apply ev_chain
  | with_reducible apply ev_tup
  | with_reducible apply ev_lst
  | with_reducible apply ev_make
  | ((with_reducible apply ev_cm0); exact exok0)
  | ((with_reducible apply ev_cm); exact exok0)
  | ((with_reducible apply ev_meth0); exact exok0)
  | ((with_reducible apply ev_meth); exact exok0)
  | ((with_reducible apply ro_subO); exact exok0)
  | ((with_reducible apply ro_addO); exact exok0)
  | ((with_reducible apply rc_lenO); exact exok0)
  | ((with_reducible apply ev_prop); exact exok0)
  | with_reducible apply rc_int
  | with_reducible apply rc_lenL
  | with_reducible apply rc_lenT
  | ((with_reducible apply rc_is_int); (exact rfl))
  | ((with_reducible apply rc_is_bl); (exact rfl))
  | ((with_reducible apply rc_is_str); (exact rfl))
  | ((with_reducible apply rc_is_tup); (exact rfl))
  | ((with_reducible apply s_fldM); rfl; exact Wf.kc2 (by assumption) (by decide +kernel); decide; rfl)
  | with_reducible apply et_yes
  | with_reducible apply ev_rawc
  | ((with_reducible apply ev_src); rfl)
  | ((with_reducible refine ⟨len_ok ?_, ?_⟩); rfl)
  | with_reducible refine ⟨rfl, ?_⟩
  | with_reducible refine ⟨⟨_, rfl⟩, ?_⟩
  | with_reducible refine ⟨_, rfl, ?_⟩
  | refine ⟨_, _, rfl, rfl, ?_⟩
  | refine ⟨_, _, _, _, rfl, Wf.kc2 (by assumption) (by decide +kernel), rfl, ?_⟩
  | ((with_reducible apply iteTr); rfl)
  | ((with_reducible apply iteFr); rfl)
  | dsimp only)
local macro_rules | `(tactic| walk_at "d") => `(tactic| first
  | walk_at "d0"
  | with_reducible apply s_if)
local macro_rules | `(tactic| walk_at "o") => `(tactic| first
  | ((with_reducible apply so_retO); rfl)
  | ((with_reducible apply et_notcallO); rfl)
  | ((with_reducible apply s_asgO); (with_reducible apply en_lst); (with_reducible apply ea_nil); refine ⟨len_ok rfl, ?_⟩)
  | walk_at "d")

local macro_rules | `(tactic| walk_at "x") => `(tactic| first
  | ((with_reducible apply ev_callX); assumption)
  | walk_at "o")
def S__law_first_wrong : List D → (D → Prop) → Prop := fun ds k => ∃ (rs : List Rw) (ss : List MStep), ds = [.lst (rs.map rowD), .tup (ss.map stepD)] ∧ Der rs ss ∧ k .non
theorem ok__law_first_wrong (W : Wf P w K mg base) : FnR P w K mg base (L2.CX P w) 2 (d__law_first_wrong.at_ K) (spD K fun ds k _ => S__law_first_wrong ds k) := by
  have c__law_follows := cc__law_follows W
  refine W.fnD in__law_first_wrong sc__law_first_wrong (fun fd F => F.bindsN fun _ _ _ _ _ _ us hl => match us, hl with | [_, _], _ => rfl) (fun ds k h => by first | (obtain ⟨rfl, _⟩ := h; rfl) | (obtain ⟨_, rfl, _⟩ := h; rfl) | (obtain ⟨_, _, rfl, _⟩ := h; rfl) | (obtain ⟨_, _, _, rfl, _⟩ := h; rfl) | (obtain ⟨_, _, _, _, rfl, _⟩ := h; rfl) | (obtain ⟨_, _, _, _, _, rfl, _⟩ := h; rfl) | (obtain ⟨_, _, _, _, _, _, rfl, _⟩ := h; rfl) | (obtain ⟨_, _, _, _, _, _, _, rfl, _⟩ := h; rfl) | (obtain ⟨_, _, _, _, _, _, _, _, rfl, _⟩ := h; rfl) | (obtain ⟨_, _, _, _, _, _, _, _, _, rfl, _⟩ := h; rfl)) fun cdv A outer s H E hR F ds kk hF h => ?_
  subst hF
  obtain ⟨rs, ss, rfl, dr, q⟩ := h
  refine ⟨_, (pss_cons (ps_par (i := 2) (j := 3) (by rfl) sc__law_first_wrong.nd rfl rfl (by decide) rfl rfl (pa_cons (pe_lst pa_nil) (pa_cons (pe_disp (pps_cons pe_str pe_int (pps_cons pe_str pe_int (pps_cons pe_str pe_int (pps_cons pe_str pe_int (pps_cons pe_str pe_int pps_nil))))) (by rfl) (by rfl) (fun z => by cases z) (by decide)) pa_nil)) (by rfl))
  (pss_cons (ps_for PassesOwn.never rfl (pi_enumX (by rfl) (W.free 9 _ rfl) (pa_cons (pv 1) pa_nil)) (pg_tupK (K := F.K) (n := 2) rfl (by rfl) (pgs_cons (pg_name (i := 4) sc__law_first_wrong.nd rfl (Or.inl rfl)) (pgs_cons (pg_name (i := 5) sc__law_first_wrong.nd rfl (Or.inl rfl)) pgs_nil)))
  (pss_cons (ps_expr (pe_bm PySem.F.plainAttrs_list PySem.F.slot_list_append PySem.F.type_list_append mt_append (pv 2) (pa_cons (pe_tup (pa_cons (pe_fld (pv 5) rfl) (pa_cons (pe_fld (pv 5) rfl) (pa_cons (pe_fld (pe_fld (pv 5) rfl) rfl) (pa_cons (pe_op op_and (pe_fld (pe_fld (pv 5) rfl) rfl) (pe_fld (pe_fld (pv 5) rfl) rfl)) pa_nil))))) pa_nil)))
  (pss_cons (ps_if (pt_cmp (pc_dnotin (hu_of hR) (pe_fld (pv 5) rfl) (pv 3)))
  (pss_one (ps_ret (pe_tup (pa_cons (pv 4) (pa_cons pe_str pa_nil)))))
  pss_nil)
  (pss_cons (ps_if (pt_cmpR (op_neX hR.units : OpR _ _ (rNeX F.K)) (pe_callB (cr_lenX : CallR _ _ (rLenX F.K)) rfl (W.free 0 _ rfl) boot_len (pa_cons (pe_fld (pv 5) rfl) pa_nil)) (pe_dget (hu_of hR) (pv 3) (pe_fld (pv 5) rfl) (fun _ _ => rfl)) (nomark _))
  (pss_one (ps_ret (pe_tup (pa_cons (pv 4) (pa_cons pe_str pa_nil)))))
  pss_nil)
  (pss_cons (ps_set (i := 6) sc__law_first_wrong.nd rfl (Or.inr rfl) (pe_ifExp (pt_cmpR (op_eqX hR.units : OpR _ _ (rEqX F.K)) (pe_fld (pv 5) rfl) pe_str (nomark _)) (pe_callB (cr_lenX : CallR _ _ (rLenX F.K)) rfl (W.free 0 _ rfl) boot_len (pa_cons (pv 0) pa_nil)) (pv 4)))
  (pss_cons (ps_if (pt_cmpR op_gt (pe_callB (cr_lenX : CallR _ _ (rLenX F.K)) rfl (W.free 0 _ rfl) boot_len (pa_cons (pe_lc (own := [("_law_line", 7)]) (by rfl) sc__law_first_wrong.nd (pi_seqK (K := F.K) rfl (pe_fld (pv 5) rfl)) (blkOk_by (N := n__law_first_wrong) (sc := defScope s__law_first_wrong) (own := [("_law_line", 7)]) (by decide +kernel)) (fun _ _ _ _ _ => (pg_name (i := 7) sc__law_first_wrong.nd rfl (Or.inl rfl))) (fun _ _ _ _ _ => (pts_one (pt_not (pt_chain op_le op_lt pe_int (pv 7) (pv 6))))) (fun _ _ _ _ _ => (pv 7))) pa_nil)) pe_int (nomark _))
  (pss_one (ps_ret (pe_tup (pa_cons (pv 4) (pa_cons pe_str pa_nil)))))
  pss_nil)
  (pss_cons (ps_if (PW.pt (pw_and (pt_cmpR (op_eqX hR.units : OpR _ _ (rEqX F.K)) (pe_fld (pv 5) rfl) pe_str (nomark _)) (pw_and1 (pt_not (pt_val (pe_ix (ix_seq : IxR _ (rIx F.K)) (pe_ix (ix_seq : IxR _ (rIx F.K)) (pv 0) (pe_ix (ix_seq : IxR _ (rIx F.K)) (pe_fld (pv 5) rfl) pe_int (fun _ _ => rfl)) (fun _ _ => rfl)) pe_int (fun _ _ => rfl)))))))
  (pss_one (ps_ret (pe_tup (pa_cons (pv 4) (pa_cons pe_str pa_nil)))))
  pss_nil)
  (pss_cons (ps_if (pt_not (pt_val (pe_fld (pe_fld (pv 5) rfl) rfl)))
  (pss_one (ps_ret (pe_tup (pa_cons (pv 4) (pa_cons pe_str pa_nil)))))
  pss_nil)
  (pss_one (ps_if (pt_not (pt_val (pe_f c__law_follows hR (by decide) rfl passL (pa_cons (pv 0) (pa_cons (pv 2) (pa_cons (pv 4) pa_nil))))))
  (pss_one (ps_ret (pe_tup (pa_cons (pv 4) (pa_cons pe_str pa_nil)))))
  pss_nil))))))))))
  (pss_one (ps_ret pe_non)))), ?_⟩
  try dsimp only [Xof, cxOf, Cx.nox, Cx.wish, Cx.blk]
  repeat walk_at "d"
  apply s_parO1
  apply ev_disp (kvs := cntl) (by decide)
  repeat walk_at "d"
  apply s_for
  apply ei_enum
  repeat walk_at "d"
  refine ⟨_, .inr rfl, fun i ρ => ∃ x y z, ρ = [.val (.lst (rs.map rowD)), .val (.tup (ss.map stepD)), .own ((ss.take i).map plainD), .val (.dk (mergeK [] (kvsOf cntl))), x, y, z, .un], ⟨_, _, _, rfl⟩, ?_, ?_⟩
  · rintro i d ρ' hi ⟨x, y, z, rfl⟩
    obtain ⟨x, e, rfl⟩ := enumD_at hi
    obtain ⟨s', es, rfl⟩ := map_at e
    have hi' := (List.getElem?_eq_some_iff.mp es).1
    have hw := dr.why i s' es
    have hsl := dr.sl
    obtain ⟨j, hC⟩ := hw.cnt
    have hv := cnt_val hC
    refine ⟨_, g_tup rfl (gs_cons g_name (gs_cons g_name gs_nil)), ?_⟩
    repeat walk_at "d"
    · rw [List.length_map, List.length_take]
      omega
    repeat walk_at "d"
    apply ev_dnotin
    repeat walk_at "d"
    refine ⟨_, _, true, ⟨rfl, rfl⟩, by rw [hv]; rfl, ?_⟩
    repeat walk_at "d"
    apply ev_dget
    repeat walk_at "d"
    refine ⟨_, _, _, rfl, rfl, hv, ?_⟩
    rw [List.length_map]
    repeat walk_at "d"
    rw [decide_eq_true rfl]
    repeat walk_at "d"
    by_cases hg : s'.rule = "given"
    · obtain ⟨n, e1, e2⟩ := hw.giv hg
      obtain ⟨r, er, eu⟩ := hw.row hg e1
      have hall : ∀ l ∈ s'.lines, l < rs.length := fun l hl => by
        rw [e1] at hl
        rw [List.mem_singleton.mp hl]
        exact e2
      rw [decide_eq_true hg]
      repeat walk_at "d"
      rw [List.length_map]
      apply ev_lcF (ls := s'.lines) rfl
      · apply ei_seq
        repeat walk_at "d"
        exact ⟨_, .inr rfl, rfl⟩
      · intro l hl
        have hlt := hall l hl
        repeat walk_at "d"
        rw [decide_eq_true (show (l : Int) < (rs.length : Int) by omega)]
        rfl
      repeat walk_at "d"
      rw [decide_eq_true hg]
      repeat walk_at "d"
      rw [e1]
      repeat walk_at "d"
      apply ro_ixL (atI_map er)
      repeat walk_at "d"
      rw [eu, ← e1]
      repeat walk_at "o"
      refine ⟨rs, ss, i, s', ?_, es, hw, ?_⟩
      · rw [take_at es, List.map_append]
        rfl
      repeat walk_at "d"
      rw [take_at es, List.map_append]
      exact ⟨_, _, _, rfl⟩
    · obtain ⟨e1, e2⟩ := hw.oth hg
      rw [decide_eq_false hg]
      refine iteF ?_
      repeat walk_at "d"
      apply ev_lcF (ls := s'.lines) rfl
      · apply ei_seq
        repeat walk_at "d"
        exact ⟨_, .inr rfl, rfl⟩
      · intro l hl
        have hlt := e2 l hl
        repeat walk_at "d"
        rw [decide_eq_true (show (l : Int) < (i : Int) by omega)]
        rfl
      repeat walk_at "d"
      rw [decide_eq_false hg]
      repeat walk_at "o"
      refine ⟨rs, ss, i, s', ?_, es, hw, ?_⟩
      · rw [take_at es, List.map_append]
        rfl
      repeat walk_at "d"
      rw [take_at es, List.map_append]
      exact ⟨_, _, _, rfl⟩
  · rintro ρ' ⟨x, y, z, rfl⟩
    repeat walk_at "d"
    exact q
theorem cc__law_first_wrong (W : Wf P w K mg base) : Fnc P w K mg base 2 "_law_first_wrong" (spD K fun ds k _ => S__law_first_wrong ds k) := W.fnc in__law_first_wrong (fun _ => rfl) (j := 65) rfl (ok__law_first_wrong W)
end
end K33
namespace K33
open PySem PySem.Spec PyProof.Rows L2
/-- right steps over the rows rs for r -/
structure DerOf (rs : List Rw) (r : Rw) (ss : List MStep) : Prop where
  der : Der rs ss
  last : ∃ s : MStep, ss[ss.length - 1]? = some s ∧ s.w = r.w ∧ s.r.cf = r.cf
/-- all that the law asks of a lot and a saying that rests on it -/
structure SoundAt (rs : List Rw) (lot : List Nat) (r : Rw) : Prop where
  lt : ∀ n ∈ lot, n < rs.length
  len : lot.length ≤ 6
  yl : yields rs lot r
  kept : ∀ l : List Nat, (pick rs lot).all (keptB l) = true → keptB l r = true
  doubt : ∀ ns : List Nat, WOk ns → (doubtN ns r).1 * (sumN ns (pick rs lot)).2 ≤ (sumN ns (pick rs lot)).1 * (doubtN ns r).2
theorem ite_mid {F : Fm} {ρ : List Sl} {k : D → Prop} {c : Bool} {A B : TE} (M : D → Prop) (h : if c = true then EvD F A ρ M else EvD F B ρ M) (g : ∀ d, M d → k d) : if c = true then EvD F A ρ k else EvD F B ρ k := by
  cases c with
  | true => exact iteT ((show EvD F A ρ M from h).imp g)
  | false => exact iteF ((show EvD F B ρ M from h).imp g)
section
variable {P : Program} {w : World} {K : PySem.W.Frag} {mg : PySem.Str → Option Value} {base : Heap}
local macro_rules | `(tactic| walk_at "d0") => `(tactic| first
  | ((with_reducible apply ev_var); rfl)
  | with_reducible apply ev_int
  | with_reducible apply ev_bl
  | with_reducible apply ev_str
  | with_reducible apply ev_non
  | with_reducible apply s_seq
  | with_reducible apply s_ret
  | with_reducible apply s_asg
  | with_reducible apply s_next
  | ((with_reducible apply s_app); rfl)
  | with_reducible apply s_drop
  | ((with_reducible apply src_0); rfl; intro _)
  | ((with_reducible apply src_1); rfl; intro _ _ _)
  | ((with_reducible apply src_2); rfl; intro _)
  | ((with_reducible apply s_setSrc0); rfl)
  | ((with_reducible apply s_setSrc2); rfl)
  | ((with_reducible apply ev_callS); rfl)
  | ((with_reducible apply ev_opO); rfl)
  | ((with_reducible apply ev_ixO); rfl)
  | with_reducible apply ev_op
  | with_reducible apply ev_un
  | with_reducible apply et_test
  | with_reducible apply et_B
  | with_reducible apply et_truI
  | with_reducible apply et_and
  | with_reducible apply et_or
  | with_reducible apply et_not
  | with_reducible apply ea_nil
  | with_reducible apply ea_cons
  | with_reducible apply ro_nd_n
  | with_reducible apply ro_and_n
  | with_reducible apply ro_or_n
  | with_reducible apply ro_shr_n
  | with_reducible apply ro_eq_0
  | with_reducible apply ro_ne_0
  | with_reducible apply ro_eq_n
  | with_reducible apply ro_ne_n
  | with_reducible apply ro_add_n
  | with_reducible apply ro_add_1
  | with_reducible apply ro_I0
  | with_reducible apply ro_B0
  | with_reducible apply ro_un
  | ((with_reducible apply ro_isN); rfl)
  | ((with_reducible apply ro_notN); rfl)
  | with_reducible apply ro_eq_t0
  | with_reducible apply ro_ne_lt0
  | with_reducible apply ro_ne_l0
  | with_reducible apply ro_ne_tt
  | with_reducible apply ro_eq_tt
  | with_reducible apply ro_ne_t
  | with_reducible apply ro_eq_i
  | with_reducible apply ro_ne_i
  | with_reducible apply ro_eq_s
  | with_reducible apply ro_add
  | ((with_reducible apply ro_ixT); rfl)
  | ((with_reducible apply ro_ixL); rfl)
  | with_reducible apply ev_list
  | with_reducible apply ev_tuple
  | with_reducible apply ev_sortset
  | with_reducible apply ev_isLT
  | ((with_reducible apply ev_cbO); rfl)
  | with_reducible apply ev_cb
  | with_reducible apply ev_call
  | ((with_reducible apply ev_fldM); rfl; exact Wf.kc2 (by assumption) (by decide +kernel); rfl)
  | with_reducible apply ev_fld
  | with_reducible apply ev_and
  | with_reducible apply ev_or
  | with_reducible apply ev_notV
  | with_reducible apply ev_if
  | with_reducible apply ev_chain
  | with_reducible apply ev_tup
  | with_reducible apply ev_lst
  | with_reducible apply ev_make
  | ((with_reducible apply ev_cm0); exact exok0)
  | ((with_reducible apply ev_cm); exact exok0)
  | ((with_reducible apply ev_meth0); exact exok0)
  | ((with_reducible apply ev_meth); exact exok0)
  | ((with_reducible apply ro_subO); exact exok0)
  | ((with_reducible apply ro_addO); exact exok0)
  | ((with_reducible apply rc_lenO); exact exok0)
  | ((with_reducible apply ev_prop); exact exok0)
  | with_reducible apply rc_int
  | with_reducible apply rc_lenL
  | with_reducible apply rc_lenT
  | ((with_reducible apply rc_is_int); (exact rfl))
  | ((with_reducible apply rc_is_bl); (exact rfl))
  | ((with_reducible apply rc_is_str); (exact rfl))
  | ((with_reducible apply rc_is_tup); (exact rfl))
  | ((with_reducible apply s_fldM); rfl; exact Wf.kc2 (by assumption) (by decide +kernel); decide; rfl)
  | with_reducible apply et_yes
  | with_reducible apply ev_rawc
  | ((with_reducible apply ev_src); rfl)
  | ((with_reducible refine ⟨len_ok ?_, ?_⟩); rfl)
  | with_reducible refine ⟨rfl, ?_⟩
  | with_reducible refine ⟨⟨_, rfl⟩, ?_⟩
  | with_reducible refine ⟨_, rfl, ?_⟩
  | refine ⟨_, _, rfl, rfl, ?_⟩
  | refine ⟨_, _, _, _, rfl, Wf.kc2 (by assumption) (by decide +kernel), rfl, ?_⟩
  | ((with_reducible apply iteTr); rfl)
  | ((with_reducible apply iteFr); rfl)
  | dsimp only)
local macro_rules | `(tactic| walk_at "d") => `(tactic| first
  | walk_at "d0"
  | with_reducible apply s_if)
local macro_rules | `(tactic| walk_at "o") => `(tactic| first
  | ((with_reducible apply so_retO); rfl)
  | ((with_reducible apply et_notcallO); rfl)
  | ((with_reducible apply s_asgO); (with_reducible apply en_lst); (with_reducible apply ea_nil); refine ⟨len_ok rfl, ?_⟩)
  | walk_at "d")

local macro_rules | `(tactic| walk_at "x") => `(tactic| first
  | ((with_reducible apply ev_callX); assumption)
  | walk_at "o")
def S__law_right : List D → (D → Prop) → Prop := fun ds k => ∃ (b : Bk) (r : Rw) (ss : List MStep), ds = [.lst (b.rows.map rowD), bookD b, rowD r, .tup (ss.map stepD)] ∧ DerOf b.rows r ss ∧ k (.bl true)
theorem ok__law_right (W : Wf P w K mg base) : FnR P w K mg base (L2.CX P w) 8 (d__law_right.at_ K) (spD K fun ds k _ => S__law_right ds k) := by
  have c__law_shape := cc__law_shape W
  have c__law_first_wrong := cc__law_first_wrong W
  have c_derivation_fault := cc_derivation_fault W
  have c_resting := cc_resting W
  have c__law_rests := cc__law_rests W
  refine W.fnD in__law_right sc__law_right (fun fd F => F.bindsN fun _ _ _ _ _ _ us hl => match us, hl with | [_, _, _, _], _ => rfl) (fun ds k h => by first | (obtain ⟨rfl, _⟩ := h; rfl) | (obtain ⟨_, rfl, _⟩ := h; rfl) | (obtain ⟨_, _, rfl, _⟩ := h; rfl) | (obtain ⟨_, _, _, rfl, _⟩ := h; rfl) | (obtain ⟨_, _, _, _, rfl, _⟩ := h; rfl) | (obtain ⟨_, _, _, _, _, rfl, _⟩ := h; rfl) | (obtain ⟨_, _, _, _, _, _, rfl, _⟩ := h; rfl) | (obtain ⟨_, _, _, _, _, _, _, rfl, _⟩ := h; rfl) | (obtain ⟨_, _, _, _, _, _, _, _, rfl, _⟩ := h; rfl) | (obtain ⟨_, _, _, _, _, _, _, _, _, rfl, _⟩ := h; rfl)) fun cdv A outer s H E hR F ds kk hF h => ?_
  subst hF
  obtain ⟨b, r, ss, rfl, ⟨dr, s', es, h1, h2⟩, q⟩ := h
  refine ⟨_, (pss_cons (ps_if (PW.pt (pw_or (pt_not (pt_val (pe_f c__law_shape hR (by decide) rfl passL (pa_cons (pv 3) pa_nil)))) (pw_or1 (pt_cmpR op_notN (pe_f c__law_first_wrong hR (by decide) rfl passL (pa_cons (pv 0) (pa_cons (pv 3) pa_nil))) pe_non (nomark _)))))
  (pss_one (ps_ret pe_bl))
  pss_nil)
  (pss_cons (ps_set (i := 4) sc__law_right.nd rfl (Or.inl rfl) (pe_fld (pe_ix (ix_seq : IxR _ (rIx F.K)) (pv 3) (pe_op op_sub (pe_callB (cr_lenX : CallR _ _ (rLenX F.K)) rfl (W.free 0 _ rfl) boot_len (pa_cons (pv 3) pa_nil)) pe_int) (fun _ _ => rfl)) rfl))
  (pss_cons (ps_if (PW.pt (pw_or (pt_cmpR (op_neX hR.units : OpR _ _ (rNeX F.K)) (pe_fld (pv 4) rfl) (pe_ix (ix_seq : IxR _ (rIx F.K)) (pv 2) pe_int (fun _ _ => rfl)) (nomark _)) (pw_or1 (pt_cmpR (op_neX hR.units : OpR _ _ (rNeX F.K)) (pe_fld (pv 4) rfl) (pe_op op_and (pe_ix (ix_seq : IxR _ (rIx F.K)) (pv 2) pe_int (fun _ _ => rfl)) (pe_ix (ix_seq : IxR _ (rIx F.K)) (pv 2) pe_int (fun _ _ => rfl))) (nomark _)))))
  (pss_one (ps_ret pe_bl))
  pss_nil)
  (pss_one (ps_ret (pe_and (pe_cmpR op_isN (pe_f c_derivation_fault hR (by decide) rfl passL (pa_cons (pv 1) (pa_cons (pv 3) pa_nil))) pe_non (nomark _)) (pe_one (pe_cmpR (op_eqX hR.units : OpR _ _ (rEqX F.K)) (pe_f c_resting hR (by decide) rfl passL (pa_cons (pv 3) pa_nil)) (pe_f c__law_rests hR (by decide) rfl passL (pa_cons (pv 3) pa_nil)) (nomark _))))))))), ?_⟩
  try dsimp only [Xof, cxOf, Cx.nox, Cx.wish, Cx.blk]
  have hl := (List.getElem?_eq_some_iff.mp es).1
  have hsl := dr.sl
  repeat walk_at "d"
  refine ⟨ss, rfl, by omega, hsl, ?_⟩
  repeat walk_at "d"
  refine ⟨b.rows, ss, rfl, dr, ?_⟩
  repeat walk_at "d"
  rw [List.length_map]
  apply ro_ixT (d := stepD s')
  · rw [show (ss.length : Int) - 1 = ((ss.length - 1 : Nat) : Int) by omega]
    exact atI_map es
  repeat walk_at "d"
  rw [decide_eq_true h1]
  repeat walk_at "d"
  rw [decide_eq_true (show Rw.cf ⟨s'.w, s'.t, true⟩ = r.w &&& r.t from h2)]
  repeat walk_at "d"
  refine ⟨b, ss, rfl, dr, ?_⟩
  repeat walk_at "d"
  refine ⟨b.rows, ss, rfl, dr, ?_⟩
  repeat walk_at "d"
  refine ⟨b.rows, ss, rfl, dr, ?_⟩
  repeat walk_at "d"
  rw [decide_eq_true rfl]
  exact q
theorem cc__law_right (W : Wf P w K mg base) : Fnc P w K mg base 8 "_law_right" (spD K fun ds k _ => S__law_right ds k) := W.fnc in__law_right (fun _ => rfl) (j := 70) rfl (ok__law_right W)
def S__law_sound : List D → (D → Prop) → Prop := fun ds k => ∃ (days : Nat) (rs : List Rw) (ss : List MStep) (ls : List (List Nat)), ds = [nD days, .lst (rs.map rowD), .tup (ss.map stepD), .tup (ls.map tupN)] ∧ 1 ≤ days ∧ days ≤ 16 ∧ (days < 8 → days ≤ 4) ∧ ss.length = ls.length ∧
  (∀ (i : Nat) (s : MStep) (l : List Nat), ss[i]? = some s → ls[i]? = some l → SoundAt rs l s.r) ∧ k (.bl true)
theorem ok__law_sound (W : Wf P w K mg base) : FnR P w K mg base (L2.CX P w) 4 (d__law_sound.at_ K) (spS K S__law_sound) := by
  have c__law_drawn_weights := cc__law_drawn_weights W
  have c__law_all_levels := cc__law_all_levels W
  have c__law_yielded := cc__law_yielded W
  have c__law_keeps := cc__law_keeps W
  have c__law_doubt := cc__law_doubt W
  have c__law_sum_of := cc__law_sum_of W
  have c__law_kept := cc__law_kept W
  refine W.fnS in__law_sound sc__law_sound (fun fd F => F.bindsN fun _ _ _ _ _ _ us hl => match us, hl with | [_, _, _, _, _], _ => rfl) (fun ds k h => by first | (obtain ⟨rfl, _⟩ := h; rfl) | (obtain ⟨_, rfl, _⟩ := h; rfl) | (obtain ⟨_, _, rfl, _⟩ := h; rfl) | (obtain ⟨_, _, _, rfl, _⟩ := h; rfl) | (obtain ⟨_, _, _, _, rfl, _⟩ := h; rfl) | (obtain ⟨_, _, _, _, _, rfl, _⟩ := h; rfl) | (obtain ⟨_, _, _, _, _, _, rfl, _⟩ := h; rfl) | (obtain ⟨_, _, _, _, _, _, _, rfl, _⟩ := h; rfl) | (obtain ⟨_, _, _, _, _, _, _, _, rfl, _⟩ := h; rfl) | (obtain ⟨_, _, _, _, _, _, _, _, _, rfl, _⟩ := h; rfl)) fun cdv A outer s H E hR F sa ds kk hF hsa h => ?_
  subst hF
  obtain ⟨days, rs, ss, ls, rfl, h1, h16, h8, hlen, hs, q⟩ := h
  refine ⟨_, (pss_cons (ps_setLc (i := 5) (own := [("_law_turn", 15)]) (by rfl) sc__law_sound.nd rfl rfl (sw_true rfl rfl rfl (by decide +kernel)) (pi_range1 rfl (W.free 8 _ rfl) (pa_cons pe_int pa_nil)) (blkOk_by (N := n__law_sound) (sc := defScope s__law_sound) (own := [("_law_turn", 15)]) (by decide +kernel)) (fun _ _ _ _ _ => (pg_name (i := 15) sc__law_sound.nd rfl (Or.inl rfl))) (fun _ _ _ _ _ => pts_nil) (fun _ _ _ _ _ => (pe_f c__law_drawn_weights hR (by decide) rfl passL (pa_cons (pv 0) (pa_cons (pv 1) pa_nil)))))
  (pss_cons (ps_set (i := 6) sc__law_sound.nd rfl (Or.inl rfl) (pe_ifExp (pt_cmpR op_lt (pv 1) pe_int (nomark _)) (pe_f c__law_all_levels hR (by decide) rfl passL (pa_cons (pv 1) pa_nil)) (pe_lst pa_nil)))
  (pss_cons (ps_for PassesOwn.never rfl (RZ.pi_zipA (by rfl) (W.free 10 _ rfl) (pa_cons (pv 3) (pa_cons (pv 4) pa_nil))) (pg_tupK (K := F.K) (n := 2) rfl (by rfl) (pgs_cons (pg_name (i := 7) sc__law_sound.nd rfl (Or.inl rfl)) (pgs_cons (pg_name (i := 8) sc__law_sound.nd rfl (Or.inl rfl)) pgs_nil)))
  (pss_cons (ps_par (i := 9) (j := 10) (by rfl) sc__law_sound.nd rfl rfl (by decide) rfl rfl (pa_cons (pe_tup (pa_cons (pe_fld (pe_fld (pv 7) rfl) rfl) (pa_cons (pe_fld (pe_fld (pv 7) rfl) rfl) (pa_cons pe_bl pa_nil)))) (pa_cons (pe_lc (own := [("_law_k", 16)]) (by rfl) sc__law_sound.nd (pi_seqK (K := F.K) rfl (pv 8)) (blkOk_by (N := n__law_sound) (sc := defScope s__law_sound) (own := [("_law_k", 16)]) (by decide +kernel)) (fun _ _ _ _ _ => (pg_name (i := 16) sc__law_sound.nd rfl (Or.inl rfl))) (fun _ _ _ _ _ => pts_nil) (fun _ _ _ _ _ => (pe_ix (ix_seq : IxR _ (rIx F.K)) (pv 2) (pv 16) (fun _ _ => rfl)))) pa_nil)) (by rfl))
  (pss_cons (ps_for PassesOwn.never rfl (pi_seqK (K := F.K) rfl (pv 6)) (pg_name (i := 11) sc__law_sound.nd rfl (Or.inl rfl))
  (pss_one (ps_if (PW.pt (pw_and (pt_not (pt_val (pe_f c__law_kept hR (by decide) rfl passL (pa_cons (pv 11) (pa_cons (pv 9) pa_nil))))) (pw_and1 (pt_val (pe_f c__law_keeps hR (by decide) rfl passL (pa_cons (pv 11) (pa_cons (pv 10) pa_nil)))))))
  (pss_one (ps_ret pe_bl))
  pss_nil)))
  (pss_cons (ps_if (pt_not (pt_val (pe_f c__law_yielded hR (by decide) rfl passL (pa_cons (pv 2) (pa_cons (pv 8) (pa_cons (pv 9) pa_nil))))))
  (pss_one (ps_ret pe_bl))
  pss_nil)
  (pss_one (ps_for PassesOwn.never rfl (pi_seqK (K := F.K) rfl (pv 5)) (pg_name (i := 12) sc__law_sound.nd rfl (Or.inl rfl))
  (pss_cons (ps_par (i := 13) (j := 14) (by rfl) sc__law_sound.nd rfl rfl (by decide) rfl rfl (pa_cons (pe_f c__law_doubt hR (by decide) rfl passL (pa_cons (pv 12) (pa_cons (pv 9) pa_nil))) (pa_cons (pe_f c__law_sum_of hR (by decide) rfl passL (pa_cons (pv 12) (pa_cons (pv 2) (pa_cons (pv 8) pa_nil)))) pa_nil)) (by rfl))
  (pss_one (ps_if (pt_cmpR op_gt (pe_op op_mulX2 (pe_ix (ix_seq : IxR _ (rIx F.K)) (pv 13) pe_int (fun _ _ => rfl)) (pe_ix (ix_seq : IxR _ (rIx F.K)) (pv 14) pe_int (fun _ _ => rfl))) (pe_op op_mulX2 (pe_ix (ix_seq : IxR _ (rIx F.K)) (pv 14) pe_int (fun _ _ => rfl)) (pe_ix (ix_seq : IxR _ (rIx F.K)) (pv 13) pe_int (fun _ _ => rfl))) (nomark _))
  (pss_one (ps_ret pe_bl))
  pss_nil)))))))))
  (pss_one (ps_ret pe_bl))))), ?_⟩
  try dsimp only [Xof, cxOf, Cx.nox, Cx.wish, Cx.blk]
  repeat walk_at "d"
  apply EvN.ev
  apply en_lc (un_of rfl)
  apply ei_rng1
  repeat walk_at "d"
  refine ⟨by omega, fun i acc => ∃ ws : List (List Nat), acc = ws.map lN ∧ ws.length = i ∧ ∀ ns ∈ ws, WOk ns, ⟨[], rfl, rfl, fun ns h => by cases h⟩, ?_, ?_⟩
  · rintro i d acc hi ⟨ws, rfl, hwl, hw⟩
    refine ⟨_, mem_of rfl, g_name, ?_⟩
    repeat walk_at "d"
    refine ⟨days, rfl, h1, h16, fun ns hn => ?_⟩
    repeat walk_at "d"
    refine ⟨?_, ws ++ [ns], ?_, ?_, fun x hx => ?_⟩
    · have := (List.getElem?_eq_some_iff.mp hi).1
      rw [List.length_map, hwl]
      rw [show (intsD 2).length = 2 from rfl] at this
      omega
    · rw [List.map_append]
      rfl
    · rw [List.length_append, hwl]
      rfl
    · rcases List.mem_append.mp hx with h | h
      · exact hw x h
      · rw [List.mem_singleton.mp h]
        exact hn
  · rintro acc ⟨ws, rfl, hwl, hw⟩
    repeat walk_at "d"
    refine ite_mid (fun d => ∃ os : List (List Nat), d = .lst (os.map lN)) ?_ ?_
    · by_cases hd : (days : Int) < 8
      · rw [decide_eq_true hd]
        repeat walk_at "d"
        refine ⟨days, rfl, h8 (by omega), fun os => ⟨os, rfl⟩⟩
      · rw [decide_eq_false hd]
        refine iteF ?_
        repeat walk_at "d"
        exact ⟨[], rfl⟩
    rintro d ⟨os, rfl⟩
    repeat walk_at "d"
    apply s_for
    apply ei_zip
    repeat walk_at "d"
    refine ⟨_, _, rfl, by rw [List.length_map, List.length_map]; exact hlen, ?_⟩
    refine ⟨fun i ρ => ∃ x7 x8 x9 x10 x11 x12 x13 x14, ρ = [.src sa, .val (nD days), .val (.lst (rs.map rowD)), .val (.tup (ss.map stepD)), .val (.tup (ls.map tupN)), .val (.lst (ws.map lN)), .val (.lst (os.map lN)), x7, x8, x9, x10, x11, x12, x13, x14, .un, .un], ⟨_, _, _, _, _, _, _, _, rfl⟩, ?_, ?_⟩
    · rintro i d ρ' hi ⟨x7, x8, x9, x10, x11, x12, x13, x14, rfl⟩
      obtain ⟨x, y, e1, e2, rfl⟩ := zipD_at hi
      obtain ⟨s', es, rfl⟩ := map_at e1
      obtain ⟨lot, el, rfl⟩ := map_at e2
      obtain ⟨a1, a2, a3, a4, a5⟩ := hs i s' lot es el
      refine ⟨_, g_tup rfl (gs_cons g_name (gs_cons g_name gs_nil)), ?_⟩
      repeat walk_at "d"
      apply s_par
      repeat walk_at "d"
      apply EvN.ev
      apply en_lc (un_of rfl)
      apply ei_seq
      repeat walk_at "d"
      refine ⟨_, .inr rfl, fun j acc => acc = (pick rs (lot.take j)).map rowD, rfl, ?_, ?_⟩
      · rintro j d acc hj rfl
        obtain ⟨n, en, rfl⟩ := map_at hj
        have hlt := a1 n (List.mem_of_getElem? en)
        have er := List.getElem?_eq_getElem hlt
        refine ⟨_, mem_of rfl, g_name, ?_⟩
        repeat walk_at "d"
        apply ro_ixL (atI_map er)
        refine ⟨?_, ?_⟩
        · have h1 := List.length_filterMap_le (rs[·]?) (lot.take j)
          rw [List.length_take] at h1
          rw [List.length_map]
          unfold pick
          omega
        · show _ = _
          rw [show pick rs (lot.take (j + 1)) = pick rs (lot.take j) ++ [rs[n]] from fm_take (f := (rs[·]?)) en er, List.map_append]
          rfl
      rintro acc rfl
      rw [List.length_map, List.take_length]
      repeat walk_at "d"
      refine ⟨_, _, rfl, ?_⟩
      repeat walk_at "d"
      apply s_for
      apply ei_seq
      repeat walk_at "d"
      refine ⟨_, .inl rfl, fun i ρ => ∃ x11 x12 x13 x14, ρ = [.src sa, .val (nD days), .val (.lst (rs.map rowD)), .val (.tup (ss.map stepD)), .val (.tup (ls.map tupN)), .val (.lst (ws.map lN)), .val (.lst (os.map lN)), .val (stepD s'), .val (tupN lot), .val (rowD s'.r), .val (.lst ((pick rs lot).map rowD)), x11, x12, x13, x14, .un, .un], ⟨_, _, _, _, rfl⟩, ?_, ?_⟩
      · rintro j d ρ' hj ⟨x11, x12, x13, x14, rfl⟩
        obtain ⟨l, el, rfl⟩ := map_at hj
        refine ⟨_, g_name, ?_⟩
        repeat walk_at "d"
        refine ⟨l, s'.r, rfl, ?_⟩
        cases hk : keptB l s'.r with
        | true =>
          repeat walk_at "d"
          exact ⟨_, _, _, _, rfl⟩
        | false =>
          repeat walk_at "d"
          refine ⟨l, pick rs lot, rfl, ?_⟩
          cases hk2 : (pick rs lot).all (keptB l) with
          | true =>
            rw [a4 l hk2] at hk
            cases hk
          | false =>
            repeat walk_at "d"
            exact ⟨_, _, _, _, rfl⟩
      rintro ρ' ⟨x11, x12, x13, x14, rfl⟩
      repeat walk_at "d"
      refine ⟨rs, lot, s'.r, rfl, a2, a1, a3, ?_⟩
      repeat walk_at "d"
      apply s_for
      apply ei_seq
      repeat walk_at "d"
      refine ⟨_, .inl rfl, fun i ρ => ∃ x11 x12 x13 x14, ρ = [.src sa, .val (nD days), .val (.lst (rs.map rowD)), .val (.tup (ss.map stepD)), .val (.tup (ls.map tupN)), .val (.lst (ws.map lN)), .val (.lst (os.map lN)), .val (stepD s'), .val (tupN lot), .val (rowD s'.r), .val (.lst ((pick rs lot).map rowD)), x11, x12, x13, x14, .un, .un], ⟨_, _, _, _, rfl⟩, ?_, ?_⟩
      · rintro j d ρ' hj ⟨x11, x12, x13, x14, rfl⟩
        obtain ⟨ns, en, rfl⟩ := map_at hj
        have hwo := hw ns (List.mem_of_getElem? en)
        have hdl := doubt_lt (r := s'.r) hwo
        have hpl : (pick rs lot).length ≤ 12 := by
          have h1 := List.length_filterMap_le (rs[·]?) lot
          unfold pick
          omega
        have hb := sum_lt hwo (pick rs lot)
        have hmo : 2 ^ (66 * (pick rs lot).length + 1) ≤ 2 ^ 1000 := Nat.pow_le_pow_right (by decide) (by omega)
        have hle := a5 ns hwo
        refine ⟨_, g_name, ?_⟩
        repeat walk_at "d"
        apply s_par
        repeat walk_at "d"
        refine ⟨ns, s'.r, rfl, hwo, ?_⟩
        repeat walk_at "d"
        refine ⟨ns, rs, lot, rfl, hwo, by omega, a1, ?_⟩
        repeat walk_at "d"
        refine ⟨_, _, rfl, ?_⟩
        repeat walk_at "d"
        apply ro_mul (mul_n (a := 64) (b := 1000) hdl.1 (by omega) (by decide) (by decide) (by decide))
        repeat walk_at "d"
        apply ro_mul (mul_n (a := 1000) (b := 64) (by omega) hdl.2 (by decide) (by decide) (by decide))
        repeat walk_at "d"
        rw [decide_eq_false (show ¬ ((sumN ns (pick rs lot)).1 : Int) * ((doubtN ns s'.r).2 : Int) < ((doubtN ns s'.r).1 : Int) * ((sumN ns (pick rs lot)).2 : Int) by rw [cast_mul, cast_mul]; omega)]
        repeat walk_at "d"
        exact ⟨_, _, _, _, rfl⟩
      rintro ρ' ⟨x11, x12, x13, x14, rfl⟩
      exact ⟨_, _, _, _, _, _, _, _, rfl⟩
    · rintro ρ' ⟨x7, x8, x9, x10, x11, x12, x13, x14, rfl⟩
      repeat walk_at "d"
      exact q
theorem cc__law_sound (W : Wf P w K mg base) : Fnc P w K mg base 4 "_law_sound" (spS K S__law_sound) := W.fnc in__law_sound (fun _ => rfl) (j := 68) rfl (ok__law_sound W)
end
end K33
namespace K33
open PySem PySem.Spec PyProof.Rows L2
section
variable {X : Cx}
theorem endN0 {pins : List (Addr × Obj)} {σ : L2.St} {H1 H2 : Hp} {hp hp2 h2 : Heap} {g1 g2 : Array GenState} {d1 d2 : Drawn} {t1 t2 : Nat} {os1 os2 : OsState} {a C : Addr} (I1 : Inv X pins σ H1 ⟨hp, g1, d1, t1, os1⟩)
    (ha : hp.objs.size ≤ a) (k : ∀ b o, hp.get? b = some o → hp2.get? b = some o) (un : Un (frs X.stack) [] (upd H1 a (exo a C none)) H2 hp2 h2) (hok : HOk X.prog X.w H2 h2) (ho : os2 = os1) (hb : AllBare g2) (ea : H2 a = some (exo a C none)) :
    ∃ (t0 : Addr) (G : Heap), Inv X pins σ (del H2 a) ⟨G, g2, d2, t2, os2⟩ ∧ (∀ b o, G.get? b = some o → h2.get? b = some o) ∧ G.get? a = none ∧
      h2.get? a = some ({ cls := .ref C, dict := none, data := .fields #[.ref t0, .none, .none, .none, .bool false, .none] } : Obj) := by
  obtain ⟨t0, hoe⟩ := exo_at hok ea
  have hn : H1 a = none := I1.hok.fresh ha
  obtain ⟨G, r1, r2⟩ := restrict h2 fun b => decide (b ≠ a)
  have gk : ∀ b, b ≠ a → G.get? b = h2.get? b := fun b hb => r1 b (decide_eq_true hb)
  have ge : G.get? a = none := r2 a (by simp)
  have old : ∀ {b : Addr} {o : Obj}, hp.get? b = some o → b ≠ a := fun {b o} z => Nat.ne_of_lt (Nat.lt_of_lt_of_le (Heap.lt_size z) ha)
  have up : ∀ {b : Addr} {o : Obj}, hp.get? b = some o → H1 b = none → upd H1 a (exo a C none) b = none := fun z n => by rw [upd_ne (old z)]; exact n
  have ups : ∀ {b : Addr} {u : HO}, H1 b = some u → upd H1 a (exo a C none) b = some u := fun z => by rw [upd_ne (ne_of_none z hn)]; exact z
  have U : Un (frs X.stack) [] H1 (del H2 a) hp G := {
    keep := fun b o z n hf hx => by rw [gk b (old z)]; exact un.keep b o (k b o z) (up z n) hf hx
    slot := fun b o z n hf hx => by rw [gk b (old z)]; exact un.slot b o (k b o z) (up z n) hf hx
    free := fun b o z n hx => by rw [del_ne (old z)]; exact un.free b o (k b o z) (up z n) hx
    there := fun b o z hx => by rw [gk b (old z)]; exact un.there b o (k b o z) hx
    tups := fun b xs z => by rw [del_ne (ne_of_none z hn)]; exact un.tups b xs (ups z)
    frzs := fun b o v z => by rw [del_ne (ne_of_none z hn)]; exact un.frzs b o v (ups z)
    tbls := fun b ps z => by rw [del_ne (ne_of_none z hn)]; exact un.tbls b ps (ups z) }
  have hok3 : HOk X.prog X.w (del H2 a) G := fun b o z => by
    have hba : b ≠ a := fun e => by
      rw [e, del_same] at z
      cases z
    rw [del_ne hba] at z
    have noa : ∀ {c : Addr}, H2 c = some (.own b) → c ≠ a := fun {c} hc => at_ne ea hc exo_own
    refine (hok b o z).stay (fun c v hc y => ?_) (fun c hc => by rw [del_ne (noa hc)]; exact hc) (fun c xs hc => by rw [del_ne (at_ne ea hc exo_tup)]; exact hc)
    have hca : c ≠ a := by
      rcases hc with hc | hc
      · rw [hc]
        exact hba
      · exact noa hc
    rw [gk c hca]
    exact y
  refine ⟨t0, G, I1.call' (ch := []) ho U hok3 hb (fun b z => absurd z (by simp)), fun b o z => ?_, ge, hoe⟩
  by_cases hba : b = a
  · rw [hba, ge] at z
    cases z
  · exact (gk b hba).symm.trans z
/-- C(), C's own __init__ keeping sp -/
def tMkN (C : Addr) (sp : Sp) (t : TA) : L2.St → Hp → XK → Prop := fun σ H Q => t σ H fun vs H1 => vs.length ≤ 1000 ∧ ∀ a, H1 a = none → sp (.ref a :: vs) (upd H1 a (exo a C none))
  (fun v H2 => v = .non ∧ H2 a = some (exo a C none) ∧ Q (.ref C) none (del H2 a)) (fun _ _ _ => False)
variable {k j : Nat} {x : Str} {sp : Sp} {p : Pos}
theorem mkN_run {pins : List (Addr × Obj)} {σ : L2.St} {H : Hp} {s : Shared} {Q : XK} {us : List Value} {vs : List V} (c : Err X.prog X.w X.K X.mg X.base k x sp) (hr : Room j X.A) (hk : k + 1 ≤ j) (I : Inv X pins σ H s) (r : Vals vs us) (hz : vs.length ≤ 1000)
    (q : ∀ a, H a = none → sp (.ref a :: vs) (upd H a (exo a (He.ga X.K x) none)) (fun v H2 => v = .non ∧ H2 a = some (exo a (He.ga X.K x) none) ∧ Q (.ref (He.ga X.K x)) none (del H2 a)) (fun _ _ _ => False)) :
    wpAny (model X.prog X.w) X.A (call (.ref (He.ga X.K x)) us) (MkP X pins σ Q) X.xe s := by
  obtain ⟨nm, qn, N, bs, bm, sn, sub, ab, col, dd, k0, k1, k2, k3, k5, hC, hbm⟩ := c.oc.cls
  obtain ⟨hp, g, dr, tk, os⟩ := s
  have hsz : hp.objs.size ≤ hp.objs.size + 1 := Nat.le_succ _
  have hn : H (hp.objs.size + 1) = none := I.hok.fresh hsz
  have kk : ∀ b o, hp.get? b = some o → ((hp.push (PySem.W.kdv_tup us)).push (PySem.HandSPX.excO (He.ga X.K x) hp.objs.size)).get? b = some o := fun b o e => Heap.get?_push_of_some _ (Heap.get?_push_of_some _ e)
  have hget : ((hp.push (PySem.W.kdv_tup us)).push (PySem.HandSPX.excO (He.ga X.K x) hp.objs.size)).get? (hp.objs.size + 1) = some (PySem.HandSPX.excO (He.ga X.K x) hp.objs.size) := by heap_get
  have I2 : Inv X pins σ (upd H (hp.objs.size + 1) (exo (hp.objs.size + 1) (He.ga X.K x) none)) ⟨(hp.push (PySem.W.kdv_tup us)).push (PySem.HandSPX.excO (He.ga X.K x) hp.objs.size), g, dr, tk, os⟩ :=
    I.laid (t' := tk) kk hsz (exo_ok hget)
  have hus : us.length ≤ sizeLine := by
    rw [← Paired.length r, sizeLine_eq]
    omega
  refine wpAny_call (PySem.HandSPX.call_own F.excBase_ValueError (fun Y => PySem.HandSPX.refsVE_contains Y bm hbm) (I.kIn _ _ hC) (PySem.W.looks_findIn I.kIn c.ini) (fun self => PySem.W.bind_fn I.kIn self c.ty) hus
    (codeAny_mono (c.run _ X.stack _ _ (Value.ref (hp.objs.size + 1) :: us) (V.ref (hp.objs.size + 1) :: vs) _ (fun _ _ _ => False) ((hr.mono hk).make (He.ga X.K x) us []) (I2.env0.make (He.ga X.K x) us []) (.cons rfl r) (q _ hn)) fun z s' hq => ?_))
  match z, hq with
  | .error er, hq =>
    obtain ⟨_, _, _, _, _, _, _, _, _, _, _, _, y⟩ := hq
    exact y.elim
  | .ok (.ret u), hq =>
    obtain ⟨v, H2, os2, bare2, un2, hok2, rv, ev, ea, q2⟩ := hq
    subst ev
    obtain ⟨h2, g2, d2, t2, os'⟩ := s'
    obtain ⟨t0, G, J, kG, ge, hoe⟩ := endN0 (d2 := d2) (t2 := t2) I hsz kk un2 hok2 os2 bare2 ea
    exact ⟨rv, ⟨_, _, _, ⟨G, g2, d2, t2, os'⟩, _, .ref (He.ga X.K x), none, rfl, J, kG, ge, hoe, ⟨rfl, rfl⟩, rfl, rfl, del_same, rfl, bare2, raises_own c.oc.exC c.oc.tyC, q2⟩⟩
theorem pmk_n0 (c : Err X.prog X.w X.K X.mg X.base k x sp) (hr : Room j X.A) (hk : k + 1 ≤ j) (hg : Gl X x) (hdb : (x == ("__debug__" : Str)) = false := by decide) :
    PMk X (.Call (.Name x p) [] [] pos) (tMkN (He.ga X.K x) sp tNil) := by
  intro pins s σ H Q I h
  obtain ⟨hz, q⟩ := h
  exact wpAny_Call_Name_kw (ld_glob I hg c.mg (PySem.W.callWith_K0 I.kIn c.oc.kC (mkN_run (us := []) c hr hk I .nil hz q)) hdb)
end
end K33
namespace K33
open PySem PySem.Spec PyProof.Rows L2
def spO (K : PySem.W.Frag) : Sp := fun vs H Q _ => ∃ a C : Addr, vs = [.ref a] ∧ OexC K C ∧ H a = some (exo a C none) ∧ Q .non H
section
variable {P : Program} {w : World} {K : PySem.W.Frag} {mg : PySem.Str → Option Value} {base : Heap}
theorem ok_OtherDays__init__ (W : Wf P w K mg base) : FnR P w K mg base (L2.CX P w) 1 (d_OtherDays__init__.at_ K) (spO K) := by
  obtain ⟨fd, Fn⟩ := W.fn _ _ in_OtherDays__init__
  obtain ⟨mc, hD⟩ := W.dei
  have G := Fn.ok (P := P) (w := w) (mg := mg) (base := base) (CX := L2.CX P w) (k := 0) (sp := spO K) sc_OtherDays__init__ (fun vs H Q E h => by
    obtain ⟨a, C, rfl, _⟩ := h
    rfl) fun cdv A outer s H vs Q E hr h => by
      obtain ⟨a, C, rfl, hC, ha, q⟩ := h
      refine ⟨_, (pss_one (ps_expr (pe_deinit (pe_glob (v := .ref (He.ga K "DaysError")) rfl (W.glo 35 _ rfl) rfl) hD (pa_cons (pv 0) (pa_cons pe_str pa_nil))))), ?_⟩
      exact ⟨rfl, _, rfl, a, C, _, rfl, by decide, hC, ha, q⟩
  have G2 := G.raw (Fn.bindsN fun _ _ _ _ _ _ us hl => match us, hl with | [_], _ => rfl) .nil
  exact G2.imp fun vs H Q E h => by
    rw [List.append_nil]
    exact h
def spNN (K : PySem.W.Frag) : Sp := fun vs H Q _ => ∃ (a C : Addr) (v : V), vs = [.ref a, v] ∧ OexC K C ∧ PySem.W.findIn K (.ref C) "number" = some none ∧ H a = some (exo a C none) ∧
  ∀ dx, H dx = none → dx ≠ a → Q .non (upd (upd H dx (exd dx [("number", v)])) a (exo a C (some dx)))
theorem ok_NeedNot__init__ (W : Wf P w K mg base) : FnR P w K mg base (L2.CX P w) 1 (d_NeedNot__init__.at_ K) (spNN K) := by
  obtain ⟨fd, Fn⟩ := W.fn _ _ in_NeedNot__init__
  obtain ⟨mc, hD⟩ := W.dei
  have G := Fn.ok (P := P) (w := w) (mg := mg) (base := base) (CX := L2.CX P w) (k := 0) (sp := spNN K) sc_NeedNot__init__ (fun vs H Q E h => by
    obtain ⟨a, C, v, rfl, _⟩ := h
    rfl) fun cdv A outer s H vs Q E hr h => by
      obtain ⟨a, C, v, rfl, hC, hno, ha, q⟩ := h
      refine ⟨_, (pss_cons (ps_expr (pe_deinit (pe_glob (v := .ref (He.ga K "DaysError")) rfl (W.glo 35 _ rfl) rfl) hD (pa_cons (pv 0) (pa_cons pe_str pa_nil)))) (pss_one (ps_ost (pv 0) (pv 1)))), ?_⟩
      exact ⟨rfl, _, rfl, a, C, _, rfl, by decide, hC, ha, _, rfl, _, rfl, a, C, rfl, hC, hno, .inl ⟨ha, fun dx h1 h2 => q dx h1 h2⟩⟩
  have G2 := G.raw (Fn.bindsN fun _ _ _ _ _ _ us hl => match us, hl with | [_, _], _ => rfl) .nil
  exact G2.imp fun vs H Q E h => by
    rw [List.append_nil]
    exact h
theorem err_O (W : Wf P w K mg base) : Err P w K mg base 1 "OtherDays" (spO K) :=
  have e := W.err 0 _ rfl
  ⟨ok_OtherDays__init__ W, e.oex, e.ini, e.ty, W.glo 36 _ rfl⟩
theorem err_N (W : Wf P w K mg base) : Err P w K mg base 1 "NeedNot" (spNN K) :=
  have e := W.err 1 _ rfl
  ⟨ok_NeedNot__init__ W, e.oex, e.ini, e.ty, W.glo 37 _ rfl⟩
variable {F : Fm} {ρ : List Sl} {N : List Sl → Prop} {R : D → Prop} {X : Exn → Prop} {E : XK}
theorem del_upd {H : Hp} {a : Addr} {o : HO} (h : H a = none) : del (upd H a o) a = H := by
  funext b
  by_cases hb : b = a
  · rw [hb, del_same, h]
  · rw [del_ne hb, upd_ne hb]
theorem s_raiseO (W : Wf P w F.K mg base) (hE : ExOk F X E) (h : X (.mk "OtherDays" none)) : SOk F (fun _ σ H => tMkN (He.ga F.K "OtherDays") (spO F.K) tNil σ H fun cls d H' => E cls d H') ρ N R := fun B H σ E0 En hn hr =>
  ⟨by decide, fun a ha => ⟨a, _, rfl, (W.err 0 _ rfl).oex, upd_same, rfl, upd_same, by
    rw [del_upd ha]
    exact hE _ _ _ B H h E0.bs ⟨rfl, rfl⟩⟩⟩
theorem s_raiseN (W : Wf P w F.K mg base) {t : TA} (hE : ExOk F X E) (h : EvA F t ρ fun ds => ∃ d, ds = [d] ∧ X (.mk "NeedNot" (some d))) : SOk F (fun _ σ H => tMkX (He.ga F.K "NeedNot") (spNN F.K) t σ H fun cls d H' => E cls d H') ρ N R := fun B H σ E0 En hn hr =>
  h B H σ E0 _ fun ds vs B1 H1 ⟨d, ed, hx⟩ S1 r1 => by
    subst ed
    obtain ⟨v, r, rfl, r2, r3⟩ := r1
    cases r3
    refine ⟨show 1 ≤ 1000 by decide, fun a ha => ⟨a, _, v, rfl, (W.err 1 _ rfl).oex, (W.err 1 _ rfl).nonum, upd_same, fun dx h1 h2 => ?_⟩⟩
    have hdx : H1 dx = none := by rwa [upd_ne h2] at h1
    refine ⟨rfl, dx, [("number", v)], upd_same, by rw [upd_ne h2]; exact upd_same, hdx, ?_⟩
    have e : upd (del (upd (upd (upd H1 a (exo a (He.ga F.K "NeedNot") none)) dx (exd dx [("number", v)])) a (exo a (He.ga F.K "NeedNot") (some dx))) a) dx (.xd [("number", v)]) = upd H1 dx (.xd [("number", v)]) := by
      funext b
      by_cases hb : b = dx
      · rw [hb, upd_same, upd_same]
      · rw [upd_ne hb, upd_ne hb]
        by_cases hb2 : b = a
        · rw [hb2, del_same, ha]
        · rw [del_ne hb2, upd_ne hb2, upd_ne hb, upd_ne hb2]
    rw [e]
    have S2 := S1.env.grow (Same.upd (o := .xd [("number", v)]) hdx)
    exact hE _ _ _ B1 _ hx S2.bs ⟨rfl, dx, v, rfl, upd_same, r2⟩
end
end K33
namespace K33
open PySem PySem.Spec PyProof.Rows L2
section
variable {P : Program} {w : World} {K : PySem.W.Frag} {mg : PySem.Str → Option Value} {base : Heap}
local macro_rules | `(tactic| walk_at "d0") => `(tactic| first
  | ((with_reducible apply ev_var); rfl)
  | with_reducible apply ev_int
  | with_reducible apply ev_bl
  | with_reducible apply ev_str
  | with_reducible apply ev_non
  | with_reducible apply s_seq
  | with_reducible apply s_ret
  | with_reducible apply s_asg
  | with_reducible apply s_next
  | ((with_reducible apply s_app); rfl)
  | with_reducible apply s_drop
  | ((with_reducible apply src_0); rfl; intro _)
  | ((with_reducible apply src_1); rfl; intro _ _ _)
  | ((with_reducible apply src_2); rfl; intro _)
  | ((with_reducible apply s_setSrc0); rfl)
  | ((with_reducible apply s_setSrc2); rfl)
  | ((with_reducible apply ev_callS); rfl)
  | ((with_reducible apply ev_opO); rfl)
  | ((with_reducible apply ev_ixO); rfl)
  | with_reducible apply ev_op
  | with_reducible apply ev_un
  | with_reducible apply et_test
  | with_reducible apply et_B
  | with_reducible apply et_truI
  | with_reducible apply et_and
  | with_reducible apply et_or
  | with_reducible apply et_not
  | with_reducible apply ea_nil
  | with_reducible apply ea_cons
  | with_reducible apply ro_nd_n
  | with_reducible apply ro_and_n
  | with_reducible apply ro_or_n
  | with_reducible apply ro_shr_n
  | with_reducible apply ro_eq_0
  | with_reducible apply ro_ne_0
  | with_reducible apply ro_eq_n
  | with_reducible apply ro_ne_n
  | with_reducible apply ro_add_n
  | with_reducible apply ro_add_1
  | with_reducible apply ro_I0
  | with_reducible apply ro_B0
  | with_reducible apply ro_un
  | ((with_reducible apply ro_isN); rfl)
  | ((with_reducible apply ro_notN); rfl)
  | with_reducible apply ro_eq_t0
  | with_reducible apply ro_ne_lt0
  | with_reducible apply ro_ne_l0
  | with_reducible apply ro_ne_tt
  | with_reducible apply ro_eq_tt
  | with_reducible apply ro_ne_t
  | with_reducible apply ro_eq_i
  | with_reducible apply ro_ne_i
  | with_reducible apply ro_eq_s
  | with_reducible apply ro_add
  | ((with_reducible apply ro_ixT); rfl)
  | ((with_reducible apply ro_ixL); rfl)
  | with_reducible apply ev_list
  | with_reducible apply ev_tuple
  | with_reducible apply ev_sortset
  | with_reducible apply ev_isLT
  | ((with_reducible apply ev_cbO); rfl)
  | with_reducible apply ev_cb
  | with_reducible apply ev_call
  | ((with_reducible apply ev_fldM); rfl; exact Wf.kc2 (by assumption) (by decide +kernel); rfl)
  | with_reducible apply ev_fld
  | with_reducible apply ev_and
  | with_reducible apply ev_or
  | with_reducible apply ev_notV
  | with_reducible apply ev_if
  | with_reducible apply ev_chain
  | with_reducible apply ev_tup
  | with_reducible apply ev_lst
  | with_reducible apply ev_make
  | ((with_reducible apply ev_cm0); exact exok0)
  | ((with_reducible apply ev_cm); exact exok0)
  | ((with_reducible apply ev_meth0); exact exok0)
  | ((with_reducible apply ev_meth); exact exok0)
  | ((with_reducible apply ro_subO); exact exok0)
  | ((with_reducible apply ro_addO); exact exok0)
  | ((with_reducible apply rc_lenO); exact exok0)
  | ((with_reducible apply ev_prop); exact exok0)
  | with_reducible apply rc_int
  | with_reducible apply rc_lenL
  | with_reducible apply rc_lenT
  | ((with_reducible apply rc_is_int); (exact rfl))
  | ((with_reducible apply rc_is_bl); (exact rfl))
  | ((with_reducible apply rc_is_str); (exact rfl))
  | ((with_reducible apply rc_is_tup); (exact rfl))
  | ((with_reducible apply s_fldM); rfl; exact Wf.kc2 (by assumption) (by decide +kernel); decide; rfl)
  | with_reducible apply et_yes
  | with_reducible apply ev_rawc
  | ((with_reducible apply ev_src); rfl)
  | ((with_reducible refine ⟨len_ok ?_, ?_⟩); rfl)
  | with_reducible refine ⟨rfl, ?_⟩
  | with_reducible refine ⟨⟨_, rfl⟩, ?_⟩
  | with_reducible refine ⟨_, rfl, ?_⟩
  | refine ⟨_, _, rfl, rfl, ?_⟩
  | refine ⟨_, _, _, _, rfl, Wf.kc2 (by assumption) (by decide +kernel), rfl, ?_⟩
  | ((with_reducible apply iteTr); rfl)
  | ((with_reducible apply iteFr); rfl)
  | dsimp only)
local macro_rules | `(tactic| walk_at "d") => `(tactic| first
  | walk_at "d0"
  | with_reducible apply s_if)
local macro_rules | `(tactic| walk_at "o") => `(tactic| first
  | ((with_reducible apply so_retO); rfl)
  | ((with_reducible apply et_notcallO); rfl)
  | ((with_reducible apply s_asgO); (with_reducible apply en_lst); (with_reducible apply ea_nil); refine ⟨len_ok rfl, ?_⟩)
  | walk_at "d")

local macro_rules | `(tactic| walk_at "x") => `(tactic| first
  | ((with_reducible apply ev_callX); assumption)
  | walk_at "o")
def S_check_saying_days : List D → Wish := fun ds k X => ∃ (b : Bk) (r : Rw), ds = [bookD b, sayD r] ∧ (r.w ||| r.t < 2 ^ b.days → k .non) ∧ (¬ r.w ||| r.t < 2 ^ b.days → X (.mk "OtherDays" none))
theorem ok_check_saying_days (W : Wf P w K mg base) : FnR P w K mg base (L2.CX P w) 5 (d_check_saying_days.at_ K) (spD K S_check_saying_days) := by
  have c_OtherDays := err_O W
  have c_NeedNot := err_N W
  refine W.fnX in_check_saying_days sc_check_saying_days (fun fd F => F.bindsN fun _ _ _ _ _ _ us hl => match us, hl with | [_, _], _ => rfl) (fun ds k X h => by first | (obtain ⟨rfl, _⟩ := h; rfl) | (obtain ⟨_, rfl, _⟩ := h; rfl) | (obtain ⟨_, _, rfl, _⟩ := h; rfl) | (obtain ⟨_, _, _, rfl, _⟩ := h; rfl) | (obtain ⟨_, _, _, _, rfl, _⟩ := h; rfl) | (obtain ⟨_, _, _, _, _, rfl, _⟩ := h; rfl) | (obtain ⟨_, _, _, _, _, _, rfl, _⟩ := h; rfl) | (obtain ⟨_, _, _, _, _, _, _, rfl, _⟩ := h; rfl) | (obtain ⟨_, _, _, _, _, _, _, _, rfl, _⟩ := h; rfl) | (obtain ⟨_, _, _, _, _, _, _, _, _, rfl, _⟩ := h; rfl)) fun cdv A outer s H E hR F ds kk XX hF hFs hFm hMs hE h => ?_
  subst hF
  obtain ⟨b, r, rfl, h1, h2⟩ := h
  refine ⟨_, (pss_one (ps_if (pt_cmpR op_gt (pe_op op_or (pe_fld (pv 1) rfl) (pe_fld (pv 1) rfl)) (pe_fld (pe_fld (pv 0) rfl) rfl) (nomark _))
  (pss_one (ps_raise rfl (takes_of rfl rfl rfl rfl) (pmk_n0 c_OtherDays hR (by decide) rfl)))
  pss_nil)), ?_⟩
  try dsimp only [Xof, cxOf, Cx.nox, Cx.wish, Cx.blk]
  repeat walk_at "d"
  by_cases hlt : r.w ||| r.t < 2 ^ b.days
  · rw [decide_eq_false (show ¬ ((2 ^ 2 ^ b.ns.length - 1 : Nat) : Int) < ((r.w ||| r.t : Nat) : Int) by unfold Bk.days at hlt; omega)]
    repeat walk_at "d"
    exact h1 hlt
  · rw [decide_eq_true (show ((2 ^ 2 ^ b.ns.length - 1 : Nat) : Int) < ((r.w ||| r.t : Nat) : Int) by unfold Bk.days at hlt; have := Nat.two_pow_pos (2 ^ b.ns.length); omega)]
    repeat walk_at "d"
    exact s_raiseO W hE (h2 hlt)
theorem cc_check_saying_days (W : Wf P w K mg base) : Fnc P w K mg base 5 "check_saying_days" (spD K S_check_saying_days) := W.fnc in_check_saying_days (fun _ => rfl) (j := 8) rfl (ok_check_saying_days W)
def S_check_all_usual : List D → Wish := fun ds k X => ∃ (b : Bk) (r : Rw), ds = [bookD b, sayD r] ∧ (¬ r.w ||| r.t < 2 ^ b.days → X (.mk "OtherDays" none)) ∧
  (r.w ||| r.t < 2 ^ b.days → (∀ n, needR b.rows = some n → X (.mk "NeedNot" (some (nD n)))) ∧ (needR b.rows = none → if r.u = true then k .non else X (.mk "NeedNot" (some .non))))
theorem ok_check_all_usual (W : Wf P w K mg base) : FnR P w K mg base (L2.CX P w) 6 (d_check_all_usual.at_ K) (spD K S_check_all_usual) := by
  have c_check_saying_days := cc_check_saying_days W
  have c_Book_first_need_not := cc_Book_first_need_not W
  have c_OtherDays := err_O W
  have c_NeedNot := err_N W
  refine W.fnX in_check_all_usual sc_check_all_usual (fun fd F => F.bindsN fun _ _ _ _ _ _ us hl => match us, hl with | [_, _], _ => rfl) (fun ds k X h => by first | (obtain ⟨rfl, _⟩ := h; rfl) | (obtain ⟨_, rfl, _⟩ := h; rfl) | (obtain ⟨_, _, rfl, _⟩ := h; rfl) | (obtain ⟨_, _, _, rfl, _⟩ := h; rfl) | (obtain ⟨_, _, _, _, rfl, _⟩ := h; rfl) | (obtain ⟨_, _, _, _, _, rfl, _⟩ := h; rfl) | (obtain ⟨_, _, _, _, _, _, rfl, _⟩ := h; rfl) | (obtain ⟨_, _, _, _, _, _, _, rfl, _⟩ := h; rfl) | (obtain ⟨_, _, _, _, _, _, _, _, rfl, _⟩ := h; rfl) | (obtain ⟨_, _, _, _, _, _, _, _, _, rfl, _⟩ := h; rfl)) fun cdv A outer s H E hR F ds kk XX hF hFs hFm hMs hE h => ?_
  subst hF
  obtain ⟨b, r, rfl, h1, h2⟩ := h
  refine ⟨_, (pss_cons (ps_expr (pe_f c_check_saying_days hR (by decide) rfl (passes_call (takes_of rfl rfl rfl rfl) (fun _ _ _ _ h => h)) (pa_cons (pv 0) (pa_cons (pv 1) pa_nil))))
  (pss_cons (ps_set (i := 2) sc_check_all_usual.nd rfl (Or.inl rfl) (pe_propR (pv 0) (W.cls 4 _ rfl) W.prop c_Book_first_need_not hR (by decide) passL rfl))
  (pss_cons (ps_if (pt_cmpR op_notN (pv 2) pe_non (nomark _))
  (pss_one (ps_raise rfl (takes_of rfl rfl rfl rfl) (pmk_x c_NeedNot hR (by decide) rfl (pa_cons (pv 2) pa_nil))))
  pss_nil)
  (pss_one (ps_if (pt_not (pt_val (pe_fld (pv 1) rfl)))
  (pss_one (ps_raise rfl (takes_of rfl rfl rfl rfl) (pmk_x c_NeedNot hR (by decide) rfl (pa_cons pe_non pa_nil))))
  pss_nil))))), ?_⟩
  try dsimp only [Xof, cxOf, Cx.nox, Cx.wish, Cx.blk]
  repeat walk_at "x"
  refine ⟨b, r, rfl, fun hlt => ?_, fun hlt => h1 hlt⟩
  obtain ⟨h3, h4⟩ := h2 hlt
  repeat walk_at "x"
  refine ⟨_, _, rfl, b, rfl, ?_⟩
  cases e : needR b.rows with
  | some n =>
    repeat walk_at "x"
    apply s_raiseN W hE
    repeat walk_at "x"
    exact h3 n e
  | none =>
    have h5 := h4 e
    repeat walk_at "x"
    cases hu : r.u with
    | true =>
      rw [hu] at h5
      repeat walk_at "x"
      exact h5
    | false =>
      rw [hu] at h5
      repeat walk_at "x"
      apply s_raiseN W hE
      repeat walk_at "x"
      exact h5
theorem cc_check_all_usual (W : Wf P w K mg base) : Fnc P w K mg base 6 "check_all_usual" (spD K S_check_all_usual) := W.fnc in_check_all_usual (fun _ => rfl) (j := 14) rfl (ok_check_all_usual W)
end
end K33
namespace K33
open PySem PySem.Spec PyProof.Rows L2
theorem Why.mono {rs : List Rw} {ss ts : List MStep} {i : Nat} {s : MStep} (h : Why rs ss i s) (e : ∀ (l : Nat) o, ss[l]? = some o → ts[l]? = some o) : Why rs ts i s := by
  cases h with
  | given n w t r h1 h2 h3 h4 => exact .given n w t r h1 h2 h3 h4
  | itself w t h1 => exact .itself w t h1
  | weaker l w t o h1 h2 h3 h4 => exact .weaker l w t o h1 (e _ _ h2) h3 h4
  | joined l m w t o p h1 h2 h3 h4 h5 h6 => exact .joined l m w t o p h1 h2 (e _ _ h3) (e _ _ h4) h5 h6
  | cautious l m w t o p h1 h2 h3 h4 h5 h6 h7 => exact .cautious l m w t o p h1 h2 (e _ _ h3) (e _ _ h4) h5 h6 h7
/-- right steps, however many -/
structure Der0 (rs : List Rw) (ss : List MStep) : Prop where
  why : ∀ (i : Nat) (s : MStep), ss[i]? = some s → Why rs ss i s
  ok : ∀ s ∈ ss, s.r.Ok
theorem app_at {α : Type} {l m : List α} {i : Nat} {x : α} (h : l[i]? = some x) : (l ++ m)[i]? = some x := by
  rw [List.getElem?_append_left (List.getElem?_eq_some_iff.mp h).1]
  exact h
theorem Der0.snoc {rs : List Rw} {ss : List MStep} {s : MStep} (d : Der0 rs ss) (h : Why rs ss ss.length s) (ho : s.r.Ok) : Der0 rs (ss ++ [s]) := by
  refine ⟨fun i x hx => ?_, fun x hx => ?_⟩
  · by_cases hi : i < ss.length
    · rw [List.getElem?_append_left hi] at hx
      exact (d.why i x hx).mono fun l o e => app_at e
    · have hl := (List.getElem?_eq_some_iff.mp hx).1
      rw [List.length_append, List.length_singleton] at hl
      have : i = ss.length := by omega
      subst this
      rw [List.getElem?_append_right (Nat.le_refl _), Nat.sub_self] at hx
      cases hx
      exact h.mono fun l o e => app_at e
  · rcases List.mem_append.mp hx with h | h
    · exact d.ok x h
    · rw [List.mem_singleton.mp h]
      exact ho
theorem Der0.nil {rs : List Rw} : Der0 rs [] := ⟨fun i s h => by simp at h, fun s h => by cases h⟩
abbrev joinS (a b : MStep) (l m : Nat) : MStep := ⟨"joined", [l, m], (joinR a.r b.r).w, (joinR a.r b.r).t⟩
theorem join_ok {a b : Rw} (ha : a.Ok) (hb : b.Ok) : (joinR a b).Ok := by
  refine ⟨?_, ?_, ?_⟩
  · rw [join_w]
    exact Nat.le_trans ha.1 Nat.left_le_or
  · rw [join_w]
    exact b16.mpr (or_lt (b16.mp ha.2.1) (b16.mp hb.2.1))
  · exact b16.mpr (nd_lt (or_lt (b16.mp ha.2.1) (b16.mp hb.2.1)))
theorem Why.join {rs : List Rw} {ss : List MStep} {a b : MStep} {l m : Nat} (ha : ss[l]? = some a) (hb : ss[m]? = some b) : Why rs ss ss.length (joinS a b l m) :=
  .joined l m _ _ a b (List.getElem?_eq_some_iff.mp ha).1 (List.getElem?_eq_some_iff.mp hb).1 ha hb (join_w _ _) (by
    have := join_cf a.r b.r
    rw [join_w]
    unfold Rw.cf at this
    rw [join_w] at this
    exact this)
theorem Der0.join {rs : List Rw} {ss : List MStep} {a b : MStep} {l m : Nat} (d : Der0 rs ss) (ha : ss[l]? = some a) (hb : ss[m]? = some b) : Der0 rs (ss ++ [joinS a b l m]) :=
  d.snoc (.join ha hb) (join_ok (d.ok a (List.mem_of_getElem? ha)) (d.ok b (List.mem_of_getElem? hb)))
/-- the steps of the givens -/
def gvS (rs : List Rw) (n : Nat) : MStep := ⟨"given", [n], (rs.getD n ⟨0, 0, true⟩).w, (rs.getD n ⟨0, 0, true⟩).t⟩
theorem Der0.gv {rs : List Rw} (hu : ∀ r ∈ rs, r.u = true) (ho : ∀ r ∈ rs, r.Ok) : ∀ (lot : List Nat) (ss : List MStep), Der0 rs ss → (∀ n ∈ lot, n < rs.length) → Der0 rs (ss ++ lot.map (gvS rs))
  | [], ss, d, _ => by
    rw [List.map_nil, List.append_nil]
    exact d
  | n :: lot, ss, d, hn => by
    have hlt := hn n (List.mem_cons_self ..)
    have er : rs[n]? = some (rs.getD n ⟨0, 0, true⟩) := by
      rw [List.getD_eq_getElem?_getD, List.getElem?_eq_getElem hlt]
      rfl
    have hm := List.mem_of_getElem? er
    have := Der0.gv hu ho lot _ (d.snoc (.given n _ _ _ er (hu _ hm) rfl rfl) (by have := ho _ hm; exact this)) fun m hm => hn m (List.mem_cons_of_mem _ hm)
    rw [List.append_assoc] at this
    exact this
/-- the joins of m givens: the steps behind j turns, the last one's number -/
def loopM (g : List MStep) : Nat → List MStep × Nat
  | 0 => (g, 0)
  | j + 1 => ((loopM g j).1 ++ [joinS ((loopM g j).1.getD (loopM g j).2 ⟨"", [], 0, 0⟩) ((loopM g j).1.getD (j + 1) ⟨"", [], 0, 0⟩) (loopM g j).2 (j + 1)], (loopM g j).1.length)
theorem loopM_len (g : List MStep) : ∀ j, (loopM g j).1.length = g.length + j
  | 0 => rfl
  | j + 1 => by
    show (_ ++ [_]).length = _
    rw [List.length_append, loopM_len g j]
    rfl
theorem getDs {ss : List MStep} {i : Nat} (h : i < ss.length) : ss[i]? = some (ss.getD i ⟨"", [], 0, 0⟩) := by
  rw [List.getD_eq_getElem?_getD, List.getElem?_eq_getElem h]
  rfl
theorem loopM_last (g : List MStep) (h : 0 < g.length) : ∀ j, (loopM g j).2 < (loopM g j).1.length
  | 0 => h
  | j + 1 => by
    rw [loopM_len]
    show (loopM g j).1.length < _
    rw [loopM_len]
    omega
theorem Der0.loop {rs : List Rw} {g : List MStep} (d : Der0 rs g) (h : 0 < g.length) : ∀ j, j < g.length → Der0 rs (loopM g j).1
  | 0, _ => d
  | j + 1, hj => (Der0.loop d h j (by omega)).join (getDs (loopM_last g h j)) (getDs (by rw [loopM_len]; omega))
theorem or_nd {a b : Nat} (h : nd a b = 0) : a ||| nd b a = b := by
  apply eq_of_bits
  intro i
  have := congrArg (Nat.testBit · i) h
  simp only [nd_bit, Nat.zero_testBit] at this
  rw [Nat.testBit_or, nd_bit]
  cases e1 : a.testBit i <;> cases e2 : b.testBit i <;> simp_all
theorem and_of {a b : Nat} (h : nd a b = 0) : b &&& a = a := by
  apply eq_of_bits
  intro i
  have := congrArg (Nat.testBit · i) h
  simp only [nd_bit, Nat.zero_testBit] at this
  rw [Nat.testBit_and]
  cases e1 : a.testBit i <;> cases e2 : b.testBit i <;> simp_all
theorem nd_trans {a b c : Nat} (h : nd a b = 0) (g : nd b c = 0) : nd a c = 0 := by
  apply eq_of_bits
  intro i
  have h1 := congrArg (Nat.testBit · i) h
  have h2 := congrArg (Nat.testBit · i) g
  simp only [nd_bit, Nat.zero_testBit] at h1 h2 ⊢
  cases e1 : a.testBit i <;> cases e2 : b.testBit i <;> cases e3 : c.testBit i <;> simp_all
theorem cf_sub (r : Rw) : nd r.cf r.w = 0 := by
  apply eq_of_bits
  intro i
  unfold Rw.cf
  simp only [nd_bit, Nat.zero_testBit, Nat.testBit_and]
  cases r.w.testBit i <;> cases r.t.testBit i <;> rfl
theorem last_app {α : Type} {l m : List α} {k : Nat} {x : α} (h : m[k]? = some x) (hk : m.length = k + 1) : (l ++ m)[(l ++ m).length - 1]? = some x := by
  rw [List.length_append, hk, List.getElem?_append_right (by omega), show l.length + (k + 1) - 1 - l.length = k by omega]
  exact h
/-- the last steps: from a source with more days and fewer that confirm -/
theorem Der0.narrow {rs : List Rw} {ss : List MStep} {a : MStep} {r : Rw} (d : Der0 rs ss) (hr : r.Ok) (ha : ss[ss.length - 1]? = some a) (hw : nd r.w a.w = 0) (hc : nd a.r.cf r.cf = 0) :
    Der0 rs (ss ++ narrowM a.r (ss.length - 1) r) ∧ ∃ s : MStep, (ss ++ narrowM a.r (ss.length - 1) r)[(ss ++ narrowM a.r (ss.length - 1) r).length - 1]? = some s ∧ s.w = r.w ∧ s.r.cf = r.cf := by
  have hl := (List.getElem?_eq_some_iff.mp ha).1
  have hcw := nd_trans hc (cf_sub r)
  have hao := d.ok a (List.mem_of_getElem? ha)
  unfold narrowM
  by_cases h0 : a.w = r.w
  · have h0' : a.r.w = r.w := h0
    rw [if_pos h0', if_pos h0']
    by_cases h1 : a.r.cf = r.cf
    · rw [if_pos h1]
      simp only [List.append_nil]
      exact ⟨d, a, ha, h0, h1⟩
    · rw [if_neg h1]
      simp only [List.nil_append]
      refine ⟨d.snoc (s := ⟨"weaker", [ss.length - 1], r.w, r.t⟩) (.weaker _ _ _ a (by omega) ha h0.symm hc) hr, ⟨"weaker", [ss.length - 1], r.w, r.t⟩, ?_, rfl, rfl⟩
      rw [List.length_append, List.length_singleton, Nat.add_sub_cancel, List.getElem?_append_right (Nat.le_refl _), Nat.sub_self]
      rfl
  · have h0' : ¬ a.r.w = r.w := h0
    rw [if_neg h0', if_neg h0']
    have e1 : r.w ||| nd a.w r.w = a.w := or_nd hw
    have e2 : a.w &&& r.w = r.w := and_of hw
    have e3 : a.r.cf ||| nd r.w a.r.cf = r.w := or_nd hcw
    have e4 : r.w &&& a.r.cf = a.r.cf := and_of hcw
    have d1 : Der0 rs (ss ++ [⟨"weaker", [ss.length - 1], r.w ||| nd a.w r.w, r.w⟩]) := d.snoc (.weaker _ _ _ a (by omega) ha e1 (by rw [e1, e2]; exact hcw)) ⟨by show 1 ≤ r.w ||| nd a.w r.w; rw [e1]; exact hao.1, by show r.w ||| nd a.w r.w ≤ 65535; rw [e1]; exact hao.2.1, hr.2.1⟩
    have hl1 : (ss ++ [(⟨"weaker", [ss.length - 1], r.w ||| nd a.w r.w, r.w⟩ : MStep)]).length = ss.length - 1 + 2 := by
      rw [List.length_append, List.length_singleton]
      omega
    have g1 : (ss ++ [(⟨"weaker", [ss.length - 1], r.w ||| nd a.w r.w, r.w⟩ : MStep)])[ss.length - 1 + 1]? = some ⟨"weaker", [ss.length - 1], r.w ||| nd a.w r.w, r.w⟩ := by
      rw [show ss.length - 1 + 1 = ss.length by omega, List.getElem?_append_right (Nat.le_refl _), Nat.sub_self]
      rfl
    have d2 := d1.snoc (s := ⟨"cautious", [ss.length - 1 + 1, ss.length - 1], a.r.cf ||| nd r.w a.r.cf, a.r.cf⟩) (.cautious _ _ _ _ _ a (by omega) (by omega) g1 (app_at ha) e1 (by
      show a.r.cf ||| nd r.w a.r.cf = (r.w ||| nd a.w r.w) &&& r.w
      rw [e1, e2, e3]) (by
      show (a.r.cf ||| nd r.w a.r.cf) &&& a.r.cf = ((r.w ||| nd a.w r.w) &&& r.w) &&& a.r.cf
      rw [e1, e2, e3])) ⟨by show 1 ≤ a.r.cf ||| nd r.w a.r.cf; rw [e3]; exact hr.1, by show a.r.cf ||| nd r.w a.r.cf ≤ 65535; rw [e3]; exact hr.2.1, b16.mpr (and_lt (b16.mp hao.2.1))⟩
    rw [List.append_assoc] at d2
    have ec : ((a.r.cf ||| nd r.w a.r.cf) &&& a.r.cf) = a.r.cf := by rw [e3, e4]
    by_cases h1 : a.r.cf = r.cf
    · rw [if_pos h1, List.append_nil]
      refine ⟨d2, ⟨"cautious", [ss.length - 1 + 1, ss.length - 1], a.r.cf ||| nd r.w a.r.cf, a.r.cf⟩, last_app (k := 1) rfl rfl, e3, ec.trans h1⟩
    · rw [if_neg h1]
      have g2 : (ss ++ [(⟨"weaker", [ss.length - 1], r.w ||| nd a.w r.w, r.w⟩ : MStep), ⟨"cautious", [ss.length - 1 + 1, ss.length - 1], a.r.cf ||| nd r.w a.r.cf, a.r.cf⟩])[ss.length - 1 + 2]? = some ⟨"cautious", [ss.length - 1 + 1, ss.length - 1], a.r.cf ||| nd r.w a.r.cf, a.r.cf⟩ := by
        rw [List.getElem?_append_right (by omega), show ss.length - 1 + 2 - ss.length = 1 by omega]
        rfl
      have d3 := d2.snoc (s := ⟨"weaker", [ss.length - 1 + 2], r.w, r.t⟩) (.weaker _ _ _ _ (by rw [List.length_append]; show _ < ss.length + 2; omega) g2 e3.symm (by
        show nd ((a.r.cf ||| nd r.w a.r.cf) &&& a.r.cf) (r.w &&& r.t) = 0
        rw [ec]
        exact hc)) hr
      rw [List.append_assoc] at d3
      refine ⟨d3, ⟨"weaker", [ss.length - 1 + 2], r.w, r.t⟩, last_app (k := 2) rfl rfl, rfl, rfl⟩
theorem join_br (a b : Rw) : (joinR a b).br = a.br ||| b.br := by
  apply eq_of_bits
  intro i
  unfold joinR
  generalize e : a.br ||| b.br = B
  unfold Rw.br
  simp only [nd_bit, Nat.testBit_or]
  cases B.testBit i <;> cases a.w.testBit i <;> cases b.w.testBit i <;> rfl
abbrev dfl : MStep := ⟨"", [], 0, 0⟩
abbrev itS (r : Rw) (a : MStep) : MStep := ⟨"itself", [], nd r.w a.w ||| 0, nd r.w a.w⟩
def restP (p : List MStep) (last : Nat) (r : Rw) : List MStep :=
  if nd r.w (p.getD last dfl).w = 0 then p else (p ++ [itS r (p.getD last dfl)]) ++ [joinS (p.getD last dfl) (itS r (p.getD last dfl)) last (last + 1)]
def loopS (rs : List Rw) (lot : List Nat) : List MStep × Nat := loopM (lot.map (gvS rs)) (lot.length - 1)
/-- the steps of a derivation over the lot -/
def derM (rs : List Rw) (r : Rw) (lot : List Nat) : List MStep :=
  if r.br = 0 then [⟨"itself", [], r.w, r.t⟩] else
  restP (loopS rs lot).1 (loopS rs lot).2 r ++ narrowM ((restP (loopS rs lot).1 (loopS rs lot).2 r).getD ((restP (loopS rs lot).1 (loopS rs lot).2 r).length - 1) dfl).r ((restP (loopS rs lot).1 (loopS rs lot).2 r).length - 1) r
/-- the last number is the last step's -/
theorem loopM_snd (g : List MStep) (h : 0 < g.length) : ∀ j, j < g.length → (g.length = 1 ∨ 0 < j) → (loopM g j).2 = (loopM g j).1.length - 1
  | 0, _, hj => by
    rcases hj with hj | hj
    · show 0 = g.length - 1
      omega
    · omega
  | j + 1, _, _ => by
    rw [loopM_len]
    show (loopM g j).1.length = _
    rw [loopM_len]
    omega
end K33
namespace K33
open PySem PySem.Spec PyProof.Rows L2
def jW (l : List Rw) : Nat := l.foldl (fun b r => b ||| r.w) 0
theorem loopM_at (g : List MStep) {i : Nat} {x : MStep} (h : g[i]? = some x) : ∀ j, (loopM g j).1[i]? = some x
  | 0 => h
  | j + 1 => app_at (loopM_at g h j)
theorem foldl_or {f : Rw → Nat} (l : List Rw) (x : Rw) : (l ++ [x]).foldl (fun b r => b ||| f r) 0 = l.foldl (fun b r => b ||| f r) 0 ||| f x := by
  rw [List.foldl_append]
  rfl
/-- the last step behind j joins -/
theorem loopM_top (g : List MStep) : ∀ j, j < g.length → ∃ a : MStep, (loopM g j).1[(loopM g j).2]? = some a ∧ a.w = jW ((g.take (j + 1)).map MStep.r) ∧ a.r.br = jB ((g.take (j + 1)).map MStep.r)
  | 0, h => by
    have e := List.getElem?_eq_getElem h
    refine ⟨g[0], e, ?_, ?_⟩
    · rw [take_at e, List.take_zero]
      show _ = 0 ||| g[0].w
      rw [Nat.zero_or]
    · rw [take_at e, List.take_zero]
      show _ = 0 ||| g[0].r.br
      rw [Nat.zero_or]
  | j + 1, h => by
    obtain ⟨a, h1, h2, h3⟩ := loopM_top g j (by omega)
    have e := List.getElem?_eq_getElem h
    have e2 := loopM_at g e j
    have ga : (loopM g j).1.getD (loopM g j).2 dfl = a := by rw [List.getD_eq_getElem?_getD, h1]; rfl
    have gb : (loopM g j).1.getD (j + 1) dfl = g[j + 1] := by rw [List.getD_eq_getElem?_getD, e2]; rfl
    refine ⟨joinS a g[j + 1] (loopM g j).2 (j + 1), ?_, ?_, ?_⟩
    · show ((loopM g j).1 ++ [joinS ((loopM g j).1.getD (loopM g j).2 dfl) ((loopM g j).1.getD (j + 1) dfl) (loopM g j).2 (j + 1)])[(loopM g j).1.length]? = _
      rw [ga, gb, List.getElem?_append_right (Nat.le_refl _), Nat.sub_self]
      rfl
    · rw [take_at e, List.map_append]
      show (joinR a.r (g[j + 1]).r).w = ((_ ++ [(g[j + 1]).r]).foldl _ 0)
      rw [join_w, foldl_or (f := Rw.w)]
      rw [show a.r.w = _ from h2]
      rfl
    · rw [take_at e, List.map_append]
      show (joinR a.r (g[j + 1]).r).br = ((_ ++ [(g[j + 1]).r]).foldl _ 0)
      rw [join_br, foldl_or (f := Rw.br), h3]
      rfl
theorem gv_pick {rs : List Rw} (hu : ∀ r ∈ rs, r.u = true) : ∀ lot : List Nat, (∀ n ∈ lot, n < rs.length) → (lot.map (gvS rs)).map MStep.r = pick rs lot
  | [], _ => rfl
  | n :: lot, hn => by
    have hlt := hn n (List.mem_cons_self ..)
    have er := List.getElem?_eq_getElem hlt
    have hm := hu _ (List.mem_of_getElem? er)
    have ih := gv_pick hu lot fun m hm => hn m (List.mem_cons_of_mem _ hm)
    rw [List.map_cons, List.map_cons, ih]
    unfold pick
    rw [List.filterMap_cons, er]
    have : (gvS rs n).r = rs[n] := by
      unfold gvS MStep.r
      rw [List.getD_eq_getElem?_getD, er]
      show (⟨rs[n].w, rs[n].t, true⟩ : Rw) = rs[n]
      rw [← hm]
    rw [this]
theorem jW_bit (l : List Rw) (i : Nat) : (jW l).testBit i = l.any fun r => r.w.testBit i := by
  have h : ∀ (l : List Rw) (b : Nat), (l.foldl (fun b r => b ||| r.w) b).testBit i = (b.testBit i || l.any fun r => r.w.testBit i) := by
    intro l
    induction l with
    | nil => intro b; simp
    | cons r l ih =>
      intro b
      rw [List.foldl_cons, ih, Nat.testBit_or, List.any_cons, Bool.or_assoc]
  refine (h l 0).trans ?_
  rw [Nat.zero_testBit, Bool.false_or]
theorem jB_bit (l : List Rw) (i : Nat) : (jB l).testBit i = l.any fun r => r.br.testBit i := by
  have h : ∀ (l : List Rw) (b : Nat), (l.foldl (fun b r => b ||| r.br) b).testBit i = (b.testBit i || l.any fun r => r.br.testBit i) := by
    intro l
    induction l with
    | nil => intro b; simp
    | cons r l ih =>
      intro b
      rw [List.foldl_cons, ih, Nat.testBit_or, List.any_cons, Bool.or_assoc]
  refine (h l 0).trans ?_
  rw [Nat.zero_testBit, Bool.false_or]
theorem jU_bit (l : List Rw) (i : Nat) : (jU l).testBit i = l.any fun r => r.cf.testBit i := by
  have h : ∀ (l : List Rw) (b : Nat), (l.foldl (fun b r => b ||| r.cf) b).testBit i = (b.testBit i || l.any fun r => r.cf.testBit i) := by
    intro l
    induction l with
    | nil => intro b; simp
    | cons r l ih =>
      intro b
      rw [List.foldl_cons, ih, Nat.testBit_or, List.any_cons, Bool.or_assoc]
  refine (h l 0).trans ?_
  rw [Nat.zero_testBit, Bool.false_or]
theorem w_bit (r : Rw) (i : Nat) : r.w.testBit i = (r.cf.testBit i || r.br.testBit i) := by
  unfold Rw.cf Rw.br
  rw [nd_bit, Nat.testBit_and]
  cases r.w.testBit i <;> cases r.t.testBit i <;> rfl
end K33
namespace K33
open PySem PySem.Spec PyProof.Rows L2
theorem bits_of {a b : Nat} (h : nd a b = 0) (i : Nat) (e : a.testBit i = true) : b.testBit i = true := nd_zero.mp h i e
theorem narrowM_len (a : Rw) (l : Nat) (r : Rw) : (narrowM a l r).length ≤ 3 := by
  unfold narrowM
  split <;> split <;> exact Nat.le_of_ble_eq_true rfl
theorem der_of {rs : List Rw} {r : Rw} {lot : List Nat} (hu : ∀ r ∈ rs, r.u = true) (ho : ∀ r ∈ rs, r.Ok) (hrl : rs.length ≤ 12) (hn : ∀ n ∈ lot, n < rs.length) (hl : lot.length ≤ 12) (hr : r.Ok)
    (h1 : nd (jn (pick rs lot)).1 r.cf = 0) (h2 : nd r.br (jn (pick rs lot)).2 = 0) : DerOf rs r (derM rs r lot) := by
  rw [jn_eq] at h1 h2
  unfold derM
  by_cases h0 : r.br = 0
  · rw [if_pos h0]
    refine ⟨⟨fun i s hs => ?_, fun s hs => ?_, hrl, by simp⟩, ⟨"itself", [], r.w, r.t⟩, rfl, rfl, rfl⟩
    · match i, hs with
      | 0, hs => cases hs; exact .itself _ _ h0
    · rw [List.mem_singleton.mp hs]
      exact hr
  · rw [if_neg h0]
    have hpos : 0 < lot.length := by
      cases lot with
      | nil =>
        exact absurd (eq_of_bits fun i => by
          rw [Nat.zero_testBit]
          cases e : r.br.testBit i with
          | false => rfl
          | true =>
            have := bits_of h2 i e
            rw [show (nd (jU (pick rs [])) (jB (pick rs [])), jB (pick rs [])).2 = 0 from rfl, Nat.zero_testBit] at this
            cases this) h0
      | cons n lot => exact Nat.succ_pos _
    have hg : (lot.map (gvS rs)).length = lot.length := List.length_map ..
    have d0 : Der0 rs (lot.map (gvS rs)) := by
      have := Der0.gv hu ho lot [] Der0.nil hn
      rwa [List.nil_append] at this
    have d1 : Der0 rs (loopS rs lot).1 := d0.loop (by omega) _ (by omega)
    obtain ⟨a, ha, hw, hb⟩ := loopM_top (lot.map (gvS rs)) (lot.length - 1) (by omega)
    have ht : (lot.map (gvS rs)).take (lot.length - 1 + 1) = lot.map (gvS rs) := List.take_of_length_le (by omega)
    rw [ht, gv_pick hu lot hn] at hw hb
    have hsnd : (loopS rs lot).2 = (loopS rs lot).1.length - 1 := loopM_snd _ (by omega) _ (by omega) (by omega)
    have hlen : (loopS rs lot).1.length = lot.length + (lot.length - 1) := by
      unfold loopS
      rw [loopM_len, hg]
    have hac : nd a.r.cf r.cf = 0 := nd_zero.mpr fun i e => by
      refine bits_of h1 i ?_
      have e1 : a.w.testBit i = true ∧ a.t.testBit i = true := by
        have : (a.w &&& a.t).testBit i = true := e
        rw [Nat.testBit_and, Bool.and_eq_true] at this
        exact this
      have e2 : (jB (pick rs lot)).testBit i = false := by
        rw [← hb]
        show (nd a.w a.t).testBit i = false
        rw [nd_bit, e1.2]
        simp
      have e3 : (jU (pick rs lot)).testBit i = true := by
        have e4 := e1.1
        rw [hw, jW_bit, List.any_eq_true] at e4
        obtain ⟨x, hx, e5⟩ := e4
        rw [jU_bit, List.any_eq_true]
        refine ⟨x, hx, ?_⟩
        rw [w_bit] at e5
        cases e6 : x.br.testBit i with
        | false => rwa [e6, Bool.or_false] at e5
        | true =>
          have : (jB (pick rs lot)).testBit i = true := by
            rw [jB_bit, List.any_eq_true]
            exact ⟨x, hx, e6⟩
          rw [e2] at this
          cases this
      rw [nd_bit, e3, e2]
      rfl
    have hrb : nd r.br a.w = 0 := nd_zero.mpr fun i e => by
      have := bits_of h2 i e
      have e7 : (nd a.w a.t).testBit i = true := by
        rw [show nd a.w a.t = _ from hb]
        exact this
      rw [nd_bit, Bool.and_eq_true] at e7
      exact e7.1
    have ha' : (loopS rs lot).1[(loopS rs lot).2]? = some a := ha
    have key : ∃ b, Der0 rs (restP (loopS rs lot).1 (loopS rs lot).2 r) ∧ (restP (loopS rs lot).1 (loopS rs lot).2 r)[(restP (loopS rs lot).1 (loopS rs lot).2 r).length - 1]? = some b ∧ nd r.w b.w = 0 ∧ nd b.r.cf r.cf = 0 ∧ (restP (loopS rs lot).1 (loopS rs lot).2 r).length ≤ 25 := by
      have ga : (loopS rs lot).1.getD (loopS rs lot).2 dfl = a := by rw [List.getD_eq_getElem?_getD, ha']; rfl
      unfold restP
      rw [ga]
      by_cases h9 : nd r.w a.w = 0
      · rw [if_pos h9]
        refine ⟨a, d1, ?_, h9, hac, by omega⟩
        rw [← hsnd]
        exact ha'
      · rw [if_neg h9]
        have r0 : nd r.w a.w ||| 0 = nd r.w a.w := Nat.or_zero _
        have hlt : nd r.w a.w ≤ 65535 := b16.mpr (nd_lt (b16.mp hr.2.1))
        have z : nd (nd r.w a.w ||| 0) (nd r.w a.w) = 0 := eq_of_bits fun i => by
          rw [r0, nd_bit, Nat.zero_testBit]
          cases (nd r.w a.w).testBit i <;> rfl
        have d2 : Der0 rs ((loopS rs lot).1 ++ [itS r a]) := d1.snoc (.itself _ _ z) ⟨by show 1 ≤ nd r.w a.w ||| 0; rw [r0]; omega, by show nd r.w a.w ||| 0 ≤ 65535; rw [r0]; exact hlt, hlt⟩
        have g2 : ((loopS rs lot).1 ++ [itS r a])[(loopS rs lot).2 + 1]? = some (itS r a) := by
          rw [hsnd, show (loopS rs lot).1.length - 1 + 1 = (loopS rs lot).1.length by omega, List.getElem?_append_right (Nat.le_refl _), Nat.sub_self]
          rfl
        have d3 := d2.join (app_at ha') g2
        refine ⟨_, d3, last_app (k := 0) rfl rfl, ?_, ?_, by simp only [List.length_append, List.length_singleton]; omega⟩
        · refine nd_zero.mpr fun i e => ?_
          show (joinR a.r (itS r a).r).w.testBit i = true
          rw [join_w]
          show (a.w ||| (nd r.w a.w ||| 0)).testBit i = true
          rw [r0, Nat.testBit_or, nd_bit, e]
          cases a.w.testBit i <;> rfl
        · refine nd_zero.mpr fun i e => ?_
          have e' : (joinR a.r (itS r a).r).cf.testBit i = true := e
          rw [join_cf] at e'
          have zb : (itS r a).r.br = 0 := z
          rw [zb, Nat.or_zero, nd_bit, Nat.testBit_or, Bool.and_eq_true] at e'
          obtain ⟨e1, e2⟩ := e'
          have wb := w_bit a.r i
          have rb := w_bit r i
          cases ea : a.w.testBit i with
          | true =>
            refine bits_of hac i ?_
            rw [show a.r.w.testBit i = true from ea] at wb
            cases ec : a.r.cf.testBit i with
            | true => rfl
            | false =>
              rw [ec, Bool.false_or] at wb
              rw [← wb] at e2
              cases e2
          | false =>
            rw [show a.r.w.testBit i = false from ea, Bool.false_or] at e1
            have e3 : (nd r.w a.w).testBit i = true := by rw [← r0]; exact e1
            rw [nd_bit, Bool.and_eq_true] at e3
            rw [e3.1] at rb
            cases ec : r.cf.testBit i with
            | true => rfl
            | false =>
              rw [ec, Bool.false_or] at rb
              have := bits_of hrb i rb.symm
              rw [ea] at this
              cases this
    obtain ⟨b, k1, k2, k3, k4, k5⟩ := key
    have gb : (restP (loopS rs lot).1 (loopS rs lot).2 r).getD ((restP (loopS rs lot).1 (loopS rs lot).2 r).length - 1) dfl = b := by rw [List.getD_eq_getElem?_getD, k2]; rfl
    rw [gb]
    obtain ⟨n1, n2⟩ := k1.narrow hr k2 k3 k4
    refine ⟨⟨n1.why, n1.ok, hrl, ?_⟩, n2⟩
    have := narrowM_len b.r ((restP (loopS rs lot).1 (loopS rs lot).2 r).length - 1) r
    rw [List.length_append]
    omega
end K33
namespace K33
open PySem PySem.Spec PyProof.Rows L2
theorem and_ex {x w : Nat} (h : x &&& w ≠ 0) : ∃ i, x.testBit i = true ∧ w.testBit i = true := by
  apply Classical.byContradiction
  intro hn
  apply h
  apply eq_of_bits
  intro i
  rw [Nat.zero_testBit, Nat.testBit_and]
  cases e1 : x.testBit i with
  | false => rfl
  | true =>
    cases e2 : w.testBit i with
    | false => rfl
    | true => exact absurd ⟨i, e1, e2⟩ hn
theorem norm_cons {x : Nat} {l : List Nat} {w : Nat} : normN (x :: l) w = if x &&& w ≠ 0 then x &&& w else normN l w := by
  unfold normN
  by_cases h : x &&& w = 0
  · simp [h]
  · simp [h]
theorem kept_t {l : List Nat} {r : Rw} (hu : r.u = true) : keptB l r = true ↔ nd (normN l r.w) r.t = 0 := by
  unfold keptB
  rw [hu]
  simp
/-- sharp: kept with the lot -/
theorem kept_of {ps : List Rw} {r : Rw} (hp : ∀ q ∈ ps, q.u = true) (hr : r.u = true) (h1 : nd (nd (jU ps) (jB ps)) r.cf = 0) (h2 : nd r.br (jB ps) = 0) : ∀ l : List Nat, (∀ q ∈ ps, nd (normN l q.w) q.t = 0) → nd (normN l r.w) r.t = 0
  | [], _ => eq_of_bits fun i => by
    rw [nd_bit]
    unfold normN
    simp
  | x :: l, hk => by
    have nobr : ∀ q ∈ ps, ∀ i, x.testBit i = true → q.br.testBit i = true → False := fun q hq i e1 e2 => by
      have hw : q.w.testBit i = true := by rw [w_bit, e2, Bool.or_true]
      have hne : x &&& q.w ≠ 0 := fun z => by
        have := congrArg (Nat.testBit · i) z
        simp only [Nat.testBit_and, Nat.zero_testBit, e1, hw] at this
        cases this
      have := hk q hq
      rw [norm_cons, if_pos hne] at this
      have e3 := bits_of this i (by rw [Nat.testBit_and, e1, hw]; rfl)
      unfold Rw.br at e2
      rw [nd_bit, e3] at e2
      simp at e2
    have nojb : ∀ i, x.testBit i = true → (jB ps).testBit i = true → False := fun i e1 e2 => by
      rw [jB_bit, List.any_eq_true] at e2
      obtain ⟨q, hq, e3⟩ := e2
      exact nobr q hq i e1 e3
    by_cases hx : x &&& r.w = 0
    · have none : ∀ q ∈ ps, ¬ x &&& q.w ≠ 0 := fun q hq hne => by
        obtain ⟨i, e1, e2⟩ := and_ex hne
        have e3 : (jU ps).testBit i = true := by
          rw [jU_bit, List.any_eq_true]
          refine ⟨q, hq, ?_⟩
          rw [w_bit] at e2
          cases e4 : q.br.testBit i with
          | false => rwa [e4, Bool.or_false] at e2
          | true => exact (nobr q hq i e1 e4).elim
        have e5 : (jB ps).testBit i = false := by
          cases e4 : (jB ps).testBit i with
          | false => rfl
          | true => exact (nojb i e1 e4).elim
        have e6 := bits_of h1 i (by rw [nd_bit, e3, e5]; rfl)
        have e7 : r.w.testBit i = true := by rw [w_bit, e6]; rfl
        have := congrArg (Nat.testBit · i) hx
        simp only [Nat.testBit_and, Nat.zero_testBit, e1, e7] at this
        cases this
      rw [norm_cons, if_neg (by simp [hx])]
      exact kept_of hp hr h1 h2 l fun q hq => by
        have := hk q hq
        rwa [norm_cons, if_neg (none q hq)] at this
    · rw [norm_cons, if_pos hx]
      refine nd_zero.mpr fun i e => ?_
      rw [Nat.testBit_and, Bool.and_eq_true] at e
      cases e3 : r.t.testBit i with
      | true => rfl
      | false =>
        have : r.br.testBit i = true := by
          unfold Rw.br
          rw [nd_bit, e.2, e3]
          rfl
        exact (nojb i e.1 (bits_of h2 i this)).elim
end K33
namespace K33
open PySem PySem.Spec PyProof.Rows L2
/-- the weight as a sum over the days -/
def wtS (ns : List Nat) (s k : Nat) : Nat := ((List.range k).filterMap (selF ns s)).sum
theorem wtS_succ (ns : List Nat) (s k : Nat) : wtS ns s (k + 1) = wtS ns s k + ((selF ns s k).getD 0) := by
  unfold wtS
  rw [List.range_succ, List.filterMap_append, List.sum_append]
  cases h : selF ns s k <;> simp [h]
theorem wtS_mono {ns : List Nat} {s t : Nat} (h : nd s t = 0) : ∀ k, wtS ns s k ≤ wtS ns t k
  | 0 => Nat.le_refl _
  | k + 1 => by
    rw [wtS_succ, wtS_succ]
    have ih := wtS_mono (ns := ns) h k
    have : (selF ns s k).getD 0 ≤ (selF ns t k).getD 0 := by
      unfold selF
      by_cases e : s.testBit k = true
      · rw [if_pos e, if_pos (bits_of h k e)]
        exact Nat.le_refl _
      · rw [if_neg e]
        exact Nat.zero_le _
    omega
theorem wtS_or (ns : List Nat) (s t : Nat) : ∀ k, wtS ns (s ||| t) k ≤ wtS ns s k + wtS ns t k
  | 0 => Nat.zero_le _
  | k + 1 => by
    rw [wtS_succ, wtS_succ, wtS_succ]
    have ih := wtS_or ns s t k
    have : (selF ns (s ||| t) k).getD 0 ≤ (selF ns s k).getD 0 + (selF ns t k).getD 0 := by
      unfold selF
      rw [Nat.testBit_or]
      cases s.testBit k <;> cases t.testBit k <;> simp
    omega
/-- of two that share no day -/
theorem wtS_add {ns : List Nat} {s t : Nat} (h : s &&& t = 0) : ∀ k, wtS ns (s ||| t) k = wtS ns s k + wtS ns t k
  | 0 => rfl
  | k + 1 => by
    rw [wtS_succ, wtS_succ, wtS_succ]
    have ih := wtS_add (ns := ns) h k
    have e := congrArg (Nat.testBit · k) h
    simp only [Nat.testBit_and, Nat.zero_testBit] at e
    have : (selF ns (s ||| t) k).getD 0 = (selF ns s k).getD 0 + (selF ns t k).getD 0 := by
      unfold selF
      rw [Nat.testBit_or]
      cases e1 : s.testBit k <;> cases e2 : t.testBit k <;> simp_all
    omega
theorem ratio_cross {a b : Nat} : (ratioN a b).1 * b = a * (ratioN a b).2 := by
  obtain ⟨x, hx⟩ := Nat.gcd_dvd_left a b
  obtain ⟨y, hy⟩ := Nat.gcd_dvd_right a b
  show a / Nat.gcd a b * b = a * (b / Nat.gcd a b)
  by_cases h : Nat.gcd a b = 0
  · have := Nat.eq_zero_of_gcd_eq_zero_left h
    subst this
    simp
  · rw [← Nat.mul_div_assoc _ (Nat.gcd_dvd_right a b), Nat.mul_comm (a / _) b, ← Nat.mul_div_assoc _ (Nat.gcd_dvd_left a b), Nat.mul_comm]
theorem wt_eq (ns : List Nat) (s : Nat) : wt ns s = wtS ns s ns.length := rfl
/-- one row's doubt over the weight of more days -/
theorem doubt_ge {ns : List Nat} {q : Rw} {W : Nat} (h : nd q.w W = 0) : wt ns q.br * (doubtN ns q).2 ≤ (doubtN ns q).1 * wt ns W := by
  have hb : wt ns q.br ≤ wt ns q.w := wtS_mono (nd_zero.mpr fun i e => by rw [w_bit, e, Bool.or_true]) _
  have hw : wt ns q.w ≤ wt ns W := wtS_mono h _
  unfold doubtN
  by_cases h0 : wt ns q.w = 0
  · rw [if_pos h0]
    have : wt ns q.br = 0 := by omega
    rw [this]
    simp
  · rw [if_neg h0]
    have e := ratio_cross (a := wt ns (nd q.w q.t)) (b := wt ns q.w)
    show wt ns (nd q.w q.t) * _ ≤ _
    rw [← e]
    exact Nat.mul_le_mul_left _ hw
/-- the sum of doubts over the weight of all days -/
theorem sum_ge {ns : List Nat} {W : Nat} : ∀ (ps : List Rw) (p : Nat × Nat) (S : Nat), (∀ q ∈ ps, nd q.w W = 0) → S * p.2 ≤ p.1 * wt ns W →
    (S + (ps.map fun q => wt ns q.br).sum) * (ps.foldl (fun p r => sumStep p (doubtN ns r)) p).2 ≤ (ps.foldl (fun p r => sumStep p (doubtN ns r)) p).1 * wt ns W
  | [], p, S, _, h => by simpa using h
  | q :: ps, p, S, hq, h => by
    have hd := doubt_ge (ns := ns) (hq q (List.mem_cons_self ..))
    rw [List.map_cons, List.sum_cons, ← Nat.add_assoc, List.foldl_cons]
    refine sum_ge ps _ _ (fun x hx => hq x (List.mem_cons_of_mem _ hx)) ?_
    show (S + wt ns q.br) * (p.2 * (doubtN ns q).2) ≤ (p.1 * (doubtN ns q).2 + (doubtN ns q).1 * p.2) * wt ns W
    rw [Nat.add_mul, Nat.add_mul]
    have h1 : S * (p.2 * (doubtN ns q).2) ≤ p.1 * (doubtN ns q).2 * wt ns W := by
      rw [← Nat.mul_assoc, Nat.mul_right_comm p.1]
      exact Nat.mul_le_mul_right _ h
    have h2 : wt ns q.br * (p.2 * (doubtN ns q).2) ≤ (doubtN ns q).1 * p.2 * wt ns W := by
      rw [Nat.mul_left_comm, Nat.mul_right_comm, Nat.mul_comm _ p.2]
      exact Nat.mul_le_mul_left _ hd
    omega
end K33
namespace K33
open PySem PySem.Spec PyProof.Rows L2
theorem wt_jB (ns : List Nat) (ps : List Rw) : wt ns (jB ps) ≤ (ps.map fun q => wt ns q.br).sum := by
  have h : ∀ (ps : List Rw) (b : Nat), wt ns (ps.foldl (fun b r => b ||| r.br) b) ≤ wt ns b + (ps.map fun q => wt ns q.br).sum := by
    intro ps
    induction ps with
    | nil => intro b; simp
    | cons q ps ih =>
      intro b
      have h1 := ih (b ||| q.br)
      have h2 : wt ns (b ||| q.br) ≤ wt ns b + wt ns q.br := wtS_or ns b q.br ns.length
      rw [List.foldl_cons, List.map_cons, List.sum_cons]
      omega
  have z : wt ns 0 = 0 := by
    have := wtS_add (ns := ns) (s := 0) (t := 0) (by simp) ns.length
    rw [Nat.or_zero] at this
    rw [wt_eq]
    omega
  have := h ps 0
  rw [z, Nat.zero_add] at this
  exact this
theorem cross {d1 d2 bot top b wB wC wr : Nat} (h1 : d1 * wr = b * d2) (h2 : wB * bot ≤ top * (wB + wC)) (h3 : b + wC ≤ wr) (h4 : b ≤ wB) (h5 : wr ≠ 0) : d1 * bot ≤ top * d2 := by
  by_cases h0 : wB + wC = 0
  · have : b = 0 := by omega
    subst this
    rw [Nat.zero_mul] at h1
    rcases Nat.mul_eq_zero.mp h1 with h | h
    · rw [h, Nat.zero_mul]
      exact Nat.zero_le _
    · exact absurd h h5
  · have key : b * (wB + wC) ≤ wB * wr := by
      have : b * (wB + wC) ≤ wB * (b + wC) := by
        rw [Nat.mul_add, Nat.mul_add, Nat.mul_comm b wB]
        exact Nat.add_le_add_left (Nat.mul_le_mul_right _ h4) _
      exact Nat.le_trans this (Nat.mul_le_mul_left _ h3)
    have pos : 0 < wr * (wB + wC) := Nat.mul_pos (Nat.pos_of_ne_zero h5) (Nat.pos_of_ne_zero h0)
    refine Nat.le_of_mul_le_mul_right ?_ pos
    calc d1 * bot * (wr * (wB + wC)) = (d1 * wr) * (bot * (wB + wC)) := by ac_rfl
      _ = (b * d2) * (bot * (wB + wC)) := by rw [h1]
      _ = (b * (wB + wC)) * (d2 * bot) := by ac_rfl
      _ ≤ (wB * wr) * (d2 * bot) := Nat.mul_le_mul_right _ key
      _ = (wB * bot) * (d2 * wr) := by ac_rfl
      _ ≤ (top * (wB + wC)) * (d2 * wr) := Nat.mul_le_mul_right _ h2
      _ = top * d2 * (wr * (wB + wC)) := by ac_rfl
end K33
namespace K33
open PySem PySem.Spec PyProof.Rows L2
theorem mem_pick {rs : List Rw} {lot : List Nat} {q : Rw} : q ∈ pick rs lot ↔ ∃ n ∈ lot, rs[n]? = some q := List.mem_filterMap
/-- a lot is at least as sharp as a saying -/
structure Sharp (rs : List Rw) (lot : List Nat) (r : Rw) : Prop where
  cf : ∀ i, (jU (pick rs lot)).testBit i = true → (jB (pick rs lot)).testBit i = false → r.cf.testBit i = true
  br : ∀ i, r.br.testBit i = true → (jB (pick rs lot)).testBit i = true
theorem sharp_iff {rs : List Rw} {lot : List Nat} {r : Rw} : sharpB rs lot r = true ↔ Sharp rs lot r := by
  unfold sharpB
  rw [Bool.and_eq_true, decide_eq_true_iff, decide_eq_true_iff]
  rw [show lot.filterMap (rs[·]?) = pick rs lot from rfl, jn_eq]
  constructor
  · rintro ⟨h1, h2⟩
    exact ⟨fun i e1 e2 => bits_of h1 i (by rw [nd_bit, e1, e2]; rfl), fun i e => bits_of h2 i e⟩
  · rintro ⟨h1, h2⟩
    refine ⟨nd_zero.mpr fun i e => ?_, nd_zero.mpr fun i e => h2 i e⟩
    rw [nd_bit, Bool.and_eq_true] at e
    exact h1 i e.1 (by simpa using e.2)
theorem jU_ex {ps : List Rw} {i : Nat} : (jU ps).testBit i = true ↔ ∃ q ∈ ps, q.cf.testBit i = true := by rw [jU_bit, List.any_eq_true]
theorem jB_ex {ps : List Rw} {i : Nat} : (jB ps).testBit i = true ↔ ∃ q ∈ ps, q.br.testBit i = true := by rw [jB_bit, List.any_eq_true]
theorem cf_of_w {r : Rw} {i : Nat} (h : r.w.testBit i = true) (hb : r.br.testBit i = false) : r.cf.testBit i = true := by
  rw [w_bit, hb, Bool.or_false] at h
  exact h
theorem w_of_cf {r : Rw} {i : Nat} (h : r.cf.testBit i = true) : r.w.testBit i = true := by rw [w_bit, h]; rfl
theorem w_of_br {r : Rw} {i : Nat} (h : r.br.testBit i = true) : r.w.testBit i = true := by rw [w_bit, h, Bool.or_true]
theorem cf_nbr {r : Rw} {i : Nat} (h : r.cf.testBit i = true) : r.br.testBit i = false := by
  unfold Rw.cf at h
  rw [Nat.testBit_and, Bool.and_eq_true] at h
  unfold Rw.br
  rw [nd_bit, h.2]
  simp
theorem br_of {r : Rw} {i : Nat} (h : r.w.testBit i = true) (hc : r.cf.testBit i = false) : r.br.testBit i = true := by
  rw [w_bit, hc, Bool.false_or] at h
  exact h
/-- what stands between a lot and one that holds it -/
theorem pick_mono {rs : List Rw} {a b : List Nat} (h : ∀ n ∈ a, n ∈ b) {q : Rw} (hq : q ∈ pick rs a) : q ∈ pick rs b := by
  obtain ⟨n, hn, e⟩ := mem_pick.mp hq
  exact mem_pick.mpr ⟨n, h n hn, e⟩
theorem mem_uni {ls : List (List Nat)} {n : Nat} : n ∈ uni ls ↔ n < 12 ∧ ∃ l ∈ ls, n ∈ l := by
  unfold uni
  rw [List.mem_filter, List.mem_range, List.any_eq_true]
  simp only [decide_eq_true_eq]
/-- the lot of a step -/
def lotAt (ss : List MStep) (i : Nat) : List Nat := (restM ss).getD i []
theorem restM_get {ss : List MStep} {i : Nat} {s : MStep} (h : ss[i]? = some s) : (restM ss)[i]? = some (if s.rule = "given" then [s.lines.headD 0] else uni (s.lines.map fun j => (restM (ss.take i)).getD j [])) := by
  have hi := (List.getElem?_eq_some_iff.mp h).1
  have e : restM ss = restM (ss.take (i + 1)) ++ (restM ss).drop (i + 1) := by
    have h2 : ∀ (b : List MStep) (f : List (List Nat)), ∃ t, b.foldl restStep f = f ++ t := by
      intro b
      induction b with
      | nil => intro f; exact ⟨[], by simp⟩
      | cons x b ih =>
        intro f
        obtain ⟨t, e⟩ := ih (restStep f x)
        refine ⟨[if x.rule = "given" then [x.lines.headD 0] else uni (x.lines.map fun i => f.getD i [])] ++ t, ?_⟩
        rw [List.foldl_cons, e]
        unfold restStep
        rw [List.append_assoc]
    obtain ⟨t, et⟩ := h2 (ss.drop (i + 1)) (restM (ss.take (i + 1)))
    have e1 : restM ss = restM (ss.take (i + 1)) ++ t := by
      rw [← et, ← restM_app, List.take_append_drop]
    have hl : (restM (ss.take (i + 1))).length = i + 1 := by rw [restM_len, List.length_take]; omega
    rw [e1, List.drop_left' hl]
  rw [e, restM_take h]
  unfold restStep
  have hl : (restM (ss.take i)).length = i := by rw [restM_len, List.length_take]; omega
  rw [List.append_assoc, List.getElem?_append_right (by omega), hl, Nat.sub_self]
  rfl
theorem restM_old {ss : List MStep} {i j : Nat} (hj : j < i) (hi : i ≤ ss.length) : (restM (ss.take i)).getD j [] = lotAt ss j := by
  have hj2 : j < ss.length := by omega
  have e1 := restM_get (List.getElem?_eq_getElem hj2)
  have e2 := restM_get (ss := ss.take i) (i := j) (s := ss[j]) (by rw [List.getElem?_take, if_pos hj, List.getElem?_eq_getElem hj2])
  unfold lotAt
  rw [List.getD_eq_getElem?_getD, List.getD_eq_getElem?_getD, e1, e2, List.take_take, Nat.min_eq_left (by omega)]
theorem lot_given {ss : List MStep} {i n w t : Nat} (h : ss[i]? = some ⟨"given", [n], w, t⟩) : lotAt ss i = [n] := by
  unfold lotAt
  rw [List.getD_eq_getElem?_getD, restM_get h]
  rfl
theorem lot_other {ss : List MStep} {i : Nat} {s : MStep} (h : ss[i]? = some s) (hg : s.rule ≠ "given") (hl : ∀ l ∈ s.lines, l < i) : lotAt ss i = uni (s.lines.map (lotAt ss)) := by
  have hi := (List.getElem?_eq_some_iff.mp h).1
  unfold lotAt
  rw [List.getD_eq_getElem?_getD, restM_get h, if_neg hg]
  have e : (s.lines.map fun j => (restM (ss.take i)).getD j []) = s.lines.map (lotAt ss) := List.map_congr_left fun j hj => restM_old (hl j hj) (by omega)
  rw [e]
  rfl
/-- each step's lot is sharp for the step, holds numbers of rows -/
theorem step_sharp {rs : List Rw} {ss : List MStep} (d : Der0 rs ss) (hrl : rs.length ≤ 12) : ∀ (i : Nat) (s : MStep), ss[i]? = some s → Sharp rs (lotAt ss i) s.r ∧ (∀ n ∈ lotAt ss i, n < rs.length) := by
  intro i
  induction i using Nat.strongRecOn with
  | _ i ih =>
    intro s hs
    have hw := d.why i s hs
    cases hw with
    | given n w t r h1 h2 h3 h4 =>
      have hn := (List.getElem?_eq_some_iff.mp h1).1
      have hlot := lot_given hs
      have hp : ∀ q, q ∈ pick rs [n] ↔ q = r := fun q => by
        rw [mem_pick]
        constructor
        · rintro ⟨m, hm, e⟩
          rw [List.mem_singleton.mp hm, h1] at e
          exact (Option.some.inj e).symm
        · rintro rfl
          exact ⟨n, List.mem_singleton.mpr rfl, h1⟩
      have ecf : (MStep.r ⟨"given", [n], w, t⟩).cf = r.cf := h4
      have ebr : ∀ i, (MStep.r ⟨"given", [n], w, t⟩).br.testBit i = r.br.testBit i := fun i => by
        have h5 := w_bit (MStep.r ⟨"given", [n], w, t⟩) i
        have h6 := w_bit r i
        rw [ecf] at h5
        have h7 : (MStep.r ⟨"given", [n], w, t⟩).w = r.w := h3
        rw [h7, h6] at h5
        cases e : r.cf.testBit i with
        | false => rw [e] at h5; simpa using h5.symm
        | true =>
          have e2 : (MStep.r ⟨"given", [n], w, t⟩).cf.testBit i = true := by rw [ecf]; exact e
          rw [cf_nbr e, cf_nbr e2]
      rw [hlot]
      refine ⟨⟨fun i e1 _ => ?_, fun i e => ?_⟩, fun m hm => by rw [List.mem_singleton.mp hm]; exact hn⟩
      · obtain ⟨q, hq, e2⟩ := jU_ex.mp e1
        rw [(hp q).mp hq] at e2
        rw [ecf]
        exact e2
      · rw [ebr i] at e
        exact jB_ex.mpr ⟨r, (hp r).mpr rfl, e⟩
    | itself w t h1 =>
      have hlot := lot_other hs (show ("itself" : PySem.Str) ≠ "given" by decide) (fun l h => by cases h)
      have e0 : lotAt ss i = [] := by
        rw [hlot]
        apply List.eq_nil_iff_forall_not_mem.mpr
        intro n hn
        obtain ⟨_, l, hl, _⟩ := mem_uni.mp hn
        cases hl
      rw [e0]
      refine ⟨⟨fun i e1 _ => ?_, fun i e => ?_⟩, fun n hn => by cases hn⟩
      · obtain ⟨q, hq, _⟩ := jU_ex.mp e1
        cases hq
      · have : (nd w t).testBit i = true := e
        rw [h1, Nat.zero_testBit] at this
        cases this
    | weaker l w t o h1 h2 h3 h4 =>
      obtain ⟨⟨a1, a2⟩, a3⟩ := ih l h1 o h2
      have hlot := lot_other hs (show ("weaker" : PySem.Str) ≠ "given" by decide) (fun m h => by rw [List.mem_singleton.mp h]; exact h1)
      have e0 : ∀ n, n ∈ lotAt ss i ↔ n ∈ lotAt ss l := fun n => by
        rw [hlot, mem_uni]
        constructor
        · rintro ⟨_, l', hl', hn⟩
          rw [List.map_singleton, List.mem_singleton] at hl'
          rw [hl'] at hn
          exact hn
        · intro hn
          exact ⟨by have := a3 n hn; omega, _, List.mem_singleton.mpr rfl, hn⟩
      have pe : ∀ q, q ∈ pick rs (lotAt ss i) ↔ q ∈ pick rs (lotAt ss l) := fun q => ⟨pick_mono fun n h => (e0 n).mp h, pick_mono fun n h => (e0 n).mpr h⟩
      have bU : ∀ j, (jU (pick rs (lotAt ss i))).testBit j = true → (jU (pick rs (lotAt ss l))).testBit j = true := fun j e => by
        obtain ⟨q, hq, e2⟩ := jU_ex.mp e
        exact jU_ex.mpr ⟨q, (pe q).mp hq, e2⟩
      have bB : ∀ j, (jB (pick rs (lotAt ss i))).testBit j = true ↔ (jB (pick rs (lotAt ss l))).testBit j = true := fun j => by
        constructor
        · intro e
          obtain ⟨q, hq, e2⟩ := jB_ex.mp e
          exact jB_ex.mpr ⟨q, (pe q).mp hq, e2⟩
        · intro e
          obtain ⟨q, hq, e2⟩ := jB_ex.mp e
          exact jB_ex.mpr ⟨q, (pe q).mpr hq, e2⟩
      have sub : ∀ j, o.r.cf.testBit j = true → (MStep.r ⟨"weaker", [l], w, t⟩).cf.testBit j = true := fun j e => bits_of h4 j e
      refine ⟨⟨fun j e1 e2 => sub j (a1 j (bU j e1) ?_), fun j e => (bB j).mpr (a2 j ?_)⟩, fun n hn => a3 n ((e0 n).mp hn)⟩
      · cases q : (jB (pick rs (lotAt ss l))).testBit j with
        | false => rfl
        | true => rw [(bB j).mpr q] at e2; cases e2
      · have e3 : o.r.w.testBit j = true := by
          have := w_of_br e
          rwa [show (MStep.r ⟨"weaker", [l], w, t⟩).w = o.r.w from h3] at this
        refine br_of e3 ?_
        cases q : o.r.cf.testBit j with
        | false => rfl
        | true => rw [cf_nbr (sub j q)] at e; cases e
    | joined l m w t o p h1 h2 h3 h4 h5 h6 =>
      obtain ⟨⟨a1, a2⟩, a3⟩ := ih l h1 o h3
      obtain ⟨⟨b1, b2⟩, b3⟩ := ih m h2 p h4
      have hlot := lot_other hs (show ("joined" : PySem.Str) ≠ "given" by decide) (fun j h => by
        rcases List.mem_cons.mp h with rfl | h
        · exact h1
        · rw [List.mem_singleton.mp h]; exact h2)
      have e0 : ∀ n, n ∈ lotAt ss i ↔ n ∈ lotAt ss l ∨ n ∈ lotAt ss m := fun n => by
        rw [hlot, mem_uni]
        constructor
        · rintro ⟨_, l', hl', hn⟩
          simp only [List.map_cons, List.map_nil, List.mem_cons, List.not_mem_nil, or_false] at hl'
          rcases hl' with rfl | rfl
          · exact .inl hn
          · exact .inr hn
        · rintro (hn | hn)
          · exact ⟨by have := a3 n hn; omega, _, List.mem_cons_self .., hn⟩
          · exact ⟨by have := b3 n hn; omega, _, List.mem_cons_of_mem _ (List.mem_cons_self ..), hn⟩
      have pe : ∀ q, q ∈ pick rs (lotAt ss i) ↔ q ∈ pick rs (lotAt ss l) ∨ q ∈ pick rs (lotAt ss m) := fun q => by
        rw [mem_pick, mem_pick, mem_pick]
        constructor
        · rintro ⟨n, hn, e⟩
          rcases (e0 n).mp hn with h | h
          · exact .inl ⟨n, h, e⟩
          · exact .inr ⟨n, h, e⟩
        · rintro (⟨n, hn, e⟩ | ⟨n, hn, e⟩)
          · exact ⟨n, (e0 n).mpr (.inl hn), e⟩
          · exact ⟨n, (e0 n).mpr (.inr hn), e⟩
      have bB : ∀ j, (jB (pick rs (lotAt ss i))).testBit j = true ↔ (jB (pick rs (lotAt ss l))).testBit j = true ∨ (jB (pick rs (lotAt ss m))).testBit j = true := fun j => by
        rw [jB_ex, jB_ex, jB_ex]
        constructor
        · rintro ⟨q, hq, e⟩
          rcases (pe q).mp hq with h | h
          · exact .inl ⟨q, h, e⟩
          · exact .inr ⟨q, h, e⟩
        · rintro (⟨q, hq, e⟩ | ⟨q, hq, e⟩)
          · exact ⟨q, (pe q).mpr (.inl hq), e⟩
          · exact ⟨q, (pe q).mpr (.inr hq), e⟩
      have rbr : ∀ j, (MStep.r ⟨"joined", [l, m], w, t⟩).br.testBit j = true → o.r.br.testBit j = true ∨ p.r.br.testBit j = true := fun j e => by
        have ew := w_of_br e
        cases q : (o.r.br ||| p.r.br).testBit j with
        | true =>
          rw [Nat.testBit_or, Bool.or_eq_true] at q
          exact q
        | false =>
          have : (MStep.r ⟨"joined", [l, m], w, t⟩).cf.testBit j = true := by
            show (w &&& t).testBit j = true
            rw [h6, nd_bit, q]
            rw [show w.testBit j = true from ew]
            rfl
          rw [cf_nbr this] at e
          cases e
      refine ⟨⟨fun j e1 e2 => ?_, fun j e => (bB j).mpr ?_⟩, fun n hn => ?_⟩
      · have nl : (jB (pick rs (lotAt ss l))).testBit j = false := by
          cases q : (jB (pick rs (lotAt ss l))).testBit j with
          | false => rfl
          | true => rw [(bB j).mpr (.inl q)] at e2; cases e2
        have nm : (jB (pick rs (lotAt ss m))).testBit j = false := by
          cases q : (jB (pick rs (lotAt ss m))).testBit j with
          | false => rfl
          | true => rw [(bB j).mpr (.inr q)] at e2; cases e2
        have nob : (o.r.br ||| p.r.br).testBit j = false := by
          rw [Nat.testBit_or]
          cases q1 : o.r.br.testBit j with
          | true => rw [a2 j q1] at nl; cases nl
          | false =>
            cases q2 : p.r.br.testBit j with
            | true => rw [b2 j q2] at nm; cases nm
            | false => rfl
        have hw : w.testBit j = true := by
          obtain ⟨q, hq, e3⟩ := jU_ex.mp e1
          rw [h5, Nat.testBit_or]
          rcases (pe q).mp hq with h | h
          · have := w_of_cf (a1 j (jU_ex.mpr ⟨q, h, e3⟩) nl)
            rw [show o.w.testBit j = true from this]
            rfl
          · have := w_of_cf (b1 j (jU_ex.mpr ⟨q, h, e3⟩) nm)
            rw [show p.w.testBit j = true from this, Bool.or_true]
        show (w &&& t).testBit j = true
        rw [h6, nd_bit, hw, nob]
        rfl
      · rcases rbr j e with h | h
        · exact .inl (a2 j h)
        · exact .inr (b2 j h)
      · rcases (e0 n).mp hn with h | h
        · exact a3 n h
        · exact b3 n h
    | cautious l m w t o p h1 h2 h3 h4 h5 h6 h7 =>
      obtain ⟨⟨a1, a2⟩, a3⟩ := ih l h1 o h3
      obtain ⟨⟨b1, b2⟩, b3⟩ := ih m h2 p h4
      have hlot := lot_other hs (show ("cautious" : PySem.Str) ≠ "given" by decide) (fun j h => by
        rcases List.mem_cons.mp h with rfl | h
        · exact h1
        · rw [List.mem_singleton.mp h]; exact h2)
      have e0 : ∀ n, n ∈ lotAt ss i ↔ n ∈ lotAt ss l ∨ n ∈ lotAt ss m := fun n => by
        rw [hlot, mem_uni]
        constructor
        · rintro ⟨_, l', hl', hn⟩
          simp only [List.map_cons, List.map_nil, List.mem_cons, List.not_mem_nil, or_false] at hl'
          rcases hl' with rfl | rfl
          · exact .inl hn
          · exact .inr hn
        · rintro (hn | hn)
          · exact ⟨by have := a3 n hn; omega, _, List.mem_cons_self .., hn⟩
          · exact ⟨by have := b3 n hn; omega, _, List.mem_cons_of_mem _ (List.mem_cons_self ..), hn⟩
      have pe : ∀ q, q ∈ pick rs (lotAt ss i) ↔ q ∈ pick rs (lotAt ss l) ∨ q ∈ pick rs (lotAt ss m) := fun q => by
        rw [mem_pick, mem_pick, mem_pick]
        constructor
        · rintro ⟨n, hn, e⟩
          rcases (e0 n).mp hn with h | h
          · exact .inl ⟨n, h, e⟩
          · exact .inr ⟨n, h, e⟩
        · rintro (⟨n, hn, e⟩ | ⟨n, hn, e⟩)
          · exact ⟨n, (e0 n).mpr (.inl hn), e⟩
          · exact ⟨n, (e0 n).mpr (.inr hn), e⟩
      have bB : ∀ j, (jB (pick rs (lotAt ss i))).testBit j = true ↔ (jB (pick rs (lotAt ss l))).testBit j = true ∨ (jB (pick rs (lotAt ss m))).testBit j = true := fun j => by
        rw [jB_ex, jB_ex, jB_ex]
        constructor
        · rintro ⟨q, hq, e⟩
          rcases (pe q).mp hq with h | h
          · exact .inl ⟨q, h, e⟩
          · exact .inr ⟨q, h, e⟩
        · rintro (⟨q, hq, e⟩ | ⟨q, hq, e⟩)
          · exact ⟨q, (pe q).mpr (.inl hq), e⟩
          · exact ⟨q, (pe q).mpr (.inr hq), e⟩
      have ew : o.r.w = p.r.w := h5
      refine ⟨⟨fun j e1 e2 => ?_, fun j e => (bB j).mpr (.inr (b2 j ?_))⟩, fun n hn => ?_⟩
      · have nl : (jB (pick rs (lotAt ss l))).testBit j = false := by
          cases q : (jB (pick rs (lotAt ss l))).testBit j with
          | false => rfl
          | true => rw [(bB j).mpr (.inl q)] at e2; cases e2
        have nm : (jB (pick rs (lotAt ss m))).testBit j = false := by
          cases q : (jB (pick rs (lotAt ss m))).testBit j with
          | false => rfl
          | true => rw [(bB j).mpr (.inr q)] at e2; cases e2
        have no : o.r.br.testBit j = false := by
          cases q1 : o.r.br.testBit j with
          | true => rw [a2 j q1] at nl; cases nl
          | false => rfl
        have np : p.r.br.testBit j = false := by
          cases q1 : p.r.br.testBit j with
          | true => rw [b2 j q1] at nm; cases nm
          | false => rfl
        have hw : o.r.w.testBit j = true := by
          obtain ⟨q, hq, e3⟩ := jU_ex.mp e1
          rcases (pe q).mp hq with h | h
          · exact w_of_cf (a1 j (jU_ex.mpr ⟨q, h, e3⟩) nl)
          · rw [ew]
            exact w_of_cf (b1 j (jU_ex.mpr ⟨q, h, e3⟩) nm)
        show (w &&& t).testBit j = true
        rw [h7, Nat.testBit_and, cf_of_w hw no, cf_of_w (ew ▸ hw) np]
        rfl
      · have e1 := w_of_br e
        have e2 : o.r.cf.testBit j = true := by
          rw [← h6]
          exact e1
        refine br_of (ew ▸ w_of_cf e2) ?_
        cases q : p.r.cf.testBit j with
        | false => rfl
        | true =>
          have : (MStep.r ⟨"cautious", [l, m], w, t⟩).cf.testBit j = true := by
            show (w &&& t).testBit j = true
            rw [h7, Nat.testBit_and, e2, q]
            rfl
          rw [cf_nbr this] at e
          cases e
      · rcases (e0 n).mp hn with h | h
        · exact a3 n h
        · exact b3 n h
end K33
namespace K33
open PySem PySem.Spec PyProof.Rows L2
theorem lay_mem {n : Nat} : ∀ (k : Nat) (l : List Nat), l.length = k → l.Pairwise (· < ·) → (∀ m ∈ l, m < n) → l ∈ lay n k
  | 0, l, h, _, _ => by
    rw [List.eq_nil_of_length_eq_zero h]
    exact List.mem_singleton.mpr rfl
  | k + 1, l, h, ha, hn => by
    obtain ⟨r, x, e⟩ := snoc_of (l := l) (fun z => by rw [z] at h; cases h)
    subst e
    rw [List.length_append, List.length_singleton] at h
    rw [List.pairwise_append] at ha
    have ih := lay_mem k r (by omega) ha.1 fun m hm => hn m (List.mem_append_left _ hm)
    refine List.mem_flatMap.mpr ⟨r, ih, List.mem_map.mpr ⟨x, List.mem_filter.mpr ⟨List.mem_range.mpr (hn x (List.mem_append_right _ (List.mem_singleton.mpr rfl))), ?_⟩, rfl⟩⟩
    unfold okN
    rw [Bool.or_eq_true, decide_eq_true_iff, decide_eq_true_iff]
    by_cases hr : r = []
    · exact .inl hr
    · right
      obtain ⟨a, b, eb⟩ := snoc_of hr
      subst eb
      rw [show (a ++ [b]).getLastD 0 = b by simp]
      exact ha.2.2 b (List.mem_append_right _ (List.mem_singleton.mpr rfl)) x (List.mem_singleton.mpr rfl)
theorem nsub_len : ∀ {ms ns : List Nat}, ms.Nodup → (∀ x ∈ ms, x ∈ ns) → ms.length ≤ ns.length
  | [], _, _, _ => Nat.zero_le _
  | m :: ms, ns, hn, h => by
    have hm := h m (List.mem_cons_self ..)
    have hn' := List.nodup_cons.mp hn
    have := nsub_len (ms := ms) (ns := ns.erase m) hn'.2 fun x hx => by
      have : x ≠ m := fun z => hn'.1 (z ▸ hx)
      exact (List.mem_erase_of_ne this).mpr (h x (List.mem_cons_of_mem _ hx))
    rw [List.length_erase_of_mem hm] at this
    have hp : 0 < ns.length := List.length_pos_of_mem hm
    rw [List.length_cons]
    omega
theorem asc_len : ∀ {l : List Nat} {n : Nat}, l.Pairwise (· < ·) → (∀ m ∈ l, m < n) → l.length ≤ n := fun {l n} ha hn => by
  have h1 : l.Nodup := ha.imp fun z => Nat.ne_of_lt z
  have := nsub_len (ns := List.range n) h1 fun m hm => List.mem_range.mpr (hn m hm)
  rwa [List.length_range] at this
theorem lays_mem {n : Nat} {l : List Nat} (ha : l.Pairwise (· < ·)) (hn : ∀ m ∈ l, m < n) : l ∈ lays n (n + 1) := lays_get (lay_mem _ l rfl ha hn) (Nat.lt_succ_of_le (asc_len ha hn))
theorem range_pick {α : Type} (l : List α) : ∀ k, k ≤ l.length → (List.range k).filterMap (l[·]?) = l.take k
  | 0, _ => by simp
  | k + 1, h => by
    rw [List.range_succ, List.filterMap_append, range_pick l k (by omega)]
    have e := List.getElem?_eq_getElem (l := l) (i := k) (by omega)
    rw [take_at e]
    simp [e]
theorem yields_of {rs : List Rw} {lot : List Nat} {r : Rw} (h : Sharp rs lot r) : yields rs lot r := by
  refine ⟨List.range lot.length, lays_mem List.pairwise_lt_range (fun m hm => List.mem_range.mp hm), ?_⟩
  rw [range_pick lot _ (Nat.le_refl _), List.take_length]
  exact sharp_iff.mpr h
theorem doubt_le {ns : List Nat} {rs : List Rw} {lot : List Nat} {r : Rw} (h : Sharp rs lot r) : (doubtN ns r).1 * (sumN ns (pick rs lot)).2 ≤ (sumN ns (pick rs lot)).1 * (doubtN ns r).2 := by
  by_cases h0 : wt ns r.w = 0
  · unfold doubtN
    rw [if_pos h0, Nat.zero_mul]
    exact Nat.zero_le _
  · have hB : ∀ i, (jB (pick rs lot)).testBit i = true → (jW (pick rs lot)).testBit i = true := fun i e => by
      obtain ⟨q, hq, e2⟩ := jB_ex.mp e
      rw [jW_bit, List.any_eq_true]
      exact ⟨q, hq, w_of_br e2⟩
    have hC : ∀ i, (nd (jW (pick rs lot)) (jB (pick rs lot))).testBit i = true → r.cf.testBit i = true := fun i e => by
      rw [nd_bit, Bool.and_eq_true] at e
      obtain ⟨e1, e2⟩ := e
      have e2' : (jB (pick rs lot)).testBit i = false := by simpa using e2
      rw [jW_bit, List.any_eq_true] at e1
      obtain ⟨q, hq, e3⟩ := e1
      refine h.cf i (jU_ex.mpr ⟨q, hq, cf_of_w e3 ?_⟩) e2'
      cases z : q.br.testBit i with
      | false => rfl
      | true => rw [jB_ex.mpr ⟨q, hq, z⟩] at e2'; cases e2'
    refine cross (b := wt ns r.br) (wr := wt ns r.w) (wB := wt ns (jB (pick rs lot))) (wC := wt ns (nd (jW (pick rs lot)) (jB (pick rs lot)))) ?_ ?_ ?_ ?_ h0
    · unfold doubtN
      rw [if_neg h0]
      exact ratio_cross
    · have s1 := sum_ge (ns := ns) (W := jW (pick rs lot)) (pick rs lot) (0, 1) 0 (fun q hq => nd_zero.mpr fun i e => by
        rw [jW_bit, List.any_eq_true]
        exact ⟨q, hq, e⟩) (by simp)
      rw [Nat.zero_add] at s1
      have s2 : wt ns (jW (pick rs lot)) = wt ns (jB (pick rs lot)) + wt ns (nd (jW (pick rs lot)) (jB (pick rs lot))) := by
        have e : jW (pick rs lot) = jB (pick rs lot) ||| nd (jW (pick rs lot)) (jB (pick rs lot)) := eq_of_bits fun i => by
          rw [Nat.testBit_or, nd_bit]
          have := hB i
          cases q1 : (jB (pick rs lot)).testBit i <;> cases q2 : (jW (pick rs lot)).testBit i <;> simp_all
        have := wtS_add (ns := ns) (s := jB (pick rs lot)) (t := nd (jW (pick rs lot)) (jB (pick rs lot))) (eq_of_bits fun i => by
          rw [Nat.testBit_and, nd_bit, Nat.zero_testBit]
          cases (jB (pick rs lot)).testBit i <;> simp) ns.length
        rw [← e] at this
        exact this
      rw [← s2]
      exact Nat.le_trans (Nat.mul_le_mul_right _ (wt_jB ns _)) s1
    · have e1 := wtS_add (ns := ns) (s := r.br) (t := nd (jW (pick rs lot)) (jB (pick rs lot))) (eq_of_bits fun i => by
        rw [Nat.testBit_and, nd_bit, Nat.zero_testBit]
        cases q : r.br.testBit i with
        | false => rfl
        | true =>
          rw [h.br i q]
          simp) ns.length
      have e2 : wtS ns (r.br ||| nd (jW (pick rs lot)) (jB (pick rs lot))) ns.length ≤ wtS ns r.w ns.length := wtS_mono (nd_zero.mpr fun i e => by
        rw [Nat.testBit_or, Bool.or_eq_true] at e
        rcases e with e | e
        · exact w_of_br e
        · exact w_of_cf (hC i e)) _
      rw [e1] at e2
      exact e2
    · exact wtS_mono (nd_zero.mpr h.br) _
theorem pick_u {rs : List Rw} (hu : ∀ q ∈ rs, q.u = true) {lot : List Nat} : ∀ q ∈ pick rs lot, q.u = true := fun q hq => by
  obtain ⟨n, _, e⟩ := mem_pick.mp hq
  exact hu q (List.mem_of_getElem? e)
theorem sound_of {rs : List Rw} (hu : ∀ q ∈ rs, q.u = true) {lot : List Nat} {r : Rw} (hr : r.u = true) (h : Sharp rs lot r) (hn : ∀ n ∈ lot, n < rs.length) (ha : lot.Pairwise (· < ·)) (h6 : rs.length ≤ 6) : SoundAt rs lot r := by
  refine ⟨hn, Nat.le_trans (asc_len ha hn) h6, yields_of h, fun l hk => (kept_t hr).mpr ?_, fun ns _ => doubt_le h⟩
  refine kept_of (pick_u hu) hr (nd_zero.mpr fun i e => ?_) (nd_zero.mpr h.br) l fun q hq => (kept_t (pick_u hu q hq)).mp (List.all_eq_true.mp hk q hq)
  rw [nd_bit, Bool.and_eq_true] at e
  exact h.cf i e.1 (by simpa using e.2)
/-- all that the law asks of the steps of a derivation -/
theorem der_sound {rs : List Rw} (hu : ∀ q ∈ rs, q.u = true) {ss : List MStep} (d : Der rs ss) (h6 : rs.length ≤ 6) : ∀ (i : Nat) (s : MStep) (l : List Nat), ss[i]? = some s → (restM ss)[i]? = some l → SoundAt rs l s.r := fun i s l hs hl => by
  obtain ⟨h1, h2⟩ := step_sharp ⟨d.why, d.ok⟩ d.rl i s hs
  have e : lotAt ss i = l := by
    unfold lotAt
    rw [List.getD_eq_getElem?_getD, hl]
    rfl
  rw [e] at h1 h2
  have hm : l ∈ restM (ss.take ss.length) := by
    rw [List.take_length]
    exact List.mem_of_getElem? hl
  exact sound_of hu rfl h1 h2 (d.lots _ (Nat.le_refl _) l hm).asc h6
/-! ### the widest lot -/
/-- the endless days of a book and the flipped saying -/
structure EndOk (rs : List Rw) (r : Rw) (en : Nat) : Prop where
  up : ∀ d, en.testBit d = true → (∃ q ∈ rs, q.br.testBit d = true ∧ ∀ e, q.cf.testBit e = true → en.testBit e = true) ∨ (r.cf.testBit d = true ∧ ∀ e, r.br.testBit e = true → en.testBit e = true)
  top : ∀ S : Nat → Prop, (∀ d, S d → (∃ q ∈ rs, q.br.testBit d = true ∧ ∀ e, q.cf.testBit e = true → S e) ∨ (r.cf.testBit d = true ∧ ∀ e, r.br.testBit e = true → S e)) → ∀ d, S d → en.testBit d = true
def inE (rs : List Rw) (en i : Nat) : Bool := match rs[i]? with
  | some q => decide (nd q.cf en = 0)
  | none => false
def wideN (rs : List Rw) (en : Nat) : List Nat := (List.range rs.length).filter (inE rs en)
structure WideOk (rs : List Rw) (r : Rw) (W : List Nat) : Prop where
  asc : W.Pairwise (· < ·)
  lt : ∀ n ∈ W, n < rs.length
  sharp : Sharp rs W r
  top : ∀ lot, Sharp rs lot r → ∀ n ∈ lot, n < rs.length → n ∈ W
theorem mem_wide {rs : List Rw} {en n : Nat} : n ∈ wideN rs en ↔ ∃ q, rs[n]? = some q ∧ nd q.cf en = 0 := by
  unfold wideN inE
  rw [List.mem_filter, List.mem_range]
  constructor
  · rintro ⟨h1, h2⟩
    rw [List.getElem?_eq_getElem h1] at h2
    exact ⟨rs[n], List.getElem?_eq_getElem h1, of_decide_eq_true h2⟩
  · rintro ⟨q, e, h⟩
    rw [e]
    exact ⟨(List.getElem?_eq_some_iff.mp e).1, decide_eq_true h⟩
/-- a sharp lot lies within the endless days -/
theorem sharp_end {rs : List Rw} {r : Rw} {en : Nat} (E : EndOk rs r en) {lot : List Nat} (h : Sharp rs lot r) : nd r.br en = 0 ∧ ∀ q ∈ pick rs lot, nd q.cf en = 0 := by
  have key : ∀ d, (jB (pick rs lot)).testBit d = true ∨ r.cf.testBit d = true → en.testBit d = true := by
    refine E.top _ fun d hd => ?_
    have hcf : ∀ q ∈ pick rs lot, ∀ e, q.cf.testBit e = true → (jB (pick rs lot)).testBit e = true ∨ r.cf.testBit e = true := fun q hq e he => by
      cases z : (jB (pick rs lot)).testBit e with
      | true => exact .inl rfl
      | false => exact .inr (h.cf e (jU_ex.mpr ⟨q, hq, he⟩) z)
    rcases hd with hd | hd
    · obtain ⟨q, hq, e⟩ := jB_ex.mp hd
      obtain ⟨n, _, en'⟩ := mem_pick.mp hq
      exact .inl ⟨q, List.mem_of_getElem? en', e, hcf q hq⟩
    · exact .inr ⟨hd, fun e he => .inl (h.br e he)⟩
  refine ⟨nd_zero.mpr fun i e => key i (.inl (h.br i e)), fun q hq => nd_zero.mpr fun i e => ?_⟩
  cases z : (jB (pick rs lot)).testBit i with
  | true => exact key i (.inl z)
  | false => exact key i (.inr (h.cf i (jU_ex.mpr ⟨q, hq, e⟩) z))
theorem wide_yes {rs : List Rw} {r : Rw} {en : Nat} (E : EndOk rs r en) (h : nd r.br en = 0) : WideOk rs r (wideN rs en) := by
  have hE : ∀ d, en.testBit d = true → (jB (pick rs (wideN rs en))).testBit d = true ∨ r.cf.testBit d = true := fun d hd => by
    rcases E.up d hd with ⟨q, hq, e1, e2⟩ | ⟨e, _⟩
    · left
      obtain ⟨n, hn, en'⟩ := List.mem_iff_getElem.mp hq
      exact jB_ex.mpr ⟨q, mem_pick.mpr ⟨n, mem_wide.mpr ⟨q, by rw [List.getElem?_eq_getElem hn, en'], nd_zero.mpr e2⟩, by rw [List.getElem?_eq_getElem hn, en']⟩, e1⟩
    · exact .inr e
  refine ⟨List.Pairwise.filter _ List.pairwise_lt_range, fun n hn => List.mem_range.mp (List.mem_filter.mp hn).1, ⟨fun i e1 e2 => ?_, fun i e => ?_⟩, fun lot hl n hn hlt => ?_⟩
  · obtain ⟨q, hq, e⟩ := jU_ex.mp e1
    obtain ⟨n, hn, en'⟩ := mem_pick.mp hq
    obtain ⟨q', eq', hc⟩ := mem_wide.mp hn
    rw [en'] at eq'
    cases eq'
    rcases hE i (bits_of hc i e) with h1 | h1
    · rw [h1] at e2
      cases e2
    · exact h1
  · rcases hE i (bits_of h i e) with h1 | h1
    · exact h1
    · rw [cf_nbr h1] at e
      cases e
  · have e := List.getElem?_eq_getElem hlt
    exact mem_wide.mpr ⟨rs[n], e, (sharp_end E hl).2 _ (mem_pick.mpr ⟨n, hn, e⟩)⟩
theorem wide_no {rs : List Rw} {r : Rw} {en : Nat} (E : EndOk rs r en) (h : nd r.br en ≠ 0) (lot : List Nat) : sharpB rs lot r = false := by
  cases e : sharpB rs lot r with
  | false => rfl
  | true => exact absurd (sharp_end E (sharp_iff.mp e)).1 h
/-! ### each row has a broken day of its own -/
structure OwnBr (rs : List Rw) (r : Rw) : Prop where
  own : ∀ (m n : Nat) (q p : Rw) (i : Nat), rs[m]? = some q → rs[n]? = some p → q.br.testBit i = true → p.br.testBit i = true → m = n
  has : ∀ (n : Nat) (q : Rw), rs[n]? = some q → ∃ i, q.br.testBit i = true
  all : Sharp rs (List.range rs.length) r
  ask : r.br = jB rs
theorem OwnBr.only {rs : List Rw} {r : Rw} (h : OwnBr rs r) {lot : List Nat} (hl : Sharp rs lot r) : ∀ n, n < rs.length → n ∈ lot := fun n hn => by
  have e := List.getElem?_eq_getElem hn
  obtain ⟨i, hi⟩ := h.has n _ e
  have h1 : r.br.testBit i = true := by
    rw [h.ask]
    exact jB_ex.mpr ⟨rs[n], List.getElem_mem hn, hi⟩
  obtain ⟨q, hq, e2⟩ := jB_ex.mp (hl.br i h1)
  obtain ⟨m, hm, em⟩ := mem_pick.mp hq
  rw [← h.own m n q _ i em e e2 hi]
  exact hm
theorem OwnBr.lot {rs : List Rw} {r : Rw} (h : OwnBr rs r) {lot : List Nat} (hl : Sharp rs lot r) (ha : lot.Pairwise (· < ·)) (hn : ∀ n ∈ lot, n < rs.length) : lot = List.range rs.length :=
  asc_eq ha List.pairwise_lt_range fun n => ⟨fun hm => List.mem_range.mpr (hn n hm), fun hm => h.only hl n (List.mem_range.mp hm)⟩
theorem OwnBr.wide {rs : List Rw} {r : Rw} (h : OwnBr rs r) {W : List Nat} (hw : WideOk rs r W) : W = List.range rs.length := h.lot hw.sharp hw.asc hw.lt
/-- the last step rests on the whole lot -/
theorem OwnBr.rests {rs : List Rw} {r : Rw} (h : OwnBr rs r) {ss : List MStep} (d : DerOf rs r ss) : (restM ss)[ss.length - 1]? = some (List.range rs.length) := by
  obtain ⟨dr, s, hs, e1, e2⟩ := d
  obtain ⟨h1, h2⟩ := step_sharp ⟨dr.why, dr.ok⟩ dr.rl _ s hs
  have hi := (List.getElem?_eq_some_iff.mp hs).1
  have hl : ss.length - 1 < (restM ss).length := by rw [restM_len]; exact hi
  have el : (restM ss)[ss.length - 1]? = some (lotAt ss (ss.length - 1)) := getD_at hl
  have hm : lotAt ss (ss.length - 1) ∈ restM (ss.take ss.length) := by
    rw [List.take_length]
    exact List.mem_of_getElem? el
  have sr : Sharp rs (lotAt ss (ss.length - 1)) r := by
    refine ⟨fun i a b => by rw [← e2]; exact h1.cf i a b, fun i e => h1.br i (br_of ?_ ?_)⟩
    · rw [show s.r.w = r.w from e1]
      exact w_of_br e
    · rw [e2]
      cases z : r.cf.testBit i with
      | false => rfl
      | true => rw [cf_nbr z] at e; cases e
  rw [el, h.lot sr (dr.lots _ (Nat.le_refl _) _ hm).asc h2]
end K33
namespace K33
open PySem PySem.Spec PyProof.Rows L2
abbrev flipR (r : Rw) : Rw := ⟨r.w, r.br, r.u⟩
theorem setOf_bit (ns : List Nat) (i : Nat) : (setOf ns).testBit i = true ↔ i ∈ ns := by
  have h : ∀ (ns : List Nat) (t : Nat), (ns.foldl (fun t n => t ||| 2 ^ n) t).testBit i = true ↔ t.testBit i = true ∨ i ∈ ns := by
    intro ns
    induction ns with
    | nil => intro t; simp
    | cons n ns ih =>
      intro t
      rw [List.foldl_cons, ih, Nat.testBit_or, Nat.testBit_two_pow, Bool.or_eq_true, decide_eq_true_iff, List.mem_cons]
      constructor
      · rintro ((h | h) | h)
        · exact .inl h
        · exact .inr (.inl h.symm)
        · exact .inr (.inr h)
      · rintro (h | h | h)
        · exact .inl (.inl h)
        · exact .inl (.inr h.symm)
        · exact .inr h
  have := h ns 0
  rw [Nat.zero_testBit] at this
  refine Iff.trans this ⟨fun z => ?_, .inr⟩
  rcases z with z | z
  · cases z
  · exact z
theorem flip_cf (r : Rw) : (flipR r).cf = r.br := eq_of_bits fun i => by
  show (r.w &&& r.br).testBit i = _
  rw [Nat.testBit_and]
  cases e : r.br.testBit i with
  | false => rw [Bool.and_false]
  | true => rw [w_of_br e]; rfl
theorem flip_br (r : Rw) : (flipR r).br = r.cf := eq_of_bits fun i => by
  show (nd r.w r.br).testBit i = _
  rw [nd_bit]
  cases e : r.cf.testBit i with
  | false =>
    cases e2 : r.w.testBit i with
    | false => rfl
    | true => rw [br_of e2 e]; rfl
  | true => rw [w_of_cf e, cf_nbr e]; rfl
theorem lo_u {r : Rw} (h : r.u = true) : r.lo = r.cf := by unfold Rw.lo; rw [h]; rfl
theorem hi_u {r : Rw} (h : r.u = true) : r.hi = r.br := by unfold Rw.hi; rw [h]; rfl
theorem flip_in {r : Rw} {n : Nat} (h : r.In n) : (flipR r).In n := ⟨h.1, h.2.1, nd_lt h.2.1⟩
theorem end_of {rs : List Rw} {r : Rw} {n : Nat} {s : LfS} (hrs : ∀ q ∈ rs, q.In n ∧ q.u = true) (hr : r.In n) (hu : r.u = true) (h : LfEnd (rs ++ [flipR r]) n s) : EndOk rs r (setOf (openD s.ls)) := by
  obtain ⟨e1, e2, ok, dis, nil⟩ := h
  have alli : ∀ q ∈ rs ++ [flipR r], q.In n ∧ q.u = true := fun q hq => by
    rcases List.mem_append.mp hq with h | h
    · exact hrs q h
    · rw [List.mem_singleton.mp h]
      exact ⟨flip_in hr, hu⟩
  have opn : ∀ d, d < n → s.kn.testBit d = false → d ∈ openD s.ls := fun d hd hk => by
    have hl : d < s.ls.length := by rw [ok.l1, e2]; exact hd
    rw [mem_open, List.getElem?_eq_getElem hl]
    cases q : s.ls[d] with
    | none => rfl
    | some v =>
      have := (ok.kn d).mpr ⟨v, by rw [List.getElem?_eq_getElem hl, q]⟩
      rw [hk] at this
      cases this
  refine ⟨fun d hd => ?_, fun S hS d hd => ?_⟩
  · have hdo := (setOf_bit _ _).mp hd
    have hst : stays s d = false := by
      cases q : stays s d with
      | false => rfl
      | true =>
        have : d ∈ setD s := List.mem_filter.mpr ⟨hdo, q⟩
        rw [nil] at this
        cases this
    obtain ⟨q, hq, q1, q2⟩ := firstR_ex hst
    rw [e1] at hq
    have hqi := alli q hq
    have lows : ∀ e, q.cf.testBit e = true → (setOf (openD s.ls)).testBit e = true := fun e he => by
      refine (setOf_bit _ _).mpr (opn e ?_ ?_)
      · exact bits_lt hqi.1.2.1 (w_of_cf he)
      · cases z : s.kn.testBit e with
        | false => rfl
        | true =>
          have := congrArg (Nat.testBit · e) q2
          simp only [Nat.testBit_and, Nat.zero_testBit, lo_u hqi.2, he, z] at this
          cases this
    rw [hi_u hqi.2] at q1
    rcases List.mem_append.mp hq with h | h
    · exact .inl ⟨q, h, q1, lows⟩
    · have := List.mem_singleton.mp h
      subst this
      rw [flip_br] at q1
      rw [flip_cf] at lows
      exact .inr ⟨q1, lows⟩
  · have rises : Rises s.rs s.n S := fun d hd => by
      rw [e1, e2]
      rcases hS d hd with ⟨q, hq, q1, q2⟩ | ⟨q1, q2⟩
      · have := hrs q hq
        exact ⟨bits_lt this.1.2.1 (w_of_br q1), q, List.mem_append_left _ hq, by rw [hi_u this.2]; exact q1, fun e he => q2 e (by rw [lo_u this.2] at he; exact he)⟩
      · exact ⟨bits_lt hr.2.1 (w_of_cf q1), flipR r, List.mem_append_right _ (List.mem_singleton.mpr rfl), by rw [hi_u (r := flipR r) hu, flip_br]; exact q1, fun e he => q2 e (by rw [lo_u (r := flipR r) hu, flip_cf] at he; exact he)⟩
    refine (setOf_bit _ _).mpr (opn d ?_ (dis S rises d hd))
    have := (rises d hd).1
    rw [e2] at this
    exact this
theorem need_none {rs : List Rw} (h : needR rs = none) : ∀ q ∈ rs, q.u = true := fun q hq => by
  unfold needR at h
  rw [List.findIdx?_eq_none_iff] at h
  have := h q hq
  simpa using this
section
variable {P : Program} {w : World} {K : PySem.W.Frag} {mg : PySem.Str → Option Value} {base : Heap}
local macro_rules | `(tactic| walk_at "d0") => `(tactic| first
  | ((with_reducible apply ev_var); rfl)
  | with_reducible apply ev_int
  | with_reducible apply ev_bl
  | with_reducible apply ev_str
  | with_reducible apply ev_non
  | with_reducible apply s_seq
  | with_reducible apply s_ret
  | with_reducible apply s_asg
  | with_reducible apply s_next
  | ((with_reducible apply s_app); rfl)
  | with_reducible apply s_drop
  | ((with_reducible apply src_0); rfl; intro _)
  | ((with_reducible apply src_1); rfl; intro _ _ _)
  | ((with_reducible apply src_2); rfl; intro _)
  | ((with_reducible apply s_setSrc0); rfl)
  | ((with_reducible apply s_setSrc2); rfl)
  | ((with_reducible apply ev_callS); rfl)
  | ((with_reducible apply ev_opO); rfl)
  | ((with_reducible apply ev_ixO); rfl)
  | with_reducible apply ev_op
  | with_reducible apply ev_un
  | with_reducible apply et_test
  | with_reducible apply et_B
  | with_reducible apply et_truI
  | with_reducible apply et_and
  | with_reducible apply et_or
  | with_reducible apply et_not
  | with_reducible apply ea_nil
  | with_reducible apply ea_cons
  | with_reducible apply ro_nd_n
  | with_reducible apply ro_and_n
  | with_reducible apply ro_or_n
  | with_reducible apply ro_shr_n
  | with_reducible apply ro_eq_0
  | with_reducible apply ro_ne_0
  | with_reducible apply ro_eq_n
  | with_reducible apply ro_ne_n
  | with_reducible apply ro_add_n
  | with_reducible apply ro_add_1
  | with_reducible apply ro_I0
  | with_reducible apply ro_B0
  | with_reducible apply ro_un
  | ((with_reducible apply ro_isN); rfl)
  | ((with_reducible apply ro_notN); rfl)
  | with_reducible apply ro_eq_t0
  | with_reducible apply ro_ne_lt0
  | with_reducible apply ro_ne_l0
  | with_reducible apply ro_ne_tt
  | with_reducible apply ro_eq_tt
  | with_reducible apply ro_ne_t
  | with_reducible apply ro_eq_i
  | with_reducible apply ro_ne_i
  | with_reducible apply ro_eq_s
  | with_reducible apply ro_add
  | ((with_reducible apply ro_ixT); rfl)
  | ((with_reducible apply ro_ixL); rfl)
  | with_reducible apply ev_list
  | with_reducible apply ev_tuple
  | with_reducible apply ev_sortset
  | with_reducible apply ev_isLT
  | ((with_reducible apply ev_cbO); rfl)
  | with_reducible apply ev_cb
  | with_reducible apply ev_call
  | ((with_reducible apply ev_fldM); rfl; exact Wf.kc2 (by assumption) (by decide +kernel); rfl)
  | with_reducible apply ev_fld
  | with_reducible apply ev_and
  | with_reducible apply ev_or
  | with_reducible apply ev_notV
  | with_reducible apply ev_if
  | with_reducible apply ev_chain
  | with_reducible apply ev_tup
  | with_reducible apply ev_lst
  | with_reducible apply ev_make
  | ((with_reducible apply ev_cm0); exact exok0)
  | ((with_reducible apply ev_cm); exact exok0)
  | ((with_reducible apply ev_meth0); exact exok0)
  | ((with_reducible apply ev_meth); exact exok0)
  | ((with_reducible apply ro_subO); exact exok0)
  | ((with_reducible apply ro_addO); exact exok0)
  | ((with_reducible apply rc_lenO); exact exok0)
  | ((with_reducible apply ev_prop); exact exok0)
  | with_reducible apply rc_int
  | with_reducible apply rc_lenL
  | with_reducible apply rc_lenT
  | ((with_reducible apply rc_is_int); (exact rfl))
  | ((with_reducible apply rc_is_bl); (exact rfl))
  | ((with_reducible apply rc_is_str); (exact rfl))
  | ((with_reducible apply rc_is_tup); (exact rfl))
  | ((with_reducible apply s_fldM); rfl; exact Wf.kc2 (by assumption) (by decide +kernel); decide; rfl)
  | with_reducible apply et_yes
  | with_reducible apply ev_rawc
  | ((with_reducible apply ev_src); rfl)
  | ((with_reducible refine ⟨len_ok ?_, ?_⟩); rfl)
  | with_reducible refine ⟨rfl, ?_⟩
  | with_reducible refine ⟨⟨_, rfl⟩, ?_⟩
  | with_reducible refine ⟨_, rfl, ?_⟩
  | refine ⟨_, _, rfl, rfl, ?_⟩
  | refine ⟨_, _, _, _, rfl, Wf.kc2 (by assumption) (by decide +kernel), rfl, ?_⟩
  | ((with_reducible apply iteTr); rfl)
  | ((with_reducible apply iteFr); rfl)
  | dsimp only)
local macro_rules | `(tactic| walk_at "d") => `(tactic| first
  | walk_at "d0"
  | with_reducible apply s_if)
local macro_rules | `(tactic| walk_at "o") => `(tactic| first
  | ((with_reducible apply so_retO); rfl)
  | ((with_reducible apply et_notcallO); rfl)
  | ((with_reducible apply s_asgO); (with_reducible apply en_lst); (with_reducible apply ea_nil); refine ⟨len_ok rfl, ?_⟩)
  | walk_at "d")

local macro_rules | `(tactic| walk_at "x") => `(tactic| first
  | ((with_reducible apply ev_callX); assumption)
  | walk_at "o")
def S_widest_lot : List D → Wish := fun ds k X => ∃ (b : Bk) (r : Rw), ds = [bookD b, sayD r] ∧ b.Ok ∧ r.Ok ∧ (¬ r.w ||| r.t < 2 ^ b.days → X (.mk "OtherDays" none)) ∧
  (r.w ||| r.t < 2 ^ b.days → (∀ n, needR b.rows = some n → X (.mk "NeedNot" (some (nD n)))) ∧ (needR b.rows = none → if r.u = true then (∀ W, WideOk b.rows r W → k (tupN W)) ∧ ((∀ lot, sharpB b.rows lot r = false) → k .non) else X (.mk "NeedNot" (some .non))))
theorem ok_widest_lot (W : Wf P w K mg base) : FnR P w K mg base (L2.CX P w) 7 (d_widest_lot.at_ K) (spD K S_widest_lot) := by
  have c_check_all_usual := cc_check_all_usual W
  have c_lifted_layers := cc_lifted_layers W
  have c_set_of := cc_set_of W
  have c_Saying_flipped := cc_Saying_flipped W
  have c_within := cc_within W
  have c_OtherDays := err_O W
  have c_NeedNot := err_N W
  refine W.fnX in_widest_lot sc_widest_lot (fun fd F => F.bindsN fun _ _ _ _ _ _ us hl => match us, hl with | [_, _], _ => rfl) (fun ds k X h => by first | (obtain ⟨rfl, _⟩ := h; rfl) | (obtain ⟨_, rfl, _⟩ := h; rfl) | (obtain ⟨_, _, rfl, _⟩ := h; rfl) | (obtain ⟨_, _, _, rfl, _⟩ := h; rfl) | (obtain ⟨_, _, _, _, rfl, _⟩ := h; rfl) | (obtain ⟨_, _, _, _, _, rfl, _⟩ := h; rfl) | (obtain ⟨_, _, _, _, _, _, rfl, _⟩ := h; rfl) | (obtain ⟨_, _, _, _, _, _, _, rfl, _⟩ := h; rfl) | (obtain ⟨_, _, _, _, _, _, _, _, rfl, _⟩ := h; rfl) | (obtain ⟨_, _, _, _, _, _, _, _, _, rfl, _⟩ := h; rfl)) fun cdv A outer s H E hR F ds kk XX hF hFs hFm hMs hE h => ?_
  subst hF
  obtain ⟨b, r, rfl, bok, rok, h1, h2⟩ := h
  refine ⟨_, (pss_cons (ps_expr (pe_f c_check_all_usual hR (by decide) rfl (passes_call (takes_of rfl rfl rfl rfl) (fun _ _ _ _ h => h)) (pa_cons (pv 0) (pa_cons (pv 1) pa_nil))))
  (pss_cons (ps_set (i := 2) sc_widest_lot.nd rfl (Or.inl rfl) (pe_f c_lifted_layers hR (by decide) rfl passL (pa_cons (pv 0) (pa_cons (pe_m0 (pv 1) c_Saying_flipped hR (by decide) passL) pa_nil))))
  (pss_cons (ps_set (i := 3) sc_widest_lot.nd rfl (Or.inr rfl) (pe_f c_set_of hR (by decide) rfl passL (pa_cons (pe_lc (own := [("day", 4), ("layer", 5)]) (by rfl) sc_widest_lot.nd (pi_enumX (by rfl) (W.free 9 _ rfl) (pa_cons (pv 2) pa_nil)) (blkOk_by (N := n_widest_lot) (sc := defScope s_widest_lot) (own := [("day", 4), ("layer", 5)]) (by decide +kernel)) (fun _ _ _ _ _ => (pg_tupK (K := F.K) (n := 2) rfl (by rfl) (pgs_cons (pg_name (i := 4) sc_widest_lot.nd rfl (Or.inl rfl)) (pgs_cons (pg_name (i := 5) sc_widest_lot.nd rfl (Or.inl rfl)) pgs_nil)))) (fun _ _ _ _ _ => (pts_one (pt_cmpR op_isN (pv 5) pe_non (nomark _)))) (fun _ _ _ _ _ => (pv 4))) pa_nil)))
  (pss_cons (ps_if (pt_not (pt_val (pe_f c_within hR (by decide) rfl passL (pa_cons (pe_fld (pv 1) rfl) (pa_cons (pv 3) pa_nil)))))
  (pss_one (ps_ret pe_non))
  pss_nil)
  (pss_one (ps_ret (pe_callTy call_tuple_of rfl (W.free 6 _ rfl) (by decide +kernel) (pa_cons (pe_lc (own := [("number", 6), ("one", 7)]) (by rfl) sc_widest_lot.nd (pi_enumX (by rfl) (W.free 9 _ rfl) (pa_cons (pe_fld (pv 0) rfl) pa_nil)) (blkOk_by (N := n_widest_lot) (sc := defScope s_widest_lot) (own := [("number", 6), ("one", 7)]) (by decide +kernel)) (fun _ _ _ _ _ => (pg_tupK (K := F.K) (n := 2) rfl (by rfl) (pgs_cons (pg_name (i := 6) sc_widest_lot.nd rfl (Or.inl rfl)) (pgs_cons (pg_name (i := 7) sc_widest_lot.nd rfl (Or.inl rfl)) pgs_nil)))) (fun _ _ _ _ _ => (pts_one (pt_val (pe_f c_within hR (by decide) rfl passL (pa_cons (pe_fldK (K := F.K) rfl (pv 7) rfl) (pa_cons (pv 3) pa_nil)))))) (fun _ _ _ _ _ => (pv 6))) pa_nil)))))))), ?_⟩
  try dsimp only [Xof, cxOf, Cx.nox, Cx.wish, Cx.blk]
  repeat walk_at "x"
  refine ⟨b, r, rfl, h1, fun hlt => ⟨(h2 hlt).1, fun hno => ?_⟩⟩
  have h3 := (h2 hlt).2 hno
  cases hru : r.u with
  | false =>
    rw [hru] at h3
    exact iteFr rfl h3
  | true =>
    rw [hru] at h3
    refine iteTr rfl ?_
    obtain ⟨h4, h5⟩ : (∀ W, WideOk b.rows r W → kk (tupN W)) ∧ ((∀ lot, sharpB b.rows lot r = false) → kk .non) := h3
    have hu := need_none hno
    have rin : r.In b.days := ⟨rok.1, Nat.lt_of_le_of_lt Nat.left_le_or hlt, Nat.lt_of_le_of_lt Nat.right_le_or hlt⟩
    repeat walk_at "d"
    refine ⟨r, rfl, rok, ?_⟩
    repeat walk_at "d"
    refine ⟨b, flipR r, rfl, bok, flip_in rin, hu, hru, fun s hs => ?_⟩
    have E := end_of (fun q hq => ⟨bok.ri q hq, hu q hq⟩) rin hru hs
    have ok := hs.ok
    have l1 : s.ls.length ≤ 16 := by rw [ok.l1]; exact ok.n16
    repeat walk_at "d"
    apply EvN.ev
    apply en_lc (un_of rfl)
    apply ei_enum
    repeat walk_at "d"
    refine ⟨_, .inr rfl, fun i acc => acc = ((List.range i).filter (isOpen s.ls)).map nD, rfl, ?_, ?_⟩
    · rintro i d acc hi rfl
      obtain ⟨x, e, rfl⟩ := enumD_at hi
      obtain ⟨o, eo, rfl⟩ := map_at e
      have hlt' := (List.getElem?_eq_some_iff.mp eo).1
      refine ⟨_, mem_of rfl, g_tup rfl (gs_cons g_name (gs_cons g_name gs_nil)), ?_⟩
      repeat walk_at "d"
      apply ro_isN_opt
      have hsucc : (List.range (i + 1)).filter (isOpen s.ls) = (List.range i).filter (isOpen s.ls) ++ [i].filter (isOpen s.ls) := by rw [List.range_succ, List.filter_append]
      have hio : isOpen s.ls i = o.isNone := by
        unfold isOpen
        rw [eo]
        cases o <;> rfl
      rw [← hio]
      repeat walk_at "d"
      cases hb : isOpen s.ls i with
      | true =>
        repeat walk_at "d"
        refine ⟨?_, ?_⟩
        · have h1 := List.length_filter_le (isOpen s.ls) (List.range i)
          rw [List.length_range] at h1
          rw [List.length_map]
          omega
        · show _ = _
          rw [hsucc, List.map_append, List.filter_cons_of_pos hb]
          rfl
      | false =>
        repeat walk_at "d"
        show _ = _
        rw [hsucc, List.filter_cons_of_neg (by rw [hb]; decide)]
        simp
    rintro acc rfl
    rw [enumD_len, List.length_map]
    repeat walk_at "d"
    refine ⟨openD s.ls, rfl, fun n hn => ?_, ?_⟩
    · have := (List.getElem?_eq_some_iff.mp (mem_open.mp hn)).1
      omega
    generalize setOf (openD s.ls) = en at E
    repeat walk_at "d"
    refine ⟨_, _, rfl, ?_⟩
    by_cases hbr : nd r.br en = 0
    · rw [decide_eq_true hbr]
      repeat walk_at "d"
      apply EvN.ev
      apply en_lc (un_of rfl)
      apply ei_enum
      repeat walk_at "d"
      refine ⟨_, .inr rfl, fun i acc => acc = ((List.range i).filter (inE b.rows en)).map nD, rfl, ?_, ?_⟩
      · rintro i d acc hi rfl
        obtain ⟨x, e, rfl⟩ := enumD_at hi
        obtain ⟨q, eq, rfl⟩ := map_at e
        have hlt' := (List.getElem?_eq_some_iff.mp eq).1
        have hrl := bok.rl
        refine ⟨_, mem_of rfl, g_tup rfl (gs_cons g_name (gs_cons g_name gs_nil)), ?_⟩
        repeat walk_at "d"
        refine ⟨_, _, rfl, ?_⟩
        have hsucc : (List.range (i + 1)).filter (inE b.rows en) = (List.range i).filter (inE b.rows en) ++ [i].filter (inE b.rows en) := by rw [List.range_succ, List.filter_append]
        have hio : inE b.rows en i = decide (nd q.cf en = 0) := by
          unfold inE
          rw [eq]
        rw [← hio]
        repeat walk_at "d"
        cases hb : inE b.rows en i with
        | true =>
          repeat walk_at "d"
          refine ⟨?_, ?_⟩
          · have h1 := List.length_filter_le (inE b.rows en) (List.range i)
            rw [List.length_range] at h1
            rw [List.length_map]
            omega
          · show _ = _
            rw [hsucc, List.map_append, List.filter_cons_of_pos hb]
            rfl
        | false =>
          repeat walk_at "d"
          show _ = _
          rw [hsucc, List.filter_cons_of_neg (by rw [hb]; decide)]
          simp
      rintro acc rfl
      rw [enumD_len, List.length_map]
      repeat walk_at "d"
      exact ⟨_, .inl rfl, h4 _ (wide_yes E hbr)⟩
    · rw [decide_eq_false hbr]
      repeat walk_at "d"
      exact h5 (wide_no E hbr)
theorem cc_widest_lot (W : Wf P w K mg base) : Fnc P w K mg base 7 "widest_lot" (spD K S_widest_lot) := W.fnc in_widest_lot (fun _ => rfl) (j := 18) rfl (ok_widest_lot W)
end
end K33
namespace K33
open PySem PySem.Spec PyProof.Rows L2
section
variable {X : Cx} {K : PySem.W.Frag} {es : List Expr} {e : Expr} {t : TA} {x : PySem.Str} {p pos : Pos} {sp : Sp} {E : XK} {k j : Nat}
theorem pe_kK (hK : X.K = K) (c : Kls X.prog X.w K X.mg X.base k x sp) (hr : Room j X.A) (hk : k + 1 ≤ j) (hg : Gl X x) (hx : Passes (L2.CX X.prog X.w) X E) (ha : PA X (e :: es) t) (hdb : (x == ("__debug__" : PySem.Str)) = false := by decide)
    (he : starEach (e :: es) X.env = (false, eval e X.env) :: starEach es X.env := by rfl) (hpl : (backTo pos (starEach es X.env)).any (·.1) = false := by rfl) : PE X (.Call (.Name x p) (e :: es) [] pos) (StX.tMakeR (He.ga K x) sp E t) := by
  subst hK
  exact pe_k c hr hk hg hx ha hdb he hpl
end
theorem Sharp.nd1 {rs : List Rw} {lot : List Nat} {r : Rw} (h : Sharp rs lot r) : nd (jn (pick rs lot)).1 r.cf = 0 := by
  rw [jn_eq]
  refine nd_zero.mpr fun i e => ?_
  rw [nd_bit, Bool.and_eq_true] at e
  exact h.cf i e.1 (by simpa using e.2)
theorem Sharp.nd2 {rs : List Rw} {lot : List Nat} {r : Rw} (h : Sharp rs lot r) : nd r.br (jn (pick rs lot)).2 = 0 := by
  rw [jn_eq]
  exact nd_zero.mpr h.br
theorem WideOk.len {rs : List Rw} {r : Rw} {W : List Nat} (h : WideOk rs r W) (hl : rs.length ≤ 12) : W.length ≤ 12 := Nat.le_trans (asc_len h.asc h.lt) hl
theorem Sharp.ne {rs : List Rw} {r : Rw} {W : List Nat} (h : Sharp rs W r) (hb : r.br ≠ 0) : 0 < W.length := by
  cases W with
  | cons n W => exact Nat.succ_pos _
  | nil =>
    refine absurd (eq_of_bits fun i => ?_) hb
    rw [Nat.zero_testBit]
    cases e : r.br.testBit i with
    | false => rfl
    | true =>
      obtain ⟨q, hq, _⟩ := jB_ex.mp (h.br i e)
      cases hq
theorem wide_der {rs : List Rw} {r : Rw} {W : List Nat} (hu : ∀ q ∈ rs, q.u = true) (ho : ∀ q ∈ rs, q.Ok) (hl : rs.length ≤ 12) (hr : r.Ok) (h : WideOk rs r W) : DerOf rs r (derM rs r W) :=
  der_of hu ho hl h.lt (h.len hl) hr h.sharp.nd1 h.sharp.nd2
section
variable {P : Program} {w : World} {K : PySem.W.Frag} {mg : PySem.Str → Option Value} {base : Heap}
local macro_rules | `(tactic| walk_at "d0") => `(tactic| first
  | ((with_reducible apply ev_var); rfl)
  | with_reducible apply ev_int
  | with_reducible apply ev_bl
  | with_reducible apply ev_str
  | with_reducible apply ev_non
  | with_reducible apply s_seq
  | with_reducible apply s_ret
  | with_reducible apply s_asg
  | with_reducible apply s_next
  | ((with_reducible apply s_app); rfl)
  | with_reducible apply s_drop
  | ((with_reducible apply src_0); rfl; intro _)
  | ((with_reducible apply src_1); rfl; intro _ _ _)
  | ((with_reducible apply src_2); rfl; intro _)
  | ((with_reducible apply s_setSrc0); rfl)
  | ((with_reducible apply s_setSrc2); rfl)
  | ((with_reducible apply ev_callS); rfl)
  | ((with_reducible apply ev_opO); rfl)
  | ((with_reducible apply ev_ixO); rfl)
  | with_reducible apply ev_op
  | with_reducible apply ev_un
  | with_reducible apply et_test
  | with_reducible apply et_B
  | with_reducible apply et_truI
  | with_reducible apply et_and
  | with_reducible apply et_or
  | with_reducible apply et_not
  | with_reducible apply ea_nil
  | with_reducible apply ea_cons
  | with_reducible apply ro_nd_n
  | with_reducible apply ro_and_n
  | with_reducible apply ro_or_n
  | with_reducible apply ro_shr_n
  | with_reducible apply ro_eq_0
  | with_reducible apply ro_ne_0
  | with_reducible apply ro_eq_n
  | with_reducible apply ro_ne_n
  | with_reducible apply ro_add_n
  | with_reducible apply ro_add_1
  | with_reducible apply ro_I0
  | with_reducible apply ro_B0
  | with_reducible apply ro_un
  | ((with_reducible apply ro_isN); rfl)
  | ((with_reducible apply ro_notN); rfl)
  | with_reducible apply ro_eq_t0
  | with_reducible apply ro_ne_lt0
  | with_reducible apply ro_ne_l0
  | with_reducible apply ro_ne_tt
  | with_reducible apply ro_eq_tt
  | with_reducible apply ro_ne_t
  | with_reducible apply ro_eq_i
  | with_reducible apply ro_ne_i
  | with_reducible apply ro_eq_s
  | with_reducible apply ro_add
  | ((with_reducible apply ro_ixT); rfl)
  | ((with_reducible apply ro_ixL); rfl)
  | with_reducible apply ev_list
  | with_reducible apply ev_tuple
  | with_reducible apply ev_sortset
  | with_reducible apply ev_isLT
  | ((with_reducible apply ev_cbO); rfl)
  | with_reducible apply ev_cb
  | with_reducible apply ev_call
  | ((with_reducible apply ev_fldM); rfl; exact Wf.kc2 (by assumption) (by decide +kernel); rfl)
  | with_reducible apply ev_fld
  | with_reducible apply ev_and
  | with_reducible apply ev_or
  | with_reducible apply ev_notV
  | with_reducible apply ev_if
  | with_reducible apply ev_chain
  | with_reducible apply ev_tup
  | with_reducible apply ev_lst
  | with_reducible apply ev_make
  | ((with_reducible apply ev_cm0); exact exok0)
  | ((with_reducible apply ev_cm); exact exok0)
  | ((with_reducible apply ev_meth0); exact exok0)
  | ((with_reducible apply ev_meth); exact exok0)
  | ((with_reducible apply ro_subO); exact exok0)
  | ((with_reducible apply ro_addO); exact exok0)
  | ((with_reducible apply rc_lenO); exact exok0)
  | ((with_reducible apply ev_prop); exact exok0)
  | with_reducible apply rc_int
  | with_reducible apply rc_lenL
  | with_reducible apply rc_lenT
  | ((with_reducible apply rc_is_int); (exact rfl))
  | ((with_reducible apply rc_is_bl); (exact rfl))
  | ((with_reducible apply rc_is_str); (exact rfl))
  | ((with_reducible apply rc_is_tup); (exact rfl))
  | ((with_reducible apply s_fldM); rfl; exact Wf.kc2 (by assumption) (by decide +kernel); decide; rfl)
  | with_reducible apply et_yes
  | with_reducible apply ev_rawc
  | ((with_reducible apply ev_src); rfl)
  | ((with_reducible refine ⟨len_ok ?_, ?_⟩); rfl)
  | with_reducible refine ⟨rfl, ?_⟩
  | with_reducible refine ⟨⟨_, rfl⟩, ?_⟩
  | with_reducible refine ⟨_, rfl, ?_⟩
  | refine ⟨_, _, rfl, rfl, ?_⟩
  | refine ⟨_, _, _, _, rfl, Wf.kc2 (by assumption) (by decide +kernel), rfl, ?_⟩
  | ((with_reducible apply iteTr); rfl)
  | ((with_reducible apply iteFr); rfl)
  | dsimp only)
local macro_rules | `(tactic| walk_at "d") => `(tactic| first
  | walk_at "d0"
  | with_reducible apply s_if)
local macro_rules | `(tactic| walk_at "o") => `(tactic| first
  | ((with_reducible apply so_retO); rfl)
  | ((with_reducible apply et_notcallO); rfl)
  | ((with_reducible apply s_asgO); (with_reducible apply en_lst); (with_reducible apply ea_nil); refine ⟨len_ok rfl, ?_⟩)
  | walk_at "d")

local macro_rules | `(tactic| walk_at "x") => `(tactic| first
  | ((with_reducible apply ev_callX); assumption)
  | walk_at "o")
def S_derivation : List D → Wish := fun ds k X => ∃ (b : Bk) (r : Rw), ds = [bookD b, sayD r] ∧ b.Ok ∧ r.Ok ∧ (¬ r.w ||| r.t < 2 ^ b.days → X (.mk "OtherDays" none)) ∧
  (r.w ||| r.t < 2 ^ b.days → (∀ n, needR b.rows = some n → X (.mk "NeedNot" (some (nD n)))) ∧ (needR b.rows = none → if r.u = true then (∀ W, WideOk b.rows r W → k (.tup ((derM b.rows r W).map stepD))) ∧ ((∀ lot, sharpB b.rows lot r = false) → k .non) else X (.mk "NeedNot" (some .non))))
theorem getD_map {g : List MStep} {i : Nat} {s : MStep} (h : g[i]? = some s) : atI (g.map stepD) (i : Int) = some (stepD s) := atI_map h
theorem ok_derivation (W : Wf P w K mg base) : FnR P w K mg base (L2.CX P w) 8 (d_derivation.at_ K) (spD K S_derivation) := by
  have c_widest_lot := cc_widest_lot W
  have c_Step__init__ := cc_Step__init__ W
  have c_Book__getitem__ := cc_Book__getitem__ W
  have c_narrowed := cc_narrowed W
  have c_join_of := cc_join_of W
  obtain ⟨_, c_of_days⟩ := cc_Saying_of_days W
  have c_OtherDays := err_O W
  have c_NeedNot := err_N W
  refine W.fnX in_derivation sc_derivation (fun fd F => F.bindsN fun _ _ _ _ _ _ us hl => match us, hl with | [_, _], _ => rfl) (fun ds k X h => by first | (obtain ⟨rfl, _⟩ := h; rfl) | (obtain ⟨_, rfl, _⟩ := h; rfl) | (obtain ⟨_, _, rfl, _⟩ := h; rfl) | (obtain ⟨_, _, _, rfl, _⟩ := h; rfl) | (obtain ⟨_, _, _, _, rfl, _⟩ := h; rfl) | (obtain ⟨_, _, _, _, _, rfl, _⟩ := h; rfl) | (obtain ⟨_, _, _, _, _, _, rfl, _⟩ := h; rfl) | (obtain ⟨_, _, _, _, _, _, _, rfl, _⟩ := h; rfl) | (obtain ⟨_, _, _, _, _, _, _, _, rfl, _⟩ := h; rfl) | (obtain ⟨_, _, _, _, _, _, _, _, _, rfl, _⟩ := h; rfl)) fun cdv A outer s H E hR F ds kk XX hF hFs hFm hMs hE h => ?_
  subst hF
  obtain ⟨b, r, rfl, bok, rok, h1, h2⟩ := h
  refine ⟨_, (pss_cons (ps_set (i := 2) sc_derivation.nd rfl (Or.inl rfl) (pe_f c_widest_lot hR (by decide) rfl (passes_call (takes_of rfl rfl rfl rfl) (fun _ _ _ _ h => h)) (pa_cons (pv 0) (pa_cons (pv 1) pa_nil))))
  (pss_cons (ps_if (pt_cmpR op_isN (pv 2) pe_non (nomark _))
  (pss_one (ps_ret pe_non))
  pss_nil)
  (pss_cons (ps_if (pt_cmpR (op_eqX hR.units : OpR _ _ (rEqX F.K)) (pe_fld (pv 1) rfl) pe_int (nomark _))
  (pss_one (ps_ret (pe_tup (pa_cons (pe_k c_Step__init__ hR (by decide) rfl passL (pa_cons pe_str (pa_cons (pe_tup pa_nil) (pa_cons (pv 1) pa_nil)))) pa_nil))))
  pss_nil)
  (pss_cons (ps_setLc (i := 3) (own := [("number", 7)]) (by rfl) sc_derivation.nd rfl rfl (sw_true rfl rfl rfl (by decide +kernel)) (pi_seqK (K := F.K) rfl (pv 2)) (blkOk_by (N := n_derivation) (sc := defScope s_derivation) (own := [("number", 7)]) (by decide +kernel)) (fun _ _ _ _ _ => (pg_name (i := 7) sc_derivation.nd rfl (Or.inl rfl))) (fun _ _ _ _ _ => pts_nil) (fun _ _ _ _ _ => (pe_kK (K := F.K) rfl c_Step__init__ hR (by decide) rfl passL (pa_cons pe_str (pa_cons (pe_tup (pa_cons (pv 7) pa_nil)) (pa_cons (pe_subO W.osub c_Book__getitem__ hR (by decide) passL (pv 0) (pv 7)) pa_nil))))))
  (pss_cons (ps_set (i := 4) sc_derivation.nd rfl (Or.inl rfl) pe_int)
  (pss_cons (ps_for (passes_of rfl) rfl (pi_range2 rfl (W.free 8 _ rfl) (pa_cons pe_int (pa_cons (pe_callB (cr_lenX : CallR _ _ (rLenX F.K)) rfl (W.free 0 _ rfl) boot_len (pa_cons (pv 2) pa_nil)) pa_nil))) (pg_name (i := 5) sc_derivation.nd rfl (Or.inl rfl))
  (pss_cons (ps_expr (pe_bm PySem.F.plainAttrs_list PySem.F.slot_list_append PySem.F.type_list_append mt_append (pv 3) (pa_cons (pe_k c_Step__init__ hR (by decide) rfl passL (pa_cons pe_str (pa_cons (pe_tup (pa_cons (pv 4) (pa_cons (pv 5) pa_nil))) (pa_cons (pe_f c_join_of hR (by decide) rfl passL (pa_cons (pe_fld (pe_ix (ix_seq : IxR _ (rIx F.K)) (pv 3) (pv 4) (fun _ _ => rfl)) rfl) (pa_cons (pe_fld (pe_ix (ix_seq : IxR _ (rIx F.K)) (pv 3) (pv 5) (fun _ _ => rfl)) rfl) pa_nil))) pa_nil)))) pa_nil)))
  (pss_one (ps_set (i := 4) sc_derivation.nd rfl (Or.inl rfl) (pe_op op_sub (pe_callB (cr_lenX : CallR _ _ (rLenX F.K)) rfl (W.free 0 _ rfl) boot_len (pa_cons (pv 3) pa_nil)) pe_int)))))
  (pss_cons (ps_set (i := 6) sc_derivation.nd rfl (Or.inl rfl) (pe_op op_and (pe_fld (pv 1) rfl) (pe_un un_inv (pe_fld (pe_fld (pe_ix (ix_seq : IxR _ (rIx F.K)) (pv 3) (pv 4) (fun _ _ => rfl)) rfl) rfl))))
  (pss_cons (ps_if (pt_cmpR (op_neX hR.units : OpR _ _ (rNeX F.K)) (pv 6) pe_int (nomark _))
  (pss_cons (ps_expr (pe_bm PySem.F.plainAttrs_list PySem.F.slot_list_append PySem.F.type_list_append mt_append (pv 3) (pa_cons (pe_k c_Step__init__ hR (by decide) rfl passL (pa_cons pe_str (pa_cons (pe_tup pa_nil) (pa_cons (pe_cm (pe_glob (v := .ref (He.ga F.K "Saying")) rfl (W.glo 9 _ rfl) rfl) c_of_days hR (by decide) passL (pa_cons (pv 6) (pa_cons pe_int pa_nil))) pa_nil)))) pa_nil)))
  (pss_one (ps_expr (pe_bm PySem.F.plainAttrs_list PySem.F.slot_list_append PySem.F.type_list_append mt_append (pv 3) (pa_cons (pe_k c_Step__init__ hR (by decide) rfl passL (pa_cons pe_str (pa_cons (pe_tup (pa_cons (pv 4) (pa_cons (pe_op (op_addX : OpR _ _ (rAddX F.K)) (pv 4) pe_int) pa_nil))) (pa_cons (pe_f c_join_of hR (by decide) rfl passL (pa_cons (pe_fld (pe_ix (ix_seq : IxR _ (rIx F.K)) (pv 3) (pv 4) (fun _ _ => rfl)) rfl) (pa_cons (pe_fld (pe_ix (ix_seq : IxR _ (rIx F.K)) (pv 3) (pe_op (op_addX : OpR _ _ (rAddX F.K)) (pv 4) pe_int) (fun _ _ => rfl)) rfl) pa_nil))) pa_nil)))) pa_nil)))))
  pss_nil)
  (pss_one (ps_ret (pe_callTy call_tuple_of rfl (W.free 6 _ rfl) (by decide +kernel) (pa_cons (pe_op (op_addX : OpR _ _ (rAddX F.K)) (pv 3) (pe_f c_narrowed hR (by decide) rfl passL (pa_cons (pe_fld (pe_ix (ix_seq : IxR _ (rIx F.K)) (pv 3) (pe_op op_sub (pe_callB (cr_lenX : CallR _ _ (rLenX F.K)) rfl (W.free 0 _ rfl) boot_len (pa_cons (pv 3) pa_nil)) pe_int) (fun _ _ => rfl)) rfl) (pa_cons (pe_op op_sub (pe_callB (cr_lenX : CallR _ _ (rLenX F.K)) rfl (W.free 0 _ rfl) boot_len (pa_cons (pv 3) pa_nil)) pe_int) (pa_cons (pv 1) pa_nil))))) pa_nil)))))))))))), ?_⟩
  try dsimp only [Xof, cxOf, Cx.nox, Cx.wish, Cx.blk]
  repeat walk_at "x"
  refine ⟨b, r, rfl, bok, rok, h1, fun hlt => ⟨(h2 hlt).1, fun hno => ?_⟩⟩
  have h3 := (h2 hlt).2 hno
  cases hru : r.u with
  | false =>
    rw [hru] at h3
    exact iteFr rfl h3
  | true =>
    rw [hru] at h3
    refine iteTr rfl ?_
    obtain ⟨h4, h5⟩ : (∀ W, WideOk b.rows r W → kk (.tup ((derM b.rows r W).map stepD))) ∧ ((∀ lot, sharpB b.rows lot r = false) → kk .non) := h3
    have hu := need_none hno
    have rin : r.In b.days := ⟨rok.1, Nat.lt_of_le_of_lt Nat.left_le_or hlt, Nat.lt_of_le_of_lt Nat.right_le_or hlt⟩
    have hoks : ∀ q ∈ b.rows, q.Ok := fun q hq => (bok.ri q hq).ok bok.d16
    have er : (⟨r.w, r.t, true⟩ : Rw) = r := by rw [← hru]
    refine ⟨fun W hW => ?_, fun hno' => ?_⟩
    · have q := h4 W hW
      have hWl := hW.len bok.rl
      have hder := wide_der hu hoks bok.rl rok hW
      unfold derM at q hder
      repeat walk_at "d"
      by_cases h0 : r.br = 0
      · rw [decide_eq_true h0]
        rw [if_pos h0] at q
        repeat walk_at "d"
        have e : stepD ⟨"itself", [], r.w, r.t⟩ = .obj "Step" ["rule", "lines", "saying"] [.str "itself", .tup [], sayD r] := by
          show D.obj _ _ [_, _, sayD ⟨r.w, r.t, true⟩] = _
          rw [er]
          rfl
        rw [List.map_singleton, e] at q
        refine ⟨_, _, _, rfl, ?_⟩
        repeat walk_at "d"
        exact q
      · rw [decide_eq_false h0]
        rw [if_neg h0] at q hder
        have hpos := hW.sharp.ne h0
        have hgl : (W.map (gvS b.rows)).length = W.length := List.length_map ..
        have d0 : Der0 b.rows (W.map (gvS b.rows)) := by
          have := Der0.gv hu hoks W [] Der0.nil hW.lt
          rwa [List.nil_append] at this
        refine iteFr rfl ?_
        apply s_next
        apply s_seq
        apply s_asgO
        apply en_lc (un_of rfl)
        apply ei_seq
        repeat walk_at "d"
        refine ⟨_, .inr rfl, fun i acc => acc = ((W.take i).map (gvS b.rows)).map stepD, rfl, ?_, ?_⟩
        · rintro i d acc hi rfl
          obtain ⟨n, en, rfl⟩ := map_at hi
          have hn := hW.lt n (List.mem_of_getElem? en)
          have eq := List.getElem?_eq_getElem hn
          refine ⟨_, mem_of rfl, g_name, ?_⟩
          repeat walk_at "d"
          refine ⟨b, n, b.rows[n], rfl, eq, ?_⟩
          repeat walk_at "d"
          refine ⟨_, _, _, rfl, ?_⟩
          refine ⟨by rw [List.length_map, List.length_map, List.length_take]; omega, ?_⟩
          show _ = _
          rw [take_at en, List.map_append, List.map_append]
          have e1 : gvS b.rows n = ⟨"given", [n], b.rows[n].w, b.rows[n].t⟩ := by
            unfold gvS
            rw [List.getD_eq_getElem?_getD, eq]
            rfl
          have e2 : (⟨b.rows[n].w, b.rows[n].t, true⟩ : Rw) = b.rows[n] := by
            rw [← hu _ (List.getElem_mem hn)]
          rw [List.map_singleton, List.map_singleton, e1]
          show _ = _ ++ [D.obj _ _ [_, _, sayD ⟨b.rows[n].w, b.rows[n].t, true⟩]]
          rw [e2]
          rfl
        rintro acc rfl
        rw [List.length_map, List.take_length]
        generalize hgd : W.map (gvS b.rows) = g at *
        repeat walk_at "d"
        apply s_for
        apply ei_rng2
        repeat walk_at "d"
        rw [List.length_map]
        refine ⟨1, (W.length : Int), rfl, by omega, by omega, by omega, by omega, ?_⟩
        rw [show ((W.length : Int) - 1).toNat = W.length - 1 by omega]
        refine ⟨fun j ρ => ∃ x5 : Sl, ρ = [.val (bookD b), .val (sayD r), .val (tupN W), .own ((loopM g j).1.map stepD), .val (nD (loopM g j).2), x5, .un, .un], ⟨_, rfl⟩, ?_, ?_⟩
        · rintro j d ρ' hj ⟨x5, rfl⟩
          obtain ⟨i, ei, rfl⟩ := map_at hj
          have hj2 := (List.getElem?_eq_some_iff.mp ei).1
          rw [List.length_range] at hj2
          rw [List.getElem?_range hj2] at ei
          cases ei
          have dj := d0.loop (by omega) j (by omega)
          have hll := loopM_len g j
          have ha := getDs (loopM_last g (by omega) j)
          have hb : (loopM g j).1[j + 1]? = some ((loopM g j).1.getD (j + 1) dfl) := getDs (by omega)
          refine ⟨_, g_name, ?_⟩
          rw [show (1 : Int) + (j : Nat) = ((j + 1 : Nat) : Int) by omega]
          repeat walk_at "d"
          · rw [List.length_map]
            omega
          repeat walk_at "d"
          refine ⟨_, _, rfl, getD_map ha, ?_⟩
          repeat walk_at "d"
          refine ⟨_, _, rfl, getD_map hb, ?_⟩
          repeat walk_at "d"
          refine ⟨_, _, rfl, dj.ok _ (List.mem_of_getElem? ha), dj.ok _ (List.mem_of_getElem? hb), ?_⟩
          repeat walk_at "d"
          refine ⟨_, _, _, rfl, ?_⟩
          repeat walk_at "d"
          refine ⟨.val (nD (j + 1)), ?_⟩
          rw [List.length_append, List.length_map, List.length_singleton, show (((loopM g j).1.length + 1 : Nat) : Int) - 1 = (((loopM g j).1.length : Nat) : Int) by omega]
          rw [show (loopM g (j + 1)).1 = (loopM g j).1 ++ [joinS ((loopM g j).1.getD (loopM g j).2 dfl) ((loopM g j).1.getD (j + 1) dfl) (loopM g j).2 (j + 1)] from rfl, List.map_append]
          rfl
        rintro ρ' ⟨x5, rfl⟩
        rw [List.length_map, List.length_range]
        have eS : loopS b.rows W = loopM g (W.length - 1) := by
          unfold loopS
          rw [hgd]
        rw [eS] at q hder
        have dP := d0.loop (by omega) (W.length - 1) (by omega)
        have hPl := loopM_len g (W.length - 1)
        have hPs : (loopM g (W.length - 1)).2 = (loopM g (W.length - 1)).1.length - 1 := loopM_snd g (by omega) _ (by omega) (by omega)
        have ha := getDs (loopM_last g (by omega) (W.length - 1))
        generalize loopM g (W.length - 1) = P2 at *
        obtain ⟨p, l⟩ := P2
        dsimp only at q hder dP hPl hPs ha
        have hoka := dP.ok _ (List.mem_of_getElem? ha)
        generalize eA : p.getD l ⟨"", [], 0, 0⟩ = A' at ha hoka
        repeat walk_at "d0"
        refine ⟨_, _, rfl, getD_map ha, ?_⟩
        repeat walk_at "d"
        have fin : ∀ (x5 x6 x7 : Sl), (restP p l r).length ≤ 25 → SOk F (tRet (tCB (fun xs H Q => ∃ p ys, xs = [V.ref p] ∧ ((SqL F.K H p ys ∧ ∀ (l : Addr), H l = none → Q (V.ref l) (upd H l (HO.tup ys))) ∨ SqT F.K H p ys ∧ Q (V.ref p) H)) (tCons (tOp (rAddX F.K) (tVar 3) (tCl (spD F.K fun ds k x => S_narrowed ds k) E0 (tCons (tFld F.K (tOp (rIx F.K) (tVar 3) (tOp (rI0 fun i j => V.int (i - j)) (tCB (rLenX F.K) (tCons (tVar 3) tNil)) (tC (V.int 1)))) "saying") (tCons (tOp (rI0 fun i j => V.int (i - j)) (tCB (rLenX F.K) (tCons (tVar 3) tNil)) (tC (V.int 1))) (tCons (tVar 1) tNil))))) tNil)))
            [.val (bookD b), .val (sayD r), .val (tupN W), .own ((restP p l r).map stepD), .val (nD l), x5, x6, x7] (fun _ => kk .non) kk := fun x5 x6 x7 hr25 => by
          with_reducible apply so_freeze 3
          rfl
          have hq0 : 0 < (restP p l r).length := by
            unfold restP
            split
            · omega
            · simp only [List.length_append, List.length_singleton]
              omega
          have hx := getDs (ss := restP p l r) (i := (restP p l r).length - 1) (by omega)
          generalize restP p l r = rp at *
          repeat walk_at "d"
          rw [List.length_map, show (rp.length : Int) - 1 = ((rp.length - 1 : Nat) : Int) by omega]
          apply ro_ixL (getD_map hx)
          repeat walk_at "d"
          rw [List.length_map, show (rp.length : Int) - 1 = ((rp.length - 1 : Nat) : Int) by omega]
          refine ⟨_, r, _, rfl, hder.der.ok _ (List.mem_append_left _ (List.mem_of_getElem? hx)), rok, hru, ?_⟩
          refine ro_cat (Nat.le_trans (Nat.add_le_add (by rw [List.length_map]; exact hr25) (by rw [List.length_map]; exact narrowM_len _ _ _)) (show 25 + 3 ≤ 100000 by decide)) ?_
          repeat walk_at "d"
          refine ⟨_, .inl rfl, ?_⟩
          rw [List.map_append] at q
          exact q
        by_cases h9 : nd r.w A'.w = 0
        · rw [decide_eq_true h9]
          refine iteFr rfl ?_
          apply s_next
          have e9 : restP p l r = p := by
            unfold restP
            rw [show p.getD l dfl = A' from eA, if_pos h9]
          have := fin x5 (.val (nD (nd r.w A'.w))) .un (by rw [e9]; omega)
          rw [e9] at this
          exact this
        · rw [decide_eq_false h9]
          refine iteTr rfl ?_
          have hlt' : nd r.w A'.w ≤ 65535 := b16.mpr (nd_lt (b16.mp rok.2.1))
          have oki : (itS r A').r.Ok := ⟨by show 1 ≤ nd r.w A'.w ||| 0; rw [Nat.or_zero]; omega, by show nd r.w A'.w ||| 0 ≤ 65535; rw [Nat.or_zero]; exact hlt', hlt'⟩
          have g1 : (p ++ [itS r A'])[l]? = some A' := app_at ha
          have g2 : (p ++ [itS r A'])[l + 1]? = some (itS r A') := by
            rw [hPs, show p.length - 1 + 1 = p.length by omega, List.getElem?_append_right (Nat.le_refl _), Nat.sub_self]
            rfl
          repeat walk_at "d"
          · rw [List.length_map]
            omega
          repeat walk_at "d"
          refine ⟨_, _, _, rfl, hlt', Nat.zero_le _, Nat.and_zero _, oki.1, ?_⟩
          repeat walk_at "d"
          refine ⟨_, _, _, rfl, ?_⟩
          dsimp only
          rw [show List.map stepD p ++ [D.obj "Step" ["rule", "lines", "saying"] [.str "itself", .tup [], sayD ⟨nd r.w A'.w ||| 0, nd r.w A'.w, true⟩]] = (p ++ [itS r A']).map stepD by rw [List.map_append]; exact rfl]
          repeat walk_at "d"
          · rw [List.length_map, List.length_append, List.length_singleton]
            omega
          repeat walk_at "d"
          refine ⟨_, _, rfl, getD_map g1, ?_⟩
          repeat walk_at "d"
          refine ⟨_, _, rfl, getD_map g2, ?_⟩
          repeat walk_at "d"
          refine ⟨_, _, rfl, hoka, oki, ?_⟩
          repeat walk_at "d"
          refine ⟨_, _, _, rfl, ?_⟩
          dsimp only
          have e9 : restP p l r = (p ++ [itS r A']) ++ [joinS A' (itS r A') l (l + 1)] := by
            unfold restP
            rw [show p.getD l dfl = A' from eA, if_neg h9]
          have := fin x5 (.val (nD (nd r.w A'.w))) .un (by
            rw [e9]
            simp only [List.length_append, List.length_singleton]
            omega)
          rw [e9, List.map_append (l₁ := p ++ [itS r A'])] at this
          exact this
    · repeat walk_at "d"
      exact h5 hno'
theorem cc_derivation (W : Wf P w K mg base) : Fnc P w K mg base 8 "derivation" (spD K S_derivation) := W.fnc in_derivation (fun _ => rfl) (j := 24) rfl (ok_derivation W)
end
end K33
namespace K33
open PySem PySem.Spec PyProof.Rows L2
/-- the book and the saying of "all needed" -/
structure Need (b : Bk) (r : Rw) : Prop where
  ok : b.Ok
  rok : r.Ok
  lt : r.w ||| r.t < 2 ^ b.days
  hu : ∀ q ∈ b.rows, q.u = true
  ru : r.u = true
  own : OwnBr b.rows r
theorem need_of {rs : List Rw} (h : ∀ q ∈ rs, q.u = true) : needR rs = none := by
  unfold needR
  rw [List.findIdx?_eq_none_iff]
  intro x hx
  rw [h x hx]
  rfl
/-- what widest_lot is asked of such a book -/
theorem Need.widest {b : Bk} {r : Rw} (h : Need b r) {k : D → Prop} {X : Exn → Prop} (q : k (tupN (List.range b.rows.length))) : S_widest_lot [bookD b, sayD r] k X := by
  refine ⟨b, r, rfl, h.ok, h.rok, fun z => absurd h.lt z, fun _ => ⟨fun n e => ?_, fun _ => ?_⟩⟩
  · rw [need_of h.hu] at e
    cases e
  · rw [h.ru]
    refine iteT ⟨fun W hW => ?_, fun hno => ?_⟩
    · rw [h.own.wide hW]
      exact q
    · have := sharp_iff.mpr h.own.all
      rw [hno] at this
      cases this
theorem Need.derive {b : Bk} {r : Rw} (h : Need b r) {k : D → Prop} {X : Exn → Prop} (q : ∀ ss, DerOf b.rows r ss → k (.tup (ss.map stepD))) : S_derivation [bookD b, sayD r] k X := by
  refine ⟨b, r, rfl, h.ok, h.rok, fun z => absurd h.lt z, fun _ => ⟨fun n e => ?_, fun _ => ?_⟩⟩
  · rw [need_of h.hu] at e
    cases e
  · rw [h.ru]
    refine iteT ⟨fun W hW => q _ (wide_der h.hu (fun q hq => (h.ok.ri q hq).ok h.ok.d16) h.ok.rl h.rok hW), fun hno => ?_⟩
    have := sharp_iff.mpr h.own.all
    rw [hno] at this
    cases this
theorem lay_asc {n : Nat} : ∀ (i : Nat) (p : List Nat), p ∈ lay n i → p.Pairwise (· < ·)
  | 0, p, h => by
    rw [List.mem_singleton.mp h]
    exact List.Pairwise.nil
  | i + 1, p, h => by
    obtain ⟨q, hq, h2⟩ := List.mem_flatMap.mp h
    obtain ⟨m, hm, rfl⟩ := List.mem_map.mp h2
    have ih := lay_asc i q hq
    have hok := (List.mem_filter.mp hm).2
    unfold okN at hok
    rw [Bool.or_eq_true, decide_eq_true_iff, decide_eq_true_iff] at hok
    rw [List.pairwise_append]
    refine ⟨ih, List.pairwise_singleton .., fun a ha b hb => ?_⟩
    rw [List.mem_singleton.mp hb]
    rcases hok with h | h
    · rw [h] at ha
      cases ha
    · obtain ⟨s, x, rfl⟩ := snoc_of (l := q) (fun z => by rw [z] at ha; cases ha)
      rw [show (s ++ [x]).getLastD 0 = x by simp] at h
      rcases List.mem_append.mp ha with h3 | h3
      · have := (List.pairwise_append.mp ih).2.2 a h3 x (List.mem_singleton.mpr rfl)
        omega
      · rw [List.mem_singleton.mp h3]
        exact h
theorem lays_asc {n : Nat} : ∀ (i : Nat) (p : List Nat), p ∈ lays n i → p.Pairwise (· < ·)
  | 0, p, h => by cases h
  | i + 1, p, h => by
    rcases List.mem_append.mp h with h | h
    · exact lays_asc i p h
    · exact lay_asc i p h
theorem Need.only {b : Bk} {r : Rw} (h : Need b r) {p : List Nat} (hs : sharpB b.rows p r = true) (ha : p.Pairwise (· < ·)) (hn : ∀ m ∈ p, m < b.rows.length) : p = List.range b.rows.length := h.own.lot (sharp_iff.mp hs) ha hn
section
variable {P : Program} {w : World} {K : PySem.W.Frag} {mg : PySem.Str → Option Value} {base : Heap}
local macro_rules | `(tactic| walk_at "d0") => `(tactic| first
  | ((with_reducible apply ev_var); rfl)
  | with_reducible apply ev_int
  | with_reducible apply ev_bl
  | with_reducible apply ev_str
  | with_reducible apply ev_non
  | with_reducible apply s_seq
  | with_reducible apply s_ret
  | with_reducible apply s_asg
  | with_reducible apply s_next
  | ((with_reducible apply s_app); rfl)
  | with_reducible apply s_drop
  | ((with_reducible apply src_0); rfl; intro _)
  | ((with_reducible apply src_1); rfl; intro _ _ _)
  | ((with_reducible apply src_2); rfl; intro _)
  | ((with_reducible apply s_setSrc0); rfl)
  | ((with_reducible apply s_setSrc2); rfl)
  | ((with_reducible apply ev_callS); rfl)
  | ((with_reducible apply ev_opO); rfl)
  | ((with_reducible apply ev_ixO); rfl)
  | with_reducible apply ev_op
  | with_reducible apply ev_un
  | with_reducible apply et_test
  | with_reducible apply et_B
  | with_reducible apply et_truI
  | with_reducible apply et_and
  | with_reducible apply et_or
  | with_reducible apply et_not
  | with_reducible apply ea_nil
  | with_reducible apply ea_cons
  | with_reducible apply ro_nd_n
  | with_reducible apply ro_and_n
  | with_reducible apply ro_or_n
  | with_reducible apply ro_shr_n
  | with_reducible apply ro_eq_0
  | with_reducible apply ro_ne_0
  | with_reducible apply ro_eq_n
  | with_reducible apply ro_ne_n
  | with_reducible apply ro_add_n
  | with_reducible apply ro_add_1
  | with_reducible apply ro_I0
  | with_reducible apply ro_B0
  | with_reducible apply ro_un
  | ((with_reducible apply ro_isN); rfl)
  | ((with_reducible apply ro_notN); rfl)
  | with_reducible apply ro_eq_t0
  | with_reducible apply ro_ne_lt0
  | with_reducible apply ro_ne_l0
  | with_reducible apply ro_ne_tt
  | with_reducible apply ro_eq_tt
  | with_reducible apply ro_ne_t
  | with_reducible apply ro_eq_i
  | with_reducible apply ro_ne_i
  | with_reducible apply ro_eq_s
  | with_reducible apply ro_add
  | ((with_reducible apply ro_ixT); rfl)
  | ((with_reducible apply ro_ixL); rfl)
  | with_reducible apply ev_list
  | with_reducible apply ev_tuple
  | with_reducible apply ev_sortset
  | with_reducible apply ev_isLT
  | ((with_reducible apply ev_cbO); rfl)
  | with_reducible apply ev_cb
  | with_reducible apply ev_call
  | ((with_reducible apply ev_fldM); rfl; exact Wf.kc2 (by assumption) (by decide +kernel); rfl)
  | with_reducible apply ev_fld
  | with_reducible apply ev_and
  | with_reducible apply ev_or
  | with_reducible apply ev_notV
  | with_reducible apply ev_if
  | with_reducible apply ev_chain
  | with_reducible apply ev_tup
  | with_reducible apply ev_lst
  | with_reducible apply ev_make
  | ((with_reducible apply ev_cm0); exact exok0)
  | ((with_reducible apply ev_cm); exact exok0)
  | ((with_reducible apply ev_meth0); exact exok0)
  | ((with_reducible apply ev_meth); exact exok0)
  | ((with_reducible apply ro_subO); exact exok0)
  | ((with_reducible apply ro_addO); exact exok0)
  | ((with_reducible apply rc_lenO); exact exok0)
  | ((with_reducible apply ev_prop); exact exok0)
  | with_reducible apply rc_int
  | with_reducible apply rc_lenL
  | with_reducible apply rc_lenT
  | ((with_reducible apply rc_is_int); (exact rfl))
  | ((with_reducible apply rc_is_bl); (exact rfl))
  | ((with_reducible apply rc_is_str); (exact rfl))
  | ((with_reducible apply rc_is_tup); (exact rfl))
  | ((with_reducible apply s_fldM); rfl; exact Wf.kc2 (by assumption) (by decide +kernel); decide; rfl)
  | with_reducible apply et_yes
  | with_reducible apply ev_rawc
  | ((with_reducible apply ev_src); rfl)
  | ((with_reducible refine ⟨len_ok ?_, ?_⟩); rfl)
  | with_reducible refine ⟨rfl, ?_⟩
  | with_reducible refine ⟨⟨_, rfl⟩, ?_⟩
  | with_reducible refine ⟨_, rfl, ?_⟩
  | refine ⟨_, _, rfl, rfl, ?_⟩
  | refine ⟨_, _, _, _, rfl, Wf.kc2 (by assumption) (by decide +kernel), rfl, ?_⟩
  | ((with_reducible apply iteTr); rfl)
  | ((with_reducible apply iteFr); rfl)
  | dsimp only)
local macro_rules | `(tactic| walk_at "d") => `(tactic| first
  | walk_at "d0"
  | with_reducible apply s_if)
local macro_rules | `(tactic| walk_at "o") => `(tactic| first
  | ((with_reducible apply so_retO); rfl)
  | ((with_reducible apply et_notcallO); rfl)
  | ((with_reducible apply s_asgO); (with_reducible apply en_lst); (with_reducible apply ea_nil); refine ⟨len_ok rfl, ?_⟩)
  | walk_at "d")

local macro_rules | `(tactic| walk_at "x") => `(tactic| first
  | ((with_reducible apply ev_callX); assumption)
  | walk_at "o")
def S_sharp_lot : List D → (D → Prop) → Prop := fun ds k => ∃ (b : Bk) (r : Rw), ds = [bookD b, sayD r] ∧ Need b r ∧ b.rows.length = 9 ∧ k (tupN (List.range 9))
theorem ok_sharp_lot (W : Wf P w K mg base) : FnR P w K mg base (L2.CX P w) 8 (d_sharp_lot.at_ K) (spD K fun ds k _ => S_sharp_lot ds k) := by
  have c_widest_lot := cc_widest_lot W
  have c_is_sharp := cc_is_sharp W
  refine W.fnD in_sharp_lot sc_sharp_lot (fun fd F => F.bindsN fun _ _ _ _ _ _ us hl => match us, hl with | [_, _], _ => rfl) (fun ds k h => by first | (obtain ⟨rfl, _⟩ := h; rfl) | (obtain ⟨_, rfl, _⟩ := h; rfl) | (obtain ⟨_, _, rfl, _⟩ := h; rfl) | (obtain ⟨_, _, _, rfl, _⟩ := h; rfl) | (obtain ⟨_, _, _, _, rfl, _⟩ := h; rfl) | (obtain ⟨_, _, _, _, _, rfl, _⟩ := h; rfl) | (obtain ⟨_, _, _, _, _, _, rfl, _⟩ := h; rfl) | (obtain ⟨_, _, _, _, _, _, _, rfl, _⟩ := h; rfl) | (obtain ⟨_, _, _, _, _, _, _, _, rfl, _⟩ := h; rfl) | (obtain ⟨_, _, _, _, _, _, _, _, _, rfl, _⟩ := h; rfl)) fun cdv A outer s H E hR F ds kk hF h => ?_
  subst hF
  obtain ⟨b, r, rfl, hN, h9, q⟩ := h
  refine ⟨_, (pss_cons (ps_set (i := 2) sc_sharp_lot.nd rfl (Or.inr rfl) (pe_f c_widest_lot hR (by decide) rfl passL (pa_cons (pv 0) (pa_cons (pv 1) pa_nil))))
  (pss_cons (ps_if (pt_cmpR op_isN (pv 2) pe_non (nomark _))
  (pss_one (ps_ret pe_non))
  pss_nil)
  (pss_cons (ps_set (i := 3) sc_sharp_lot.nd rfl (Or.inl rfl) (pe_lst (pa_cons (pe_tup pa_nil) pa_nil)))
  (pss_cons (ps_while PassesOwn.never (pt_cmpR (op_neX hR.units : OpR _ _ (rNeX F.K)) (pv 3) (pe_lst pa_nil) (nomark _))
  (pss_cons (ps_for PassesOwn.never rfl (pi_seqK (K := F.K) rfl (pv 3)) (pg_name (i := 4) sc_sharp_lot.nd rfl (Or.inl rfl))
  (pss_one (ps_if (pt_val (pe_f c_is_sharp hR (by decide) rfl passL (pa_cons (pv 0) (pa_cons (pv 4) (pa_cons (pv 1) pa_nil)))))
  (pss_one (ps_ret (pv 4)))
  pss_nil)))
  (pss_one (ps_setLc2 (i := 3) (own := [("lot", 4), ("number", 5)]) (vs1 := [5]) (by rfl) sc_sharp_lot.nd rfl rfl (sw_true rfl rfl rfl (by decide +kernel)) (pi_seqK (K := F.K) rfl (pv 3)) (blkOk_by (N := n_sharp_lot) (sc := defScope s_sharp_lot) (own := [("lot", 4), ("number", 5)]) (by decide +kernel)) (by decide) (fun _ _ _ _ _ => (pg_name (i := 4) sc_sharp_lot.nd rfl (Or.inl rfl))) (fun _ _ _ _ _ => pts_nil) (fun _ _ _ _ _ => (pi_seqK (K := F.K) rfl (pv 2))) (fun _ _ _ _ _ => (pg_name (i := 5) sc_sharp_lot.nd rfl (Or.inl rfl))) (fun _ _ _ _ _ => (pts_one (PW.pt (pw_or (pt_cmpR (op_eqX hR.units : OpR _ _ (rEqX F.K)) (pv 4) (pe_tup pa_nil) (nomark _)) (pw_or1 (pt_cmpR op_gt (pv 5) (pe_ix (ix_seq : IxR _ (rIx F.K)) (pv 4) (pe_un un_neg pe_int) (fun _ _ => rfl)) (nomark _))))))) (fun _ _ _ _ _ => (pe_op (op_addX : OpR _ _ (rAddX F.K)) (pv 4) (pe_tup (pa_cons (pv 5) pa_nil))))))))
  (pss_one (ps_ret pe_non)))))), ?_⟩
  try dsimp only [Xof, cxOf, Cx.nox, Cx.wish, Cx.blk]
  have hoks : ∀ q ∈ b.rows, q.Ok := fun q hq => (hN.ok.ri q hq).ok hN.ok.d16
  have h99 : List.range 9 ∈ lay 9 9 := lay_mem 9 _ rfl List.pairwise_lt_range (fun m hm => List.mem_range.mp hm)
  apply s_seq
  apply s_asg
  apply ev_call
  repeat walk_at "d"
  apply hN.widest
  rw [h9]
  repeat walk_at "d"
  apply s_while fun m ρ => ∃ i, i ≤ 9 ∧ m = 10 - i ∧ ∃ x y, ρ = [.val (bookD b), .val (sayD r), .val (tupN (List.range 9)), .val (.lst ((lay 9 i).map tupN)), x, y] ∧ y = .un
  · exact ⟨10, 0, by decide, rfl, _, _, rfl, rfl⟩
  rintro m ρ' ⟨i, hi, rfl, x, y, rfl, rfl⟩
  repeat walk_at "d"
  rw [decide_eq_false (lay9n i (by omega))]
  refine iteTr rfl ?_
  apply s_seq
  apply s_for
  apply ei_seq
  repeat walk_at "d"
  refine ⟨_, .inl rfl, fun j ρ => (∀ p ∈ (lay 9 i).take j, sharpB b.rows p r = false) ∧ ∃ x, ρ = [.val (bookD b), .val (sayD r), .val (tupN (List.range 9)), .val (.lst ((lay 9 i).map tupN)), x, .un], ⟨(fun p hp => by cases hp), _, rfl⟩, ?_, ?_⟩
  · rintro j d ρ' hj ⟨hno, x, rfl⟩
    obtain ⟨p, ep, rfl⟩ := map_at hj
    have hp := List.mem_of_getElem? ep
    have hlt := lay_lt i p hp
    have hlen := lay_len hp
    refine ⟨_, g_name, ?_⟩
    repeat walk_at "d"
    refine ⟨b, p, r, rfl, fun n hn => by rw [h9]; exact hlt n hn, hoks, hN.rok, by omega, ?_⟩
    cases hs : sharpB b.rows p r with
    | true =>
      repeat walk_at "d"
      have := hN.only hs (lay_asc i p hp) (fun m hm => by rw [h9]; exact hlt m hm)
      rw [h9] at this
      rw [this]
      exact q
    | false =>
      repeat walk_at "d"
      refine ⟨fun p' hp' => ?_, _, rfl⟩
      rw [take_at ep] at hp'
      rcases List.mem_append.mp hp' with h | h
      · exact hno p' h
      · rw [List.mem_singleton.mp h]
        exact hs
  rintro ρ' ⟨hno, x, rfl⟩
  rw [List.length_map, List.take_length] at hno
  have hi8 : i < 9 := by
    rcases Nat.lt_or_ge i 9 with z | z
    · exact z
    · have e9 : i = 9 := by omega
      subst e9
      have h1 := hno _ h99
      have h2 := sharp_iff.mpr hN.own.all
      rw [h9, h1] at h2
      cases h2
  with_reducible apply so_forget 4
  apply s_asg
  apply EvN.ev
  refine (nxt_lc (n := 9) (layer := lay 9 i) (un_of rfl) rfl (by decide) (by decide) (ev_var rfl rfl) (fun lot => ?_) (fun lot m => last_test rfl rfl) (fun lot m hm => lot_more rfl rfl (by rw [lay_len hm]; omega)) (by have := lay9s (i + 1) (by omega); show (lay 9 (i + 1)).length < _; omega)).imp fun ds hds => ?_
  · apply ei_seq
    exact ev_var rfl ⟨_, .inr rfl, rfl⟩
  · subst hds
    exact ⟨10 - (i + 1), by omega, i + 1, by omega, rfl, _, _, rfl, rfl⟩
theorem cc_sharp_lot (W : Wf P w K mg base) : Fnc P w K mg base 8 "sharp_lot" (spD K fun ds k _ => S_sharp_lot ds k) := W.fnc in_sharp_lot (fun _ => rfl) (j := 19) rfl (ok_sharp_lot W)
def S_sharp_lots : List D → (D → Prop) → Prop := fun ds k => ∃ (b : Bk) (r : Rw), ds = [bookD b, sayD r] ∧ Need b r ∧ b.rows.length = 9 ∧ k (.tup ([List.range 9].map tupN))
def foundN (ls : List (List Nat)) : List (List Nat) := if List.range 9 ∈ ls then [List.range 9] else []
theorem ok_sharp_lots (W : Wf P w K mg base) : FnR P w K mg base (L2.CX P w) 8 (d_sharp_lots.at_ K) (spD K fun ds k _ => S_sharp_lots ds k) := by
  have c_widest_lot := cc_widest_lot W
  have c_lots_of := cc_lots_of W
  have c_is_sharp := cc_is_sharp W
  have c_holds := cc_holds W
  refine W.fnD in_sharp_lots sc_sharp_lots (fun fd F => F.bindsN fun _ _ _ _ _ _ us hl => match us, hl with | [_, _], _ => rfl) (fun ds k h => by first | (obtain ⟨rfl, _⟩ := h; rfl) | (obtain ⟨_, rfl, _⟩ := h; rfl) | (obtain ⟨_, _, rfl, _⟩ := h; rfl) | (obtain ⟨_, _, _, rfl, _⟩ := h; rfl) | (obtain ⟨_, _, _, _, rfl, _⟩ := h; rfl) | (obtain ⟨_, _, _, _, _, rfl, _⟩ := h; rfl) | (obtain ⟨_, _, _, _, _, _, rfl, _⟩ := h; rfl) | (obtain ⟨_, _, _, _, _, _, _, rfl, _⟩ := h; rfl) | (obtain ⟨_, _, _, _, _, _, _, _, rfl, _⟩ := h; rfl) | (obtain ⟨_, _, _, _, _, _, _, _, _, rfl, _⟩ := h; rfl)) fun cdv A outer s H E hR F ds kk hF h => ?_
  subst hF
  obtain ⟨b, r, rfl, hN, h9, q⟩ := h
  refine ⟨_, (pss_cons (ps_set (i := 2) sc_sharp_lots.nd rfl (Or.inl rfl) (pe_f c_widest_lot hR (by decide) rfl passL (pa_cons (pv 0) (pa_cons (pv 1) pa_nil))))
  (pss_cons (ps_set (i := 3) sc_sharp_lots.nd rfl (Or.inl rfl) (pe_lst pa_nil))
  (pss_cons (ps_if (pt_cmpR op_notN (pv 2) pe_non (nomark _))
  (pss_one (ps_for PassesOwn.never rfl (pi_seqK (K := F.K) rfl (pe_f c_lots_of hR (by decide) rfl passL (pa_cons (pv 2) pa_nil))) (pg_name (i := 4) sc_sharp_lots.nd rfl (Or.inr rfl))
  (pss_one (ps_if (PW.pt (pw_and (pt_not (pt_val (pe_callB (cr_any rfl : CallR _ _ (rAny F.K)) rfl (W.free 14 _ rfl) (by decide +kernel) (pa_cons (pe_lc (own := [("part", 5)]) (by rfl) sc_sharp_lots.nd (pi_seqK (K := F.K) rfl (pv 3)) (blkOk_by (N := n_sharp_lots) (sc := defScope s_sharp_lots) (own := [("part", 5)]) (by decide +kernel)) (fun _ _ _ _ _ => (pg_name (i := 5) sc_sharp_lots.nd rfl (Or.inl rfl))) (fun _ _ _ _ _ => pts_nil) (fun _ _ _ _ _ => (pe_f c_holds hR (by decide) rfl passL (pa_cons (pv 4) (pa_cons (pv 5) pa_nil))))) pa_nil)))) (pw_and1 (pt_val (pe_f c_is_sharp hR (by decide) rfl passL (pa_cons (pv 0) (pa_cons (pv 4) (pa_cons (pv 1) pa_nil))))))))
  (pss_one (ps_expr (pe_bm PySem.F.plainAttrs_list PySem.F.slot_list_append PySem.F.type_list_append mt_append (pv 3) (pa_cons (pv 4) pa_nil))))
  pss_nil))))
  pss_nil)
  (pss_one (ps_ret (pe_callTy call_tuple_of rfl (W.free 6 _ rfl) (by decide +kernel) (pa_cons (pv 3) pa_nil))))))), ?_⟩
  try dsimp only [Xof, cxOf, Cx.nox, Cx.wish, Cx.blk]
  have hoks : ∀ q ∈ b.rows, q.Ok := fun q hq => (hN.ok.ri q hq).ok hN.ok.d16
  apply s_seq
  apply s_asg
  apply ev_call
  repeat walk_at "d"
  apply hN.widest
  rw [h9]
  repeat walk_at "o"
  apply s_for
  apply ei_seq
  repeat walk_at "d"
  refine ⟨rfl, _, .inl rfl, fun i ρ => ∃ x, ρ = [.val (bookD b), .val (sayD r), .val (tupN (List.range 9)), .own ((foundN ((lays 9 10).take i)).map tupN), x, .un], ⟨_, rfl⟩, ?_, ?_⟩
  · rintro i d ρ' hi ⟨x, rfl⟩
    obtain ⟨p, ep, rfl⟩ := map_at hi
    have hp := List.mem_of_getElem? ep
    have hlt := lays_lt _ p hp
    have hlen := lays_len _ p hp
    have hasc := lays_asc _ p hp
    have hR : sharpB b.rows (List.range 9) r = true := by
      have := sharp_iff.mpr hN.own.all
      rw [h9] at this
      exact this
    have honly : sharpB b.rows p r = true → p = List.range 9 := fun hs => by
      have := hN.only hs hasc (fun m hm => by rw [h9]; exact hlt m hm)
      rw [h9] at this
      exact this
    have hnext : foundN ((lays 9 10).take (i + 1)) = if p = List.range 9 then [List.range 9] else foundN ((lays 9 10).take i) := by
      unfold foundN
      rw [take_at ep]
      by_cases h : p = List.range 9
      · rw [if_pos h, if_pos (List.mem_append_right _ (List.mem_singleton.mpr h.symm))]
      · rw [if_neg h]
        have : (List.range 9 ∈ (lays 9 10).take i ++ [p]) ↔ List.range 9 ∈ (lays 9 10).take i := by
          rw [List.mem_append, List.mem_singleton]
          exact ⟨fun z => z.elim id fun e => absurd e.symm h, .inl⟩
        simp only [this]
    have hf : foundN ((lays 9 10).take i) = [] ∨ foundN ((lays 9 10).take i) = [List.range 9] := by
      unfold foundN
      split
      · exact .inr rfl
      · exact .inl rfl
    have hfl : (foundN ((lays 9 10).take i)).length ≤ 1 := by
      rcases hf with h | h <;> rw [h] <;> decide
    have hfm : ∀ y ∈ foundN ((lays 9 10).take i), y = List.range 9 := fun y hy => by
      rcases hf with h | h <;> rw [h] at hy
      · cases hy
      · exact List.mem_singleton.mp hy
    generalize foundN ((lays 9 10).take i) = found at *
    refine ⟨_, g_name, ?_⟩
    apply s_if
    apply et_and
    apply et_not
    with_reducible apply et_freeze 3
    rfl
    apply et_B
    apply ev_cb
    apply ea_cons
    apply EvN.ev
    apply en_lc (un_of rfl)
    apply ei_seq
    repeat walk_at "d"
    refine ⟨_, .inl rfl, fun j acc => acc = ((found.take j).map fun y => y.all fun n => decide (n ∈ p)).map .bl, rfl, ?_, ?_⟩
    · rintro j d acc hj rfl
      obtain ⟨y, ey, rfl⟩ := map_at hj
      refine ⟨_, mem_of rfl, g_name, ?_⟩
      repeat walk_at "d"
      refine ⟨p, y, rfl, ?_, ?_⟩
      · rw [hfm y (List.mem_of_getElem? ey)]
        decide
      refine ⟨by rw [List.length_map, List.length_map, List.length_take]; omega, ?_⟩
      show _ = _
      rw [take_at ey, List.map_append, List.map_append]
      rfl
    rintro acc rfl
    rw [List.length_map, List.take_length]
    repeat walk_at "d"
    apply rc_any
    refine ⟨_, rfl, ?_⟩
    cases han : (found.map fun y => y.all fun n => decide (n ∈ p)).any id with
    | true =>
      refine iteFr rfl ?_
      refine iteFr rfl ?_
      apply s_next
      have : foundN ((lays 9 10).take (i + 1)) = found := by
        rw [hnext]
        by_cases h : p = List.range 9
        · rw [if_pos h]
          rcases hf with z | z
          · rw [z] at han
            cases han
          · exact z.symm
        · rw [if_neg h]
      rw [this]
      exact ⟨_, rfl⟩
    | false =>
      refine iteTr rfl ?_
      repeat walk_at "d"
      refine ⟨b, p, r, rfl, fun n hn => by rw [h9]; exact hlt n hn, hoks, hN.rok, by omega, ?_⟩
      cases hs : sharpB b.rows p r with
      | true =>
        have hpe := honly hs
        have hfe : found = [] := by
          rcases hf with z | z
          · exact z
          · rw [z, hpe] at han
            have : ([List.range 9].map fun y => y.all fun n => decide (n ∈ List.range 9)).any id = true := by decide +kernel
            rw [this] at han
            cases han
        rw [if_pos hpe] at hnext
        rw [hnext, hfe]
        repeat walk_at "d"
        · exact Nat.succ_pos _
        repeat walk_at "d"
        rw [hpe]
        exact ⟨_, rfl⟩
      | false =>
        have hpe : p ≠ List.range 9 := fun z => by
          rw [z, hR] at hs
          cases hs
        rw [if_neg hpe] at hnext
        rw [hnext]
        repeat walk_at "d"
        exact ⟨_, rfl⟩
  rintro ρ' ⟨x, rfl⟩
  rw [List.length_map, List.take_length]
  have hm : List.range 9 ∈ lays 9 10 := lays_mem (n := 9) List.pairwise_lt_range (fun m hm => List.mem_range.mp hm)
  rw [show foundN (lays 9 10) = [List.range 9] from if_pos hm]
  with_reducible apply so_freeze 3
  rfl
  repeat walk_at "d"
  exact ⟨_, .inl rfl, q⟩
theorem cc_sharp_lots (W : Wf P w K mg base) : Fnc P w K mg base 8 "sharp_lots" (spD K fun ds k _ => S_sharp_lots ds k) := W.fnc in_sharp_lots (fun _ => rfl) (j := 20) rfl (ok_sharp_lots W)
end
end K33
namespace K33
open PySem PySem.Spec PyProof.Rows L2
/-- f(e, ..), f a local name; what is raised is wished for at the caller's slots -/
def tClS (i : Nat) (f : Addr) (sp : Sp) (E : L2.St → XK) (t : TA) : TE := fun σ H Q => σ[i]? = some (some (.ref f)) ∧ t σ H fun vs H1 => sp vs H1 Q (E σ)
section
variable {X : Cx} {k j i : Nat} {x : PySem.Str} {sp : Sp} {E : L2.St → XK} {t : TA} {f : Addr} {e : Expr} {es : List Expr} {p pos : Pos}
theorem run_at {pins : List (Addr × Obj)} {σ : L2.St} {H : Hp} {s : Shared} {Q : VK} {us : List Value} {vs : List V} (c : FnR X.prog X.w X.K X.mg X.base (L2.CX X.prog X.w) k f sp) (hr : Room k X.A) (hx : PassesAt (L2.CX X.prog X.w) X σ (E σ)) (I : Inv X pins σ H s) (r : Vals vs us) (q : sp vs H Q (E σ)) :
    wpAny (model X.prog X.w) X.A (call (.ref f) us) (EP X pins σ Q) X.xe s :=
  wpAny_call (codeAny_mono (c X.A X.stack s H us vs Q (E σ) hr I.env0 r q) fun z s' hq => match z, hq with
    | .error er, hq => hx pins H s er s' I hq
    | .ok (.ret _), hq => I.after hq)
theorem pe_callLS (c : FnR X.prog X.w X.K X.mg X.base (L2.CX X.prog X.w) k f sp) (kp : PySem.W.keepIn X.K (.ref f) = true) (hr : Room j X.A) (hk : k ≤ j) (hN : X.N[i]? = some x) (hv : Vis X.env.scope x) (hx : ∀ σ, PassesAt (L2.CX X.prog X.w) X σ (E σ)) (ha : PA X (e :: es) t)
    (hd : (x == ("__debug__" : PySem.Str)) = false := by decide) (hc : (x == ("__classdict__" : PySem.Str)) = false := by decide)
    (he : starEach (e :: es) X.env = (false, eval e X.env) :: starEach es X.env := by rfl) (hp : (backTo pos (starEach es X.env)).any (·.1) = false := by rfl) : PE X (.Call (.Name x p) (e :: es) [] pos) (tClS i f sp E t) := by
  refine ⟨fun pins s σ H Q I ⟨hs, ht⟩ => ?_⟩
  have name := (pe_var (pos := p) hN hv hd hc).run pins s σ H (fun v H1 => v = .ref f ∧ H1 = H) I ⟨.ref f, hs, rfl, rfl⟩
  refine wpAny_Call_Name_kw (thn name fun u s1 hu => ?_)
  obtain ⟨v, H1, I1, r1, ev, eH⟩ := hu
  subst ev eH
  obtain rfl : u = Value.ref f := r1
  have go : ∀ us s2, AP X pins σ (fun vs H2 => sp vs H2 Q (E σ)) us s2 → X.K.In s2.heap ∧ wpAny (model X.prog X.w) X.A (call (.ref f) us) (EP X pins σ Q) X.xe s2 := by
    rintro us s2 ⟨vs, H2, I2, r, q⟩
    exact ⟨I2.kIn, run_at c (hr.mono hk) (hx σ) I2 r q⟩
  exact PySem.W.callWith_K (h₀ := X.base) I.ok.mod.kin kp (thn (ha.run pos pins s1 σ _ _ I1 ht) go) he hp
end
section
variable {P : Program} {w : World} {K : PySem.W.Frag} {mg : PySem.Str → Option Value} {base : Heap}
local macro_rules | `(tactic| walk_at "d0") => `(tactic| first
  | ((with_reducible apply ev_var); rfl)
  | with_reducible apply ev_int
  | with_reducible apply ev_bl
  | with_reducible apply ev_str
  | with_reducible apply ev_non
  | with_reducible apply s_seq
  | with_reducible apply s_ret
  | with_reducible apply s_asg
  | with_reducible apply s_next
  | ((with_reducible apply s_app); rfl)
  | with_reducible apply s_drop
  | ((with_reducible apply src_0); rfl; intro _)
  | ((with_reducible apply src_1); rfl; intro _ _ _)
  | ((with_reducible apply src_2); rfl; intro _)
  | ((with_reducible apply s_setSrc0); rfl)
  | ((with_reducible apply s_setSrc2); rfl)
  | ((with_reducible apply ev_callS); rfl)
  | ((with_reducible apply ev_opO); rfl)
  | ((with_reducible apply ev_ixO); rfl)
  | with_reducible apply ev_op
  | with_reducible apply ev_un
  | with_reducible apply et_test
  | with_reducible apply et_B
  | with_reducible apply et_truI
  | with_reducible apply et_and
  | with_reducible apply et_or
  | with_reducible apply et_not
  | with_reducible apply ea_nil
  | with_reducible apply ea_cons
  | with_reducible apply ro_nd_n
  | with_reducible apply ro_and_n
  | with_reducible apply ro_or_n
  | with_reducible apply ro_shr_n
  | with_reducible apply ro_eq_0
  | with_reducible apply ro_ne_0
  | with_reducible apply ro_eq_n
  | with_reducible apply ro_ne_n
  | with_reducible apply ro_add_n
  | with_reducible apply ro_add_1
  | with_reducible apply ro_I0
  | with_reducible apply ro_B0
  | with_reducible apply ro_un
  | ((with_reducible apply ro_isN); rfl)
  | ((with_reducible apply ro_notN); rfl)
  | with_reducible apply ro_eq_t0
  | with_reducible apply ro_ne_lt0
  | with_reducible apply ro_ne_l0
  | with_reducible apply ro_ne_tt
  | with_reducible apply ro_eq_tt
  | with_reducible apply ro_ne_t
  | with_reducible apply ro_eq_i
  | with_reducible apply ro_ne_i
  | with_reducible apply ro_eq_s
  | with_reducible apply ro_add
  | ((with_reducible apply ro_ixT); rfl)
  | ((with_reducible apply ro_ixL); rfl)
  | with_reducible apply ev_list
  | with_reducible apply ev_tuple
  | with_reducible apply ev_sortset
  | with_reducible apply ev_isLT
  | ((with_reducible apply ev_cbO); rfl)
  | with_reducible apply ev_cb
  | with_reducible apply ev_call
  | ((with_reducible apply ev_fldM); rfl; exact Wf.kc2 (by assumption) (by decide +kernel); rfl)
  | with_reducible apply ev_fld
  | with_reducible apply ev_and
  | with_reducible apply ev_or
  | with_reducible apply ev_notV
  | with_reducible apply ev_if
  | with_reducible apply ev_chain
  | with_reducible apply ev_tup
  | with_reducible apply ev_lst
  | with_reducible apply ev_make
  | ((with_reducible apply ev_cm0); exact exok0)
  | ((with_reducible apply ev_cm); exact exok0)
  | ((with_reducible apply ev_meth0); exact exok0)
  | ((with_reducible apply ev_meth); exact exok0)
  | ((with_reducible apply ro_subO); exact exok0)
  | ((with_reducible apply ro_addO); exact exok0)
  | ((with_reducible apply rc_lenO); exact exok0)
  | ((with_reducible apply ev_prop); exact exok0)
  | with_reducible apply rc_int
  | with_reducible apply rc_lenL
  | with_reducible apply rc_lenT
  | ((with_reducible apply rc_is_int); (exact rfl))
  | ((with_reducible apply rc_is_bl); (exact rfl))
  | ((with_reducible apply rc_is_str); (exact rfl))
  | ((with_reducible apply rc_is_tup); (exact rfl))
  | ((with_reducible apply s_fldM); rfl; exact Wf.kc2 (by assumption) (by decide +kernel); decide; rfl)
  | with_reducible apply et_yes
  | with_reducible apply ev_rawc
  | ((with_reducible apply ev_src); rfl)
  | ((with_reducible refine ⟨len_ok ?_, ?_⟩); rfl)
  | with_reducible refine ⟨rfl, ?_⟩
  | with_reducible refine ⟨⟨_, rfl⟩, ?_⟩
  | with_reducible refine ⟨_, rfl, ?_⟩
  | refine ⟨_, _, rfl, rfl, ?_⟩
  | refine ⟨_, _, _, _, rfl, Wf.kc2 (by assumption) (by decide +kernel), rfl, ?_⟩
  | ((with_reducible apply iteTr); rfl)
  | ((with_reducible apply iteFr); rfl)
  | dsimp only)
local macro_rules | `(tactic| walk_at "d") => `(tactic| first
  | walk_at "d0"
  | with_reducible apply s_if)
local macro_rules | `(tactic| walk_at "o") => `(tactic| first
  | ((with_reducible apply so_retO); rfl)
  | ((with_reducible apply et_notcallO); rfl)
  | ((with_reducible apply s_asgO); (with_reducible apply en_lst); (with_reducible apply ea_nil); refine ⟨len_ok rfl, ?_⟩)
  | walk_at "d")

local macro_rules | `(tactic| walk_at "x") => `(tactic| first
  | ((with_reducible apply ev_callX); assumption)
  | walk_at "o")
def S_nn (K : PySem.W.Frag) : List D → (D → Prop) → Prop := fun ds k => ∃ (b : Bk) (r : Rw), ds = [.raw (.ref (He.ga K "derivation")), bookD b, sayD r] ∧ b.Ok ∧ r.Ok ∧ r.w ||| r.t < 2 ^ b.days ∧ (∀ n, needR b.rows = some n → k (nD n)) ∧ (needR b.rows = none → r.u = false ∧ k .non)
theorem ok__law_need_not (W : Wf P w K mg base) : FnR P w K mg base (L2.CX P w) 9 (d__law_need_not.at_ K) (spD K fun ds k _ => S_nn K ds k) := by
  have c_derivation := cc_derivation W
  refine W.fnD in__law_need_not sc__law_need_not (fun fd F => F.bindsN fun _ _ _ _ _ _ us hl => match us, hl with | [_, _, _], _ => rfl) (fun ds k h => by obtain ⟨_, _, rfl, _⟩ := h; rfl) fun cdv A outer s H E hR F ds kk hF h => ?_
  subst hF
  obtain ⟨b, r, rfl, bok, rok, hlt, h1, h2⟩ := h
  refine ⟨_, pss_cons (ps_try_as (i := 3) (c := .ref (He.ga F.K "NeedNot")) (tb := fun W' => tDrop (tClS 0 (He.ga F.K "derivation") (spD F.K S_derivation) (WE W') (tCons (tVar 1) (tCons (tVar 2) tNil)))) rfl rfl sc__law_need_not.nd rfl rfl ⟨rfl, by decide, .inl (W.glo 37 _ rfl)⟩ LamX.takes0 (fun W' pn xe tk _ => pss_one (ps_expr (pe_callLS c_derivation.run c_derivation.kp hR (by decide) rfl (.inl rfl) (fun σ => passAt tk σ) (pa_cons (pv 1) (pa_cons (pv 2) pa_nil)))))
      (fun a oe cls d pn hz hf => pss_one (ps_ret (pe_xf (W.err 1 _ rfl).xf (W.err 1 _ rfl).nonum hz hf (pv 3))))) (pss_one (ps_ret pe_str)), ?_⟩
  apply s_seq
  intro B H0 σ E0 En hn hr
  obtain ⟨v0, a0, b0⟩ := E0.at_ 0 (.val (.raw (.ref (He.ga F.K "derivation")))) rfl
  obtain ⟨v1, a1, b1⟩ := E0.at_ 1 (.val (bookD b)) rfl
  obtain ⟨v2, a2, b2⟩ := E0.at_ 2 (.val (sayD r)) rfl
  cases b0
  have hl : 3 < σ.length := by
    rw [E0.len]
    exact (show 3 < 4 by decide)
  refine ⟨a0, v1, a1, v2, a2, [bookD b, sayD r], B, fun _ => False, fun x => ∃ d, x = .mk "NeedNot" (some d) ∧ kk d, bs_start E0.bs.bh, .cons b1 (.cons b2 RepL.nil), ⟨b, r, rfl, bok, rok, fun z => absurd hlt z, fun _ => ⟨fun n e => ⟨_, rfl, h1 n e⟩, fun e => by
    obtain ⟨e1, e2⟩ := h2 e
    rw [e1]
    exact iteF ⟨_, rfl, e2⟩⟩⟩, fun d v B' H' z => z.elim, fun x cls dx B' H' hx b' e => ?_⟩
  obtain ⟨d, rfl, hk⟩ := hx
  obtain ⟨rfl, aa, v, rfl, hd, rv⟩ := e
  exact ⟨true, (W.err 1 _ rfl).one, fun _ a ha => ⟨.ref a, List.getElem?_set_self hl, rfl, rfl, aa, _, v, rfl, hd, rfl, hr d v B' H' hk b'.b0 (Stp.call E0 b').env.bs rv⟩, fun z => by cases z⟩
theorem cc__law_need_not (W : Wf P w K mg base) : Fnc P w K mg base 9 "_law_need_not" (spD K fun ds k _ => S_nn K ds k) := W.fnc in__law_need_not (fun _ => rfl) (j := 58) rfl (ok__law_need_not W)
end
end K33
namespace K33
open PySem PySem.Spec PyProof.Rows L2
section
variable {P : Program} {w : World} {K : PySem.W.Frag} {mg : PySem.Str → Option Value} {base : Heap}
local macro_rules | `(tactic| walk_at "d0") => `(tactic| first
  | ((with_reducible apply ev_var); rfl)
  | with_reducible apply ev_int
  | with_reducible apply ev_bl
  | with_reducible apply ev_str
  | with_reducible apply ev_non
  | with_reducible apply s_seq
  | with_reducible apply s_ret
  | with_reducible apply s_asg
  | with_reducible apply s_next
  | ((with_reducible apply s_app); rfl)
  | with_reducible apply s_drop
  | ((with_reducible apply src_0); rfl; intro _)
  | ((with_reducible apply src_1); rfl; intro _ _ _)
  | ((with_reducible apply src_2); rfl; intro _)
  | ((with_reducible apply s_setSrc0); rfl)
  | ((with_reducible apply s_setSrc2); rfl)
  | ((with_reducible apply ev_callS); rfl)
  | ((with_reducible apply ev_opO); rfl)
  | ((with_reducible apply ev_ixO); rfl)
  | with_reducible apply ev_op
  | with_reducible apply ev_un
  | with_reducible apply et_test
  | with_reducible apply et_B
  | with_reducible apply et_truI
  | with_reducible apply et_and
  | with_reducible apply et_or
  | with_reducible apply et_not
  | with_reducible apply ea_nil
  | with_reducible apply ea_cons
  | with_reducible apply ro_nd_n
  | with_reducible apply ro_and_n
  | with_reducible apply ro_or_n
  | with_reducible apply ro_shr_n
  | with_reducible apply ro_eq_0
  | with_reducible apply ro_ne_0
  | with_reducible apply ro_eq_n
  | with_reducible apply ro_ne_n
  | with_reducible apply ro_add_n
  | with_reducible apply ro_add_1
  | with_reducible apply ro_I0
  | with_reducible apply ro_B0
  | with_reducible apply ro_un
  | ((with_reducible apply ro_isN); rfl)
  | ((with_reducible apply ro_notN); rfl)
  | with_reducible apply ro_eq_t0
  | with_reducible apply ro_ne_lt0
  | with_reducible apply ro_ne_l0
  | with_reducible apply ro_ne_tt
  | with_reducible apply ro_eq_tt
  | with_reducible apply ro_ne_t
  | with_reducible apply ro_eq_i
  | with_reducible apply ro_ne_i
  | with_reducible apply ro_eq_s
  | with_reducible apply ro_add
  | ((with_reducible apply ro_ixT); rfl)
  | ((with_reducible apply ro_ixL); rfl)
  | with_reducible apply ev_list
  | with_reducible apply ev_tuple
  | with_reducible apply ev_sortset
  | with_reducible apply ev_isLT
  | ((with_reducible apply ev_cbO); rfl)
  | with_reducible apply ev_cb
  | with_reducible apply ev_call
  | ((with_reducible apply ev_fldM); rfl; exact Wf.kc2 (by assumption) (by decide +kernel); rfl)
  | with_reducible apply ev_fld
  | with_reducible apply ev_and
  | with_reducible apply ev_or
  | with_reducible apply ev_notV
  | with_reducible apply ev_if
  | with_reducible apply ev_chain
  | with_reducible apply ev_tup
  | with_reducible apply ev_lst
  | with_reducible apply ev_make
  | ((with_reducible apply ev_cm0); exact exok0)
  | ((with_reducible apply ev_cm); exact exok0)
  | ((with_reducible apply ev_meth0); exact exok0)
  | ((with_reducible apply ev_meth); exact exok0)
  | ((with_reducible apply ro_subO); exact exok0)
  | ((with_reducible apply ro_addO); exact exok0)
  | ((with_reducible apply rc_lenO); exact exok0)
  | ((with_reducible apply ev_prop); exact exok0)
  | with_reducible apply rc_int
  | with_reducible apply rc_lenL
  | with_reducible apply rc_lenT
  | ((with_reducible apply rc_is_int); (exact rfl))
  | ((with_reducible apply rc_is_bl); (exact rfl))
  | ((with_reducible apply rc_is_str); (exact rfl))
  | ((with_reducible apply rc_is_tup); (exact rfl))
  | ((with_reducible apply s_fldM); rfl; exact Wf.kc2 (by assumption) (by decide +kernel); decide; rfl)
  | with_reducible apply et_yes
  | with_reducible apply ev_rawc
  | ((with_reducible apply ev_src); rfl)
  | ((with_reducible refine ⟨len_ok ?_, ?_⟩); rfl)
  | with_reducible refine ⟨rfl, ?_⟩
  | with_reducible refine ⟨⟨_, rfl⟩, ?_⟩
  | with_reducible refine ⟨_, rfl, ?_⟩
  | refine ⟨_, _, rfl, rfl, ?_⟩
  | refine ⟨_, _, _, _, rfl, Wf.kc2 (by assumption) (by decide +kernel), rfl, ?_⟩
  | ((with_reducible apply iteTr); rfl)
  | ((with_reducible apply iteFr); rfl)
  | dsimp only)
local macro_rules | `(tactic| walk_at "d") => `(tactic| first
  | walk_at "d0"
  | with_reducible apply s_if)
local macro_rules | `(tactic| walk_at "o") => `(tactic| first
  | ((with_reducible apply so_retO); rfl)
  | ((with_reducible apply et_notcallO); rfl)
  | ((with_reducible apply s_asgO); (with_reducible apply en_lst); (with_reducible apply ea_nil); refine ⟨len_ok rfl, ?_⟩)
  | walk_at "d")

local macro_rules | `(tactic| walk_at "x") => `(tactic| first
  | ((with_reducible apply ev_callX); assumption)
  | walk_at "o")
def S__law_made : List D → (D → Prop) → Prop := fun ds k => ∃ (b : Bk) (r : Rw), ds = [nD b.days, .lst (b.rows.map rowD), bookD b, rowD r] ∧ b.Ok ∧ (b.days < 8 → b.days ≤ 4) ∧ b.rows.length ≤ 6 ∧ (∀ q ∈ b.rows, q.u = true) ∧ r.In b.days ∧ r.u = true ∧ k (.bl true)
theorem ok__law_made (W : Wf P w K mg base) : FnR P w K mg base (L2.CX P w) 9 (d__law_made.at_ K) (spS K S__law_made) := by
  have c_derivation := cc_derivation W
  have c__law_all_lots := cc__law_all_lots W
  have c__law_right := cc__law_right W
  have c__law_sound := cc__law_sound W
  have c__law_saying := cc__law_saying W
  have c__law_rests := cc__law_rests W
  have c__law_sharp := cc__law_sharp W
  refine W.fnS in__law_made sc__law_made (fun fd F => F.bindsN fun _ _ _ _ _ _ us hl => match us, hl with | [_, _, _, _, _], _ => rfl) (fun ds k h => by first | (obtain ⟨rfl, _⟩ := h; rfl) | (obtain ⟨_, rfl, _⟩ := h; rfl) | (obtain ⟨_, _, rfl, _⟩ := h; rfl) | (obtain ⟨_, _, _, rfl, _⟩ := h; rfl) | (obtain ⟨_, _, _, _, rfl, _⟩ := h; rfl) | (obtain ⟨_, _, _, _, _, rfl, _⟩ := h; rfl) | (obtain ⟨_, _, _, _, _, _, rfl, _⟩ := h; rfl) | (obtain ⟨_, _, _, _, _, _, _, rfl, _⟩ := h; rfl) | (obtain ⟨_, _, _, _, _, _, _, _, rfl, _⟩ := h; rfl) | (obtain ⟨_, _, _, _, _, _, _, _, _, rfl, _⟩ := h; rfl)) fun cdv A outer s H E hR F sa ds kk hF hsa h => ?_
  subst hF
  obtain ⟨b, r, rfl, bok, h8, h6, hu, rin, ru, q⟩ := h
  refine ⟨_, (pss_cons (ps_par (i := 5) (j := 6) (by rfl) sc__law_made.nd rfl rfl (by decide) rfl rfl (pa_cons (pe_f c_derivation hR (by decide) rfl passL (pa_cons (pv 3) (pa_cons (pe_f c__law_saying hR (by decide) rfl passL (pa_cons (pv 4) pa_nil)) pa_nil))) (pa_cons (pe_f c__law_all_lots hR (by decide) rfl passL (pa_cons (pe_callB (cr_lenX : CallR _ _ (rLenX F.K)) rfl (W.free 0 _ rfl) boot_len (pa_cons (pv 2) pa_nil)) pa_nil)) pa_nil)) (by rfl))
  (pss_cons (ps_if (pt_cmpR (op_eqX hR.units : OpR _ _ (rEqX F.K)) (pe_callB (cr_lenX : CallR _ _ (rLenX F.K)) rfl (W.free 0 _ rfl) boot_len (pa_cons (pe_lc (own := [("_law_lot", 7)]) (by rfl) sc__law_made.nd (pi_seqK (K := F.K) rfl (pv 6)) (blkOk_by (N := n__law_made) (sc := defScope s__law_made) (own := [("_law_lot", 7)]) (by decide +kernel)) (fun _ _ _ _ _ => (pg_name (i := 7) sc__law_made.nd rfl (Or.inl rfl))) (fun _ _ _ _ _ => (pts_one (pt_val (pe_f c__law_sharp hR (by decide) rfl passL (pa_cons (pv 2) (pa_cons (pv 7) (pa_cons (pv 4) pa_nil))))))) (fun _ _ _ _ _ => (pv 7))) pa_nil)) pe_int (nomark _))
  (pss_one (ps_ret (pe_cmpR op_isN (pv 5) pe_non (nomark _))))
  pss_nil)
  (pss_one (ps_ret (pe_and (pe_f c__law_right hR (by decide) rfl passL (pa_cons (pv 2) (pa_cons (pv 3) (pa_cons (pv 4) (pa_cons (pv 5) pa_nil))))) (pe_one (pe_f c__law_sound hR (by decide) rfl passL (pa_cons (pv 0) (pa_cons (pv 1) (pa_cons (pv 2) (pa_cons (pv 5) (pa_cons (pe_f c__law_rests hR (by decide) rfl passL (pa_cons (pv 5) pa_nil)) pa_nil)))))))))))), ?_⟩
  try dsimp only [Xof, cxOf, Cx.nox, Cx.wish, Cx.blk]
  have rok := rin.ok bok.d16
  have hlt : r.w ||| r.t < 2 ^ b.days := or_lt rin.2.1 rin.2.2
  have hoks : ∀ q ∈ b.rows, q.Ok := fun q hq => (bok.ri q hq).ok bok.d16
  apply s_seq
  apply s_par
  repeat walk_at "d"
  refine ⟨r, rfl, rok, ?_⟩
  repeat walk_at "d"
  refine ⟨b, r, rfl, bok, rok, fun z => absurd hlt z, fun _ => ⟨fun n e => ?_, fun _ => ?_⟩⟩
  · rw [need_of hu] at e
    cases e
  rw [ru]
  have hll := (lays6 b.rows.length (by omega) (b.rows.length + 1) (by omega)).1
  refine iteT ⟨fun WL hW => ?_, fun hno => ?_⟩
  all_goals
    repeat walk_at "d"
    rw [List.length_map]
    refine ⟨_, rfl, h6, ?_⟩
    repeat walk_at "d"
    refine ⟨_, _, rfl, ?_⟩
    repeat walk_at "d"
    apply EvN.ev
    apply en_lc (un_of rfl)
    apply ei_seq
    repeat walk_at "d"
    refine ⟨_, .inl rfl, fun i acc => acc = (((lays b.rows.length (b.rows.length + 1)).take i).filter fun p => sharpB b.rows p r).map tupN, rfl, ?_, ?_⟩
    · rintro i d acc hi rfl
      obtain ⟨p, ep, rfl⟩ := map_at hi
      have hp := lays_lt _ p (List.mem_of_getElem? ep)
      have ht : ((lays b.rows.length (b.rows.length + 1)).take (i + 1)).filter (fun p => sharpB b.rows p r) = ((lays b.rows.length (b.rows.length + 1)).take i).filter (fun p => sharpB b.rows p r) ++ [p].filter (fun p => sharpB b.rows p r) := by rw [take_at ep, List.filter_append]
      have hfl : (((lays b.rows.length (b.rows.length + 1)).take i).filter fun p => sharpB b.rows p r).length ≤ 1000 := Nat.le_trans (List.length_filter_le _ _) (by rw [List.length_take]; omega)
      refine ⟨_, mem_of rfl, g_name, ?_⟩
      repeat walk_at "d"
      refine ⟨b.rows, p, _, r, rfl, .inl rfl, hp, ?_⟩
      cases hs : sharpB b.rows p r with
      | true =>
        rw [List.filter_cons_of_pos (p := fun p => sharpB b.rows p r) hs, List.filter_nil] at ht
        repeat walk_at "d"
        refine ⟨by rw [List.length_map]; omega, ?_⟩
        show _ = _
        rw [ht, List.map_append]
        rfl
      | false =>
        rw [List.filter_cons_of_neg (p := fun p => sharpB b.rows p r) (by rw [hs]; decide), List.filter_nil, List.append_nil] at ht
        repeat walk_at "d"
        show _ = _
        rw [ht]
    rintro acc rfl
    rw [List.length_map, List.take_length]
    repeat walk_at "d"
    rw [List.length_map]
  · have hder := wide_der hu hoks bok.rl rok hW
    have hm : WL ∈ (lays b.rows.length (b.rows.length + 1)).filter fun p => sharpB b.rows p r := List.mem_filter.mpr ⟨lays_mem hW.asc hW.lt, sharp_iff.mpr hW.sharp⟩
    have hpos := List.length_pos_of_mem hm
    rw [decide_eq_false (show ¬ ((lays b.rows.length (b.rows.length + 1)).filter fun p => sharpB b.rows p r).length = 0 by omega)]
    repeat walk_at "d"
    refine ⟨b, r, _, rfl, hder, ?_⟩
    repeat walk_at "d"
    refine ⟨b.rows, _, rfl, hder.der, ?_⟩
    repeat walk_at "d"
    exact ⟨b.days, b.rows, _, _, rfl, Nat.one_le_two_pow, bok.d16, h8, (restM_len _).symm, der_sound hu hder.der h6, q⟩
  · have e0 : ((lays b.rows.length (b.rows.length + 1)).filter fun p => sharpB b.rows p r) = [] := List.filter_eq_nil_iff.mpr fun p _ => by
      rw [hno p]
      decide
    rw [e0]
    repeat walk_at "d"
    exact q
theorem cc__law_made (W : Wf P w K mg base) : Fnc P w K mg base 9 "_law_made" (spS K S__law_made) := W.fnc in__law_made (fun _ => rfl) (j := 71) rfl (ok__law_made W)
end
end K33
namespace K33
open PySem PySem.Spec PyProof.Rows L2
/-- sayings of which each breaks a day of its own -/
def rowK (f j c : Nat) : Rw := ⟨2 ^ ((f + j) % 16) ||| c, c, true⟩
def RowsN (f : Nat) (rs : List Rw) : Prop := ∀ (j : Nat) (q : Rw), rs[j]? = some q → ∃ c, q = rowK f j c ∧ c.testBit ((f + j) % 16) = false ∧ c < 2 ^ 16
theorem rowK_br {f j c i : Nat} (h : c.testBit ((f + j) % 16) = false) : (rowK f j c).br.testBit i = decide ((f + j) % 16 = i) := by
  show (nd (2 ^ ((f + j) % 16) ||| c) c).testBit i = _
  rw [nd_bit, Nat.testBit_or, Nat.testBit_two_pow]
  by_cases e : (f + j) % 16 = i
  · subst e
    rw [h, decide_eq_true rfl]
    rfl
  · rw [decide_eq_false e]
    cases c.testBit i <;> rfl
theorem rowK_in {f j c : Nat} (h : c < 2 ^ 16) : (rowK f j c).In 16 := by
  have hd : 2 ^ ((f + j) % 16) < 2 ^ 16 := Nat.pow_lt_pow_right (by decide) (Nat.mod_lt _ (by decide))
  exact ⟨Nat.le_trans (Nat.one_le_two_pow (n := (f + j) % 16)) Nat.left_le_or, or_lt hd h, h⟩
theorem RowsN.take {f : Nat} {rs : List Rw} (h : RowsN f rs) (n : Nat) : RowsN f (rs.take n) := fun j q e => by
  rw [List.getElem?_take] at e
  split at e
  · exact h j q e
  · cases e
theorem RowsN.mem {f : Nat} {rs : List Rw} (h : RowsN f rs) {q : Rw} (hq : q ∈ rs) : q.In 16 ∧ q.u = true := by
  obtain ⟨j, hj, e⟩ := List.mem_iff_getElem.mp hq
  obtain ⟨c, rfl, _, hc⟩ := h j q (by rw [List.getElem?_eq_getElem hj, e])
  exact ⟨rowK_in hc, rfl⟩
/-- all of them joined -/
abbrev allR (rs : List Rw) : Rw := ⟨nd (jU rs) (jB rs) ||| jB rs, nd (jU rs) (jB rs), true⟩
theorem allR_cf (rs : List Rw) : (allR rs).cf = nd (jU rs) (jB rs) := eq_of_bits fun i => by
  show ((nd (jU rs) (jB rs) ||| jB rs) &&& nd (jU rs) (jB rs)).testBit i = _
  simp only [Nat.testBit_and, Nat.testBit_or, nd_bit]
  cases (jU rs).testBit i <;> cases (jB rs).testBit i <;> rfl
theorem allR_br (rs : List Rw) : (allR rs).br = jB rs := eq_of_bits fun i => by
  show (nd (nd (jU rs) (jB rs) ||| jB rs) (nd (jU rs) (jB rs))).testBit i = _
  simp only [Nat.testBit_or, nd_bit]
  cases (jU rs).testBit i <;> cases (jB rs).testBit i <;> rfl
theorem pick_range (rs : List Rw) : pick rs (List.range rs.length) = rs := by
  have := range_pick rs rs.length (Nat.le_refl _)
  rw [List.take_length] at this
  exact this
theorem need_all {f : Nat} {b : Bk} (h : RowsN f b.rows) (ok : b.Ok) (h16 : b.days = 16) (h1 : 1 ≤ b.rows.length) : Need b (allR b.rows) := by
  have hin : ∀ q ∈ b.rows, q.In 16 := fun q hq => (h.mem hq).1
  have hB := jB_lt hin
  have hU := jU_lt hin
  have has : ∀ (n : Nat) (q : Rw), b.rows[n]? = some q → q.br.testBit ((f + n) % 16) = true := fun n q e => by
    obtain ⟨c, rfl, hc, _⟩ := h n q e
    rw [rowK_br hc]
    exact decide_eq_true rfl
  have own : ∀ (m n : Nat) (q p : Rw) (i : Nat), b.rows[m]? = some q → b.rows[n]? = some p → q.br.testBit i = true → p.br.testBit i = true → m = n := fun m n q p i em en e1 e2 => by
    obtain ⟨c, rfl, hc, _⟩ := h m q em
    obtain ⟨c', rfl, hc', _⟩ := h n p en
    rw [rowK_br hc] at e1
    rw [rowK_br hc'] at e2
    have := of_decide_eq_true e1
    have := of_decide_eq_true e2
    have l1 := (List.getElem?_eq_some_iff.mp em).1
    have l2 := (List.getElem?_eq_some_iff.mp en).1
    have := ok.rl
    omega
  have ww : (allR b.rows).w < 2 ^ 16 := or_lt (nd_lt hU) hB
  have tt : (allR b.rows).t < 2 ^ 16 := nd_lt hU
  have w1 : 1 ≤ (allR b.rows).w := by
    have e := List.getElem?_eq_getElem (l := b.rows) (i := 0) (by omega)
    have hb := has 0 _ e
    have : (jB b.rows).testBit ((f + 0) % 16) = true := jB_ex.mpr ⟨_, List.mem_of_getElem? e, hb⟩
    have h0 : jB b.rows ≠ 0 := fun z => by
      rw [z, Nat.zero_testBit] at this
      cases this
    exact Nat.le_trans (Nat.one_le_iff_ne_zero.mpr h0) Nat.right_le_or
  refine ⟨ok, ⟨w1, b16.mpr ww, b16.mpr tt⟩, by rw [h16]; exact or_lt ww tt, fun q hq => (h.mem hq).2, rfl, ⟨own, fun n q e => ⟨_, has n q e⟩, ⟨fun i e1 e2 => ?_, fun i e => ?_⟩, allR_br _⟩⟩
  · rw [pick_range] at e1 e2
    rw [allR_cf, nd_bit, e1, e2]
    rfl
  · rw [pick_range]
    rw [allR_br] at e
    exact e
section
variable {P : Program} {w : World} {K : PySem.W.Frag} {mg : PySem.Str → Option Value} {base : Heap}
local macro_rules | `(tactic| walk_at "d0") => `(tactic| first
  | ((with_reducible apply ev_var); rfl)
  | with_reducible apply ev_int
  | with_reducible apply ev_bl
  | with_reducible apply ev_str
  | with_reducible apply ev_non
  | with_reducible apply s_seq
  | with_reducible apply s_ret
  | with_reducible apply s_asg
  | with_reducible apply s_next
  | ((with_reducible apply s_app); rfl)
  | with_reducible apply s_drop
  | ((with_reducible apply src_0); rfl; intro _)
  | ((with_reducible apply src_1); rfl; intro _ _ _)
  | ((with_reducible apply src_2); rfl; intro _)
  | ((with_reducible apply s_setSrc0); rfl)
  | ((with_reducible apply s_setSrc2); rfl)
  | ((with_reducible apply ev_callS); rfl)
  | ((with_reducible apply ev_opO); rfl)
  | ((with_reducible apply ev_ixO); rfl)
  | with_reducible apply ev_op
  | with_reducible apply ev_un
  | with_reducible apply et_test
  | with_reducible apply et_B
  | with_reducible apply et_truI
  | with_reducible apply et_and
  | with_reducible apply et_or
  | with_reducible apply et_not
  | with_reducible apply ea_nil
  | with_reducible apply ea_cons
  | with_reducible apply ro_nd_n
  | with_reducible apply ro_and_n
  | with_reducible apply ro_or_n
  | with_reducible apply ro_shr_n
  | with_reducible apply ro_eq_0
  | with_reducible apply ro_ne_0
  | with_reducible apply ro_eq_n
  | with_reducible apply ro_ne_n
  | with_reducible apply ro_add_n
  | with_reducible apply ro_add_1
  | with_reducible apply ro_I0
  | with_reducible apply ro_B0
  | with_reducible apply ro_un
  | ((with_reducible apply ro_isN); rfl)
  | ((with_reducible apply ro_notN); rfl)
  | with_reducible apply ro_eq_t0
  | with_reducible apply ro_ne_lt0
  | with_reducible apply ro_ne_l0
  | with_reducible apply ro_ne_tt
  | with_reducible apply ro_eq_tt
  | with_reducible apply ro_ne_t
  | with_reducible apply ro_eq_i
  | with_reducible apply ro_ne_i
  | with_reducible apply ro_eq_s
  | with_reducible apply ro_add
  | ((with_reducible apply ro_ixT); rfl)
  | ((with_reducible apply ro_ixL); rfl)
  | with_reducible apply ev_list
  | with_reducible apply ev_tuple
  | with_reducible apply ev_sortset
  | with_reducible apply ev_isLT
  | ((with_reducible apply ev_cbO); rfl)
  | with_reducible apply ev_cb
  | with_reducible apply ev_call
  | ((with_reducible apply ev_fldM); rfl; exact Wf.kc2 (by assumption) (by decide +kernel); rfl)
  | with_reducible apply ev_fld
  | with_reducible apply ev_and
  | with_reducible apply ev_or
  | with_reducible apply ev_notV
  | with_reducible apply ev_if
  | with_reducible apply ev_chain
  | with_reducible apply ev_tup
  | with_reducible apply ev_lst
  | with_reducible apply ev_make
  | ((with_reducible apply ev_cm0); exact exok0)
  | ((with_reducible apply ev_cm); exact exok0)
  | ((with_reducible apply ev_meth0); exact exok0)
  | ((with_reducible apply ev_meth); exact exok0)
  | ((with_reducible apply ro_subO); exact exok0)
  | ((with_reducible apply ro_addO); exact exok0)
  | ((with_reducible apply rc_lenO); exact exok0)
  | ((with_reducible apply ev_prop); exact exok0)
  | with_reducible apply rc_int
  | with_reducible apply rc_lenL
  | with_reducible apply rc_lenT
  | ((with_reducible apply rc_is_int); (exact rfl))
  | ((with_reducible apply rc_is_bl); (exact rfl))
  | ((with_reducible apply rc_is_str); (exact rfl))
  | ((with_reducible apply rc_is_tup); (exact rfl))
  | ((with_reducible apply s_fldM); rfl; exact Wf.kc2 (by assumption) (by decide +kernel); decide; rfl)
  | with_reducible apply et_yes
  | with_reducible apply ev_rawc
  | ((with_reducible apply ev_src); rfl)
  | ((with_reducible refine ⟨len_ok ?_, ?_⟩); rfl)
  | with_reducible refine ⟨rfl, ?_⟩
  | with_reducible refine ⟨⟨_, rfl⟩, ?_⟩
  | with_reducible refine ⟨_, rfl, ?_⟩
  | refine ⟨_, _, rfl, rfl, ?_⟩
  | refine ⟨_, _, _, _, rfl, Wf.kc2 (by assumption) (by decide +kernel), rfl, ?_⟩
  | ((with_reducible apply iteTr); rfl)
  | ((with_reducible apply iteFr); rfl)
  | dsimp only)
local macro_rules | `(tactic| walk_at "d") => `(tactic| first
  | walk_at "d0"
  | with_reducible apply s_if)
local macro_rules | `(tactic| walk_at "o") => `(tactic| first
  | ((with_reducible apply so_retO); rfl)
  | ((with_reducible apply et_notcallO); rfl)
  | ((with_reducible apply s_asgO); (with_reducible apply en_lst); (with_reducible apply ea_nil); refine ⟨len_ok rfl, ?_⟩)
  | walk_at "d")

local macro_rules | `(tactic| walk_at "x") => `(tactic| first
  | ((with_reducible apply ev_callX); assumption)
  | walk_at "o")
theorem c16 {n : Nat} : ((n : Nat) : Int) % 16 = ((n % 16 : Nat) : Int) := rfl
def S__law_all_needed : List D → (D → Prop) → Prop := fun ds k => ds = [] ∧ k (.bl true)
theorem ok__law_all_needed (W : Wf P w K mg base) : FnR P w K mg base (L2.CX P w) 9 (d__law_all_needed.at_ K) (spS K S__law_all_needed) := by
  have c__law_draw := cc__law_draw W
  have c__law_joined := cc__law_joined W
  have c__law_saying := cc__law_saying W
  have c_derivation := cc_derivation W
  have c__law_book := cc__law_book W
  have c_widest_lot := cc_widest_lot W
  have c__law_right := cc__law_right W
  have c_sharp_lot := cc_sharp_lot W
  have c_sharp_lots := cc_sharp_lots W
  have c__law_rests := cc__law_rests W
  refine W.fnS in__law_all_needed sc__law_all_needed (fun fd F => F.bindsN fun _ _ _ _ _ _ us hl => match us, hl with | [_], _ => rfl) (fun ds k h => by first | (obtain ⟨rfl, _⟩ := h; rfl) | (obtain ⟨_, rfl, _⟩ := h; rfl) | (obtain ⟨_, _, rfl, _⟩ := h; rfl) | (obtain ⟨_, _, _, rfl, _⟩ := h; rfl) | (obtain ⟨_, _, _, _, rfl, _⟩ := h; rfl) | (obtain ⟨_, _, _, _, _, rfl, _⟩ := h; rfl) | (obtain ⟨_, _, _, _, _, _, rfl, _⟩ := h; rfl) | (obtain ⟨_, _, _, _, _, _, _, rfl, _⟩ := h; rfl) | (obtain ⟨_, _, _, _, _, _, _, _, rfl, _⟩ := h; rfl) | (obtain ⟨_, _, _, _, _, _, _, _, _, rfl, _⟩ := h; rfl)) fun cdv A outer s H E hR F sa ds kk hF hsa h => ?_
  subst hF
  obtain ⟨rfl, q⟩ := h
  refine ⟨_, (pss_cons (ps_par (i := 1) (j := 2) (by rfl) sc__law_all_needed.nd rfl rfl (by decide) rfl rfl (pa_cons (pe_f c__law_draw hR (by decide) rfl passL (pa_cons (pv 0) (pa_cons pe_int pa_nil))) (pa_cons (pe_lst pa_nil) pa_nil)) (by rfl))
  (pss_cons (ps_for PassesOwn.never rfl (pi_range1 rfl (W.free 8 _ rfl) (pa_cons pe_int pa_nil)) (pg_name (i := 3) sc__law_all_needed.nd rfl (Or.inl rfl))
  (pss_cons (ps_set (i := 4) sc__law_all_needed.nd rfl (Or.inl rfl) (pe_op op_shl pe_int (pe_op op_mod (pe_callTy call_int1 rfl (W.free 2 _ rfl) (by decide +kernel) (pa_cons (pe_op (op_addX : OpR _ _ (rAddX F.K)) (pv 1) (pv 3)) pa_nil)) pe_int)))
  (pss_cons (ps_set (i := 5) sc__law_all_needed.nd rfl (Or.inl rfl) (pe_op op_and (pe_f c__law_draw hR (by decide) rfl passL (pa_cons (pv 0) (pa_cons (pe_op op_shl pe_int pe_int) pa_nil))) (pe_un un_inv (pv 4))))
  (pss_one (ps_expr (pe_bm PySem.F.plainAttrs_list PySem.F.slot_list_append PySem.F.type_list_append mt_append (pv 2) (pa_cons (pe_tup (pa_cons (pe_op op_or (pv 4) (pv 5)) (pa_cons (pv 5) (pa_cons pe_bl pa_nil)))) pa_nil)))))))
  (pss_cons (ps_for PassesOwn.never rfl (pi_seqK (K := F.K) rfl (pe_tup (pa_cons pe_int (pa_cons pe_int pa_nil)))) (pg_name (i := 6) sc__law_all_needed.nd rfl (Or.inl rfl))
  (pss_cons (ps_par (i := 7) (j := 8) (by rfl) sc__law_all_needed.nd rfl rfl (by decide) rfl rfl (pa_cons (pe_slice sl_list (pv 2) po_none (po_some (pv 6))) (pa_cons (pe_callTy call_tuple_of rfl (W.free 6 _ rfl) (by decide +kernel) (pa_cons (pe_lc (own := [("_law_k", 3)]) (by rfl) sc__law_all_needed.nd (pi_range1 rfl (W.free 8 _ rfl) (pa_cons (pv 6) pa_nil)) (blkOk_by (N := n__law_all_needed) (sc := defScope s__law_all_needed) (own := [("_law_k", 3)]) (by decide +kernel)) (fun _ _ _ _ _ => (pg_name (i := 3) sc__law_all_needed.nd rfl (Or.inl rfl))) (fun _ _ _ _ _ => pts_nil) (fun _ _ _ _ _ => (pv 3))) pa_nil)) pa_nil)) (by rfl))
  (pss_cons (ps_asg (pe_f c__law_joined hR (by decide) rfl passL (pa_cons (pv 7) (pa_cons (pv 8) pa_nil))) (pg_tupK (K := F.K) (n := 2) rfl (by rfl) (pgs_cons (pg_name (i := 5) sc__law_all_needed.nd rfl (Or.inl rfl)) (pgs_cons (pg_name (i := 9) sc__law_all_needed.nd rfl (Or.inl rfl)) pgs_nil))))
  (pss_cons (ps_par (i := 10) (j := 11) (by rfl) sc__law_all_needed.nd rfl rfl (by decide) rfl rfl (pa_cons (pe_f c__law_book hR (by decide) rfl passL (pa_cons (pv 0) (pa_cons pe_int (pa_cons (pv 7) pa_nil)))) (pa_cons (pe_tup (pa_cons (pe_op op_or (pv 5) (pv 9)) (pa_cons (pv 5) (pa_cons pe_bl pa_nil)))) pa_nil)) (by rfl))
  (pss_cons (ps_set (i := 12) sc__law_all_needed.nd rfl (Or.inl rfl) (pe_f c__law_saying hR (by decide) rfl passL (pa_cons (pv 11) pa_nil)))
  (pss_cons (ps_if (pt_cmpR (op_neX hR.units : OpR _ _ (rNeX F.K)) (pe_f c_widest_lot hR (by decide) rfl passL (pa_cons (pv 10) (pa_cons (pv 12) pa_nil))) (pv 8) (nomark _))
  (pss_one (ps_ret pe_bl))
  pss_nil)
  (pss_cons (ps_if (PW.pt (pw_and (pt_cmpR (op_eqX hR.units : OpR _ _ (rEqX F.K)) (pv 6) pe_int (nomark _)) (pw_and1 (PW.pt (pw_or (pt_cmpR (op_neX hR.units : OpR _ _ (rNeX F.K)) (pe_f c_sharp_lot hR (by decide) rfl passL (pa_cons (pv 10) (pa_cons (pv 12) pa_nil))) (pv 8) (nomark _)) (pw_or1 (pt_cmpR (op_neX hR.units : OpR _ _ (rNeX F.K)) (pe_f c_sharp_lots hR (by decide) rfl passL (pa_cons (pv 10) (pa_cons (pv 12) pa_nil))) (pe_tup (pa_cons (pv 8) pa_nil)) (nomark _))))))))
  (pss_one (ps_ret pe_bl))
  pss_nil)
  (pss_cons (ps_set (i := 13) sc__law_all_needed.nd rfl (Or.inl rfl) (pe_f c_derivation hR (by decide) rfl passL (pa_cons (pv 10) (pa_cons (pv 12) pa_nil))))
  (pss_one (ps_if (PW.pt (pw_or (pt_not (pt_val (pe_f c__law_right hR (by decide) rfl passL (pa_cons (pv 7) (pa_cons (pv 10) (pa_cons (pv 11) (pa_cons (pv 13) pa_nil))))))) (pw_or1 (pt_cmpR (op_neX hR.units : OpR _ _ (rNeX F.K)) (pe_ix (ix_seq : IxR _ (rIx F.K)) (pe_f c__law_rests hR (by decide) rfl passL (pa_cons (pv 13) pa_nil)) (pe_op op_sub (pe_callB (cr_lenX : CallR _ _ (rLenX F.K)) rfl (W.free 0 _ rfl) boot_len (pa_cons (pv 13) pa_nil)) pe_int) (fun _ _ => rfl)) (pv 8) (nomark _)))))
  (pss_one (ps_ret pe_bl))
  pss_nil))))))))))
  (pss_one (ps_ret pe_bl))))), ?_⟩
  try dsimp only [Xof, cxOf, Cx.nox, Cx.wish, Cx.blk]
  apply s_seq
  apply s_parO
  repeat walk_at "d"
  refine ⟨16, rfl, by decide, by decide, fun f hf => ?_⟩
  apply s_seq
  apply s_for
  apply ei_rng1
  repeat walk_at "d"
  refine ⟨by decide, fun i ρ => ∃ (rs : List Rw) (x3 x4 x5 : Sl), ρ = [.src sa, .val (nD f), .own (rs.map rowD), x3, x4, x5, .un, .un, .un, .un, .un, .un, .un, .un] ∧ rs.length = i ∧ RowsN f rs, ⟨[], _, _, _, rfl, rfl, fun j q e => by simp at e⟩, ?_, ?_⟩
  · rintro i d ρ' hi ⟨rs, x3, x4, x5, rfl, hl, hR⟩
    obtain ⟨rfl, hi2⟩ := ints_at hi
    have hmod : (f + i) % 16 < 16 := Nat.mod_lt _ (by decide)
    refine ⟨_, g_name, ?_⟩
    repeat walk_at "d"
    refine ro_I (by decide) ?_
    rw [c16]
    apply ro_shl_n (by omega)
    repeat walk_at "d"
    apply ro_shl_n (b := 16) (by decide)
    repeat walk_at "d"
    refine ⟨2 ^ 16, rfl, by decide, by decide, fun c hc => ?_⟩
    repeat walk_at "d"
    · rw [List.length_map]
      omega
    repeat walk_at "d"
    have em : rs.map rowD ++ [D.tup [nD (2 ^ ((f + i) % 16) ||| nd c (2 ^ ((f + i) % 16))), nD (nd c (2 ^ ((f + i) % 16))), .bl true]] = (rs ++ [rowK f i (nd c (2 ^ ((f + i) % 16)))]).map rowD := by
      rw [List.map_append]
      exact rfl
    rw [em]
    refine ⟨rs ++ [rowK f i (nd c (2 ^ ((f + i) % 16)))], _, _, _, rfl, by rw [List.length_append, hl]; rfl, fun j q' e => ?_⟩
    · by_cases hj : j < rs.length
      · rw [List.getElem?_append_left hj] at e
        exact hR j q' e
      · have hj2 := (List.getElem?_eq_some_iff.mp e).1
        rw [List.length_append, List.length_singleton] at hj2
        have : j = i := by omega
        subst this
        rw [List.getElem?_append_right (by omega), hl, Nat.sub_self] at e
        cases e
        refine ⟨_, rfl, ?_, nd_lt hc⟩
        rw [nd_bit, Nat.testBit_two_pow, decide_eq_true rfl]
        simp
  rintro ρ' ⟨rs, x3, x4, x5, rfl, hl, hR⟩
  rw [ints_len] at hl
  with_reducible apply so_freeze 2
  rfl
  apply s_seq
  apply s_for
  apply ei_seq
  repeat walk_at "d"
  refine ⟨_, .inr rfl, fun i ρ => ∃ x3 x4 x5 x6 x7 x8 x9 x10 x11 x12 x13 : Sl, ρ = [.src sa, .val (nD f), .val (.lst (rs.map rowD)), x3, x4, x5, x6, x7, x8, x9, x10, x11, x12, x13], ⟨_, _, _, _, _, _, _, _, _, _, _, rfl⟩, ?_, ?_⟩
  · rintro i d ρ' hi ⟨x3, x4, x5, x6, x7, x8, x9, x10, x11, x12, x13, rfl⟩
    obtain ⟨m, hm, rfl⟩ : ∃ m : Nat, (m = 12 ∨ m = 9) ∧ d = nD m := by
      match i, hi with
      | 0, hi => exact ⟨12, .inl rfl, (Option.some.inj hi).symm⟩
      | 1, hi => exact ⟨9, .inr rfl, (Option.some.inj hi).symm⟩
    have hRm := hR.take m
    have hlm : (rs.take m).length = m := by
      rw [List.length_take]
      omega
    refine ⟨_, g_name, ?_⟩
    with_reducible apply so_forget 3
    apply s_seq
    apply s_par
    apply ea_cons
    apply EvN.ev
    apply en_sl
    repeat walk_at "d"
    apply eo_no
    apply eo_some
    repeat walk_at "d"
    rw [cutD_map, HT.sIx_none, HT.sIx_nat, Nat.min_eq_left (by omega), Nat.sub_zero, List.drop_zero]
    generalize rs.take m = rs' at *
    apply EvN.ev
    apply en_lc (un_of rfl)
    apply ei_rng1
    repeat walk_at "d"
    refine ⟨by omega, fun i acc => acc = (List.range i).map nD, rfl, ?_, ?_⟩
    · rintro i d acc hi rfl
      obtain ⟨rfl, hi2⟩ := ints_at hi
      refine ⟨_, mem_of rfl, g_name, ?_⟩
      repeat walk_at "d"
      refine ⟨by rw [List.length_map, List.length_range]; omega, ?_⟩
      show _ = _
      rw [List.range_succ, List.map_append]
      rfl
    rintro acc rfl
    rw [ints_len]
    repeat walk_at "d"
    refine ⟨_, .inl rfl, ?_⟩
    repeat walk_at "d"
    refine ⟨_, _, rfl, ?_⟩
    apply s_seq
    apply s_asgT
    repeat walk_at "d"
    subst hlm
    refine ⟨rs', List.range rs'.length, _, rfl, .inl rfl, fun n hn => List.mem_range.mp hn, ?_⟩
    rw [pick_range, jn_eq]
    refine ⟨_, g_tup rfl (gs_cons g_name (gs_cons g_name gs_nil)), ?_⟩
    have hin := fun (x : Rw) hx => (hRm.mem (q := x) hx).1
    apply s_seq
    apply s_par
    repeat walk_at "d"
    refine ⟨16, 4, rs', rfl, by decide, by decide, rfl, by omega, hin, fun b eb bok bd => ?_⟩
    subst eb
    have hN := need_all hRm bok bd (by omega)
    repeat walk_at "d"
    refine ⟨_, _, rfl, ?_⟩
    repeat walk_at "d"
    refine ⟨allR b.rows, rfl, hN.rok, ?_⟩
    repeat walk_at "d"
    apply hN.widest
    repeat walk_at "d"
    rw [decide_eq_true rfl]
    refine iteFr rfl ?_
    apply s_next
    have tailR : ∀ ss : List MStep, DerOf b.rows (allR b.rows) ss → ss ≠ [] := fun ss hd z => by
      obtain ⟨_, s', hs', _⟩ := hd
      rw [z] at hs'
      simp at hs'
    apply s_seq
    apply s_if
    apply et_and
    rcases hm with h12 | h9
    · repeat walk_at "d"
      rw [decide_eq_false (show ¬ (b.rows.length : Int) = 9 by omega)]
      refine iteFr rfl ?_
      refine iteFr rfl ?_
      apply s_next
      repeat walk_at "d"
      apply hN.derive
      intro ss hd
      have hrs := hN.own.rests hd
      have hsl := (List.getElem?_eq_some_iff.mp hrs).1
      rw [restM_len] at hsl
      repeat walk_at "d"
      refine ⟨b, allR b.rows, ss, rfl, hd, ?_⟩
      repeat walk_at "d"
      refine ⟨b.rows, ss, rfl, hd.der, ?_⟩
      repeat walk_at "d"
      rw [List.length_map, show (ss.length : Int) - 1 = ((ss.length - 1 : Nat) : Int) by omega]
      apply ro_ixT (atI_map hrs)
      repeat walk_at "d"
      rw [decide_eq_true rfl]
      refine iteFr rfl ?_
      apply s_next
      exact ⟨_, _, _, _, _, _, _, _, _, _, _, rfl⟩
    · repeat walk_at "d"
      rw [decide_eq_true (show (b.rows.length : Int) = 9 by omega)]
      refine iteTr rfl ?_
      repeat walk_at "d"
      refine ⟨b, _, rfl, hN, h9, ?_⟩
      repeat walk_at "d"
      rw [h9]
      rw [decide_eq_true rfl]
      refine iteFr rfl ?_
      repeat walk_at "d"
      refine ⟨b, _, rfl, hN, h9, ?_⟩
      repeat walk_at "d"
      refine ro_ne_tt (a := [List.range 9]) (b := [List.range 9]) ?_
      refine ⟨_, rfl, ?_⟩
      rw [decide_eq_true rfl]
      refine iteFr rfl ?_
      apply s_next
      repeat walk_at "d"
      apply hN.derive
      intro ss hd
      have hrs := hN.own.rests hd
      have hsl := (List.getElem?_eq_some_iff.mp hrs).1
      rw [restM_len] at hsl
      rw [h9] at hrs
      repeat walk_at "d"
      refine ⟨b, allR b.rows, ss, rfl, hd, ?_⟩
      repeat walk_at "d"
      refine ⟨b.rows, ss, rfl, hd.der, ?_⟩
      repeat walk_at "d"
      rw [List.length_map, show (ss.length : Int) - 1 = ((ss.length - 1 : Nat) : Int) by omega]
      apply ro_ixT (atI_map hrs)
      repeat walk_at "d"
      exact ⟨_, _, _, _, _, _, _, _, _, _, _, rfl⟩
  rintro ρ' ⟨x3, x4, x5, x6, x7, x8, x9, x10, x11, x12, x13, rfl⟩
  repeat walk_at "d"
  exact q
theorem cc__law_all_needed (W : Wf P w K mg base) : Fnc P w K mg base 9 "_law_all_needed" (spS K S__law_all_needed) := W.fnc in__law_all_needed (fun _ => rfl) (j := 72) rfl (ok__law_all_needed W)
end
end K33
namespace K33
open PySem PySem.Spec PyProof.Rows L2 LamX
/-- the heap behind the making: the code object is known from before, or new in the table -/
def MadeAt (P : Addr) (q : PySem.Str) (ps : Array Value) (H H1 : Hp) (c' : Addr) : Prop :=
  (H1 = H ∧ H c' = some (CodeO c' q)) ∨
  ∃ more : Array Value, H1 = upd (upd H P (.tbl (ps ++ more))) c' (CodeO c' q) ∧ H c' = none ∧ TriplesOk (ps ++ more).toList ∧ ∀ (pos : Pos) (cv : Value), codeAmong pos (ps ++ more).toList = some cv → codeAmong pos ps.toList = some cv ∨ cv = .ref c'
section
variable {X : Cx} {pins : List (Addr × Obj)} {σ : L2.St} {H HZ : Hp} {s s1 : Shared} {q : PySem.Str}
theorem lamP_make {c P : Addr} {ps : Array Value} {params : Arguments} {body : Expr} {scope : Scope} {pos : Pos} {E Q : Value → Shared → Prop} (I : Inv X pins σ H s) (TB : TabB X.base X.mg c P) (hcode : X.env.code = .ref c) (hq : X.env.qual ++ "<lambda>" = q)
    (hP : H P = some (.tbl ps)) (ht : TriplesOk ps.toList) (ha : ∀ (pos : Pos) (cv : Value), codeAmong pos ps.toList = some cv → ∃ c, cv = .ref c ∧ H c = some (CodeO c q)) (hdef : defaultsOf params X.env = ([], [])) (hfree : ∀ y ∈ scope.names, y.2 = .free → ∃ c, X.env.cells.lookup y.1 = some c)
    (h : ∀ (f c' : Addr) (pm ctv : Value) (H1 : Hp) (s' : Shared), Inv X pins σ H1 s' → MadeAt P q ps H H1 c' →
      s'.heap.get? f = some (PySem.W.kla_obj "<lambda>" q params body scope (cloFrom X.env.cells scope.names []) pm c' ctv) → H1 f = none → f ∉ frs X.stack → Q (.ref f) s') :
    wpAny (model X.prog X.w) X.A (eval (.Lambda params body scope pos) X.env) Q E s := by
  refine PySem.W.kla_eval hdef ?_
  rw [hq]
  have kB := TB.bm.keeps I.bk
  have hPs := I.hok P _ hP
  have far : ∀ f, s.heap.objs.size ≤ f → f ∉ frs X.stack := fun f hf z => by
    rcases List.mem_cons.mp (I.stkSub _ z) with e | e
    · have := I.lt
      rw [← e] at this
      exact Nat.lt_irrefl _ (Nat.lt_of_lt_of_le this hf)
    · exact I.nofs hf e
  cases hcm : codeAmong pos ps.toList with
  | some cv =>
    obtain ⟨c', rfl, hco⟩ := ha pos cv hcm
    refine PySem.W.kla_makeFunctionHit (mg := X.mg) (c := c) (P := P) (ps := ps) (closure_ok hfree) I.ok.glob (I.mod.glob.keeps I.bk) hcode (TB.code.keeps I.bk) hPs ht hcm kB fun ctv h' tk keep hsz => ?_
    exact h h'.objs.size c' ((X.mg "__name__").getD .none) ctv H _ (I.kept fun b o e => Heap.get?_push_of_some _ (keep b o e)) (.inl ⟨rfl, hco⟩) (Heap.get?_push_size _ rfl) (I.hok.fresh hsz) (far _ hsz)
  | none =>
    refine PySem.W.kla_makeFunction (mg := X.mg) (c := c) (P := P) (ps := ps) (closure_ok hfree) I.ok.glob (I.mod.glob.keeps I.bk) hcode (TB.code.keeps I.bk) hPs ht hcm TB.gP kB fun c' ctv h' tk keep hge hlt hrec htb => ?_
    obtain ⟨_, oc, vs, t, ec, hoc, hd, hv⟩ := hrec
    cases ec
    have nC : H c' = none := I.hok.fresh hge
    have big : s.heap.objs.size ≤ h'.objs.size := Nat.le_trans hge (Nat.le_of_lt hlt)
    refine h h'.objs.size c' ((X.mg "__name__").getD .none) ctv _ _ (inv_table (t' := tk) (more := #[rawInt pos.line, rawInt pos.col, .ref c']) I hP (fun b o hb e => Heap.get?_push_of_some _ (keep b o hb e)) (Heap.get?_push_of_some _ htb) hge ⟨oc, vs, t, Heap.get?_push_of_some _ hoc, hd, hv⟩)
      (.inr ⟨#[rawInt pos.line, rawInt pos.col, .ref c'], rfl, nC, ?_, fun p' cv e => ?_⟩) (Heap.get?_push_size _ rfl) ?_ (far _ big)
    · rw [show (ps ++ #[rawInt pos.line, rawInt pos.col, Value.ref c']).toList = ps.toList ++ [rawInt pos.line, rawInt pos.col, .ref c'] by simp]
      exact PySem.TriplesOk_snoc _ _ _ _ ht
    · rw [show (ps ++ #[rawInt pos.line, rawInt pos.col, Value.ref c']).toList = ps.toList ++ [rawInt pos.line, rawInt pos.col, .ref c'] by simp] at e
      exact among_app _ ht e
    · have hPlt := Heap.lt_size hPs
      rw [upd_ne (Nat.ne_of_gt hlt), upd_ne (Nat.ne_of_gt (Nat.lt_of_lt_of_le hPlt big))]
      exact I.hok.fresh big
/-- the names of a lambda with the parameter n -/
structure LamP (sc scope : Scope) (n : PySem.Str) : Prop where
  kind : scope.kind = .function
  co : scope.isCoroutine = false
  gen : scope.isGenerator = false
  own : ∀ y ∈ scope.names, y.2 ≠ .cell ∧ (y.2 = .local → y.1 = n)
  par : scope.names.lookup n = some .local
  free : ∀ y ∈ scope.names, y.2 = .free → sc.names.lookup y.1 = some .cell ∨ sc.names.lookup y.1 = some .free
theorem LamP.has {scope : Scope} {n : PySem.Str} (L : LamP X.env.scope scope n) (ok : X.Ok) : ∀ y ∈ scope.names, y.2 = .free → ∃ c, X.env.cells.lookup y.1 = some c := fun y hy e => ok.has _ (L.free y hy e)
theorem lamP_start {A : Around} {outer : List Env} {E : XK} {scope : Scope} {f c' : Addr} {h₁ : Heap} {tk : Nat} {n : PySem.Str} {j : Nat} {av : V} {au : Value} (I : Inv X pins σ H s) (L : LamP X.env.scope scope n) (hN : X.N.Nodup) (hj : X.N[j]? = some n) (ra : RelV av au)
    (e0 : Env0 X.prog X.w X.K X.mg X.base A outer s1 HZ) (hd : A.handled = none) (un : Un (frs X.stack) [] H HZ s.heap s1.heap) (hns : h₁.Ns s1.heap.objs.size fun y => [(n, au)].reverse.lookup y) (kp : ∀ b o, s1.heap.get? b = some o → h₁.get? b = some o) :
    Inv (lamCx X A outer s1 HZ E scope f c') [] (σ.set j (some av)) HZ { s1 with heap := h₁, toks := tk } := by
  have hfree := L.has I.ok
  have back : ∀ {y c}, (cloFrom X.env.cells scope.names []).lookup y = some c → X.env.cells.lookup y = some c := fun {y c} e => by
    rcases cloFrom_mem (PySem.mem_of_lookup e) with hm | ⟨h1, h2⟩
    · cases hm
    · obtain ⟨c1, hc⟩ := hfree _ h1 rfl
      have hc2 : X.env.cells.lookup y = some c1 := hc
      rw [hc2, show c = c1 by rw [h2, hc2] <;> rfl]
  have there : ∀ {y}, scope.names.lookup y = some .free → ∃ c, (cloFrom X.env.cells scope.names []).lookup y = some c := fun {y} hl =>
    mem_lookup (cloFrom_has (cells := X.env.cells) (acc := []) (show (y, NameKind.free) ∈ scope.names from PySem.mem_of_lookup hl))
  have cellK : ∀ {c : Addr} {v : Option Value}, H c = none → s.heap.IsCell c v → h₁.IsCell c v := fun {c v} hn ⟨o, ho, hdt⟩ => by
    obtain ⟨sl, g⟩ := un.any ho hn (by simp)
    exact ⟨_, kp _ _ g, hdt⟩
  have noex : ∀ b : Addr, b ∉ (lamCx X A outer s1 HZ E scope f c').ex := fun b z => by
    have : b ∈ ([] : List Addr) := z
    cases this
  have nocell : ∀ {y}, scope.names.lookup y ≠ some .cell := fun {y} k => (L.own _ (PySem.mem_of_lookup k)).1 rfl
  constructor
  · exact ⟨e0.mod, L.kind, rfl, rfl, Nat.le_refl _, fun y z c e1 e2 => I.ok.inj y z c (back e1) (back e2), (fun y hy => by
      rcases (show scope.names.lookup y = some .cell ∨ scope.names.lookup y = some .free from hy) with hy | hy
      · exact absurd hy nocell
      · exact there hy), (fun y c z _ => by cases (show false = true from z)), fun _ => hd, Around.frames_deeper e0.frames, .inr ⟨rfl, rfl⟩, fun b z => absurd z (noex b), e0.bs, e0.bsz, fun b _ _ => noex b, fun b z => absurd z (noex b), e0.funs, e0.frf⟩
  · rfl
  · exact e0.bare
  · exact Un.kept kp
  · refine ⟨_, hns, fun i y v e1 e2 e3 => ?_⟩
    by_cases hy : y = n
    · subst hy
      have e1' : X.N[i]? = some y := e1
      have hi : i = j := (List.getElem?_inj (List.getElem?_eq_some_iff.mp e1').1 hN).mp (e1'.trans hj.symm)
      subst hi
      have hl : i < σ.length := by
        rw [I.len]
        exact (List.getElem?_eq_some_iff.mp e1).1
      rw [List.getElem?_set_self hl] at e2
      cases e2
      exact ⟨au, ra, .inl ⟨L.par, by simp⟩⟩
    · have hi : j ≠ i := fun z => by
        subst z
        have e1' : X.N[j]? = some y := e1
        rw [hj] at e1'
        exact hy (Option.some.inj e1').symm
      rw [List.getElem?_set_ne hi] at e2
      rcases (show Vis scope y from e3) with k | k | k
      · exact absurd ((L.own _ (PySem.mem_of_lookup k)).2 rfl) hy
      · exact absurd k nocell
      · obtain ⟨m, _, hl⟩ := I.loc
        have fr := L.free _ (PySem.mem_of_lookup k) rfl
        obtain ⟨u', r, g⟩ := hl i y v e1 e2 (fr.elim (fun k => .inr (.inl k)) (fun k => .inr (.inr k)))
        obtain ⟨c2, h2⟩ := there k
        refine ⟨u', r, .inr ⟨.inr k, c2, h2, ?_⟩⟩
        rcases g with ⟨k', _⟩ | ⟨_, c3, e', z⟩
        · have k2 : X.env.scope.names.lookup y = some .local := k'
          rcases fr with k3 | k3 <;> rw [show X.env.scope.names.lookup y = _ from k3] at k2 <;> cases k2
        · rw [back h2] at e'
          cases e'
          exact cellK (I.freeC y _ (back h2)) z
  · exact fun y c e => by
      obtain ⟨u', z⟩ := I.cell y c (back e)
      exact ⟨u', cellK (I.freeC y c (back e)) z⟩
  · exact e0.hok.fresh (Nat.le_refl _)
  · exact fun y c e => by
      obtain ⟨v, o, ho, _⟩ := I.cell y c (back e)
      exact un.free c o ho (I.freeC y c (back e)) (by simp)
  · exact fun z hz => by
      have : z ∈ ([] : List (Addr × Obj)) ++ [] := hz
      simp at this
  · exact e0.hok.kept kp
  · rw [List.length_set]
    exact I.len
/-- x(e) in the def that got the lambda: slot i of that def's -/
def tActV (i : Nat) (f c' : Addr) (q : PySem.Str) (te : TE) (tl : XK → V → Hp → VK → Prop) (E : L2.St → XK) : TE := fun σZ HZ Q => σZ[i]? = some (some (.ref f)) ∧ te σZ HZ fun v H1 => H1 c' = some (CodeO c' q) ∧ tl (E σZ) v H1 Q
theorem pe_actV {CXg : CXT} {Eg : XK} {Ng : List PySem.Str} {qg : PySem.Str} {sg : Scope} {g f c' : Addr} {cdg pm ctv : Value} {params : Arguments} {body arg : Expr} {scope : Scope} {k i j : Nat} {a n : PySem.Str} {pn : List (Addr × Obj)} {xe : Value → Shared → Prop} {E : L2.St → XK} {tb : XK → TE} {te : TE} {p1 p2 : Pos}
    (I : Inv X pins σ H s) (L : LamP X.env.scope scope n) (hX : X.N.Nodup) (hj : X.N[j]? = some n) (hq : X.env.qual ++ "<lambda>" = q) (hf : s.heap.get? f = some (PySem.W.kla_obj "<lambda>" q params body scope (cloFrom X.env.cells scope.names []) pm c' ctv)) (hfn : H f = none) (hfr : f ∉ frs X.stack)
    (hbind : ∀ u, bindArgs (PySem.W.kla_fn "<lambda>" q params body scope (cloFrom X.env.cells scope.names []) pm (.ref c') ctv) ⟨[u], []⟩ = pure [(n, u)])
    (hx : ∀ σZ, PassesAt (L2.CX X.prog X.w) ((cxOf CXg X.prog X.w X.K X.mg X.base Ng qg sg g cdg X.A X.stack s H Eg).tr pn xe) σZ (E σZ)) (hr : Room (k + 1) (X.A.deeper (envOfC qg sg s.heap.objs.size g cdg)))
    (hbody : ∀ (A : Around) (outer : List Env) (s : Shared) (H : Hp) (E : XK), Room k (A.deeper (lamEnv X scope s.heap.objs.size f c')) → PE (lamCx X A outer s H E scope f c') body (tb E))
    (harg : PE ((cxOf CXg X.prog X.w X.K X.mg X.base Ng qg sg g cdg X.A X.stack s H Eg).tr pn xe) arg te)
    (hN : Ng[i]? = some a) (hv : Vis sg a) (hd : (a == ("__debug__" : PySem.Str)) = false := by decide) (hcd : (a == ("__classdict__" : PySem.Str)) = false := by decide)
    (he : starEach [arg] ((cxOf CXg X.prog X.w X.K X.mg X.base Ng qg sg g cdg X.A X.stack s H Eg).tr pn xe).env = (false, eval arg ((cxOf CXg X.prog X.w X.K X.mg X.base Ng qg sg g cdg X.A X.stack s H Eg).tr pn xe).env) :: starEach [] ((cxOf CXg X.prog X.w X.K X.mg X.base Ng qg sg g cdg X.A X.stack s H Eg).tr pn xe).env := by rfl) :
    PE ((cxOf CXg X.prog X.w X.K X.mg X.base Ng qg sg g cdg X.A X.stack s H Eg).tr pn xe) (.Call (.Name a p1) [arg] [] p2) (tActV i f c' q te (fun E v H' Q => tb E (σ.set j (some v)) H' Q) E) := by
  subst hq
  refine ⟨fun pinsZ sZ σZ HZ Q IZ h => ?_⟩
  obtain ⟨hs, ht⟩ := h
  have name := (pe_var (pos := p1) (i := i) hN hv hd hcd).run pinsZ sZ σZ HZ (fun v H1 => v = .ref f ∧ H1 = HZ) IZ ⟨.ref f, hs, rfl, rfl⟩
  refine wpAny_Call_Name_kw (thn name fun u s1 hu => ?_)
  obtain ⟨v, H1, I1, r1, ev, eH⟩ := hu
  subst ev eH
  obtain rfl : u = Value.ref f := r1
  have obj : ∀ {HZ : Hp} {s1 : Shared}, Inv ((cxOf CXg X.prog X.w X.K X.mg X.base Ng qg sg g cdg X.A X.stack s H Eg).tr pn xe) pinsZ σZ HZ s1 → s1.heap.get? f = some (PySem.W.kla_obj "<lambda>" (X.env.qual ++ "<lambda>") params body scope (cloFrom X.env.cells scope.names []) pm c' ctv) :=
    fun {HZ s1} J => J.base.keep f _ hf hfn hfr (fun z => nomatch (show f ∈ ([] : List Addr) from z))
  refine PySem.W.callWith_F ⟨_, _, _, _, obj I1⟩ ?_ he rfl
  refine thn ((pa_cons harg pa_nil he).run p2 pinsZ s1 σZ H1 (fun vs H2 => match vs with
    | [v] => H2 c' = some (CodeO c' (X.env.qual ++ "<lambda>")) ∧ tb (E σZ) (σ.set j (some v)) H2 Q
    | _ => False) I1 ht) fun us s2 hus => ?_
  obtain ⟨vs, H2, I2, r, hvs⟩ := hus
  match vs, r, hvs with
  | [v], .cons ru .nil, ⟨hc, htb⟩ =>
    rename_i u
    have of2 := obj I2
    have un : Un (frs X.stack) [] H H2 s.heap s2.heap := I2.base
    obtain ⟨⟨oc, os, t, hoc, hdc, hvc⟩, _, _⟩ := I2.hok c' _ hc
    have rc : codeAny (model X.prog X.w) (X.A.deeper (envOfC qg sg s.heap.objs.size g cdg)) (.call (.ref f) ⟨[u], []⟩) (CR (L2.CX X.prog X.w) (envOfC qg sg s.heap.objs.size g cdg :: X.stack) X.prog X.w H2 s2 Q (E σZ)) s2 := by
      refine PySem.W.kla_callFunE hr.depth of2 rfl L.co L.gen rfl ⟨c', oc, os, t, rfl, hoc, hdc, hvc⟩ ?_
      rw [hbind]
      refine wpAny_pure (wpAny_newFunctionEnv (fun y hy => (L.own y hy).1) (fun y hy => ?_) (fun h₁ hns hsb => ⟨I2.nolimit.fresh _ hsb, ?_⟩) L.kind)
      · rw [List.mem_singleton.mp hy]
        exact L.par
      · show codeAny _ _ (.expr body (lamEnv X scope s2.heap.objs.size f c')) _ _
        have up : ∀ b o, s2.heap.get? b = some o → h₁.get? b = some o := fun b o e => hsb.extBut b o (Nat.ne_of_lt (Heap.lt_size e)) (Heap.get?_push_of_some _ e)
        have J := lamP_start (E := E σZ) (f := f) (c' := c') (tk := s2.toks + [(n, u)].length) I L hX hj ru I2.env0 hr.hd un hns up
        refine PySem.W.kla_codeExpr (wpAny_mono ((hbody _ _ s2 H2 (E σZ) (hr.deeper _)).run [] _ _ H2 Q J htb) (fun v' s' hv' => ?_) fun e s' hv' => hv')
        obtain ⟨w', H', J', rv, g'⟩ := hv'
        exact ⟨w', H', J'.os, J'.bare, J'.base, J'.hok, rv, g'⟩
    refine ⟨⟨_, _, _, _, of2⟩, wpAny_call (codeAny_mono rc fun z s' hz => ?_)⟩
    match z, hz with
    | .error er, hz => exact hx σZ pinsZ H2 s2 er s' I2 hz
    | .ok (.ret _), hz => exact I2.after hz
end
end K33
namespace K33
open PySem PySem.Spec PyProof.Rows L2 LamX
/-- Saying(one[0], one[1] | (1 << days), usual=one[2]) -/
abbrev teS (K : PySem.W.Frag) : TE :=
  tMakeN (He.ga K "Saying") 2 1 (spI K "Saying" S_Saying__init__) (fun vs zs => vs ++ zs) L2.E0
    (tCons (tOp (rIx K) (tVar 0) (tC (.int 0))) (tCons (tOp (rI0 fun i j => V.int (Builtin.bitOr i j)) (tOp (rIx K) (tVar 0) (tC (.int 1))) (tOp (rI CPow fun i j => V.int (i * 2 ^ j.toNat)) (tC (.int 1)) (tVar 1))) tNil))
    (tCons (tOp (rIx K) (tVar 0) (tC (.int 2))) tNil)
/-- return isinstance(e, DaysError), e the caught error at a -/
def tsE (K : PySem.W.Frag) (a : Addr) (cls : Value) (d : Option Addr) : TS := fun D σ H => (cls = .ref (He.ga K "OtherDays") ∧ d = none) ∧ tRet (tCB (rIsE K (He.ga K "OtherDays") a) (tCons (tVar 3) (tCons (tC (.ref (He.ga K "DaysError"))) tNil))) D σ H
def wRef (K : PySem.W.Frag) (D : Ends) : WX := wAs K (.ref (He.ga K "OtherDays")) 3 (tsE K) (fun _ _ _ _ => False) D
/-- the body of refuses, the lambda at f -/
def refTS (K : PySem.W.Frag) (f c' : Addr) (q : PySem.Str) (tl : XK → V → Hp → VK → Prop) : TS := tSeq (fun D σ H => tDrop (tActV 2 f c' q (teS K) tl (WE (wRef K D))) D σ H) (tRet (tC (.bl false)))
def tRef (K : PySem.W.Frag) (P : Addr) (q : PySem.Str) (j : Nat) (t1 t2 : TE) (tb : XK → TE) : TE := fun σ H Q => t1 σ H fun v1 H1 => t2 σ H1 fun v2 H2 => ∃ ps : Array Value, H2 P = some (.tbl ps) ∧ TriplesOk ps.toList ∧ (∀ (pos : Pos) (cv : Value), codeAmong pos ps.toList = some cv → ∃ c, cv = .ref c ∧ H2 c = some (CodeO c q)) ∧
  ∀ f c' H3, MadeAt P q ps H2 H3 c' → H3 f = none → refTS K f c' q (fun E v H' Q' => tb E (σ.set j (some v)) H' Q') { nx := fun _ H' => Q .non H', rt := Q } (L2.start n__law_refuses [v1, v2, .ref f]) H3
section
variable {X : Cx}
theorem ps_isE {a : Addr} {oe : Obj} {cls : Value} {d : Option Addr} {pn : List (Addr × Obj)} (hE : ExcC X.K (He.ga X.K "OtherDays")) (hmi : X.mg "isinstance" = none) (hmd : X.mg "DaysError" = some (.ref (He.ga X.K "DaysError"))) (hN : X.N[3]? = some ("e" : PySem.Str)) (hv : Vis X.env.scope "e") (hg : Gl X "isinstance") (hg2 : Gl X "DaysError") (hz : Zc cls d oe) (hf : ∃ vs, oe.data = .fields vs) {p1 p2 p3 p4 p5 : Pos} :
    PSs (X.suite a ((a, oe) :: pn)) [.Return (some (.Call (.Name "isinstance" p1) [.Name "e" p2, .Name "DaysError" p3] [] p4)) p5] (tsE X.K a cls d) := by
  refine ⟨fun pins s σ H D I h => ?_⟩
  obtain ⟨⟨ec, ed⟩, h⟩ := h
  subst ec ed
  have hb : PE (X.suite a ((a, oe) :: pn)) (.Call (.Name "isinstance" p1) [.Name "e" p2, .Name "DaysError" p3] [] p4) _ :=
    pe_callB (call_isE (X := X) (pn := pn) hE hz hf) hg hmi (by decide +kernel) (pa_cons (pe_var (i := 3) hN hv) (pa_cons (pe_glob (v := .ref (He.ga X.K "DaysError")) hg2 hmd rfl) pa_nil))
  exact (pss_one (ps_ret hb)).run pins s σ H D I h
/-- the saying handed on -/
def sayE : Expr := match defBody s__law_refuses with
  | .Try (.Expr (.Call _ (e :: _) _ _) _ :: _) _ _ _ _ :: _ => e
  | _ => .Name "e" ⟨0, 0, 0, 0⟩
theorem pe_sayref (W : Wf X.prog X.w X.K X.mg X.base) (hR : Room 5 X.A) (h0 : X.N[0]? = some ("_law_one_here" : PySem.Str)) (h1 : X.N[1]? = some ("_law_days" : PySem.Str)) (v0 : Vis X.env.scope "_law_one_here") (v1 : Vis X.env.scope "_law_days") (hg : Gl X "Saying") : PE X sayE (teS X.K) := by
  obtain ⟨fdS, FnS, GS⟩ := ok_Saying__init__ W
  obtain ⟨gS, bS⟩ := say_binds FnS
  exact pe_makeN (W.mkr 0 _ rfl) GS (hR.mono (by decide)) hg (W.glo 9 _ rfl) bS passL (pa_cons (pe_ix (ix_seq : IxR _ (rIx X.K)) (pe_var (i := 0) h0 v0) pe_int (fun _ _ => rfl)) (pa_cons (pe_op op_or (pe_ix (ix_seq : IxR _ (rIx X.K)) (pe_var (i := 0) h0 v0) pe_int (fun _ _ => rfl)) (pe_op op_shl pe_int (pe_var (i := 1) h1 v1))) pa_nil)) (pk_cons (pe_ix (ix_seq : IxR _ (rIx X.K)) (pe_var (i := 0) h0 v0) pe_int (fun _ _ => rfl)) pk_nil)
theorem pe_ref (W : Wf X.prog X.w X.K X.mg X.base) {c P : Addr} {q : PySem.Str} {t1 t2 : TE} {e1 e2 : Expr} {params : Arguments} {body : Expr} {scope : Scope} {lpos p pos : Pos} {j : Nat} {tb : XK → TE} (hg : Gl X "_law_refuses") (TB : TabB X.base X.mg c P) (hcode : X.env.code = .ref c) (hq : X.env.qual ++ "<lambda>" = q)
    (hr : Room 11 X.A) (L : LamP X.env.scope scope "_law_far") (hN : X.N.Nodup) (hj : X.N[j]? = some ("_law_far" : PySem.Str)) (hdef : defaultsOf params X.env = ([], [])) (hbind : ∀ (q : PySem.Str) (cl : List (PySem.Str × Addr)) (pm cv ctv u : Value), bindArgs (PySem.W.kla_fn "<lambda>" q params body scope cl pm cv ctv) ⟨[u], []⟩ = pure [(("_law_far" : PySem.Str), u)])
    (hbody : ∀ (A : Around) (outer : List Env) (s : Shared) (H : Hp) (E : XK) (f c' : Addr), Room 9 (A.deeper (lamEnv X scope s.heap.objs.size f c')) → PE (lamCx X A outer s H E scope f c') body (tb E)) (he1 : PE X e1 t1) (he2 : PE X e2 t2)
    (hst : backTo pos (starEach [e1, e2, .Lambda params body scope lpos] X.env) = [(false, eval e1 X.env), (false, eval e2 X.env), (false, eval (.Lambda params body scope lpos) X.env)])
    (hst2 : starEach [e1, e2, .Lambda params body scope lpos] X.env = (false, eval e1 X.env) :: starEach [e2, .Lambda params body scope lpos] X.env) (hpl : (backTo pos (starEach [e2, .Lambda params body scope lpos] X.env)).any (·.1) = false) :
    PE X (.Call (.Name "_law_refuses" p) [e1, e2, .Lambda params body scope lpos] [] pos) (tRef X.K P q j t1 t2 tb) := by
  refine ⟨fun pins s σ H Q I h => ?_⟩
  obtain ⟨fd, F⟩ := W.fn _ _ in__law_refuses
  have hb := F.bindsA (ps := ["_law_one_here", "_law_days", "_law_call"]) (fun _ _ _ _ _ _ us hl => match us, hl with | [_, _, _], _ => rfl)
  have kp := F.kp
  obtain ⟨oc, od, dV, kV, doc, pm, an, cdv, ct, osl, efd, lk, hcd, hD, hK⟩ := F.ex
  subst efd
  refine wpAny_Call_Name_kw (ld_glob I hg (W.glo 52 _ rfl) ?_ (by decide))
  refine PySem.W.callWith_K (h₀ := X.base) I.ok.mod.kin kp ?_ hst2 hpl
  rw [hst]
  refine Calls.spliced_cons (thn (he1.run pins s σ H _ I h) fun u1 s1 ⟨v1, H1, I1, r1, h1⟩ => ?_)
  refine Calls.spliced_cons (thn (he2.run pins s1 σ H1 _ I1 h1) fun u2 s2 ⟨v2, H2, I2, r2, ps, hP, ht, ha, h3⟩ => ?_)
  refine Calls.spliced_cons (lamP_make I2 TB hcode hq hP ht ha hdef (L.has I.ok) fun f c' pm' ctv H3 s3 I3 mk hf hfn hfr => ?_)
  refine Calls.spliced_nil ⟨I3.kIn, ?_⟩
  have h4 := h3 f c' H3 mk hfn
  have rc : codeAny (model X.prog X.w) X.A (.call (.ref (d__law_refuses.at_ X.K)) ⟨[u1, u2, .ref f], []⟩) (CR C8.CX0 X.stack X.prog X.w H3 s3 Q C8.E0) s3 := by
    refine run_ofS (N := n__law_refuses) (ps := ["_law_one_here", "_law_days", "_law_call"]) (us := [u1, u2, .ref f]) (vs := [v1, v2, .ref f]) lk hcd sc__law_refuses hr I3.env0 (hb s3 [u1, u2, .ref f] rfl) (.cons r1 (.cons r2 (.cons rfl .nil))) rfl fun hr' => ?_
    refine ⟨_, (pss_cons (ps_try_as (i := 3) (c := .ref (He.ga X.K "OtherDays")) (ts := tsE X.K) (Wout := fun _ _ _ _ => False) (tb := fun W' => tDrop (tActV 2 f c' q (teS X.K) (fun E v H' Q' => tb E (σ.set j (some v)) H' Q') (WE W'))) rfl rfl sc__law_refuses.nd rfl rfl ⟨rfl, by decide, .inl (W.glo 36 _ rfl)⟩ LamX.takes0
        (fun W' pn xe tk _ => pss_one (ps_expr (pe_actV (i := 2) I3 L hN hj hq hf hfn hfr (fun u => hbind _ _ _ _ _ u) (fun σZ => passAt tk σZ) hr' (fun A outer s0 H0 E hr2 => hbody A outer s0 H0 E f c' hr2) ?_ rfl (.inl rfl))))
        (fun a oe cls d pn hz hf => by
          refine ps_isE ?_ ?_ ?_ ?_ ?_ ?_ ?_ hz hf
          · exact (W.err 0 _ rfl).ex
          · exact W.free 1 _ rfl
          · exact W.glo 35 _ rfl
          · rfl
          · exact .inl rfl
          · rfl
          · rfl)) (pss_one (ps_ret pe_bl))), h4⟩
    refine pe_sayref ?_ ?_ ?_ ?_ ?_ ?_ ?_
    · exact W
    · exact hr'.mono (by decide)
    · rfl
    · rfl
    · exact .inl rfl
    · exact .inl rfl
    · rfl
  refine wpAny_call (codeAny_mono rc fun z s4 hz => ?_)
  match z, hz with
  | .error er, hz => exact (show False from hz).elim
  | .ok (.ret _), hz => exact I3.after hz
end
end K33
namespace K33
open PySem PySem.Spec PyProof.Rows L2 LamX
theorem EnvOk.mutTab {F : Fm} {B H : Hp} {σ : L2.St} {ρ : List Sl} (E : EnvOk F B H σ ρ) {i : Nat} {P c' : Addr} {q : PySem.Str} {ps more : Array Value} (h : ρ[i]? = some (.tab P q)) (hqs : ∀ (j : Nat) (P' : Addr) (q' : PySem.Str), ρ[j]? = some (.tab P' q') → q' = q) (hP : H P = some (.tbl ps)) (hc : H c' = none)
    (ht : TriplesOk (ps ++ more).toList) (hcs : ∀ (pos : Pos) (cv : Value), codeAmong pos (ps ++ more).toList = some cv → codeAmong pos ps.toList = some cv ∨ cv = .ref c') : EnvOk F (upd B c' (CodeO c' q)) (upd (upd H P (.tbl (ps ++ more))) c' (CodeO c' q)) σ ρ := by
  have hPc : P ≠ c' := fun z => by
    rw [z, hc] at hP
    cases hP
  obtain ⟨⟨ps0, hP0, _, hold⟩, BP, hme⟩ := E.at_ i _ h
  rw [hP] at hP0
  cases hP0
  have E1 := E.new (CodeO c' q) hc
  have ee : upd (upd H P (.tbl (ps ++ more))) c' (CodeO c' q) = upd (upd H c' (CodeO c' q)) P (.tbl (ps ++ more)) := by
    funext b
    by_cases hb : b = c'
    · rw [hb, upd_same, upd_ne hPc.symm, upd_same]
    · rw [upd_ne hb]
      by_cases hb2 : b = P
      · rw [hb2, upd_same, upd_same]
      · rw [upd_ne hb2, upd_ne hb2, upd_ne hb]
  rw [ee]
  have HP1 : upd H c' (CodeO c' q) P = some (.tbl ps) := by
    rw [upd_ne hPc]
    exact hP
  have BP1 : upd B c' (CodeO c' q) P = none := by
    rw [upd_ne hPc]
    exact BP
  have ne : ∀ {p : Addr} {o : HO}, upd H c' (CodeO c' q) p = some o → (∀ ps, o ≠ .tbl ps) → p ≠ P := fun {p o} e n z => by
    rw [z, HP1] at e
    exact n ps (Option.some.inj e).symm
  have nb := E1.bs
  refine ⟨⟨nb.b0, Same.mut nb.bh BP1, Same.mut nb.fh (by unfold hid; rw [if_pos (.inr (.inl hme))]), nb.z, fun b hb => ?_, fun s hs => ?_, nb.me⟩, E1.len, fun j l e => ?_, E1.inj⟩
  · by_cases hb' : b = P
    · subst hb'
      rw [upd_same]
      exact Option.some_ne_none _
    · rw [upd_ne hb']
      exact nb.al b hb
  · obtain ⟨⟨c, n, k, q1, q2⟩, q3⟩ := nb.src s hs
    exact ⟨⟨c, n, k, by rw [upd_ne (ne q1 (fun _ z => by cases z))]; exact q1, q2⟩, q3⟩
  · have g := E1.at_ j l e
    cases l with
    | un => trivial
    | val d => exact g
    | own ds =>
      obtain ⟨p, us, a1, a2, a3⟩ := g
      exact ⟨p, us, a1, by rw [upd_ne (ne a2 (fun _ z => by cases z))]; exact a2, a3⟩
    | ins p c ns ds =>
      obtain ⟨dx, us, a1, a2, a3⟩ := g
      exact ⟨dx, us, a1, by rw [upd_ne (ne a2 (fun _ z => by cases z))]; exact a2, a3⟩
    | src p =>
      obtain ⟨a1, ⟨c, n, k, a2, a3⟩, a4⟩ := g
      exact ⟨a1, ⟨c, n, k, by rw [upd_ne (ne a2 (fun _ z => by cases z))]; exact a2, a3⟩, a4⟩
    | lft p a b c L =>
      obtain ⟨_, _, _, _, z, _⟩ := g
      rw [hme] at z
      cases z
    | tab P' q' =>
      obtain ⟨_, a2, a3⟩ := g
      have eq' := hqs j P' q' e
      subst eq'
      rw [hme] at a3
      cases a3
      refine ⟨⟨ps ++ more, upd_same, ht, fun pos cv ecv => ?_⟩, a2, hme⟩
      rcases hcs pos cv ecv with z | z
      · obtain ⟨c, e1, e2⟩ := hold pos cv z
        exact ⟨c, e1, E.sameB (CodeO c' q') hc _ _ e2⟩
      · exact ⟨c', z, upd_same⟩
section
variable {P : Program} {w : World} {K : PySem.W.Frag} {mg : PySem.Str → Option Value} {base : Heap}
local macro_rules | `(tactic| walk_at "d0") => `(tactic| first
  | ((with_reducible apply ev_var); rfl)
  | with_reducible apply ev_int
  | with_reducible apply ev_bl
  | with_reducible apply ev_str
  | with_reducible apply ev_non
  | with_reducible apply s_seq
  | with_reducible apply s_ret
  | with_reducible apply s_asg
  | with_reducible apply s_next
  | ((with_reducible apply s_app); rfl)
  | with_reducible apply s_drop
  | ((with_reducible apply src_0); rfl; intro _)
  | ((with_reducible apply src_1); rfl; intro _ _ _)
  | ((with_reducible apply src_2); rfl; intro _)
  | ((with_reducible apply s_setSrc0); rfl)
  | ((with_reducible apply s_setSrc2); rfl)
  | ((with_reducible apply ev_callS); rfl)
  | ((with_reducible apply ev_opO); rfl)
  | ((with_reducible apply ev_ixO); rfl)
  | with_reducible apply ev_op
  | with_reducible apply ev_un
  | with_reducible apply et_test
  | with_reducible apply et_B
  | with_reducible apply et_truI
  | with_reducible apply et_and
  | with_reducible apply et_or
  | with_reducible apply et_not
  | with_reducible apply ea_nil
  | with_reducible apply ea_cons
  | with_reducible apply ro_nd_n
  | with_reducible apply ro_and_n
  | with_reducible apply ro_or_n
  | with_reducible apply ro_shr_n
  | with_reducible apply ro_eq_0
  | with_reducible apply ro_ne_0
  | with_reducible apply ro_eq_n
  | with_reducible apply ro_ne_n
  | with_reducible apply ro_add_n
  | with_reducible apply ro_add_1
  | with_reducible apply ro_I0
  | with_reducible apply ro_B0
  | with_reducible apply ro_un
  | ((with_reducible apply ro_isN); rfl)
  | ((with_reducible apply ro_notN); rfl)
  | with_reducible apply ro_eq_t0
  | with_reducible apply ro_ne_lt0
  | with_reducible apply ro_ne_l0
  | with_reducible apply ro_ne_tt
  | with_reducible apply ro_eq_tt
  | with_reducible apply ro_ne_t
  | with_reducible apply ro_eq_i
  | with_reducible apply ro_ne_i
  | with_reducible apply ro_eq_s
  | with_reducible apply ro_add
  | ((with_reducible apply ro_ixT); rfl)
  | ((with_reducible apply ro_ixL); rfl)
  | with_reducible apply ev_list
  | with_reducible apply ev_tuple
  | with_reducible apply ev_sortset
  | with_reducible apply ev_isLT
  | ((with_reducible apply ev_cbO); rfl)
  | with_reducible apply ev_cb
  | with_reducible apply ev_call
  | ((with_reducible apply ev_fldM); rfl; exact Wf.kc2 (by assumption) (by decide +kernel); rfl)
  | with_reducible apply ev_fld
  | with_reducible apply ev_and
  | with_reducible apply ev_or
  | with_reducible apply ev_notV
  | with_reducible apply ev_if
  | with_reducible apply ev_chain
  | with_reducible apply ev_tup
  | with_reducible apply ev_lst
  | with_reducible apply ev_make
  | ((with_reducible apply ev_cm0); exact exok0)
  | ((with_reducible apply ev_cm); exact exok0)
  | ((with_reducible apply ev_meth0); exact exok0)
  | ((with_reducible apply ev_meth); exact exok0)
  | ((with_reducible apply ro_subO); exact exok0)
  | ((with_reducible apply ro_addO); exact exok0)
  | ((with_reducible apply rc_lenO); exact exok0)
  | ((with_reducible apply ev_prop); exact exok0)
  | with_reducible apply rc_int
  | with_reducible apply rc_lenL
  | with_reducible apply rc_lenT
  | ((with_reducible apply rc_is_int); (exact rfl))
  | ((with_reducible apply rc_is_bl); (exact rfl))
  | ((with_reducible apply rc_is_str); (exact rfl))
  | ((with_reducible apply rc_is_tup); (exact rfl))
  | ((with_reducible apply s_fldM); rfl; exact Wf.kc2 (by assumption) (by decide +kernel); decide; rfl)
  | with_reducible apply et_yes
  | with_reducible apply ev_rawc
  | ((with_reducible apply ev_src); rfl)
  | ((with_reducible refine ⟨len_ok ?_, ?_⟩); rfl)
  | with_reducible refine ⟨rfl, ?_⟩
  | with_reducible refine ⟨⟨_, rfl⟩, ?_⟩
  | with_reducible refine ⟨_, rfl, ?_⟩
  | refine ⟨_, _, rfl, rfl, ?_⟩
  | refine ⟨_, _, _, _, rfl, Wf.kc2 (by assumption) (by decide +kernel), rfl, ?_⟩
  | ((with_reducible apply iteTr); rfl)
  | ((with_reducible apply iteFr); rfl)
  | dsimp only)
local macro_rules | `(tactic| walk_at "d") => `(tactic| first
  | walk_at "d0"
  | with_reducible apply s_if)
local macro_rules | `(tactic| walk_at "o") => `(tactic| first
  | ((with_reducible apply so_retO); rfl)
  | ((with_reducible apply et_notcallO); rfl)
  | ((with_reducible apply s_asgO); (with_reducible apply en_lst); (with_reducible apply ea_nil); refine ⟨len_ok rfl, ?_⟩)
  | walk_at "d")

local macro_rules | `(tactic| walk_at "x") => `(tactic| first
  | ((with_reducible apply ev_callX); assumption)
  | walk_at "o")
theorem ev_sayS {F : Fm} (W : Wf P w F.K mg base) {r : Rw} {days : Nat} {z : List Sl} (ok : (⟨r.w, r.t ||| 2 ^ days, r.u⟩ : Rw).Ok) (hd : days < 64) : EvD F (teS F.K) ([.val (rowD r), .val (nD days)] ++ z) fun d => d = sayD ⟨r.w, r.t ||| 2 ^ days, r.u⟩ := by
  apply ev_makeN (fun ds zs => ds ++ zs) say_gv
  repeat walk_at "d"
  apply ro_shl_n hd
  repeat walk_at "d"
  exact ⟨⟨r.w, r.t ||| 2 ^ days, r.u⟩, rfl, ok, rfl⟩
/-- if not refuses(one, days, lambda far: derivation(odd, far)): a far day is refused -/
theorem s_ifRef {F : Fm} (W : Wf P w F.K mg base) {ρ : List Sl} {N : List Sl → Prop} {R : D → Prop} {ts tu : TS} {it i1 i2 io j : Nat} {Pt : Addr} {q : PySem.Str} {r : Rw} {b : Bk} (hit : ρ[it]? = some (.tab Pt q)) (hqs : ∀ (j : Nat) (P' : Addr) (q' : PySem.Str), ρ[j]? = some (.tab P' q') → q' = q)
    (h1 : ρ[i1]? = some (.val (rowD r))) (h2 : ρ[i2]? = some (.val (nD b.days))) (ho : ρ[io]? = some (.val (bookD b))) (hj : j < ρ.length) (hjo : j ≠ io) (bok : b.Ok) (hr : r.In b.days) (h8 : b.days ≤ 8) (g : SOk F tu ρ N R) :
    SOk F (tIfS (tNot (tB (tRef F.K Pt q j (tVar i1) (tVar i2) fun E => tCl (spD F.K S_derivation) E (tCons (tVar io) (tCons (tVar j) tNil))))) ts tu) ρ N R := fun B H σ E En hn hrt => by
  obtain ⟨v1, a1, b1⟩ := E.at_ i1 _ h1
  obtain ⟨v2, a2, b2⟩ := E.at_ i2 _ h2
  obtain ⟨v3, a3, b3⟩ := E.at_ io _ ho
  obtain ⟨⟨ps, hP, ht, hold⟩, BP, hme⟩ := E.at_ it _ hit
  have p8 : 2 ^ b.days ≤ 2 ^ 8 := Nat.pow_le_pow_right (by decide) h8
  have ok' : (⟨r.w, r.t ||| 2 ^ b.days, r.u⟩ : Rw).Ok := ⟨hr.1, by have := hr.2.1; show r.w ≤ 65535; omega, b16.mpr (or_lt (by have := hr.2.2; omega) (by omega))⟩
  have far : ¬ r.w ||| (r.t ||| 2 ^ b.days) < 2 ^ b.days := by
    have h1 : 2 ^ b.days ≤ r.t ||| 2 ^ b.days := Nat.right_le_or
    have h2 : r.t ||| 2 ^ b.days ≤ r.w ||| (r.t ||| 2 ^ b.days) := Nat.right_le_or
    omega
  refine ⟨v1, a1, v2, a2, ps, hP, ht, fun pos cv e => ?_, fun f c' H3 mk hfn => ?_⟩
  · obtain ⟨c, e1, e2⟩ := hold pos cv e
    exact ⟨c, e1, E.bs.bh _ _ e2⟩
  obtain ⟨B3, E3, s3, hc3⟩ : ∃ B3, EnvOk F B3 H3 σ ρ ∧ Same B B3 ∧ H3 c' = some (CodeO c' q) := by
    rcases mk with ⟨e, hc⟩ | ⟨more, e, hc, ht2, hcs⟩
    · rw [e]
      exact ⟨B, E, Same.refl _, hc⟩
    · rw [e]
      exact ⟨_, E.mutTab hit hqs hP hc ht2 hcs, E.sameB _ hc, upd_same⟩
  have envZ : EnvOk ⟨F.K, B3, H3, none, none, []⟩ B3 H3 (L2.start n__law_refuses [v1, v2, .ref f]) (ρ0 n__law_refuses [rowD r, nD b.days, .raw (.ref f)]) := env_start (bs_start E3.bs.bh) (.cons (b1.mono s3) (.cons (b2.mono s3) (.cons rfl RepL.nil))) (show 3 ≤ 4 by decide)
  have hS := ev_sayS (F := ⟨F.K, B3, H3, none, none, []⟩) (z := [.val (.raw (.ref f)), .un]) W ok' (by omega)
  refine ⟨rfl, hS B3 H3 _ envZ _ fun d v B4 H4 ed S4 r4 => ?_⟩
  subst ed
  have hjl : j < σ.length := by
    rw [E.len]
    exact hj
  refine ⟨S4.kp c' _ hc3 (fun i z => ?_), v3, by rw [List.getElem?_set_ne hjo]; exact a3, v, List.getElem?_set_self hjl, ?_⟩
  · match i, z with
    | 0, z => cases z
    | 1, z => cases z
    | 2, z => cases z
    | 3, z => cases z
    | i + 4, z => cases z
  refine ⟨[bookD b, sayD ⟨r.w, r.t ||| 2 ^ b.days, r.u⟩], B4, fun _ => False, fun x => x = .mk "OtherDays" none, bs_start S4.env.bs.bh, .cons (b3.mono (s3.trans S4.bb)) (.cons r4 RepL.nil), ⟨b, _, rfl, bok, ok', fun _ => rfl, fun z => absurd z far⟩, fun d v B' H' z => z.elim, fun x cls dx B5 H5 hx b5 e5 => ?_⟩
  subst hx
  obtain ⟨ec, ed⟩ := e5
  subst ec ed
  have E4 := (Stp.call E3 S4.env.bs).env
  have E5 := (Stp.call E4 b5).env
  refine ⟨true, (W.err 0 _ rfl).one, fun _ a ha => ⟨⟨rfl, rfl⟩, .ref a, rfl, .ref (He.ga F.K "DaysError"), .ref (He.ga F.K "DaysError"), true, rfl, fun u hu => hu, (W.err 0 _ rfl).days, true, rfl, ?_⟩, fun z => by cases z⟩
  exact g B5 H5 σ E5 En (fun ρ2 B2 H2 σ2 n e2 E2 => hn ρ2 B2 H2 σ2 n (s3.trans (S4.bb.trans (b5.b0.trans e2))) E2) (fun d v B2 H2 r e2 => hrt d v B2 H2 r (s3.trans (S4.bb.trans (b5.b0.trans e2))))
end
end K33
namespace K33
open PySem PySem.Spec PyProof.Rows L2 LamX
abbrev nLaw : List PySem.Str := ["_law_script", "_law_at", "_law_source_here", "_law_days", "_law_rows_here", "_law_book_here", "_law_turn", "_law_one_here", "_law_place", "_law_odd", "_law_far", "#tab"]
theorem scLaw : FnScope nLaw ["_law_script"] (defScope s_law) := ⟨rfl, rfl, rfl, by decide +kernel, rfl, by decide +kernel, by decide +kernel⟩
/-- the name of a code object made in it -/
def qLaw : PySem.Str := (envOfC d_law.qual d_law.scope 0 0 .none).qual ++ "<lambda>"
/-- what it is asked at -/
def spLaw (K : PySem.W.Frag) (Pt : Addr) : Sp := fun vs H Q _ => ∃ (a : Addr) (ns : List Int), vs = [.ref a] ∧ ns.length ≤ 63 ∧ H Pt = some (.tbl #[]) ∧ SqL K H a (ns.map V.int) ∧ ∀ H', Q (.bl true) H'
theorem need_at {rs : List Rw} {r1 : Rw} {p : Nat} (h : ∀ q ∈ rs, q.u = true) (h1 : r1.u = false) (hp : p ≤ rs.length) : needR (rs.take p ++ [r1] ++ rs.drop p) = some p := by
  unfold needR
  rw [List.findIdx?_append, List.findIdx?_append]
  have e : (rs.take p).findIdx? (fun r => !r.u) = none := List.findIdx?_eq_none_iff.mpr fun q hq => by
    rw [h q (List.mem_of_mem_take hq)]
    rfl
  rw [e, List.findIdx?_cons, h1, List.length_take, Nat.min_eq_left hp]
  simp
section
variable {P : Program} {w : World} {K : PySem.W.Frag} {mg : PySem.Str → Option Value} {base : Heap}
local macro_rules | `(tactic| walk_at "d0") => `(tactic| first
  | ((with_reducible apply ev_var); rfl)
  | with_reducible apply ev_int
  | with_reducible apply ev_bl
  | with_reducible apply ev_str
  | with_reducible apply ev_non
  | with_reducible apply s_seq
  | with_reducible apply s_ret
  | with_reducible apply s_asg
  | with_reducible apply s_next
  | ((with_reducible apply s_app); rfl)
  | with_reducible apply s_drop
  | ((with_reducible apply src_0); rfl; intro _)
  | ((with_reducible apply src_1); rfl; intro _ _ _)
  | ((with_reducible apply src_2); rfl; intro _)
  | ((with_reducible apply s_setSrc0); rfl)
  | ((with_reducible apply s_setSrc2); rfl)
  | ((with_reducible apply ev_callS); rfl)
  | ((with_reducible apply ev_opO); rfl)
  | ((with_reducible apply ev_ixO); rfl)
  | with_reducible apply ev_op
  | with_reducible apply ev_un
  | with_reducible apply et_test
  | with_reducible apply et_B
  | with_reducible apply et_truI
  | with_reducible apply et_and
  | with_reducible apply et_or
  | with_reducible apply et_not
  | with_reducible apply ea_nil
  | with_reducible apply ea_cons
  | with_reducible apply ro_nd_n
  | with_reducible apply ro_and_n
  | with_reducible apply ro_or_n
  | with_reducible apply ro_shr_n
  | with_reducible apply ro_eq_0
  | with_reducible apply ro_ne_0
  | with_reducible apply ro_eq_n
  | with_reducible apply ro_ne_n
  | with_reducible apply ro_add_n
  | with_reducible apply ro_add_1
  | with_reducible apply ro_I0
  | with_reducible apply ro_B0
  | with_reducible apply ro_un
  | ((with_reducible apply ro_isN); rfl)
  | ((with_reducible apply ro_notN); rfl)
  | with_reducible apply ro_eq_t0
  | with_reducible apply ro_ne_lt0
  | with_reducible apply ro_ne_l0
  | with_reducible apply ro_ne_tt
  | with_reducible apply ro_eq_tt
  | with_reducible apply ro_ne_t
  | with_reducible apply ro_eq_i
  | with_reducible apply ro_ne_i
  | with_reducible apply ro_eq_s
  | with_reducible apply ro_add
  | ((with_reducible apply ro_ixT); rfl)
  | ((with_reducible apply ro_ixL); rfl)
  | with_reducible apply ev_list
  | with_reducible apply ev_tuple
  | with_reducible apply ev_sortset
  | with_reducible apply ev_isLT
  | ((with_reducible apply ev_cbO); rfl)
  | with_reducible apply ev_cb
  | with_reducible apply ev_call
  | ((with_reducible apply ev_fldM); rfl; exact Wf.kc2 (by assumption) (by decide +kernel); rfl)
  | with_reducible apply ev_fld
  | with_reducible apply ev_and
  | with_reducible apply ev_or
  | with_reducible apply ev_notV
  | with_reducible apply ev_if
  | with_reducible apply ev_chain
  | with_reducible apply ev_tup
  | with_reducible apply ev_lst
  | with_reducible apply ev_make
  | ((with_reducible apply ev_cm0); exact exok0)
  | ((with_reducible apply ev_cm); exact exok0)
  | ((with_reducible apply ev_meth0); exact exok0)
  | ((with_reducible apply ev_meth); exact exok0)
  | ((with_reducible apply ro_subO); exact exok0)
  | ((with_reducible apply ro_addO); exact exok0)
  | ((with_reducible apply rc_lenO); exact exok0)
  | ((with_reducible apply ev_prop); exact exok0)
  | with_reducible apply rc_int
  | with_reducible apply rc_lenL
  | with_reducible apply rc_lenT
  | ((with_reducible apply rc_is_int); (exact rfl))
  | ((with_reducible apply rc_is_bl); (exact rfl))
  | ((with_reducible apply rc_is_str); (exact rfl))
  | ((with_reducible apply rc_is_tup); (exact rfl))
  | ((with_reducible apply s_fldM); rfl; exact Wf.kc2 (by assumption) (by decide +kernel); decide; rfl)
  | with_reducible apply et_yes
  | with_reducible apply ev_rawc
  | ((with_reducible apply ev_src); rfl)
  | ((with_reducible refine ⟨len_ok ?_, ?_⟩); rfl)
  | with_reducible refine ⟨rfl, ?_⟩
  | with_reducible refine ⟨⟨_, rfl⟩, ?_⟩
  | with_reducible refine ⟨_, rfl, ?_⟩
  | refine ⟨_, _, rfl, rfl, ?_⟩
  | refine ⟨_, _, _, _, rfl, Wf.kc2 (by assumption) (by decide +kernel), rfl, ?_⟩
  | ((with_reducible apply iteTr); rfl)
  | ((with_reducible apply iteFr); rfl)
  | dsimp only)
local macro_rules | `(tactic| walk_at "d") => `(tactic| first
  | walk_at "d0"
  | with_reducible apply s_if)
local macro_rules | `(tactic| walk_at "o") => `(tactic| first
  | ((with_reducible apply so_retO); rfl)
  | ((with_reducible apply et_notcallO); rfl)
  | ((with_reducible apply s_asgO); (with_reducible apply en_lst); (with_reducible apply ea_nil); refine ⟨len_ok rfl, ?_⟩)
  | walk_at "d")

local macro_rules | `(tactic| walk_at "x") => `(tactic| first
  | ((with_reducible apply ev_callX); assumption)
  | walk_at "o")
theorem law_start {H : Hp} {Pt a : Addr} {ns : List Int} (hP : H Pt = some (.tbl #[])) (hS : SqL K H a (ns.map V.int)) : ∃ F : Fm, F.K = K ∧ EnvOk F F.B0 H (L2.start nLaw [.ref a]) [.val (.sq ns), .un, .un, .un, .un, .un, .un, .un, .un, .un, .un, .tab Pt qLaw] ∧ F.ms = [] ∧ F.s = none := by
  refine ⟨⟨K, fun b => if b = Pt then none else H b, H, none, some Pt, []⟩, rfl, ⟨⟨Same.refl _, fun b o e => ?_, fun b o e => ?_, fun _ _ e _ => e, fun _ e => e, (fun s e => by cases e), fun s e => ?_⟩, rfl, fun i l e => ?_, fun i j l m p e1 e2 o1 o2 => ?_⟩, rfl, rfl⟩
  · dsimp only at e
    split at e
    · cases e
    · exact e
  · unfold hid at e
    split at e
    · cases e
    · exact e
  · cases e
    exact ⟨if_pos rfl, fun z => by cases hP.symm.trans z⟩
  · match i, e with
    | 0, e =>
      cases e
      refine ⟨_, rfl, a, rfl, ?_⟩
      rcases hS with (h | ⟨o, h⟩) | h
      · exact .inl (.inl ((if_neg (fun z => by rw [z, hP] at h; cases h)).trans h))
      · exact .inl (.inr ⟨o, (if_neg (fun z => by rw [z, hP] at h; cases h)).trans h⟩)
      · exact .inr h
    | 11, e =>
      cases e
      exact ⟨⟨#[], hP, trivial, fun pos cv z => by cases z⟩, if_pos rfl, rfl⟩
    | 1, e => cases e; trivial
    | 2, e => cases e; trivial
    | 3, e => cases e; trivial
    | 4, e => cases e; trivial
    | 5, e => cases e; trivial
    | 6, e => cases e; trivial
    | 7, e => cases e; trivial
    | 8, e => cases e; trivial
    | 9, e => cases e; trivial
    | 10, e => cases e; trivial
    | i + 12, e => cases e
  · have hown : ∀ (i : Nat) (l : Sl), ([.val (.sq ns), .un, .un, .un, .un, .un, .un, .un, .un, .un, .un, .tab Pt qLaw] : List Sl)[i]? = some l → l.isOwn = false := fun i l e => by
      have := List.mem_of_getElem? e
      simp only [List.mem_cons, List.not_mem_nil, or_false] at this
      rcases this with rfl | rfl | rfl | rfl | rfl | rfl | rfl | rfl | rfl | rfl | rfl | rfl <;> rfl
    rw [hown i l e1] at o1
    cases o1
theorem ok_law (W : Wf P w K mg base) {c Pt : Addr} {dV kV doc pm ct oc : Value} {an od : Option Addr} {osl : Array (Option Value)} (lk : K.lookup (d_law.at_ K) = some ⟨oc, od, .func (PySem.W.fnOf d_law.name d_law.qual d_law.params d_law.body d_law.scope dV kV doc pm an (.ref c) ct), osl⟩) (hcd : PySem.W.codeIn K (.ref c) d_law.qual = true) (TB : TabB base mg c Pt) :
    FnOk P w K mg base (L2.CX P w) 12 (d_law.at_ K) (PySem.W.fnOf d_law.name d_law.qual d_law.params d_law.body d_law.scope dV kV doc pm an (.ref c) ct) ["_law_script"] (spLaw K Pt) := by
  have c__law_source := cc__law_source W
  have c__law_pick := cc__law_pick W
  have c__law_rows := cc__law_rows W
  have c__law_draw := cc__law_draw W
  have c__law_book := cc__law_book W
  have c__law_asked := cc__law_asked W
  have c__law_made := cc__law_made W
  have c__law_one := cc__law_one W
  have c__law_need_not := cc__law_need_not W
  have c__law_saying := cc__law_saying W
  have c_Saying_contrary := cc_Saying_contrary W
  have c__law_all_needed := cc__law_all_needed W
  have c_derivation := cc_derivation W
  refine fn_of lk hcd scLaw (fun vs H Q E h => by obtain ⟨a, ns, rfl, _⟩ := h; rfl) fun A outer s H vs Q E hR h => ?_
  obtain ⟨a, ns, rfl, hl, hP, hS, q⟩ := h
  obtain ⟨F, hF, E0, hms, hs⟩ := law_start hP hS
  subst hF
  refine ⟨_, PSs.nox (X := cxOf (L2.CX P w) P w F.K mg base nLaw d_law.qual d_law.scope (d_law.at_ F.K) (.ref c) A outer s H E) (pss_cons (ps_for PassesOwn.never rfl (pi_range1 rfl (W.free 8 _ rfl) (pa_cons (pe_callB (call_max2 rfl) rfl (W.free 13 _ rfl) (by decide +kernel) (pa_cons pe_int (pa_cons (pe_callB (call_min2 rfl) rfl (W.free 12 _ rfl) (by decide +kernel) (pa_cons pe_int (pa_cons (pe_callB (cr_lenX : CallR _ _ (rLenX F.K)) rfl (W.free 0 _ rfl) boot_len (pa_cons (pv 0) pa_nil)) pa_nil))) pa_nil))) pa_nil)) (pg_name (i := 1) scLaw.nd rfl (Or.inl rfl))
  (pss_cons (ps_set (i := 2) scLaw.nd rfl (Or.inl rfl) (pe_f c__law_source hR (by decide) rfl passL (pa_cons (pv 0) (pa_cons (pv 1) pa_nil))))
  (pss_cons (ps_set (i := 3) scLaw.nd rfl (Or.inl rfl) (pe_f c__law_pick hR (by decide) rfl passL (pa_cons (pv 2) (pa_cons (pe_lst (pa_cons pe_int (pa_cons pe_int (pa_cons pe_int (pa_cons pe_int (pa_cons pe_int pa_nil)))))) pa_nil))))
  (pss_cons (ps_set (i := 4) scLaw.nd rfl (Or.inl rfl) (pe_f c__law_rows hR (by decide) rfl passL (pa_cons (pv 2) (pa_cons (pv 3) (pa_cons (pe_f c__law_draw hR (by decide) rfl passL (pa_cons (pv 2) (pa_cons pe_int pa_nil))) (pa_cons pe_int pa_nil))))))
  (pss_cons (ps_set (i := 5) scLaw.nd rfl (Or.inl rfl) (pe_f c__law_book hR (by decide) rfl passL (pa_cons (pv 2) (pa_cons (pv 3) (pa_cons (pv 4) pa_nil)))))
  (pss_cons (ps_for PassesOwn.never rfl (pi_range1 rfl (W.free 8 _ rfl) (pa_cons pe_int pa_nil)) (pg_name (i := 6) scLaw.nd rfl (Or.inl rfl))
  (pss_cons (ps_set (i := 7) scLaw.nd rfl (Or.inl rfl) (pe_f c__law_asked hR (by decide) rfl passL (pa_cons (pv 2) (pa_cons (pv 3) (pa_cons (pv 4) pa_nil)))))
  (pss_one (ps_if (pt_not (pt_val (pe_f c__law_made hR (by decide) rfl passL (pa_cons (pv 2) (pa_cons (pv 3) (pa_cons (pv 4) (pa_cons (pv 5) (pa_cons (pv 7) pa_nil))))))))
  (pss_one (ps_ret pe_bl))
  pss_nil))))
  (pss_cons (ps_set (i := 8) scLaw.nd rfl (Or.inl rfl) (pe_f c__law_draw hR (by decide) rfl passL (pa_cons (pv 2) (pa_cons (pe_op (op_addX : OpR _ _ (rAddX F.K)) (pe_callB (cr_lenX : CallR _ _ (rLenX F.K)) rfl (W.free 0 _ rfl) boot_len (pa_cons (pv 4) pa_nil)) pe_int) pa_nil))))
  (pss_cons (ps_set (i := 9) scLaw.nd rfl (Or.inr rfl) (pe_f c__law_book hR (by decide) rfl passL (pa_cons (pv 2) (pa_cons (pv 3) (pa_cons (pe_op (op_addX : OpR _ _ (rAddX F.K)) (pe_op (op_addX : OpR _ _ (rAddX F.K)) (pe_slice sl_list (pv 4) po_none (po_some (pv 8))) (pe_lst (pa_cons (pe_f c__law_one hR (by decide) rfl passL (pa_cons (pv 2) (pa_cons (pv 3) (pa_cons pe_int (pa_cons (pe_lst pa_nil) pa_nil))))) pa_nil))) (pe_slice sl_list (pv 4) (po_some (pv 8)) po_none)) pa_nil)))))
  (pss_cons (ps_if (pt_cmpR (op_neX hR.units : OpR _ _ (rNeX F.K)) (pe_f c__law_need_not hR (by decide) rfl passL (pa_cons (pe_glob (v := .ref (He.ga F.K "derivation")) rfl (W.glo 24 _ rfl) rfl) (pa_cons (pv 9) (pa_cons (pe_f c__law_saying hR (by decide) rfl passL (pa_cons (pv 7) pa_nil)) pa_nil)))) (pv 8) (nomark _))
  (pss_one (ps_ret pe_bl))
  pss_nil)
  (pss_cons (ps_if (pt_cmpR op_notN (pe_f c__law_need_not hR (by decide) rfl passL (pa_cons (pe_glob (v := .ref (He.ga F.K "derivation")) rfl (W.glo 24 _ rfl) rfl) (pa_cons (pv 5) (pa_cons (pe_m0 (pe_f c__law_saying hR (by decide) rfl passL (pa_cons (pv 7) pa_nil)) c_Saying_contrary hR (by decide) passL) pa_nil)))) pe_non (nomark _))
  (pss_one (ps_ret pe_bl))
  pss_nil)
  (pss_cons (ps_if (pt_not (pt_val (pe_ref (j := 10) (tb := fun E => tCl (spD F.K S_derivation) E (tCons (tVar 9) (tCons (tVar 10) tNil))) W rfl TB rfl rfl hR (show LamP d_law.scope _ _ from ⟨rfl, rfl, rfl, by decide +kernel, rfl, by decide +kernel⟩) scLaw.nd rfl rfl (fun _ _ _ _ _ _ => rfl) (fun A outer s H E f c2 hr2 => pe_f (X := lamCx _ A outer s H E _ f c2) c_derivation hr2 (by decide) rfl (passes_call (takes_of rfl rfl rfl rfl) (fun _ _ _ _ h => h)) (pa_cons (pv 9) (pa_cons (pv 10) pa_nil))) (pv 7) (pv 3) rfl rfl rfl)))
  (pss_one (ps_ret pe_bl))
  pss_nil)
  (pss_one (ps_if (PW.pt (pw_and (pt_cmpR (op_eqX hR.units : OpR _ _ (rEqX F.K)) (pe_f c__law_draw hR (by decide) rfl passL (pa_cons (pv 2) (pa_cons pe_int pa_nil))) pe_int (nomark _)) (pw_and1 (pt_not (pt_val (pe_f c__law_all_needed hR (by decide) rfl passL (pa_cons (pv 2) pa_nil)))))))
  (pss_one (ps_ret pe_bl))
  pss_nil)))))))))))))
  (pss_one (ps_ret pe_bl))), ?_⟩
  try dsimp only [Xof, cxOf, Cx.nox, Cx.wish, Cx.blk]
  refine (show SOk F _ _ (fun _ => False) (fun d => d = .bl true) from ?_) F.B0 H _ E0 _ (fun ρ' B' H' σ' z => z.elim) fun d v B' H' ed _ _ r => (by
    subst ed
    cases r
    exact q _)
  have hmx : ∃ n : Nat, n ≤ 2 ∧ (if (if (ns.length : Int) < 2 then (ns.length : Int) else 2) > 1 then (if (ns.length : Int) < 2 then (ns.length : Int) else 2) else 1) = (n : Int) := by
    by_cases h : (ns.length : Int) < 2
    · rw [if_pos h]
      by_cases h2 : (ns.length : Int) > 1
      · rw [if_pos h2]
        exact ⟨ns.length, by omega, rfl⟩
      · rw [if_neg h2]
        exact ⟨1, by omega, rfl⟩
    · rw [if_neg h]
      exact ⟨2, by omega, by decide⟩
  obtain ⟨n, hn, en⟩ := hmx
  apply s_seq
  apply s_for
  apply ei_rng1
  repeat walk_at "d"
  apply rc_lenQ
  repeat walk_at "d"
  apply rc_min2
  repeat walk_at "d"
  apply rc_max2
  repeat walk_at "d0"
  rw [en]
  refine ⟨n, rfl, by omega, fun i ρ => ∃ x1 x2 x3 x4 x5 x6 x7 x8 x9 x10 : Sl, ρ = [.val (.sq ns), x1, x2, x3, x4, x5, x6, x7, x8, x9, x10, .tab Pt qLaw], ⟨_, _, _, _, _, _, _, _, _, _, rfl⟩, ?_, ?_⟩
  · rintro at0 d ρ' hi ⟨x1, x2, x3, x4, x5, x6, x7, x8, x9, x10, rfl⟩
    obtain ⟨rfl, hi2⟩ := ints_at hi
    refine ⟨_, g_name, ?_⟩
    with_reducible apply so_forget 10
    apply s_seq
    apply s_asgSrc hms
    apply ev_callN
    repeat walk_at "d"
    refine ⟨ns, at0, rfl, by omega, fun c n h1 h2 => ⟨c, n, 0, rfl, h1, h2, fun p => ?_⟩⟩
    repeat walk_at "d"
    refine ⟨_, rfl, by decide, by decide, fun x hx => ?_⟩
    obtain ⟨dc, hc1, hc3, rfl⟩ : ∃ dc : Nat, 1 ≤ dc ∧ dc ≤ 3 ∧ x = nD (2 ^ dc) := by
      simp only [List.mem_cons, List.not_mem_nil, or_false] at hx
      rcases hx with rfl | rfl | rfl | rfl | rfl
      · exact ⟨2, by decide, by decide, rfl⟩
      · exact ⟨2, by decide, by decide, rfl⟩
      · exact ⟨2, by decide, by decide, rfl⟩
      · exact ⟨3, by decide, by decide, rfl⟩
      · exact ⟨1, by decide, by decide, rfl⟩
    have hd1 : 1 ≤ 2 ^ dc := Nat.one_le_two_pow
    have hd8 : 2 ^ dc ≤ 8 := Nat.pow_le_pow_right (show 0 < 2 by decide) hc3
    repeat walk_at "d"
    refine ⟨7, rfl, by decide, by decide, fun many hm => ?_⟩
    repeat walk_at "d"
    refine ⟨_, many, rfl, hd1, by omega, by omega, fun rs hrl hrs => ?_⟩
    have hin : ∀ r ∈ rs, r.In (2 ^ dc) := fun r hr => (hrs r hr).1
    have hu : ∀ r ∈ rs, r.u = true := fun r hr => (hrs r hr).2
    repeat walk_at "d"
    refine ⟨_, dc, rs, rfl, hc1, by omega, rfl, by omega, hin, fun b eb bok bd => ?_⟩
    subst eb
    have hr6 : b.rows.length ≤ 6 := by omega
    with_reducible apply so_forget 6
    apply s_seq
    apply s_for
    apply ei_rng1
    repeat walk_at "d"
    refine ⟨by decide, fun i ρ => ∃ x6 x7 : Sl, (∀ P' q', x6 ≠ .tab P' q') ∧ (1 ≤ i → ∃ r : Rw, x7 = .val (rowD r) ∧ r.In (2 ^ dc) ∧ r.u = true) ∧ ρ = [.val (.sq ns), .val (nD at0), .src p, .val (nD (2 ^ dc)), .val (.lst (b.rows.map rowD)), .val (bookD b), x6, x7, x8, x9, .un, .tab Pt qLaw], ⟨.un, _, (fun _ _ z => by cases z), (fun z => by omega), rfl⟩, ?_, ?_⟩
    · rintro i d ρ' hi ⟨x6, y7, h6, h7, rfl⟩
      obtain ⟨rfl, hi2⟩ := ints_at hi
      refine ⟨_, g_name, ?_⟩
      repeat walk_at "d"
      refine ⟨_, b.rows, rfl, hd1, by omega, by omega, hin, fun r rin ru => ?_⟩
      repeat walk_at "d"
      refine ⟨b, r, by rw [bd], bok, fun z => ?_, hr6, hu, by rw [bd]; exact rin, ru, ?_⟩
      · rw [bd] at z ⊢
        have : dc ≤ 2 := by
          by_cases h : dc = 3
          · rw [h] at z
            exact absurd z (by decide)
          · omega
        exact Nat.pow_le_pow_right (show 0 < 2 by decide) this
      repeat walk_at "d"
      exact ⟨_, _, (fun _ _ z => by cases z), (fun _ => ⟨r, rfl, rin, ru⟩), rfl⟩
    rintro ρ' ⟨x6, y7, h6, h7, rfl⟩
    obtain ⟨r, rfl, rin, ru⟩ := h7 (by decide)
    have rok := rin.ok (by omega)
    with_reducible apply so_forget 6
    repeat walk_at "d"
    rw [List.length_map]
    refine ⟨b.rows.length + 1, rfl, by omega, by omega, fun pl hpl => ?_⟩
    repeat walk_at "d"
    apply EvN.ev
    apply en_sl
    repeat walk_at "d"
    apply eo_no
    apply eo_some
    repeat walk_at "d"
    rw [cutD_map, HT.sIx_none, HT.sIx_nat, Nat.min_eq_left (by omega), Nat.sub_zero, List.drop_zero]
    repeat walk_at "d"
    refine ⟨_, 1, [], rfl, hd1, by omega, .inr ⟨rfl, rfl⟩, fun r1 r1in r1u => ?_⟩
    replace r1u : r1.u = false := r1u
    repeat walk_at "d"
    apply ro_cat (by rw [List.length_map, List.length_take]; exact (show min pl b.rows.length + 1 ≤ 100000 by omega))
    apply EvN.ev
    apply en_sl
    repeat walk_at "d"
    apply eo_some
    repeat walk_at "d"
    apply eo_no
    rw [cutD_map, HT.sIx_none, HT.sIx_nat, Nat.min_eq_left (by omega)]
    have ht : (b.rows.drop pl).take (b.rows.length - pl) = b.rows.drop pl := List.take_of_length_le (Nat.le_of_eq List.length_drop)
    have hc : (b.rows.take pl).length + 1 + (b.rows.drop pl).length ≤ 12 := by
      rw [List.length_take, List.length_drop]
      omega
    have em : (b.rows.take pl).map rowD ++ [rowD r1] ++ (b.rows.drop pl).map rowD = (b.rows.take pl ++ [r1] ++ b.rows.drop pl).map rowD := by
      rw [List.map_append, List.map_append]
      rfl
    rw [ht]
    apply ro_cat (by rw [List.length_append, List.length_map, List.length_map]; exact Nat.le_trans hc (by decide))
    rw [em]
    repeat walk_at "d"
    refine ⟨_, dc, _, rfl, hc1, by omega, rfl, ?_, fun q hq => ?_, fun b2 eb2 bok2 bd2 => ?_⟩
    · rw [List.length_append, List.length_append]
      exact hc
    · rcases List.mem_append.mp hq with hq | hq
      · rcases List.mem_append.mp hq with hq | hq
        · exact hin q (List.mem_of_mem_take hq)
        · rw [List.mem_singleton.mp hq]
          exact r1in
      · exact hin q (List.mem_of_mem_drop hq)
    have hn2 : needR b2.rows = some pl := by
      rw [eb2]
      exact need_at hu r1u (by omega)
    have hlt : r.w ||| r.t < 2 ^ (2 ^ dc) := or_lt rin.2.1 rin.2.2
    repeat walk_at "d"
    refine ⟨r, rfl, rok, ?_⟩
    repeat walk_at "d"
    refine ⟨b2, r, rfl, bok2, rok, by rw [bd2]; exact hlt, fun m em => ?_, fun z => ?_⟩
    rotate_left
    · rw [hn2] at z
      cases z
    rw [hn2] at em
    cases em
    repeat walk_at "d"
    rw [decide_eq_true (rfl : pl = pl)]
    refine iteFr rfl ?_
    repeat walk_at "d"
    refine ⟨r, rfl, rok, ?_⟩
    repeat walk_at "d"
    refine ⟨r, rfl, rok, ?_⟩
    repeat walk_at "d"
    refine ⟨b, ⟨r.w, r.t, !r.u⟩, rfl, bok, rok, by rw [bd]; exact hlt, fun m em => ?_, fun _ => ⟨by rw [ru]; rfl, ?_⟩⟩
    · rw [need_of hu] at em
      cases em
    repeat walk_at "d0"
    apply s_ifRef (b := b2) (r := r) W (i1 := 7) (i2 := 3) (io := 9) (it := 11) (Pt := Pt) (q := qLaw) rfl
    · intro j P' q' e
      match j, e with
      | 0, e => cases e
      | 1, e => cases e
      | 2, e => cases e
      | 3, e => cases e
      | 4, e => cases e
      | 5, e => cases e
      | 6, e => cases e
      | 7, e => cases e
      | 8, e => cases e
      | 9, e => cases e
      | 10, e => cases e
      | 11, e => cases e; rfl
      | j + 12, e => cases e
    · rfl
    · rw [bd2]
      rfl
    · rfl
    · exact (by decide : 10 < 12)
    · decide
    · exact bok2
    · rw [bd2]
      exact rin
    · rw [bd2]
      exact hd8
    repeat walk_at "d"
    refine ⟨10, rfl, by decide, by decide, fun z hz => ?_⟩
    repeat walk_at "d"
    by_cases h0 : z = 0
    · rw [decide_eq_true h0]
      refine iteTr rfl ?_
      repeat walk_at "d"
      refine ⟨rfl, ?_⟩
      repeat walk_at "d"
      exact ⟨_, _, _, _, _, _, _, _, _, _, rfl⟩
    · rw [decide_eq_false h0]
      refine iteFr rfl ?_
      repeat walk_at "d"
      exact ⟨_, _, _, _, _, _, _, _, _, _, rfl⟩
  rintro ρ' ⟨x1, x2, x3, x4, x5, x6, x7, x8, x9, x10, rfl⟩
  repeat walk_at "d"
end
end K33
namespace K33
open PySem PySem.Spec PyProof.Rows L2 LamX
theorem wf_of {P : Program} {w : World} {K : PySem.W.Frag} {mg : PySem.Str → Option Value} {h base : Heap} (X : K.In h) (G : h.Ns mainGlobals mg) (c : SaysW w h K) : Wf P w K mg base := by
  obtain ⟨b1, b⟩ := He.ba c.b
  obtain ⟨b2, b3⟩ := He.ba b
  have fact : ∀ f ∈ fal, f.ok K = true := fun f hf => List.all_eq_true.mp b1 f hf
  obtain ⟨m1, m⟩ := He.ba b3
  obtain ⟨m2, m⟩ := He.ba m
  obtain ⟨m3, m⟩ := He.ba m
  obtain ⟨m4, m⟩ := He.ba m
  obtain ⟨m5, m⟩ := He.ba m
  obtain ⟨m6, m⟩ := He.ba m
  obtain ⟨m7, m⟩ := He.ba m
  obtain ⟨m8, m⟩ := He.ba m
  obtain ⟨m9, m⟩ := He.ba m
  obtain ⟨m10, m11⟩ := He.ba m
  have inl : ∀ {l r : List He.Fa} {f : He.Fa}, f ∈ l → f ∈ l ++ r := fun h => List.mem_append_left _ h
  have inr : ∀ {l r : List He.Fa} {f : He.Fa}, f ∈ r → f ∈ l ++ r := fun h => List.mem_append_right _ h
  have cl : ∀ x ∈ clsl, Cls K (He.ga K x) := fun x hx => He.cls_ok (fact (.cls x) (inr (inr (inr (inr (inl (List.mem_map.mpr ⟨x, hx, rfl⟩)))))))
  constructor
  · intro i d hd
    have e2 : (fnl.map fun d => He5.fnA K (d.at_ K))[i]? = (fnl.map He5.DefA.val)[i]? := by rw [c.f]
    rw [List.getElem?_map, List.getElem?_map, hd] at e2
    exact He5.DefA.funD (Option.some.inj e2) (List.all_eq_true.mp b2 d (List.mem_of_getElem? hd))
  · exact fun i x hx => He.glo_ok X G (fact (.glo x) (inl (List.mem_map.mpr ⟨x, List.mem_of_getElem? hx, rfl⟩)))
  · exact fun i x hx => He.free_ok X G (fact (.free x) (inr (inl (List.mem_map.mpr ⟨x, List.mem_of_getElem? hx, rfl⟩))))
  · exact fun i p hp => He.int_ok X G (fact (.int p.1 p.2) (inr (inr (inl (List.mem_map.mpr ⟨p, List.mem_of_getElem? hp, rfl⟩)))))
  · exact fun i p hp => He.str_ok X G (fact (.str p.1 p.2) (inr (inr (inr (inl (List.mem_map.mpr ⟨p, List.mem_of_getElem? hp, rfl⟩))))))
  · exact fun p hp => ⟨cl p.1 ((by decide +kernel : ∀ p ∈ kcl, p.1 ∈ clsl) p hp), He.noat_ok (fact (.noat p.1 p.2) (inr (inr (inr (inr (inr (inr (inr (List.mem_map.mpr ⟨p, hp, rfl⟩)))))))))⟩
  · exact fun i c hc => insB_ok (List.all_eq_true.mp m1 c (List.mem_of_getElem? hc))
  · exact fun i c hc => He.mkr_ok (fact (.mkr c) (inr (inr (inr (inr (inr (inl (List.mem_map.mpr ⟨c, List.mem_of_getElem? hc, rfl⟩))))))))
  · exact fun i c hc => cl c (List.mem_of_getElem? hc)
  · exact fun i p hp => He.meth_ok (fact (.meth p.1 p.2) (inr (inr (inr (inr (inr (inr (inl (List.mem_map.mpr ⟨p, List.mem_of_getElem? hp, rfl⟩)))))))))
  · exact osubB_ok m2
  · obtain ⟨z1, z2⟩ := He.ba m3
    exact ⟨He.eqO_ok z1, z2⟩
  · exact oaddB_ok m4
  · exact propB_ok m5
  · exact cmetB_ok m6
  · exact cmetB_ok m7
  · exact He.dicW_ok c.c
  · intro i p hp
    obtain ⟨u, e, t, r⟩ := He.valsB_ok m8 (q := (p.1, He.Dv.int p.2)) (List.mem_map.mpr ⟨p, List.mem_of_getElem? hp, rfl⟩)
    exact ⟨t, by rw [e, r]⟩
  · exact fun i c hc => errB_ok (List.all_eq_true.mp m9 c (List.mem_of_getElem? hc))
  · exact deiB_ok m10
  · exact fun H => by
      have := He.tupB_ok m11 H
      rw [List.map_map] at this
      exact this
theorem law_at {l : PySem.W.OpenLaw} {w : World} {K : PySem.W.Frag} {mg : PySem.Str → Option Value} {fa : Addr} {h : Heap} (X : K.In h) (G : h.Ns mainGlobals mg) (c : SaysW w h K) (hmg : mg "law" = some (.ref fa)) : LawAtS l w K (L2.CX l.prog w) 12 63 "_law_script" mg fa h := by
  have W : ∀ base : Heap, Wf l.prog w K mg base := fun base => wf_of X G c
  obtain ⟨fd, F⟩ := (W h).fn _ _ in_law
  have hb := FunD.bindsA (ps := ["_law_script"]) F fun _ _ _ _ _ _ us hl => match us, hl with | [_], _ => rfl
  have ef : fa = d_law.at_ K := by
    have := (W h).glo 73 "law" rfl
    rw [hmg] at this
    cases this
    rfl
  subst ef
  obtain ⟨oc, od, dV, kV, doc, pm, an, cdv, ct, osl, efd, lk, hcd, hD, hK⟩ := F.ex
  subst efd
  obtain ⟨cd, rfl⟩ := He.codeIn_ref hcd
  have ec : He.codeOf K lawp = cd := He.codeOf_eq (p := lawp) lk rfl
  refine ⟨_, [He.cT K lawp], spLaw K (He.cT K lawp).2, fun p hp => ?_, fun p hp => ?_, fun p hp => ?_, fun s u => hb s [u] rfl, fun H a ns hl _ hT hS => ?_, fun base KI GI hTB => ?_⟩
  · rw [List.mem_singleton.mp hp]
    exact c.empty
  · rw [List.mem_singleton.mp hp]
    exact c.out
  · rw [List.mem_singleton.mp hp]
    exact PySem.W.codeHd_of_K X c.hd
  · exact ⟨a, ns, rfl, hl, hT _ (List.mem_singleton.mpr rfl), hS, fun _ => rfl⟩
  · have TB := hTB _ (List.mem_singleton.mpr rfl)
    have e1 : (He.cT K lawp).1 = cd := ec
    rw [e1] at TB
    exact ok_law (W base) lk hcd TB
end K33
set_option maxHeartbeats 0
namespace K33
open PySem PySem.W PySem.Calls PyProof.Rows
theorem walk : WalkO qv names (XL qv []) hookW.says (OpenLaw.row PySem.Challenge.rw_usualdays_k33_whole_derivations_made).toRowW (HandSHeadRun.topDef (OpenLaw.row PySem.Challenge.rw_usualdays_k33_whole_derivations_made).prog 103) [] fun f vs => PySem.call f vs := by
  refine LamX.walk_ofTsE (l := PySem.Challenge.rw_usualdays_k33_whole_derivations_made) (n := 63) (k := 12) (x := "_law_script") (CX := fun w => L2.CX PySem.Challenge.rw_usualdays_k33_whole_derivations_made.prog w) rfl (by decide) law_plain ⟨rfl, by decide, by decide⟩ ?F ?X
  case F =>
    intro w mg fa h Y G hmg0
    obtain ⟨K, KX, c⟩ := Y
    have hmg : mg ("law" : PySem.Str) = some (.ref fa) := by
      rw [← law_name]
      exact hmg0
    exact ⟨K, KX, law_at KX G c hmg⟩
  case X =>
    intro w H s e s' hh
    obtain ⟨_, _, _, _, _, _, _, _, _, _, _, _, hE⟩ := hh
    exact hE
end K33
open PySem PySem.W PySem.Calls PyProof.Rows
theorem PySem.Challenge.cw_usualdays_k33_whole_derivations_made_holds : PySem.Challenge.rw_usualdays_k33_whole_derivations_made.Holds := by
  exact K33.holds_of_walk K33.run K33.walk
