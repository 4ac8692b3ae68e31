import PyProof.Rows.All
import Wide.All
import OpenK.AllK
import Wide.FinOn
import KE.KStateDown
import KE.KOpsOwn
import KE.GoesMore
import KE.GoesEnum
import HandS.ForMost
import HandS.ForExc
import HandS.ForSpec
import HandS.More
import HandS.Conv
import HandS.Zip
import HandS.Walk
import HandS.IsInst
import HandS.Flow
import HandS.Style
import HandS.Defaults
import HandS.ExcInit
import HandS.ExcField
import HandS.ExcIs
import HandS.TryMany
import HandS.Codes
import HandS.Star
import HandS.ClsMeth
import HandS.OwnEq
import HandS.SlotsOwn
import HandS.Wide
import HandS.Sort
import HandS.SortKw
import HandS.SortInts
import HandS.Deep
import HandS.DictComp
import HandS.ListItems
import HandS.TupLe
import HandS.TupAny
import HandS.TupMul
import HandS.DictTup
import HandS.CallSlots
import HandS.EndBits
import HandS.Head0
import HandS.Head1
import HandS.Head2
import HandS.HeadEnd
import HandS.HeadHook1
import HandS.HeadHook2
import HandS.HeadNt
import KE.KExcIs
import HandS.OwnIter
import HandS.IterNext
import HandS.IterVal
import HandS.ExcValue
import PySem.Challenge.RW_triedtells_k64_charts_of_weavings
import HandS.SetKeys
import KE.SortKeyHeap
import KE.SortData
import PyProof.CallStr
import PyProof.DictMoreH
import KE.DatumOrd
import HandS.Property
import HandS.MakeKwOnly
import HandS.SetTxt0
import HandS.SetFor
import HandS.NoneIn
import KE.DataFind
import KE.GoesNew
import KE.KDictZip
import KE.KItemsList
import KE.KDictDisplayH
set_option Elab.async false
set_option linter.all false
set_option maxRecDepth 100000
set_option maxHeartbeats 4000000
namespace TT
open PySem PySem.Spec PyProof.Rows L2
structure DX where
  ad : PySem.W.Frag → Addr
  name : Str
  qual : Str
  st : Stmt
  dfl : List He.Dv := []
  kwd : List (Str × He.Dv) := []
def fnAt (K : PySem.W.Frag) (f : Addr) : He.FnW :=
  match K.lookup f with
  | some ⟨_, _, .func fd, _⟩ => some (fd.name, fd.qualname, fd.params, fd.body, fd.scope, fd.globals, fd.closure, fd.builtins)
  | _ => none
def fnGood (K : PySem.W.Frag) (f : Addr) (q : Str) (ds : List V) (ks : List (Str × V)) : Bool :=
  PySem.W.keepIn K (.ref f) &&
  match K.lookup f with
  | some ⟨_, _, .func fd, _⟩ => PySem.W.codeIn K fd.code q && He.dflB K fd.defaults ds && He.kwdB K fd.kwdefaults ks
  | _ => false
def DX.dvs (K : PySem.W.Frag) (d : DX) : List V := d.dfl.map fun z => z.v K
def DX.kws (K : PySem.W.Frag) (d : DX) : List (Str × V) := d.kwd.map fun z => (z.1, z.2.v K)
def DX.good (K : PySem.W.Frag) (d : DX) : Bool := fnGood K (d.ad K) d.qual (d.dvs K) (d.kws K)
def DX.want (d : DX) : He.FnW :=
  some (d.name, d.qual, defArgs d.st, .stmts (defBody d.st), defScope d.st, mainGlobals, [], builtinsNs)
abbrev FX (K : PySem.W.Frag) (x q : Str) (st : Stmt) (ds : List V) (ks : List (Str × V)) (f : Addr) (fd : FuncData) : Prop :=
  FunD K x q (defArgs st) (defBody st) (defScope st) ds ks f fd
theorem fx_of {K : PySem.W.Frag} {f : Addr} {x q : Str} {st : Stmt} {ds : List V} {ks : List (Str × V)}
    (e : fnAt K f = some (x, q, defArgs st, .stmts (defBody st), defScope st, mainGlobals, [], builtinsNs))
    (g : fnGood K f q ds ks = true) : ∃ fd, FX K x q st ds ks f fd := by
  unfold fnGood at g
  rw [Bool.and_eq_true] at g
  obtain ⟨kp, g⟩ := g
  unfold fnAt at e
  rcases hk : K.lookup f with _ | ⟨oc, od, dt, sl⟩
  · simp [hk] at g
  · rw [hk] at e g
    cases dt <;> try (simp at g; done)
    rename_i fd
    simp only [Bool.and_eq_true] at g
    obtain ⟨⟨g1, g2⟩, g3⟩ := g
    have e' := Option.some.inj e
    obtain ⟨a1, a2, a3, a4, a5, a6, a7, a8, a9, a10, a11, a12, a13, a14, a15⟩ := fd
    simp only [Prod.mk.injEq] at e'
    obtain ⟨h1, h2, h3, h4, h5, h6, h7, h8⟩ := e'
    subst h1 h2 h3 h4 h5 h6 h7 h8
    exact ⟨_, ⟨oc, od, a8, a9, a10, a11, a12, a13, a14, sl, rfl, hk, g1, He.dflB_ok g2, He.kwdB_ok g3⟩, kp⟩
abbrev SeenX : Type := Bool × List He.FnW
def seenX (fb : PySem.W.Frag → Bool) (fn : List DX) (K : PySem.W.Frag) : SeenX :=
  (fb K && fn.all (fun d => d.good K), fn.map fun d => fnAt K (d.ad K))
def wantX (fn : List DX) : SeenX := (true, fn.map DX.want)
def seenG (n : Nat) (fb : PySem.W.Frag → Bool) (fn : List DX) (g : Addr → Option Obj) : SeenX := seenX fb fn (He.frG g (cStatics :: He.asD g n))
def Tells (fb : PySem.W.Frag → Bool) (fn : List DX) (K : PySem.W.Frag) : Prop := seenX fb fn K = wantX fn
def hookX (n : Nat) (fb : PySem.W.Frag → Bool) (fn : List DX) : PySem.W.Hook where
  α := SeenX
  obs := fun s => seenG n fb fn s.heap.get?
  val := fun _ => wantX fn
  says := fun _ h => ∃ K : PySem.W.Frag, K.In h ∧ Tells fb fn K
  of := fun _ _ e => ⟨_, He.frG_in, e⟩
  keeps := fun _ _ _ ⟨K, hK, c⟩ k => ⟨K, hK.keeps k, c⟩
theorem seenG_eq {n : Nat} {fb : PySem.W.Frag → Bool} {fn : List DX} {g : Addr → Option Obj} {s : Shared} (h : ∀ a, g a = s.heap.get? a) :
    seenG n fb fn g = (hookX n fb fn).obs s := by
  have e : g = s.heap.get? := funext h
  subst e
  rfl
theorem Tells.fb {fb : PySem.W.Frag → Bool} {fn : List DX} {K : PySem.W.Frag} (c : Tells fb fn K) : fb K = true := by
  have z : (fb K && fn.all (fun d => d.good K)) = true := congrArg Prod.fst c
  rw [Bool.and_eq_true] at z
  exact z.1
theorem Tells.fx {fb : PySem.W.Frag → Bool} {fn : List DX} {K : PySem.W.Frag} (c : Tells fb fn K) (i : Nat) {d : DX} (h : fn[i]? = some d) :
    ∃ fd, FX K d.name d.qual d.st (d.dvs K) (d.kws K) (d.ad K) fd := by
  have z : (fb K && fn.all (fun d => d.good K)) = true := congrArg Prod.fst c
  rw [Bool.and_eq_true] at z
  have y : fn.map (fun d => fnAt K (d.ad K)) = fn.map DX.want := congrArg Prod.snd c
  have y2 : (fn.map (fun d => fnAt K (d.ad K)))[i]? = (fn.map DX.want)[i]? := by rw [y]
  rw [List.getElem?_map, List.getElem?_map, h] at y2
  exact fx_of (Option.some.inj y2) (List.all_eq_true.mp z.2 d (List.mem_of_getElem? h))
end TT
namespace TT
open PySem PySem.Spec PyProof.Rows L2
theorem same_new {H : Hp} {p : Addr} {o : HO} (h : H p = none) : Same H (upd H p o) := fun a u e => by
  rw [upd_ne (ne_of_none e h)]
  exact e
theorem same_t {K : PySem.W.Frag} {H H1 : Hp} {a : Addr} {xs : List V} (s : Same H H1) (h : SqT K H a xs) : SqT K H1 a xs := h.ext s
theorem same_l {K : PySem.W.Frag} {H H1 : Hp} {a : Addr} {xs : List V} (s : Same H H1) (h : SqL K H a xs) : SqL K H1 a xs := h.ext s
structure Cal (P : Program) (w : World) (K : PySem.W.Frag) (mg : Str → Option Value) (base : Heap) (x : Str) (k : Nat) (sp : Sp) : Prop where
  ex : ∃ f : Addr, mg x = some (.ref f) ∧ PySem.W.keepIn K (.ref f) = true ∧ FnR P w K mg base (L2.CX P w) k f sp
structure Met (P : Program) (w : World) (K : PySem.W.Frag) (mg : Str → Option Value) (base : Heap) (C : Addr) (m : Str) (k : Nat) (sp : Sp) : Prop where
  cl : Cls K C
  ex : ∃ f : Addr, Meth K C m f ∧ FnR P w K mg base (L2.CX P w) k f sp
structure Mak (P : Program) (w : World) (K : PySem.W.Frag) (mg : Str → Option Value) (base : Heap) (x : Str) (C : Addr) (k : Nat) (sp : Sp) : Prop where
  at_ : mg x = some (.ref C)
  ex : ∃ f : Addr, Mk K C f ∧ FnR P w K mg base (L2.CX P w) k f sp
def tF (sp : Sp) (E : XK) (t : TA) : TE := fun σ H Q => t σ H fun vs H1 => sp vs H1 Q E
section
variable {X : Cx} {x m : Str} {C : Addr} {k j : Nat} {sp : Sp} {E : XK} {e o : Expr} {es : List Expr} {to : TE} {t : TA} {p pos apos : Pos} {pl : Sem Bool}
theorem pe_f (c : Cal X.prog X.w X.K X.mg X.base x k sp) (hr : Room j X.A) (hk : k ≤ j) (hg : Gl X x) (hx : Passes (L2.CX X.prog X.w) X E) (ha : PA X (e :: es) t)
    (hd : (x == ("__debug__" : Str)) = false := by decide) (h1 : starEach (e :: es) X.env = (false, eval e X.env) :: starEach es X.env := by rfl)
    (h2 : (backTo pos (starEach es X.env)).any (·.1) = false := by rfl) : PE X (.Call (.Name x p) (e :: es) [] pos) (tF sp E t) := ⟨fun pins s σ H Q I h => by
  obtain ⟨f, hm, kp, F⟩ := c.ex
  exact wpAny_Call_Name_kw (ld_glob I hg hm (PySem.W.callWith_K (h₀ := X.base) I.ok.mod.kin kp
    (thn (ha.run pos pins s σ H _ I h) fun us s1 ⟨vs, H1, I1, r, q⟩ => ⟨I1.kIn, wpAny_call (run_fnR F (hr.mono hk) hx I1 r q)⟩) h1 h2) hd)⟩
theorem pe_m0 (c : Met X.prog X.w X.K X.mg X.base C m k sp) (hr : Room j X.A) (hk : k ≤ j) (hx : Passes (L2.CX X.prog X.w) X E) (ho : PE X o to)
    (h3 : eval (.Call (.Attribute o m apos) [] [] pos) X.env = (eval o X.env >>= fun ov => standAt apos.atName >>= fun _ => holding [ov] (getMethod ov m pl) >>= fun fr =>
      callWith pos fr.1 fr.2 (backTo pos (starEach [] X.env)) (backToKw pos (keywordEach [] X.env))) := by rfl) :
    PE X (.Call (.Attribute o m apos) [] [] pos) (tMethR C m sp E to tNil) := ⟨fun pins s σ H Q I h => by
  obtain ⟨f, hm, F⟩ := c.ex
  refine PySem.W.methodCall_KW (pl := pl) (thn (ho.run pins s σ H _ I h) fun u s1 hh => ?_) h3
  obtain ⟨v, H1, I1, rv, a, dx, fs, ev, ea, l, q⟩ := hh
  subst ev
  cases (show u = Value.ref a from rv)
  exact getmeth_ok I1 ea c.cl hm l (PySem.W.callWith_K0 (first := [.ref a]) I1.kIn hm.kp (wpAny_call (run_fnR (us := [.ref a]) (vs := [.ref a]) F (hr.mono hk) hx I1 (.cons rfl .nil) q)))⟩
theorem pe_k (c : Mak X.prog X.w X.K X.mg X.base x C k sp) (hr : Room j X.A) (hk : k + 1 ≤ j) (hg : Gl X x) (hx : Passes (L2.CX X.prog X.w) X E) (ha : PA X (e :: es) t)
    (hd : (x == ("__debug__" : Str)) = false := by decide) (h1 : starEach (e :: es) X.env = (false, eval e X.env) :: starEach es X.env := by rfl)
    (h2 : (backTo pos (starEach es X.env)).any (·.1) = false := by rfl) : PE X (.Call (.Name x p) (e :: es) [] pos) (StX.tMakeR C sp E t) := by
  obtain ⟨f, M, F⟩ := c.ex
  exact StX.pe_makeR M F (hr.mono hk) hg c.at_ hx ha hd h1 h2
end
structure Own (K : PySem.W.Frag) (C : Addr) : Prop where
  cl : Cls K C
  ca : PySem.W.findIn K (.ref C) "__class__" = some (some (.builtin "object.__class__"))
  cn : PySem.W.specialIn K (.builtin "object.__class__") "__get__" = some (some (.builtin "getset_descriptor.__get__"))
  ct : PySem.W.takesIn K (.builtin "object.__class__") = some true
  cm : PySem.W.mroIn K C (.type "object") = some true
  sf : PySem.W.selfFirst K C = true
theorem Own.ty {K : PySem.W.Frag} {H : Hp} {a C dx : Addr} {fs : List (Str × V)} (c : Own K C) (h : H a = some (.ins C dx fs)) : TyX K H (.ref a) (.ref C) :=
  .base (.ins h c.cl c.ca c.cn c.ct c.cm)
theorem ty_t {K : PySem.W.Frag} {H : Hp} {a : Addr} {xs : List V} (h : SqT K H a xs) : TyX K H (.ref a) (.type "tuple") := by
  rcases h with (h | ⟨o, h⟩) | ⟨o, its, n, h, c, _⟩
  · exact .base (.tup h)
  · exact .fTuple h
  · exact .kTuple h c
section
variable {X : Cx} {C : Addr} {k j : Nat} {sp : Sp} {E : XK} {f : Addr}
def rOwnC (K : PySem.W.Frag) (C : Addr) (sp : Sp) (E : XK) : R2 := fun x y H Q => ∃ a dx fs t, x = .ref a ∧ H a = some (.ins C dx fs) ∧ TyX K H y t ∧ PySem.W.notFirst K C t = true ∧ sp [x, y] H Q E
theorem op_eqO (c : Met X.prog X.w X.K X.mg X.base C "__eq__" k sp) (hr : Room j X.A) (hk : k ≤ j) (hx : Passes (L2.CX X.prog X.w) X E) : OpR X (compareOp .Eq) (rOwnC X.K C sp E) := by
  intro pins s σ H x y v u Q I rx ry h
  obtain ⟨a, dx, fs, t, rfl, ha, ty, nf, q⟩ := h
  obtain ⟨f, hm, F⟩ := c.ex
  cases (show v = Value.ref a from rx)
  obtain ⟨mA, O, _⟩ := ins_get I.hok ha
  obtain ⟨od, J, _⟩ := O.look
  obtain ⟨P, Z, hp, _⟩ := kit_of I ry ty
  obtain ⟨m, hF⟩ := I.fr
  show wpAny _ _ (richCompare .Eq (.ref a) u) _ _ s
  refine PySem.W.cmp_K (op := .Eq) (tb := t) hr.units0 hF I.ok.mod.kin J (Z.ty _ _ I.kIn hp) nf hm.at_ hm.fn ?_
  refine wpAny_mono (wpAny_call (run_fnR (us := [.ref a, u]) (vs := [.ref a, y]) F (hr.mono hk) hx I (.cons rfl (.cons ry .nil)) q)) (fun w s' z => ?_) fun _ _ z => z
  obtain ⟨z', H', I', rz, qz⟩ := z
  exact SlX.cmpback rz ⟨z', H', I', rz, qz⟩
theorem OpR_or {g : Value → Value → Sem Value} {r r' : R2} (h : OpR X g r) (h' : OpR X g r') : OpR X g (fun x y H Q => r x y H Q ∨ r' x y H Q) := by
  intro pins s σ H x y v u Q I rx ry q
  rcases q with q | q
  · exact h pins s σ H x y v u Q I rx ry q
  · exact h' pins s σ H x y v u Q I rx ry q
end
end TT
namespace PySem
open Sem (wp)
open AutoSeq1 (wpAny_loadPart')
set_option maxHeartbeats 1000000 in
theorem tt_enum_new (t : Addr) (items : Array Value) :
    Meets (Builtin.«enumerate.__new__» ⟨[.type "enumerate", .ref t], []⟩) (fun _ R s => s.heap.IsTuple t items ∧
      R (.ok (.ret (.ref (s.heap.push { cls := .type "tuple_iterator", data := .fields #[.ref t, .int 0 0] }).objs.size)))
        { s with heap := ((s.heap.push { cls := .type "tuple_iterator", data := .fields #[.ref t, .int 0 0] }).push ({ cls := .type "enumerate", data := .fields #[.none, .bool false, .ref s.heap.objs.size, rawInt 0, .none, .none] } : Obj)) }) :=
  .of_wp fun prog w A R s h => by
    obtain ⟨hp, g, d, tk, os⟩ := s
    obtain ⟨hl, h⟩ := h
    have hsub := sub_enumerate
    have hT : Heap.IsTuple (Shared.heap ⟨hp, g, d, tk, os⟩) t items := hl
    wp_walk
    refine wpAny_stack_any fun st => wpAny_pure ?_
    split
    · rename_i c _ _ _ _ _
      cases (c == Value.type "enumerate") <;>
        (wp_walk using wpAny_pyIter_tuple hT; exact ⟨_, rfl, h⟩)
    · wp_walk using wpAny_pyIter_tuple hT
      exact ⟨_, rfl, h⟩
theorem tt_enum_tuple {prog : Program} {w : World} {A : Around} {E : Value → Shared → Prop} {s : Shared} {t : Addr} {items : Array Value} {Q : Value → Shared → Prop} (ht : s.heap.IsTuple t items)
    (h : ∀ h', IsEnum h' (s.heap.objs.size + 1) s.heap.objs.size 0 .none → h'.IsTupleIter s.heap.objs.size t 0 →
      (∀ b o, s.heap.get? b = some o → h'.get? b = some o) → Q (.ref (s.heap.objs.size + 1)) { s with heap := h' }) :
    wpAny (model prog w) A (call (.type "enumerate") [.ref t]) Q E s := by
  refine callType_new F.called_enumerate (by decide) (F.typeCall_enumerate_1 _) (F.newCall_enumerate_1 _) (fun obj => F.args_object_init_2 obj _) F.entry_enumerate_new (tt_enum_new t items) ⟨ht, ?_⟩
  generalize ho : ({ cls := .type "tuple_iterator", data := .fields #[.ref t, .int 0 0] } : Obj) = o
  have hz : (s.heap.push o).objs.size = s.heap.objs.size + 1 := Heap.size_push ..
  have fr : o.isFreed = false := by subst ho; rfl
  show _ ∧ _
  rw [hz]
  generalize hn : ({ cls := .type "enumerate", data := .fields #[.none, .bool false, .ref s.heap.objs.size, rawInt 0, .none, .none] } : Obj) = en
  have fe : en.isFreed = false := by subst hn; rfl
  have z := Heap.get?_push_size (s.heap.push o) fe
  rw [hz] at z
  have he : IsEnum ((s.heap.push o).push en) (s.heap.objs.size + 1) s.heap.objs.size 0 .none := by
    subst hn
    exact z
  refine ⟨⟨_, he, rfl⟩, h _ he ⟨o, Heap.get?_push_of_some _ (Heap.get?_push_size _ fr), by subst ho; rfl, by subst ho; rfl⟩ fun b ob x => ?_⟩
  exact Heap.get?_push_of_some _ (Heap.get?_push_of_some _ x)
end PySem
namespace TT
open PySem PySem.Spec PyProof.Rows L2
def Iet (K : PySem.W.Frag) (a : Addr) : It where
  go := fun i H => ∃ (xs : List V) (x : V), SqT K H a xs ∧ xs[i]? = some x
  yld := fun i H v H' => ∃ q x, v = .ref q ∧ H q = none ∧ H' = upd H q (.tup [.int (i : Nat), x]) ∧ ∀ xs, SqT K H a xs → xs[i]? = some x
  stop := fun i H => ∃ xs : List V, SqT K H a xs ∧ xs.length ≤ i
theorem turn_et {P : Program} {w : World} {K : PySem.W.Frag} {elts : List Expr} {kk : Nat} {tpos : Pos} (a e it : Addr) (hai : a ≠ it) :
    Turn P w K (.Tuple elts kk tpos) (Iet K a) [e, it] e (fun i h => (∃ old, IsEnum h e it ((i : Nat) : Int) old) ∧ h.IsTupleIter it a i ∧ e ≠ it ∧ e ≠ a) where
  mem := by simp
  obj := fun i h st b hb => by
    obtain ⟨⟨old, he⟩, ⟨o, ho, hc, hd⟩, _⟩ := st
    rcases (show b = e ∨ b = it by simpa using hb) with rfl | rfl
    · exact ⟨_, he, fun v q => nomatch q⟩
    · exact ⟨o, ho, fun v q => by rw [hd] at q; cases q⟩
  keep := fun i h h' st k => by
    obtain ⟨⟨old, he⟩, hi, hne⟩ := st
    exact ⟨⟨old, k e (by simp) _ he⟩, hi.at fun o q => k it (by simp) o q, hne⟩
  item := by
    intro X hP hw hK hc i pins s σ H E I hf st hg
    subst hP hw hK
    obtain ⟨⟨old, he⟩, hit, hne, hea⟩ := st
    obtain ⟨xs, x, hq, hx⟩ := hg
    obtain ⟨its, rv, p, hz⟩ := I.tuple hq
    obtain ⟨u, hu, ru⟩ := rv.get hx
    have le : e < s.heap.objs.size := Heap.lt_size he
    have li : it < s.heap.objs.size := by obtain ⟨_, q, _⟩ := hit; exact Heap.lt_size q
    have hlt : i < its.toArray.size := by
      have := (List.getElem?_eq_some_iff.mp hu).1
      simpa using this
    have D := Draws.tuple (prog := X.prog) (w := X.w) (A := X.A.in1) (I.ok.hd hc) it a hai its.toArray
    refine wpAny_pyNext_enum_itemD D he ⟨hit, p⟩ hlt hne (by simp [hne, hea]) fun y h' tk hy ho st' hT hsz hk => ?_
    have ey : y = u := by
      have z : its.toArray[i]? = some u := by simpa using hu
      rw [z] at hy
      exact (Option.some.inj hy).symm
    subst ey
    refine ⟨_, rfl, wpAny_letOwnedTupleGo_enum (s := { s with heap := h', toks := tk + 1 }) ho fun h2 he' sb => ?_⟩
    have hT2 := (sb.2 _ (Nat.ne_of_gt le)).trans hT
    have new : ObjOk X.prog X.w (upd H s.heap.objs.size (.tup [.int (i : Nat), x])) h2 s.heap.objs.size (.tup [.int (i : Nat), x]) :=
      ⟨by show 2 ≤ sizeLine; decide, [.int i tk, y], .cons ⟨_, rfl⟩ (.cons ru .nil), ⟨_, hT2, rfl, _, rfl⟩⟩
    have I1 := I.turnedNew (t' := tk + 1) (ch := [e, it]) (h' := h2) (fun b ob hb q => (sb.2 b (fun z => hb (by simp [z]))).trans
      (hk b ob (fun z => hb (by simp [z])) (fun z => hb (by simp [z])) q)) hf (Nat.le_refl _) new
    refine ⟨.ref s.heap.objs.size, _, I1, rfl, ⟨_, x, rfl, I.hok.fresh (Nat.le_refl _), rfl, fun ys hy' => by rw [I.tuple_inj hy' hq]; exact hx⟩,
      ⟨⟨y, ?_⟩, st'.1.at fun o q => (sb.2 it (Ne.symm hne)).trans q, hne, hea⟩, fun b hb => ?_⟩
    · have e1 : ((i + 1 : Nat) : Int) = (i : Int) + 1 := by omega
      rw [e1]
      exact he'
    · have hb' : b < s.heap.objs.size := by
        rcases (show b = e ∨ b = it by simpa using hb) with rfl | rfl
        · exact le
        · exact li
      rw [upd_ne (Nat.ne_of_lt hb')]
      exact (hf b hb).1
  done := by
    intro X hP hw hK hc i pins s σ H E I hf st hg
    subst hP hw hK
    obtain ⟨⟨old, he⟩, hit, hne, hea⟩ := st
    obtain ⟨xs, hq, hx⟩ := hg
    obtain ⟨its, rv, p, hz⟩ := I.tuple hq
    obtain ⟨f0, f1, f2, f3, f4, f5⟩ := hf it (by simp)
    have hl := rv.length
    refine wpAny_bind (wpAny_attempt (wpAny_callSpecial?_slot (name := Str.ofString "__next__") ⟨_, he, rfl⟩ F.slot_enumerate_next
      (wpAny_call_entry F.slot_enumerate_next ⟨_, he, rfl⟩ F.entry_enumerate_next ?_ (F.args_enumerate_next_1 _))))
    show wpAny _ _ (field (.ref e) 2 >>= _) _ _ _
    refine wpAny_bind (wpAny_field he rfl (x := .ref it) rfl ?_)
    refine wpAny_bind (wpAny_nextOf_tuple_end (A := X.A.in1) (I.ok.hd hc) hit p (by simp; omega) fun h' x he' hx' => ?_)
    obtain ⟨o, ho, hcl⟩ := hx'
    refine wpAny_bind (wpAny_isInstance (T := "StopIteration") (b := true) ⟨o, ho, hcl⟩ isSubtype_stop ?_)
    exact wpAny_pure ⟨rfl, I.turned (t' := s.toks) (fun b o hb q => he' b o hb q) f0 f1 f3 f4 f5⟩
  self := fun A i s Q E st h => let ⟨⟨_, he⟩, _⟩ := st; wpAny_pyIter_enum he h
theorem walk_et {K : PySem.W.Frag} {a : Addr} {xs : List V} : Walk (Iet K a) xs.length (fun H => SqT K H a xs) (YPair (fun i => some (.int (i : Nat))) (fun i => xs[i]?)) where
  goes := fun i H hi hq => ⟨xs, xs[i], hq, by simp [hi]⟩
  stops := fun H hq => ⟨xs, hq, Nat.le_refl _⟩
  yields := fun i H v H' hi hq ⟨q, x, e1, e2, e3, e4⟩ => ⟨q, _, x, e1, e2, e3, rfl, e4 xs hq⟩
def rEqU (K : PySem.W.Frag) : R2 := fun x y H Q => rEq x y H Q ∨ rEqD K x y H Q
def rNeU (K : PySem.W.Frag) : R2 := fun x y H Q => rNe x y H Q ∨ rNeD K x y H Q
def rLenU (K : PySem.W.Frag) : List V → Hp → VK → Prop := fun xs H Q => ∃ p ys, xs = [.ref p] ∧ (SqL K H p ys ∨ SqT K H p ys) ∧ Q (.int ys.length) H
def rSlU (K : PySem.W.Frag) : V → Option Int → Option Int → Hp → VK → Prop := fun x lo hi H Q => rSlL K x lo hi H Q ∨ rSlA K x lo hi H Q
section
variable {X : Cx}
theorem op_eqU (hu : X.A.units + 64 < cLine) : OpR X (compareOp .Eq) (rEqU X.K) := OpR_or op_eq (op_eqD hu)
theorem op_neU (hu : X.A.units + 64 < cLine) : OpR X (compareOp .NotEq) (rNeU X.K) := OpR_or op_ne (op_neD hu)
theorem call_lenU : CallR X (.builtin "len") (rLenU X.K) := call_len_seq
theorem sl_U : SlR X (rSlU X.K) := sl_list.or sl_tupA
variable {K : PySem.W.Frag}
theorem opK {g : Value → Value → Sem Value} {r : PySem.W.Frag → R2} (h : OpR X g (r X.K)) (hK : X.K = K) : OpR X g (r K) := by subst hK; exact h
theorem k_eq (hK : X.K = K) (hu : X.A.units + 64 < cLine) : OpR X (compareOp .Eq) (rEqU K) := opK (r := rEqU) (op_eqU hu) hK
theorem k_ne (hK : X.K = K) (hu : X.A.units + 64 < cLine) : OpR X (compareOp .NotEq) (rNeU K) := opK (r := rNeU) (op_neU hu) hK
theorem k_len (hK : X.K = K) : CallR X (.builtin "len") (rLenU K) := by subst hK; exact call_lenU
theorem k_isi (hK : X.K = K) : CallR X (.builtin "isinstance") (rIsi K) := by subst hK; exact call_isi
theorem k_all (hK : X.K = K) (hc : X.calm = true) : CallR X (.builtin "all") (rAll K) := by subst hK; exact cr_all hc
theorem k_ix (hK : X.K = K) : IxR X (rIx K) := by subst hK; exact ix_seq
theorem k_sl (hK : X.K = K) : SlR X (rSlU K) := by subst hK; exact sl_U
section
variable {e : Expr} {te : TE} {f : Str} {pos pos' : Pos} {o value : Expr} {ta tv : TE} {tg l : Expr} {ts : TA} {es : List Expr}
theorem k_fld (hK : X.K = K) (he : PE X e te) (hb : attributeBase e f X.env (eval e X.env) = eval e X.env := by rfl) : PE X (.Attribute e f pos) (tFld K te f) := by subst hK; exact pe_fld he hb
theorem k_put (hK : X.K = K) (ha : PE X o ta) (hv : PE X value tv) (hs : swapsWith value (some (.Attribute o f pos')) pos.line X.env = pure false := by rfl) : PS X (.Assign [.Attribute o f pos'] value pos) (sFld K ta tv f) := by subst hK; exact ps_fld ha hv hs
def tTr (K : PySem.W.Frag) (ta : TE) : TT := fun σ H Q => ta σ H fun x H' => ∃ k, TruV K x H' k ∧ Q k H'
theorem k_tr (hK : X.K = K) (ha : PE X e te) (he : ∀ whole, isTrue e X.env whole = (do let v ← whole; standAt e.pos; holding [v] (truthy v)) := by intro _; rfl) : PT X e (tTr K te) := by subst hK; exact pt_truth ha he
theorem k_gtup {k : Nat} {t : TGs} {n : Nat} (hK : X.K = K) (hc : X.calm = true) (h : PGs X es t) (hn : (assignEach es X.env).length = n := by rfl) (hst : (assignEach es X.env).findIdx? (·.1) = none := by rfl) : PG X (.Tuple es k pos) (gTup K n t) := by subst hK; exact pg_tup hc h hn hst
theorem k_bm {T : String} {name : Str} {id : String} {r : V → List V → Hp → VK → Prop} {apos cpos : Pos} {e1 : Expr} (hK : X.K = K) (pa : PlainAttrs T) (slot : Slot T name id) (hty : typeOf (.builtin id) = pure (.type "method_descriptor")) (hm : MtR X id r) (ho : PE X o te) (ha : PA X (e1 :: es) ts)
    (h1 : attributeBase o name X.env (eval o X.env) = eval o X.env := by rfl) (h2 : ((backTo cpos (starEach (e1 :: es) X.env)).all (fun x => !x.1) && (backToKw cpos (keywordEach [] X.env)).all (fun x => x.1.isSome) && decide ((e1 :: es).length + ([] : List Keyword).length + (if ([] : List Keyword).isEmpty then 0 else 1) < 30)) = true := by rfl)
    (h3 : (apos.endLine == cpos.line) = true := by rfl) (h4 : starEach (e1 :: es) X.env = (false, eval e1 X.env) :: starEach es X.env := by rfl) (h5 : (backTo cpos (starEach es X.env)).any (·.1) = false := by rfl) : PE X (.Call (.Attribute o name apos) (e1 :: es) [] cpos) (tBM K T r te ts) := by
  subst hK
  exact pe_bm pa slot hty hm ho ha h1 h2 h3 h4 h5
end
theorem pe_gv {x : Str} {pos : Pos} {v : V} (hg : Gl X x) (h : ∃ u, X.mg x = some u ∧ RelV v u) (hd : (x == ("__debug__" : Str)) = false := by decide) : PE X (.Name x pos) (tC v) := by
  obtain ⟨u, h1, h2⟩ := h
  exact pe_glob hg h1 h2 hd
end
end TT
namespace TT
open PySem PySem.Spec PyProof.Rows L2
def rInt1 : List V → Hp → VK → Prop := fun xs H Q => (∃ i, xs = [.int i] ∧ Q (.int i) H) ∨ ∃ k, xs = [.bl k] ∧ Q (.int (if k then 1 else 0)) H
theorem call_int1U {X : Cx} : CallR X (.type "int") rInt1 := call_int1
def rListU (K : PySem.W.Frag) : List V → Hp → VK → Prop := fun xs H Q => ∃ p ys, xs = [.ref p] ∧ (SqL K H p ys ∨ SqT K H p ys) ∧ ∀ l, H l = none → Q (.ref l) (upd H l (.lst ys))
theorem k_list {X : Cx} {K : PySem.W.Frag} (hK : X.K = K) : CallR X (.type "list") (rListU K) := by subst hK; exact call_list_of
def rTupU (K : PySem.W.Frag) : List V → Hp → VK → Prop := fun xs H Q => ∃ p ys, xs = [.ref p] ∧ ((SqL K H p ys ∧ ∀ l, H l = none → Q (.ref l) (upd H l (.tup ys))) ∨ (SqT K H p ys ∧ Q (.ref p) H))
theorem k_tuple {X : Cx} {K : PySem.W.Frag} (hK : X.K = K) : CallR X (.type "tuple") (rTupU K) := by subst hK; exact call_tuple_of
section
variable {K : PySem.W.Frag} {σ : L2.St} {H H1 : Hp} {Q : VK} {QA : List V → Hp → Prop} {QB : Bool → Hp → Prop} {D : Ends} {t u : TS} {ta tb tc te : TE} {ts : TA} {tt : TT} {i : Nat} {v x y : V} {a p b : Addr} {xs ys : List V} {m n : Int}
theorem g_seq (h : t { D with nx := u D } σ H) : tSeq t u D σ H := h
theorem g_set (h : te σ H fun z H1 => D.nx (σ.set i (some z)) H1) : tAsg te (gName i) D σ H := h
theorem g_c (q : Q v H) : tC v σ H Q := q
theorem atI_of {α : Type} {l : List α} {j : Nat} {z : α} {k : Int} (e : k = (j : Int)) (h : l[j]? = some z) : atI l k = some z := by rw [e]; exact atI_nat h
theorem sz {k : Nat} (h : k ≤ 100000) : k ≤ sizeLine := Nat.le_trans h (by decide)
end
end TT
open TT L2 in
local macro_rules | `(tactic| walk_at "tt") => `(tactic| first
  | with_reducible refine g_seq ?_
  | with_reducible refine g_set ?_
  | with_reducible refine g_c ?_)
namespace TT
open PySem PySem.Spec PyProof.Rows L2
def ownB (K : PySem.W.Frag) (C : Addr) : Bool :=
  PySem.W.plainGet K C Str.empty && PySem.W.hasDictIn K C && PySem.W.plainOver K C && He.eqO (PySem.W.findIn K (.ref C) "__setattr__") (some (some (.builtin "object.__setattr__"))) &&
  He.eqO (PySem.W.findIn K (.ref C) "__class__") (some (some (.builtin "object.__class__"))) &&
  He.eqO (PySem.W.specialIn K (.builtin "object.__class__") "__get__") (some (some (.builtin "getset_descriptor.__get__"))) &&
  decide (PySem.W.takesIn K (.builtin "object.__class__") = some true) && decide (PySem.W.mroIn K C (.type "object") = some true) && PySem.W.selfFirst K C
theorem ownB_ok {K : PySem.W.Frag} {C : Addr} (h : ownB K C = true) : Own K C := by
  unfold ownB at h
  simp only [Bool.and_eq_true] at h
  obtain ⟨⟨⟨⟨⟨⟨⟨⟨h1, h2⟩, h3⟩, h4⟩, h5⟩, h6⟩, h7⟩, h8⟩, h9⟩ := h
  exact ⟨⟨h1, h2, h3, He.eqO_ok h4⟩, He.eqO_ok h5, He.eqO_ok h6, of_decide_eq_true h7, of_decide_eq_true h8, h9⟩
theorem cx0_of {P : Program} {w : World} {K : PySem.W.Frag} {mg : Str → Option Value} {base : Heap} {f : Addr} {fd : FuncData} {ps : List Str} {k : Nat} {sp : Sp} (G : FnOk P w K mg base (L2.CX P w) k f fd ps sp) (h : ∀ vs H Q E, sp vs H Q E → sp vs H Q E0) : FnOk P w K mg base CX0 k f fd ps sp :=
  ⟨G.len, fun A outer s H args us vs Q E hr e0 hb hv hs => codeAny_mono (G.run A outer s H args us vs Q E0 hr e0 hb hv (h _ _ _ _ hs)) fun r s' q => by
    cases r with
    | ok fl => cases fl <;> exact q
    | error e =>
      obtain ⟨_, _, _, _, _, _, _, _, _, _, _, _, z⟩ := q
      exact z.elim⟩
section
variable {P : Program} {w : World} {K : PySem.W.Frag} {mg : Str → Option Value} {base : Heap} {x q m : Str} {st : Stmt} {f C : Addr} {fd : FuncData} {ps : List Str} {k : Nat} {sp : Sp} {ks : List (Str × V)}
theorem fnr_of (F : FX K x q st [] ks f fd) (G : FnOk P w K mg base (L2.CX P w) k f fd ps sp)
    (b : ∀ (kV doc pm : Value) (an : Option Addr) (cdv ct : Value) (us : List Value), us.length = ps.length → bindArgs (PySem.W.fnOf x q (defArgs st) (defBody st) (defScope st) .none kV doc pm an cdv ct) ⟨us, []⟩ = pure (ps.zip us)) :
    FnR P w K mg base (L2.CX P w) k f sp := (G.raw (F.bindsN b) .nil).imp fun vs H Q E h => by
  show sp (vs ++ []) H Q E
  rw [List.append_nil]
  exact h
theorem cal_of (F : FX K x q st [] ks f fd) (hm : mg x = some (.ref f)) (G : FnOk P w K mg base (L2.CX P w) k f fd ps sp)
    (b : ∀ (kV doc pm : Value) (an : Option Addr) (cdv ct : Value) (us : List Value), us.length = ps.length → bindArgs (PySem.W.fnOf x q (defArgs st) (defBody st) (defScope st) .none kV doc pm an cdv ct) ⟨us, []⟩ = pure (ps.zip us)) :
    Cal P w K mg base x k sp := ⟨f, hm, F.kp, fnr_of F G b⟩
theorem met_of (F : FX K x q st [] ks f fd) (cl : Cls K C) (hm : Meth K C m f) (G : FnOk P w K mg base (L2.CX P w) k f fd ps sp)
    (b : ∀ (kV doc pm : Value) (an : Option Addr) (cdv ct : Value) (us : List Value), us.length = ps.length → bindArgs (PySem.W.fnOf x q (defArgs st) (defBody st) (defScope st) .none kV doc pm an cdv ct) ⟨us, []⟩ = pure (ps.zip us)) :
    Met P w K mg base C m k sp := ⟨cl, f, hm, fnr_of F G b⟩
theorem mak_of {y : Str} (F : FX K x q st [] ks f fd) (hm : mg y = some (.ref C)) (M : Mk K C f) (G : FnOk P w K mg base (L2.CX P w) k f fd ps sp)
    (b : ∀ (kV doc pm : Value) (an : Option Addr) (cdv ct : Value) (us : List Value), us.length = ps.length → bindArgs (PySem.W.fnOf x q (defArgs st) (defBody st) (defScope st) .none kV doc pm an cdv ct) ⟨us, []⟩ = pure (ps.zip us)) :
    Mak P w K mg base y C k sp := ⟨hm, f, M, fnr_of F G b⟩
end
end TT
namespace TT
open PySem PySem.Spec PyProof.Rows L2
section
variable {K : PySem.W.Frag} {J : It} {n j : Nat} {G : Hp → Prop} {Y : Nat → Hp → V → Hp → Prop} {σ : L2.St} {H H1 : Hp} {te : TE} {tt : TT} {Q : VK}
end
end TT
namespace TT
open PySem PySem.Spec PyProof.Rows L2
structure Err (K : PySem.W.Frag) (C : Addr) : Prop where
  ox : OexC K C
  xf : XfC K C
  ca : PySem.W.findIn K (.ref C) "__class__" = some (some (.builtin "object.__class__"))
  cn : PySem.W.specialIn K (.builtin "object.__class__") "__get__" = some (some (.builtin "getset_descriptor.__get__"))
  ct : PySem.W.takesIn K (.builtin "object.__class__") = some true
  cm : PySem.W.mroIn K C (.type "object") = some true
  ic : (PySem.W.clsIn K C).isSome = true
  em : PySem.W.exmOne K (.ref C) (.ref C) = some true
def oexB (K : PySem.W.Frag) (C : Addr) : Bool := match K.lookup C with
  | some ⟨.type "type", _, .cls cd, sl⟩ => (match cd.mro, sl.toList with
    | .ref D :: bm, [_, _, _, _, some (.builtin n), _] => D == C && n == "ValueError.__new__" && !cd.hasDel && cd.hasDict && PySem.HandSPX.refsVE bm
    | _, _ => false)
  | _ => false
theorem oexB_ok {K : PySem.W.Frag} {C : Addr} (q : oexB K C = true) :
    ∃ nm q N bs bm sn sub ab col dd k0 k1 k2 k3 k5, K.lookup C = some (excClassObj nm q C N bs bm true sn sub ab col dd k0 k1 k2 k3 k5 "ValueError.__new__") ∧ PySem.HandSPX.refsVE bm = true := by
  unfold oexB at q
  split at q
  · rename_i dd cd sl ho
    split at q
    · rename_i D bm a0 a1 a2 a3 n a5 hm hs
      simp only [Bool.and_eq_true, beq_iff_eq, Bool.not_eq_true'] at q
      obtain ⟨⟨⟨⟨rfl, rfl⟩, q1⟩, q2⟩, q3⟩ := q
      obtain ⟨nm, bs, mro, ns, qn, hd, sn, sub, ab, col, dl⟩ := cd
      dsimp only at hm q1 q2
      subst hm q1 q2
      have es : sl = #[a0, a1, a2, a3, some (.builtin "ValueError.__new__"), a5] := by
        cases sl
        simp only at hs
        rw [hs]
      subst es
      exact ⟨nm, qn, ns, bs, bm, sn, sub, ab, col, dd, a0, a1, a2, a3, a5, ho, q3⟩
    · cases q
  · cases q
def errB (K : PySem.W.Frag) (C : Addr) : Bool :=
  oexB K C && He.eqO (PySem.W.findIn K (.ref C) "__setattr__") (some (some (.builtin "object.__setattr__"))) && decide (PySem.W.subIn K (.ref C) (.type "BaseException") = some true) &&
  (PySem.W.typeIn K (.ref C) == some (.type "type")) && PySem.W.keepIn K (.ref C) && xfB K C &&
  He.eqO (PySem.W.findIn K (.ref C) "__class__") (some (some (.builtin "object.__class__"))) && He.eqO (PySem.W.specialIn K (.builtin "object.__class__") "__get__") (some (some (.builtin "getset_descriptor.__get__"))) &&
  decide (PySem.W.takesIn K (.builtin "object.__class__") = some true) && decide (PySem.W.mroIn K C (.type "object") = some true) && (PySem.W.clsIn K C).isSome && decide (PySem.W.exmOne K (.ref C) (.ref C) = some true)
theorem errB_ok {K : PySem.W.Frag} {C : Addr} (h : errB K C = true) : Err K C := by
  unfold errB at h
  simp only [Bool.and_eq_true] at h
  obtain ⟨⟨⟨⟨⟨⟨⟨⟨⟨⟨⟨h1, h2⟩, h3⟩, h4⟩, h5⟩, h6⟩, h7⟩, h8⟩, h9⟩, h10⟩, h11⟩, h12⟩ := h
  exact ⟨⟨oexB_ok h1, He.eqO_ok h2, of_decide_eq_true h3, eq_of_beq h4, h5⟩, xfB_ok h6, He.eqO_ok h7, He.eqO_ok h8, of_decide_eq_true h9, of_decide_eq_true h10, h11, of_decide_eq_true h12⟩
def rIsX (K : PySem.W.Frag) (cls : Value) (d : Option Addr) (a : Addr) : List V → Hp → VK → Prop := fun xs H Q => ∃ (D : Addr) (c : V) (cv : Value) (b : Bool), cls = .ref D ∧ Err K D ∧ xs = [.ref a, c] ∧ (∀ dd, d = some dd → ∃ fs, H dd = some (.xd fs)) ∧
  (∀ u, RelV c u → u = cv) ∧ PySem.W.kitOne K (.ref D) cv = some b ∧ Q (.bl b) H
theorem call_isX {X : Cx} {a : Addr} {cls : Value} {d : Option Addr} {oe : Obj} {pn : List (Addr × Obj)} (hz : Zc cls d oe) (hf : ∃ vs, oe.data = .fields vs) : CallR (X.suite a ((a, oe) :: pn)) (.builtin "isinstance") (rIsX X.K cls d a) := by
  intro pins s σ H xs us Q I r h
  obtain ⟨D, c, cv, b, rfl, E, rfl, hdd, hcv, e, q⟩ := h
  cases r with
  | cons rx rr =>
    cases rr with
    | cons rt rr =>
      cases rr
      cases rx
      have ec := hcv _ rt
      subst ec
      obtain ⟨hget, _⟩ := I.pin (a, oe) (List.mem_append.mpr (.inl List.mem_cons_self))
      obtain ⟨vs, hv⟩ := hf
      have J : ∃ od, PySem.W.InstAt s.heap a oe D od := by
        obtain ⟨oc, od, oda, osl⟩ := oe
        obtain ⟨h1, h2⟩ := hz
        dsimp only at h1 h2 hv
        subst h1 h2 hv
        cases od with
        | none => exact ⟨none, hget, rfl, rfl, trivial⟩
        | some dd =>
          obtain ⟨fs, ed⟩ := hdd dd rfl
          have hx : ObjOk X.prog X.w H s.heap dd (.xd fs) := I.hok dd _ ed
          obtain ⟨mA, ⟨o, es, ep, ho, _⟩, _⟩ := hx
          exact ⟨some o, hget, rfl, rfl, ho⟩
      obtain ⟨od, J⟩ := J
      exact PySem.W.kia_one (PySem.W.kitx_exc E.ic E.xf.ga E.xf.gg E.xf.exC E.ca E.cn E.ct E.cm) I.kIn J e (fun z => nomatch z) fun tk => ⟨.bl b, H, I.kept (t' := tk) fun _ _ z => z, rfl, q⟩
def rOex (C : Addr) (sp : Sp) (vs : List V) (H1 : Hp) (Q : XK) : Prop := vs.length ≤ 1000 ∧ ∀ a, H1 a = none → sp (.ref a :: (vs ++ [])) (upd H1 a (exo a C none))
  (fun v H2 => v = .non ∧ ∃ (d : Addr) (fs : List (Str × V)), H2 a = some (exo a C (some d)) ∧ H2 d = some (exd d fs) ∧ H1 d = none ∧ Q (.ref C) (some d) (upd (del H2 a) d (.xd fs))) (fun _ _ _ => False)
def tOex (C : Addr) (sp : Sp) (ta : TA) : L2.St → Hp → XK → Prop := fun σ H Q => ta σ H fun vs H1 => rOex C sp vs H1 Q
def spI1 (C : Addr) (f : Str) : Sp := fun vs H Q _ => ∃ a v, vs = [.ref a, v] ∧ H a = some (exo a C none) ∧ ∀ dx, H dx = none → dx ≠ a → Q .non (upd (upd H dx (exd dx [(f, v)])) a (exo a C (some dx)))
structure Rai (P : Program) (w : World) (K : PySem.W.Frag) (mg : Str → Option Value) (base : Heap) (x : Str) (C : Addr) (k : Nat) (sp : Sp) : Prop where
  at_ : mg x = some (.ref C)
  er : Err K C
  ex : ∃ (f : Addr) (fd : FuncData) (ps : List Str), PySem.W.findIn K (.ref C) "__init__" = some (some (.ref f)) ∧ PySem.W.typeIn K (.ref f) = some (.type "function") ∧ FnOk P w K mg base (L2.CX P w) k f fd ps sp ∧ Binds K fd ps []
section
variable {X : Cx} {x : Str} {C : Addr} {k j : Nat} {sp : Sp} {e : Expr} {es : List Expr} {ta : TA} {p pos : Pos}
theorem passF {X : Cx} : Passes (L2.CX X.prog X.w) X (fun _ _ _ => False) := fun _ _ _ _ _ _ _ h => by
  obtain ⟨_, _, _, _, _, _, _, _, _, _, _, _, z⟩ := h
  exact z.elim
theorem pmk_r (c : Rai X.prog X.w X.K X.mg X.base x C k sp) (hr : Room j X.A) (hk : k + 1 ≤ j) (hg : Gl X x) (ha : PA X (e :: es) ta) (hd : (x == ("__debug__" : Str)) = false := by decide)
    (h1 : starEach (e :: es) X.env = (false, eval e X.env) :: starEach es X.env := by rfl) (h2 : (backTo pos (starEach es X.env)).any (·.1) = false := by rfl) : PMk X (.Call (.Name x p) (e :: es) [] pos) (tOex C sp ta) := by
  obtain ⟨f, fd, ps, h3, h4, F, b⟩ := c.ex
  exact pmk_oex c.er.ox h3 h4 F (hr.mono hk) b .nil passF hg c.at_ ha hd h1 h2
structure Rai0 (K : PySem.W.Frag) (mg : Str → Option Value) (x : Str) (C : Addr) : Prop where
  at_ : mg x = some (.ref C)
  er : Err K C
  ei : PySem.W.excIn K C [.type "ValueError", .type "Exception", .type "BaseException", .type "object"] "ValueError.__new__" = true
theorem pmk_r0 (c : Rai0 X.K X.mg x C) (hg : Gl X x) (hd : (x == ("__debug__" : Str)) = false := by decide) : PMk X (.Call (.Name x p) [] [] pos) (fun _ H Q => Q (.ref C) none H) := by
  intro pins s σ H Q I h
  obtain ⟨hp, g, dr, tk, os⟩ := s
  refine wpAny_Call_Name_kw (ld_glob I hg c.at_ (PySem.W.callWith_K0 (first := []) I.kIn c.er.ox.kC ?_) hd)
  obtain ⟨bm, N, nm, qn, bs, hdct, sn, sub, ab, col, dd, a0, a1, a2, a3, a5, mN, hC, hN, hni, T⟩ := exc_obj I.kIn c.ei
  refine wpAny_call_exc_subT PySem.F.excBase_ValueError T hC hN hni (fun h' e hm => ?_) (by rw [sizeLine_eq]; exact Nat.zero_le _)
  exact mk_of I hm (raises_own c.er.ox.exC c.er.ox.tyC) h (I.hok.gone hm.new)
end
end TT
namespace TT
open PySem PySem.Spec PyProof.Rows L2
open L2 (St)
abbrev PassS (X : Cx) (E : L2.St → XK) : Prop := ∀ σ, PassesAt (L2.CX X.prog X.w) X σ (E σ)
theorem passS {X : Cx} {W : WX} (tk : Takes X W) : PassS X (WE W) := fun σ => passAt tk σ
section
variable {X : Cx} {x m : Str} {C f : Addr} {k j : Nat} {sp : Sp} {E : L2.St → XK} {e o a b : Expr} {es : List Expr} {to ta tb : TE} {t : TA} {p pos apos : Pos} {pl : Sem Bool}
theorem run_s {pins : List (Addr × Obj)} {σ : L2.St} {H : Hp} {s : Shared} {E : XK} {Q : VK} {us : List Value} {vs : List V} (F : FnR X.prog X.w X.K X.mg X.base (L2.CX X.prog X.w) k f sp) (hr : Room k X.A) (hx : PassesAt (L2.CX X.prog X.w) X σ E) (I : Inv X pins σ H s) (r : Vals vs us) (h : sp vs H Q E) :
    codeAny (model X.prog X.w) X.A (.call (.ref f) ⟨us, []⟩) (fun r s' => match r with | .ok (.ret v) => EP X pins σ Q v s' | .ok _ => False | .error e => X.xe e s') s :=
  codeAny_mono (F X.A X.stack s H us vs Q E hr I.env0 r h) fun r s' q => by
    rcases r with z | fl
    · exact hx pins H s z s' I q
    · cases fl with
      | ret u => exact I.after q
      | next => exact q.elim
      | brk => exact q.elim
      | cont => exact q.elim
def tFS (sp : Sp) (E : L2.St → XK) (t : TA) : TE := fun σ H Q => t σ H fun vs H1 => sp vs H1 Q (E σ)
theorem pe_fS (c : Cal X.prog X.w X.K X.mg X.base x k sp) (hr : Room j X.A) (hk : k ≤ j) (hg : Gl X x) (hx : PassS X E) (ha : PA X (e :: es) t)
    (hd : (x == ("__debug__" : Str)) = false := by decide) (h1 : starEach (e :: es) X.env = (false, eval e X.env) :: starEach es X.env := by rfl)
    (h2 : (backTo pos (starEach es X.env)).any (·.1) = false := by rfl) : PE X (.Call (.Name x p) (e :: es) [] pos) (tFS sp E t) := ⟨fun pins s σ H Q I h => by
  obtain ⟨f, hm, kp, F⟩ := c.ex
  exact wpAny_Call_Name_kw (ld_glob I hg hm (PySem.W.callWith_K (h₀ := X.base) I.ok.mod.kin kp
    (thn (ha.run pos pins s σ H _ I h) fun us s1 ⟨vs, H1, I1, r, q⟩ => ⟨I1.kIn, wpAny_call (run_s F (hr.mono hk) (hx σ) I1 r q)⟩) h1 h2) hd)⟩
end
def gone (D : Ends) (i : Nat) : Ends := { nx := fun σ H => D.nx (σ.set i none) H, rt := D.rt, bk := fun σ H => D.bk (σ.set i none) H, ct := fun σ H => D.ct (σ.set i none) H }
def wN (K : PySem.W.Frag) (Wout : WX) (D : Ends) : List (Value × Nat × (Addr → Value → Option Addr → TS)) → WX
  | [] => Wout
  | (c, i, ts) :: r => fun cls d σ H => ∃ b, PySem.W.exmOne K cls c = some b ∧ (b = true → ∀ a, H a = none → ts a cls d (gone D i) (σ.set i (some (.ref a))) H) ∧ (b = false → wN K Wout D r cls d σ H)
inductive HdsN (X : Cx) : List ExceptHandler → List (Value × Nat × (Addr → Value → Option Addr → TS)) → Prop
  | nil : HdsN X [] []
  | cons {x n : Str} {c : Value} {i : Nat} {ts : Addr → Value → Option Addr → TS} {b₀ : Stmt} {suite : List Stmt} {np pos' : Pos} {hds : List ExceptHandler} {l : List (Value × Nat × (Addr → Value → Option Addr → TS))} (hi : X.N[i]? = some n) (hln : X.env.kindOf n = some .local) (hc : Names X x c)
      (hsu : ∀ (a : Addr) (oe : Obj) (cls : Value) (d : Option Addr) (pn : List (Addr × Obj)), Zc cls d oe → (∃ vs, oe.data = .fields vs) → PSs (X.suite a ((a, oe) :: pn)) (b₀ :: suite) (ts a cls d)) (r : HdsN X hds l) :
      HdsN X (.ExceptHandler (some (.Name x np)) (some n) (b₀ :: suite) pos' :: hds) ((c, i, ts) :: l)
section
variable {X : Cx} {body : List Stmt} {h₀ : ExceptHandler} {hds : List ExceptHandler} {l : List (Value × Nat × (Addr → Value → Option Addr → TS))} {pos : Pos} {tb : WX → TS} {Wout : WX}
theorem ps_tryN (hs : X.stack = X.env :: X.outer) (hf : X.env.frame = some X.env.locals) (hN : X.N.Nodup) (tk : Takes X Wout)
    (hb : ∀ (W : WX) (pn : List (Addr × Obj)) (xe : Value → Shared → Prop), Takes (X.tr pn xe) W → PassesOwn (model X.prog X.w) X.A X.env xe → PSs (X.tr pn xe) body (tb W))
    (hh : HdsN X (h₀ :: hds) l) : PS X (.Try body (h₀ :: hds) [] [] pos) (fun D σ H => tb (wN X.K Wout D l) D σ H) := ⟨fun pins s σ H D I h => by
  have ok := I.ok
  have fr0 : X.A.frames = some (X.env :: X.outer) := ok.frames.trans (by rw [hs])
  refine wpAny_Try_except (wpAny_mono ((hb (wN X.K Wout D l) (X.pn ++ pins) (fun z t1 => wpAny (model X.prog X.w) X.A (noteFrame z X.env) (fun _ t2 => wpAny (model X.prog X.w) X.A (setFlight z none) (fun _ t3 =>
    wpAny (model X.prog X.w) X.A (handleBy z X.env (h₀ :: hds)) (SP X pins D) X.xe t3) X.xe t2) X.xe t1) (fun u s' xx => ?_) PassesOwn.looking).run [] s σ H D (I.toTry _) h) (fun fl s1 hsp => ?_) fun _ _ z => z)
  · obtain ⟨a, B, sI, pins', σ', H', cls, d, rfl, J0, nb, up, sk0, na, os, ag, wi⟩ := xx
    have J : Inv X pins σ' H' sI := J0.ofTry ok
    have sk : Sky B (X.env :: X.outer) a (Zc cls d) X.env.locals s'.heap := hs ▸ sk0
    refine Sky.land Zc.steady fr0 hf sk fun h3 fl3 up3 => ?_
    have J3 : Inv X pins σ' H' { s' with heap := h3 } := J.landed nb fl3.1 (up.trans up3) os ag
    obtain ⟨oe3, vs3, he3, hz3, hd3⟩ := fl3.there
    have nfr : a ∉ frs (X.env :: X.outer) := fun hm => by
      obtain ⟨_, o', e', hnf⟩ := fl3.2.2.1.mem hm
      rw [he3] at e'
      cases e'
      exact hnf _ hd3
    have nL : a ≠ X.env.locals := fun z => nfr (List.mem_filterMap.mpr ⟨X.env, List.mem_cons_self, hf.trans (by rw [z])⟩)
    have nF : a ∉ X.fs := fun hm => by
      obtain ⟨en, he, q⟩ := List.mem_filterMap.mp hm
      exact nfr (List.mem_filterMap.mpr ⟨en, List.mem_cons_of_mem _ he, q⟩)
    have S3 := J3.suite he3 hd3 na nL nF
    have go : ∀ {g : List ExceptHandler} {l' : List (Value × Nat × (Addr → Value → Option Addr → TS))}, HdsN X g l' → wN X.K Wout D l' cls d σ' H' →
        wpAny (model X.prog X.w) X.A (handleBy (.ref a) X.env g) (SP X pins D) X.xe { s' with heap := h3 } := by
      intro g l' hk
      induction hk with
      | nil =>
        intro wi
        refine wpAny_handleBy_nil ?_
        obtain ⟨_, _, _, oe, vs, T, oT, ts', he, hz, hd, h1, _⟩ := id fl3
        unfold PySem.passOn
        refine wpAny_bind (wpAny_field he hd h1 ?_)
        rw [if_neg (by simp : ¬ ((Value.ref T == Value.none) = true))]
        have out : wpAny (model X.prog X.w) X.A (setFlight (.ref a) X.env.frame) (fun _ t4 => wpAny (model X.prog X.w) X.A (throw (.ref a) : Sem Flow) (SP X pins D) X.xe t4) X.xe { s' with heap := h3 } := by
          rw [hf]
          exact HandSPX.setFlight_upZ fl3 fun h4 hh4 up4 => wpAny_throw (tk _ _ ⟨a, B, sI, pins, σ', H', cls, d, rfl, J, nb, (up.trans up3).trans up4, .inr (.inr (by rw [hs]; exact hh4)), na, os, ag, wi⟩)
        first
          | exact wpAny_bind (wpAny_pure (wpAny_bind out))
          | exact wpAny_bind out
      | @cons x n c i ts b₀ suite np pos' g2 l2 hi hln hc hsu r ih =>
        intro wi
        obtain ⟨b, hb1, yes, no⟩ := wi
        refine wpAny_handleBy_cons (codeAny_handlers_test ?_) (fun q => by cases q)
        have LT : PySem.W.Looks (model X.prog X.w) h3 (typeOf (.ref a)) cls := fun A Q E t k q => wpAny_typeOf_ref (k _ _ he3) (hz3.1 ▸ q)
        have LM := PySem.W.exm_one (M := model X.prog X.w) (J3.kIn) LT hb1
        have test : ∀ {Q : Value → Shared → Prop} {E : Value → Shared → Prop}, Q c { s' with heap := h3 } → wpAny (model X.prog X.w) (X.A.mark (some (.ref a))) (eval (.Name x np) X.env) Q E { s' with heap := h3 } := fun {Q E} q => by
          obtain ⟨c1, c2, c3 | ⟨c3, c4, c5⟩⟩ := hc
          · exact ld_glob (X := X.suite a ((a, oe3) :: (X.pn ++ pins))) S3 c1 c3 q c2
          · exact ld_blt (X := X.suite a ((a, oe3) :: (X.pn ++ pins))) S3 c1 c3 c4 q c5 c2
        refine test (LM.here ?_)
        cases b with
        | true =>
          refine codeAny_handlers_suite_as (HandSPX.lands_againZ fl3 fun h4 fl4 up4 => ?_)
          have J4 : Inv X pins σ' H' { s' with heap := h4 } := J.landed nb fl4.1 ((up.trans up3).trans up4) os ag
          obtain ⟨oe4, vs4, he4, hz4, hd4⟩ := fl4.there
          have S4 := J4.suite he4 hd4 na nL nF
          refine store_ok (X := X.suite a ((a, oe4) :: (X.pn ++ pins))) (v := .ref a) S4 hN hi (.inl hln) rfl (fun s5 S5 => ?_) (.inr hln)
          refine wpAny_mono ((hsu a oe4 cls d (X.pn ++ pins) hz4 ⟨_, hd4⟩).run [] s5 _ H' _ S5 (yes rfl a na)) (fun fl t6 hsp => ?_) (fun _ _ z => z.elim)
          have fin : ∀ {σ6 : L2.St} {H6 : Hp} {Q : Shared → Prop}, Inv (X.suite a ((a, oe4) :: (X.pn ++ pins))) [] σ6 H6 t6 → (∀ t7, Inv X pins (σ6.set i none) H6 t7 → Q t7) →
              wpAny (model X.prog X.w) X.A (do bindName X.env n .none; unbindBehindTheSuite X.env n pos') (fun _ t7 => Q t7) X.xe t6 := fun {σ6 H6 Q} S6 hq => gone_ok (S6.unsuite ok) hN hi hln hq
          cases fl with
          | next =>
            obtain ⟨_, _, S6, q6⟩ := hsp
            exact fin S6 fun t7 J7 => ⟨_, _, J7, q6⟩
          | brk =>
            obtain ⟨_, _, S6, q6⟩ := hsp
            exact fin S6 fun t7 J7 => ⟨_, _, J7, q6⟩
          | cont =>
            obtain ⟨_, _, S6, q6⟩ := hsp
            exact fin S6 fun t7 J7 => ⟨_, _, J7, q6⟩
          | ret u =>
            obtain ⟨_, _, _, S6, r6, q6⟩ := hsp
            exact fin S6 fun t7 J7 => ⟨_, _, _, J7, r6, q6⟩
        | false => exact ih (no rfl)
    exact go hh wi
  · cases fl with
    | next =>
      obtain ⟨_, _, J1, q⟩ := hsp
      exact wpAny_execs_nil ⟨_, _, J1.ofTry ok, q⟩
    | brk =>
      obtain ⟨_, _, J1, q⟩ := hsp
      exact ⟨_, _, J1.ofTry ok, q⟩
    | cont =>
      obtain ⟨_, _, J1, q⟩ := hsp
      exact ⟨_, _, J1.ofTry ok, q⟩
    | ret u =>
      obtain ⟨_, _, _, J1, r, q⟩ := hsp
      exact ⟨_, _, _, J1.ofTry ok, r, q⟩⟩
end
end TT
namespace TT
open PySem PySem.Spec PyProof.Rows L2
def tRaise (W : WX) (t : L2.St → Hp → XK → Prop) : TS := fun _ σ H => t σ H fun cls d H' => W cls d σ H'
theorem ps_rs {X : Cx} {W : WX} {e : Expr} {t : L2.St → Hp → XK → Prop} {pos : Pos} (hc : X.calm = true) (tk : Takes X W) (he : PMk X e t) : PS X (.Raise (some e) none pos) (tRaise W t) := ps_raise hc tk he
def tR0 (C : Addr) : L2.St → Hp → XK → Prop := fun _ H Q => Q (.ref C) none H
theorem pmk_n {X : Cx} {x : Str} {C : Addr} {p pos : Pos} (c : Rai0 X.K X.mg x C) (hg : Gl X x) (hd : (x == ("__debug__" : Str)) = false := by decide) : PMk X (.Call (.Name x p) [] [] pos) (tR0 C) := pmk_r0 c hg hd
def tTry (K : PySem.W.Frag) (Wout : WX) (l : List (Value × Nat × (Addr → Value → Option Addr → TS))) (tb : WX → TS) : TS := fun D σ H => tb (wN K Wout D l) D σ H
theorem ps_tr {X : Cx} {K : PySem.W.Frag} {body : List Stmt} {h₀ : ExceptHandler} {hds : List ExceptHandler} {l : List (Value × Nat × (Addr → Value → Option Addr → TS))} {pos : Pos} {tb : WX → TS} {Wout : WX} (hK : X.K = K) (hs : X.stack = X.env :: X.outer) (hf : X.env.frame = some X.env.locals) (hN : X.N.Nodup) (tk : Takes X Wout)
    (hb : ∀ (W : WX) (pn : List (Addr × Obj)) (xe : Value → Shared → Prop), Takes (X.tr pn xe) W → PassesOwn (model X.prog X.w) X.A X.env xe → PSs (X.tr pn xe) body (tb W))
    (hh : HdsN X (h₀ :: hds) l) : PS X (.Try body (h₀ :: hds) [] [] pos) (tTry K Wout l tb) := by subst hK; exact ps_tryN hs hf hN tk hb hh
theorem k_isX {X : Cx} {K : PySem.W.Frag} {a : Addr} {cls : Value} {d : Option Addr} {oe : Obj} {pn : List (Addr × Obj)} (hK : X.K = K) (hz : Zc cls d oe) (hf : ∃ vs, oe.data = .fields vs) : CallR (X.suite a ((a, oe) :: pn)) (.builtin "isinstance") (rIsX K cls d a) := by subst hK; exact call_isX hz hf
theorem k_xf {X : Cx} {K : PySem.W.Frag} {a C : Addr} {oe : Obj} {cls : Value} {d : Option Addr} {pn : List (Addr × Obj)} {e : Expr} {te : TE} {pos : Pos} {n : Str} (hK : X.K = K) (T : XfC K C) (hno : PySem.W.findIn K (.ref C) n = some none)
    (hz : Zc cls d oe) (hf : ∃ vs, oe.data = .fields vs) (he : PE (X.suite a ((a, oe) :: pn)) e te) (hb : attributeBase e n X.env (eval e X.env) = eval e X.env := by rfl) :
    PE (X.suite a ((a, oe) :: pn)) (.Attribute e n pos) (tXf a cls d C n te) := by subst hK; exact pe_xf T hno hz hf he hb
section
variable {K : PySem.W.Frag} {σ : L2.St} {H H1 : Hp} {Q : VK} {QX : XK} {D : Ends} {t u : TS} {ta tb te : TE} {ts : TA} {i : Nat} {v x y : V} {a p b C : Addr} {sp : Sp} {E : L2.St → XK} {W Wout : WX} {cls : Value} {d : Option Addr}
theorem a_catch {c : Value} {i : Nat} {f : Addr → Value → Option Addr → TS} {r : List (Value × Nat × (Addr → Value → Option Addr → TS))} (e : PySem.W.exmOne K cls c = some true) (h : ∀ a, H a = none → f a cls d (gone D i) (σ.set i (some (.ref a))) H) : wN K Wout D ((c, i, f) :: r) cls d σ H :=
  ⟨true, e, fun _ => h, fun z => Bool.noConfusion z⟩
theorem a_skip {c : Value} {i : Nat} {f : Addr → Value → Option Addr → TS} {r : List (Value × Nat × (Addr → Value → Option Addr → TS))} (e : PySem.W.exmOne K cls c = some false) (h : wN K Wout D r cls d σ H) : wN K Wout D ((c, i, f) :: r) cls d σ H :=
  ⟨false, e, fun z => Bool.noConfusion z, fun _ => h⟩
end
section
variable {P : Program} {w : World} {K : PySem.W.Frag} {mg : Str → Option Value} {base : Heap} {x m : Str} {C : Addr} {k : Nat} {sp sp' : Sp}
theorem Cal.imp (c : Cal P w K mg base x k sp) (h : ∀ vs H Q E, sp' vs H Q E → sp vs H Q E) : Cal P w K mg base x k sp' := let ⟨f, a, b, F⟩ := c.ex; ⟨f, a, b, F.imp h⟩
theorem Met.imp (c : Met P w K mg base C m k sp) (h : ∀ vs H Q E, sp' vs H Q E → sp vs H Q E) : Met P w K mg base C m k sp' := let ⟨f, a, F⟩ := c.ex; ⟨c.cl, f, a, F.imp h⟩
theorem Mak.imp (c : Mak P w K mg base x C k sp) (h : ∀ vs H Q E, sp' vs H Q E → sp vs H Q E) : Mak P w K mg base x C k sp' := let ⟨f, a, F⟩ := c.ex; ⟨c.at_, f, a, F.imp h⟩
theorem rai_of {q : Str} {st : Stmt} {f : Addr} {fd : FuncData} {ps : List Str} {ks : List (Str × V)} (F : FX K "__init__" q st [] ks f fd) (hm : mg x = some (.ref C)) (er : Err K C) (i1 : PySem.W.findIn K (.ref C) "__init__" = some (some (.ref f))) (i2 : PySem.W.typeIn K (.ref f) = some (.type "function"))
    (G : FnOk P w K mg base (L2.CX P w) k f fd ps sp)
    (b : ∀ (kV doc pm : Value) (an : Option Addr) (cdv ct : Value) (us : List Value), us.length = ps.length → bindArgs (PySem.W.fnOf "__init__" q (defArgs st) (defBody st) (defScope st) .none kV doc pm an cdv ct) ⟨us, []⟩ = pure (ps.zip us)) :
    Rai P w K mg base x C k sp := ⟨hm, er, f, fd, ps, i1, i2, G, F.bindsN b⟩
end
end TT
namespace TT
open PySem PySem.Spec PyProof.Rows L2
end TT
namespace TT
open PySem PySem.Spec PyProof.Rows L2
section
variable {K : PySem.W.Frag} {H H1 : Hp} {n : Nat} {v x y : V} {vs : List V} {d e : PyData} {ds : List PyData} {a : Addr} {Q : VK}
end
end TT
namespace TT
open PySem PySem.Spec PyProof.Rows L2
section
variable {K : PySem.W.Frag} {H : Hp} {Q : VK} {p : Addr} {zs : List Int}
end
section
variable {K : PySem.W.Frag} {H : Hp} {n : Nat} {x y : V} {Q : VK} {a b : List Int}
end
end TT
namespace TT
open PySem PySem.Spec PyProof.Rows L2
def rIter (K : PySem.W.Frag) (x : V) (H1 : Hp) (R : It → Hp → Prop) : Prop := ∃ a, x = .ref a ∧ (((∃ xs, SqL K H1 a xs) ∧ R (Itl K a) H1) ∨ ((∃ xs, SqT K H1 a xs) ∧ R (Itt K a) H1))
def iSeq (K : PySem.W.Frag) (tl : TE) : TI := fun σ H R => tl σ H fun x H1 => rIter K x H1 R
theorem pi_seq {X : Cx} {tg l : Expr} {tl : TE} {K : PySem.W.Frag} (hK : X.K = K) (hl : PE X l tl) : PI X tg l (iSeq K tl) := ⟨fun pins s σ H R I h => by
  subst hK
  refine thn (hl.run pins s σ H _ I h) fun v s1 hh => ?_
  obtain ⟨x, H1, J, r, a, ex, w⟩ := hh
  subst ex
  cases (show v = Value.ref a from r)
  have fp : ∀ b ∈ [s1.heap.objs.size], FpOk X pins H1 b := fun b hb => by
    obtain rfl : b = s1.heap.objs.size := List.mem_singleton.mp hb
    exact J.fpOk (Nat.le_refl _) (J.hok.fresh (Nat.le_refl _))
  rcases w with ⟨⟨xs, hq⟩, q⟩ | ⟨⟨xs, hq⟩, q⟩
  · obtain ⟨its, _, pl, _⟩ := J.list hq
    exact wpAny_pyIter_list pl.isList ⟨_, [s1.heap.objs.size], _, _, H1, rfl, J.kept (t' := s1.toks) fun b o z => Heap.get?_push_of_some _ z, turn_list a _, ⟨_, Heap.get?_push_size _ rfl, rfl, rfl⟩, fp, q⟩
  · obtain ⟨its, _, pl, _⟩ := J.tuple hq
    exact wpAny_pyIter_tuple (show s1.heap.IsTuple a its.toArray from pl) ⟨_, [s1.heap.objs.size], _, _, H1, rfl, J.kept (t' := s1.toks) fun b o z => Heap.get?_push_of_some _ z, turn_tuple a _, ⟨_, Heap.get?_push_size _ rfl, rfl, rfl⟩, fp, q⟩⟩
section
variable {K : PySem.W.Frag} {σ : L2.St} {H : Hp} {Q : VK} {a : Addr} {xs : List V} {j : Nat} {te : TE}
end
section
variable {K : PySem.W.Frag} {J : It} {n j : Nat} {G : Hp → Prop} {Y : Nat → Hp → V → Hp → Prop} {σ : L2.St} {H H1 : Hp} {te : TE} {Q : VK} {P : Addr → Nat → V → Hp → Prop} {xs : List V}
end
abbrev Pr := Int × Int
section
variable {K : PySem.W.Frag} {H H1 : Hp} {v : V} {x : Pr} {ys : List V} {ps : List Pr} {ls : List (List Pr)}
end
end TT
namespace TT
open PySem PySem.Spec PyProof.Rows L2
def Par {α β : Type} (R : α → β → Prop) (ys : List α) (xs : List β) : Prop := ys.length = xs.length ∧ ∀ (k : Nat) v x, ys[k]? = some v → xs[k]? = some x → R v x
section
variable {α β : Type} {R R' : α → β → Prop} {ys zs : List α} {xs ws : List β}
theorem Par.mono (h : Par R ys xs) (m : ∀ v x, R v x → R' v x) : Par R' ys xs := ⟨h.1, fun k v x a b => m v x (h.2 k v x a b)⟩
theorem Par.nil : Par R [] [] := ⟨rfl, fun k v x a => by simp at a⟩
theorem Par.one {y : α} {x : β} (h : R y x) : Par R [y] [x] := ⟨rfl, fun k v z a b => by
  have hk : k = 0 := by
    have := (List.getElem?_eq_some_iff.mp a).1
    simp at this
    omega
  subst hk
  cases Option.some.inj a
  cases Option.some.inj b
  exact h⟩
theorem Par.append (h : Par R ys xs) (h' : Par R zs ws) : Par R (ys ++ zs) (xs ++ ws) := ⟨by rw [List.length_append, List.length_append, h.1, h'.1], fun k v x a b => by
  by_cases hk : k < ys.length
  · rw [List.getElem?_append_left hk] at a
    rw [List.getElem?_append_left (by rw [← h.1]; exact hk)] at b
    exact h.2 k v x a b
  · rw [List.getElem?_append_right (by omega)] at a
    rw [List.getElem?_append_right (by rw [← h.1]; omega), ← h.1] at b
    exact h'.2 _ v x a b⟩
theorem Par.snoc {y : α} {x : β} (h : Par R ys xs) (h' : R y x) : Par R (ys ++ [y]) (xs ++ [x]) := h.append (.one h')
theorem Par.drop (h : Par R ys xs) (n : Nat) : Par R (ys.drop n) (xs.drop n) := ⟨by rw [List.length_drop, List.length_drop, h.1], fun k v x a b => by
  rw [List.getElem?_drop] at a b
  exact h.2 _ v x a b⟩
theorem Par.take (h : Par R ys xs) (n : Nat) : Par R (ys.take n) (xs.take n) := ⟨by rw [List.length_take, List.length_take, h.1], fun k v x a b => by
  rw [List.getElem?_take] at a b
  by_cases hk : k < n
  · rw [if_pos hk] at a b
    exact h.2 _ v x a b
  · rw [if_neg hk] at a
    cases a⟩
theorem Par.rep (h : Par R ys xs) : ∀ n : Nat, Par R (List.replicate n ys).flatten (List.replicate n xs).flatten
  | 0 => .nil
  | n + 1 => by
    rw [List.replicate_succ, List.replicate_succ, List.flatten_cons, List.flatten_cons]
    exact h.append (Par.rep h n)
theorem Par.get (h : Par R ys xs) {k : Nat} (hk : k < xs.length) : ∃ v, ys[k]? = some v ∧ R v xs[k] := by
  have hy : k < ys.length := by rw [h.1]; exact hk
  exact ⟨ys[k], List.getElem?_eq_getElem hy, h.2 k _ _ (List.getElem?_eq_getElem hy) (List.getElem?_eq_getElem hk)⟩
def cut (xs : List β) (lo hi : Option Int) : List β := (xs.drop (HT.sIx xs.length 0 lo)).take (HT.sIx xs.length xs.length hi - HT.sIx xs.length 0 lo)
theorem Par.cut {R : V → β → Prop} {ys : List V} (h : Par R ys xs) (lo hi : Option Int) : Par R (cutV ys lo hi) (TT.cut xs lo hi) := by
  unfold cutV TT.cut
  rw [h.1]
  exact (h.drop _).take _
end
section
variable {ms : List Addr} {H H1 : Hp} {p a : Addr} {o : HO}
end
section
variable {K : PySem.W.Frag} {H : Hp} {Q : VK} {p b : Addr} {xs zs : List V}
end
end TT
namespace TT
section
variable {a : List Nat}
end
end TT
namespace TT
open PySem PySem.Spec PyProof.Rows L2
end TT
namespace TT
open PySem PySem.Spec PyProof.Rows L2
section
variable {K : PySem.W.Frag} {j : Nat} {σ : L2.St} {H : Hp} {te : TE} {Q : VK} {P : Addr → Nat → V → Hp → Prop}
end
end TT
namespace TT
open PySem PySem.Spec PyProof.Rows L2
end TT
namespace TT
open PySem PySem.Spec PyProof.Rows L2
section
variable {X : Cx} {A : Around} {n : Nat} {pins : List (Addr × Obj)} {σ : L2.St} {H : Hp} {s : Shared} {a C fi fl dx : Addr} {fs : List (Str × V)} {spI spL : Sp} {E : XK}
end
end TT
namespace TT
open PySem PySem.Spec PyProof.Rows L2
section
variable {X : Cx} {A1 : Around} {pins : List (Addr × Obj)} {σ : L2.St} {H : Hp} {q it t : Addr} {zs : List V} {Rs : Result → Shared → Prop}
end
end TT
namespace TT
open PySem PySem.Spec PyProof.Rows L2
section
variable {X : Cx} {A1 : Around} {n : Nat} {pins : List (Addr × Obj)} {σ : L2.St} {H : Hp} {s : Shared} {a q C fi fl dx : Addr} {fs : List (Str × V)} {spI spL : Sp} {Rs : Result → Shared → Prop}
end
end TT
namespace TT
open PySem PySem.Spec PyProof.Rows L2
section
variable {X : Cx} {A1 : Around} {n : Nat} {pins : List (Addr × Obj)} {σ : L2.St} {H : Hp} {s : Shared} {a q t C fi fl dx : Addr} {fs : List (Str × V)} {zs : List V} {spI spL : Sp} {Rs : Result → Shared → Prop}
end
end TT
namespace TT
open PySem PySem.Spec PyProof.Rows L2
end TT
namespace TT
open PySem PySem.Spec PyProof.Rows L2
section
variable {K : PySem.W.Frag} {σ : L2.St} {H : Hp} {Q : VK} {D : Ends} {td ty tv te : TE} {QB : Bool → Hp → Prop} {a : Addr} {kvs : List (Key × V)} {k : Key} {v : V}
def rListDU : List V → Hp → VK → Prop := fun xs H Q => ∃ (a : Addr) (kvs : List (Key × V)), xs = [.ref a] ∧ Rd H a (.dK kvs) ∧ ∀ p, H p = none → Q (.ref p) (upd H p (.lst (kvs.map fun kv => kV kv.1)))
theorem call_listDU {X : Cx} (hc : X.calm = true) : CallR X (.type "list") rListDU := call_listD hc
def rAddS : R2 := fun x y H Q => ∃ i j, x = .str i ∧ y = .str j ∧ i.length + j.length ≤ sizeLine ∧ Q (.str (i ++ j)) H
theorem op_addSU {X : Cx} : OpR X (binaryOp .Add) rAddS := op_add_str
def rInS : R2 := fun x y H Q => ∃ (c : Nat) (z : Str), x = .str ⟨#[c]⟩ ∧ y = .str z ∧ Q (.bl (decide (c ∈ z.cps.toList))) H
theorem op_inSU {X : Cx} : OpR X (compareOp .In) rInS := op_in_sign
def rLenS : List V → Hp → VK → Prop := fun xs H Q => ∃ z, xs = [.str z] ∧ z.length ≤ sizeLine ∧ Q (.int z.length) H
theorem call_lenSU {X : Cx} : CallR X (.builtin "len") rLenS := call_len_str
end
section
variable {K : PySem.W.Frag} {J : It} {n j : Nat} {G : Hp → Prop} {Y : Nat → Hp → V → Hp → Prop} {σ : L2.St} {H H1 : Hp} {te tk tv : TE} {tt : TT} {Q : VK}
theorem revInd {α : Type} {P : List α → Prop} (h0 : P []) (h1 : ∀ l x, P l → P (l ++ [x])) (l : List α) : P l := by
  have : ∀ m : List α, P m.reverse := fun m => by
    induction m with
    | nil => exact h0
    | cons x m ih =>
      rw [List.reverse_cons]
      exact h1 _ _ ih
  rw [← List.reverse_reverse l]
  exact this _
end
section
variable {K : PySem.W.Frag} {σ : L2.St} {H : Hp} {Q : VK}
end
end TT
namespace TT
open PySem PySem.Spec PyProof.Rows L2
def rMax2 : List V → Hp → VK → Prop := fun xs H Q => ∃ i j, xs = [.int i, .int j] ∧ Q (.int (if j > i then j else i)) H
def rMin2 : List V → Hp → VK → Prop := fun xs H Q => ∃ i j, xs = [.int i, .int j] ∧ Q (.int (if j < i then j else i)) H
theorem call_max2U {X : Cx} (hc : X.calm = true) : CallR X (.builtin "max") rMax2 := call_max2 hc
theorem call_min2U {X : Cx} (hc : X.calm = true) : CallR X (.builtin "min") rMin2 := call_min2 hc
section
variable {K : PySem.W.Frag} {H : Hp} {Q : VK} {p : Addr} {xs : List V}
end
def fitsN (z : Str) : Bool := decide (1 ≤ z.cps.size) && decide (z.cps.size ≤ 3) && z.cps.toList.all fun c => decide (c ∈ ("abcdefghijklmnopqrstuvwxyz" : Str).cps.toList)
end TT
namespace TT
open PySem PySem.Spec PyProof.Rows L2
section
variable {K : PySem.W.Frag} {j : Nat} {σ : L2.St} {H : Hp} {te : TE} {tt : TT} {Q : VK}
end
end TT
namespace TT
open PySem PySem.Spec PyProof.Rows L2
end TT
namespace TT
open PySem PySem.Spec PyProof.Rows L2
section
variable {K : PySem.W.Frag} {H : Hp} {Q : VK} {n : Nat} {x y : V} {d e : PyData}
end
def rNinS : R2 := fun x y H Q => ∃ (c : Nat) (z : Str), x = .str ⟨#[c]⟩ ∧ y = .str z ∧ Q (.bl (!decide (c ∈ z.cps.toList))) H
theorem op_ninSU {X : Cx} : OpR X (compareOp .NotIn) rNinS := op_notIn_sign
section
variable {K : PySem.W.Frag} {j : Nat} {σ : L2.St} {H : Hp} {te : TE} {tt : TT} {Q : VK}
end
end TT
namespace TT
open PySem PySem.Spec PyProof.Rows L2
section
variable {X : Cx} {x : Str} {C : Addr} {k j : Nat} {sp : Sp} {e : Expr} {es : List Expr} {ta : TA} {p pos : Pos}
end
section
variable {K : PySem.W.Frag} {σ : L2.St} {H : Hp} {Q : VK} {C : Addr} {sp : Sp} {ta : TA} {te : TE} {n : Str}
end
end TT
namespace TT
open PySem PySem.Spec PyProof.Rows L2
abbrev Wp := Str × Int
end TT
namespace TT
open PySem PySem.Spec PyProof.Rows L2
section
variable {X : Cx} {C f : Addr} {k j : Nat} {sp : Sp} {a b : Expr} {ta tb : TE} {pos : Pos}
end
section
variable {σ : L2.St} {H : Hp} {Q : VK} {td ty tx : TE} {a : Addr} {kvs : List (Key × V)}
end
def rEn (K : PySem.W.Frag) (vs : List V) (H1 : Hp) (R : It → Hp → Prop) : Prop := ∃ a, vs = [.ref a] ∧ (((∃ xs, SqL K H1 a xs) ∧ R (Ite K a) H1) ∨ ((∃ xs, SqT K H1 a xs) ∧ R (Iet K a) H1))
def iEs (K : PySem.W.Frag) (ta : TA) : TI := fun σ H R => ta σ H fun vs H1 => rEn K vs H1 R
theorem k_iEs {X : Cx} {K : PySem.W.Frag} {e : Expr} {ta : TA} {p pos tpos : Pos} {elts : List Expr} {kk : Nat} (hK : X.K = K) (hg : Gl X "enumerate") (hm : X.mg "enumerate" = none) (ha : PA X [e] ta) (hs : starEach [e] X.env = [(false, eval e X.env)] := by rfl) :
    PI X (.Tuple elts kk tpos) (.Call (.Name "enumerate" p) [e] [] pos) (iEs K ta) := by
  subst hK
  refine ⟨fun pins s σ H R I h => Call_ (ld_blt I hg hm boot_enumerate (PyProof.Rows.callWith_type1 (thn (ha.run pos pins s σ H _ I h) fun us s1 hh => ?_) hs rfl))⟩
  obtain ⟨vs, H1, I1, r1, a, ex, hh⟩ := hh
  subst ex
  cases r1 with
  | cons r rr =>
    cases rr
    cases r
    rcases hh with ⟨⟨xs, hq⟩, q⟩ | ⟨⟨xs, hq⟩, q⟩
    · obtain ⟨its, rv, p', hz⟩ := I1.list hq
      refine call_enumerate_list p'.isList fun h' he hit hsz hk => wpAny_pyIter_enum he ?_
      have I2 : Inv X pins σ H1 { s1 with heap := h' } := I1.kept (t' := s1.toks) hk
      refine ⟨s1.heap.objs.size + 1, [s1.heap.objs.size + 1, s1.heap.objs.size], _, _, H1, rfl, I2, turn_enum a (s1.heap.objs.size + 1) s1.heap.objs.size, ⟨⟨.none, he⟩, hit, Nat.succ_ne_self _⟩, fun b hb => ?_, q⟩
      have hle : s1.heap.objs.size ≤ b := by
        rcases (show b = s1.heap.objs.size + 1 ∨ b = s1.heap.objs.size by simpa using hb) with rfl | rfl
        · exact Nat.le_add_right _ _
        · exact Nat.le_refl _
      exact I1.fpOk hle (I1.hok.fresh hle)
    · obtain ⟨its, rv, p', hz⟩ := I1.tuple hq
      have la : a < s1.heap.objs.size := by obtain ⟨_, z, _⟩ := p'; exact Heap.lt_size z
      refine tt_enum_tuple p' fun h' he hit hk => wpAny_pyIter_enum he ?_
      have I2 : Inv X pins σ H1 { s1 with heap := h' } := I1.kept (t' := s1.toks) hk
      refine ⟨s1.heap.objs.size + 1, [s1.heap.objs.size + 1, s1.heap.objs.size], _, _, H1, rfl, I2, turn_et a (s1.heap.objs.size + 1) s1.heap.objs.size (Nat.ne_of_lt la),
        ⟨⟨.none, he⟩, hit, Nat.succ_ne_self _, (Nat.ne_of_gt (Nat.lt_succ_of_lt la))⟩, fun b hb => ?_, q⟩
      have hle : s1.heap.objs.size ≤ b := by
        rcases (show b = s1.heap.objs.size + 1 ∨ b = s1.heap.objs.size by simpa using hb) with rfl | rfl
        · exact Nat.le_add_right _ _
        · exact Nat.le_refl _
      exact I1.fpOk hle (I1.hok.fresh hle)
section
variable {P : Program} {w : World} {K : PySem.W.Frag} {mg : Str → Option Value} {base : Heap} {x q m : Str} {st : Stmt} {f C : Addr} {fd : FuncData} {ps : List Str} {k : Nat} {sp : Sp} {ks : List (Str × V)} {v : V}
end
end TT
set_option autoImplicit false
namespace TT
open PySem PySem.Spec PyProof.Rows L2
def top (i : Nat) : Stmt := PySem.Challenge.pw_triedtells_k64_charts_of_weavings.main.body.getD i (.Pass ⟨0, 0, 0, 0⟩)
abbrev s_BadName_init : Stmt := inClass (top 3) 0
abbrev s_NoPlace_init : Stmt := inClass (top 4) 0
abbrev s_BadArrow_init : Stmt := inClass (top 5) 0
abbrev s_LoosePlace_init : Stmt := inClass (top 6) 0
abbrev s_fits_name : Stmt := top 10
abbrev s_spread : Stmt := top 14
abbrev s_distinct : Stmt := top 15
abbrev s_Chart_init : Stmt := inClass (top 16) 0
abbrev s_Chart_check_arrows : Stmt := inClass (top 16) 1
abbrev s_Chart_check_places : Stmt := inClass (top 16) 2
abbrev s_Chart_parts : Stmt := inClass (top 16) 3
abbrev s_Chart_eq : Stmt := inClass (top 16) 4
abbrev s_check_thread_names : Stmt := top 17
abbrev s_weaving_chart : Stmt := top 18
abbrev s__law_state : Stmt := top 20
abbrev s__law_draw : Stmt := top 21
abbrev s__law_pick : Stmt := top 22
abbrev s__law_cell : Stmt := top 23
abbrev s__law_named : Stmt := top 24
abbrev s__law_due : Stmt := top 25
abbrev s__law_caught : Stmt := top 26
abbrev s_law : Stmt := top 27
def facts : List (PySem.W.Frag → Bool) := [
  fun K => (He.Fa.free "ValueError").ok K,
  fun K => (He.Fa.free "list").ok K,
  fun K => (He.Fa.free "range").ok K,
  fun K => (He.Fa.free "all").ok K,
  fun K => (He.Fa.free "len").ok K,
  fun K => (He.Fa.free "tuple").ok K,
  fun K => (He.Fa.free "enumerate").ok K,
  fun K => (He.Fa.free "int").ok K,
  fun K => (He.Fa.free "max").ok K,
  fun K => (He.Fa.free "isinstance").ok K,
  fun K => (He.Fa.free "min").ok K,
  fun K => (He.Fa.str "LETTERS" "abcdefghijklmnopqrstuvwxyz").ok K,
  fun K => (He.Fa.int "MOST_PLACES" 40).ok K,
  fun K => (He.Fa.int "MOST_ARROWS" 80).ok K,
  fun K => (He.Fa.glo "TriedError").ok K,
  fun K => (He.Fa.glo "BadName").ok K,
  fun K => (He.Fa.glo "NoPlace").ok K,
  fun K => (He.Fa.glo "BadArrow").ok K,
  fun K => (He.Fa.glo "LoosePlace").ok K,
  fun K => (He.Fa.glo "TooGreat").ok K,
  fun K => (He.Fa.glo "Chart").ok K,
  fun K => ownB K (He.ga K "Chart"),
  fun K => (He.Fa.mkr "Chart").ok K,
  fun K => (He.Fa.noat "Chart" "count").ok K,
  fun K => (He.Fa.noat "Chart" "start").ok K,
  fun K => (He.Fa.noat "Chart" "end").ok K,
  fun K => (He.Fa.noat "Chart" "arrows").ok K,
  fun K => (He.Fa.meth "Chart" "check_arrows").ok K,
  fun K => (He.Fa.meth "Chart" "check_places").ok K,
  fun K => (He.Fa.meth "Chart" "parts").ok K,
  fun K => (He.Fa.meth "Chart" "__eq__").ok K,
  fun K => (He.Fa.meth "Chart" "is_run").ok K,
  fun K => (He.Fa.meth "Chart" "row_of").ok K,
  fun K => (He.Fa.meth "Chart" "closed").ok K,
  fun K => (He.Fa.meth "Chart" "clash").ok K,
  fun K => (He.Fa.meth "Chart" "needed").ok K,
  fun K => errB K (He.ga K "BadName"),
  fun K => He.eqO (PySem.W.findIn K (.ref (He.ga K "BadName")) "name") (some none),
  fun K => He.eqO (PySem.W.findIn K (.ref (He.ga K "BadName")) "__init__") (some (some (.ref (He.ma K (He.ga K "BadName") "__init__")))),
  fun K => PySem.W.typeIn K (.ref (He.ma K (He.ga K "BadName") "__init__")) == some (.type "function"),
  fun K => errB K (He.ga K "NoPlace"),
  fun K => He.eqO (PySem.W.findIn K (.ref (He.ga K "NoPlace")) "place") (some none),
  fun K => He.eqO (PySem.W.findIn K (.ref (He.ga K "NoPlace")) "__init__") (some (some (.ref (He.ma K (He.ga K "NoPlace") "__init__")))),
  fun K => PySem.W.typeIn K (.ref (He.ma K (He.ga K "NoPlace") "__init__")) == some (.type "function"),
  fun K => errB K (He.ga K "BadArrow"),
  fun K => He.eqO (PySem.W.findIn K (.ref (He.ga K "BadArrow")) "number") (some none),
  fun K => He.eqO (PySem.W.findIn K (.ref (He.ga K "BadArrow")) "__init__") (some (some (.ref (He.ma K (He.ga K "BadArrow") "__init__")))),
  fun K => PySem.W.typeIn K (.ref (He.ma K (He.ga K "BadArrow") "__init__")) == some (.type "function"),
  fun K => errB K (He.ga K "LoosePlace"),
  fun K => He.eqO (PySem.W.findIn K (.ref (He.ga K "LoosePlace")) "place") (some none),
  fun K => He.eqO (PySem.W.findIn K (.ref (He.ga K "LoosePlace")) "__init__") (some (some (.ref (He.ma K (He.ga K "LoosePlace") "__init__")))),
  fun K => PySem.W.typeIn K (.ref (He.ma K (He.ga K "LoosePlace") "__init__")) == some (.type "function"),
  fun K => errB K (He.ga K "TooGreat"),
  fun K => PySem.W.excIn K (He.ga K "TooGreat") [.type "ValueError", .type "Exception", .type "BaseException", .type "object"] "ValueError.__new__",
  fun K => decide (PySem.W.kitOne K (.ref (He.ga K "BadName")) (.ref (He.ga K "TriedError")) = some true),
  fun K => decide (PySem.W.kitOne K (.ref (He.ga K "TooGreat")) (.ref (He.ga K "TriedError")) = some true),
  fun K => decide (PySem.W.exmOne K (.ref (He.ga K "BadName")) (.ref (He.ga K "BadName")) = some true),
  fun K => decide (PySem.W.exmOne K (.ref (He.ga K "BadName")) (.ref (He.ga K "TooGreat")) = some false),
  fun K => decide (PySem.W.exmOne K (.ref (He.ga K "NoPlace")) (.ref (He.ga K "BadName")) = some false),
  fun K => decide (PySem.W.exmOne K (.ref (He.ga K "NoPlace")) (.ref (He.ga K "TooGreat")) = some false),
  fun K => decide (PySem.W.exmOne K (.ref (He.ga K "BadArrow")) (.ref (He.ga K "BadName")) = some false),
  fun K => decide (PySem.W.exmOne K (.ref (He.ga K "BadArrow")) (.ref (He.ga K "TooGreat")) = some false),
  fun K => decide (PySem.W.exmOne K (.ref (He.ga K "LoosePlace")) (.ref (He.ga K "BadName")) = some false),
  fun K => decide (PySem.W.exmOne K (.ref (He.ga K "LoosePlace")) (.ref (He.ga K "TooGreat")) = some false),
  fun K => decide (PySem.W.exmOne K (.ref (He.ga K "TooGreat")) (.ref (He.ga K "BadName")) = some false),
  fun K => decide (PySem.W.exmOne K (.ref (He.ga K "TooGreat")) (.ref (He.ga K "TooGreat")) = some true),
  fun K => (He.Fa.glo "fits_name").ok K,
  fun K => (He.Fa.glo "spread").ok K,
  fun K => (He.Fa.glo "distinct").ok K,
  fun K => (He.Fa.glo "check_thread_names").ok K,
  fun K => (He.Fa.glo "weaving_chart").ok K,
  fun K => (He.Fa.glo "_law_state").ok K,
  fun K => (He.Fa.glo "_law_draw").ok K,
  fun K => (He.Fa.glo "_law_pick").ok K,
  fun K => (He.Fa.glo "_law_cell").ok K,
  fun K => (He.Fa.glo "_law_named").ok K,
  fun K => (He.Fa.glo "_law_due").ok K,
  fun K => (He.Fa.glo "_law_caught").ok K,
  fun K => (He.Fa.glo "law").ok K,
  fun K => decide (PySem.W.kitOne K (.ref (He.ga K "Chart")) (.ref (He.ga K "Chart")) = some true),
  fun K => PySem.W.notFirst K (He.ga K "Chart") (.type "list"),
  fun K => PySem.W.notFirst K (He.ga K "Chart") (.ref (He.ga K "Chart"))]
def fbs (K : PySem.W.Frag) : Bool := facts.all fun f => f K
structure FbsOk (K : PySem.W.Frag) : Prop where
  ok : fbs K = true
theorem FbsOk.fact {K : PySem.W.Frag} (c : FbsOk K) (i : Nat) {f : PySem.W.Frag → Bool} (h : facts[i]? = some f := by rfl) : f K = true := List.all_eq_true.mp c.ok f (List.mem_of_getElem? h)
def dfs : List DX := [
  ⟨fun K => He.ma K (He.ga K "BadArrow") "__init__", "__init__", "BadArrow.__init__", s_BadArrow_init, [], []⟩,
  ⟨fun K => He.ma K (He.ga K "LoosePlace") "__init__", "__init__", "LoosePlace.__init__", s_LoosePlace_init, [], []⟩,
  ⟨fun K => He.ma K (He.ga K "NoPlace") "__init__", "__init__", "NoPlace.__init__", s_NoPlace_init, [], []⟩,
  ⟨fun K => He.ma K (He.ga K "BadName") "__init__", "__init__", "BadName.__init__", s_BadName_init, [], []⟩,
  ⟨fun K => He.ga K "_law_state", "_law_state", "_law_state", s__law_state, [], []⟩,
  ⟨fun K => He.ga K "_law_draw", "_law_draw", "_law_draw", s__law_draw, [], []⟩,
  ⟨fun K => He.ga K "_law_named", "_law_named", "_law_named", s__law_named, [], []⟩,
  ⟨fun K => He.ga K "_law_due", "_law_due", "_law_due", s__law_due, [], []⟩,
  ⟨fun K => He.ga K "_law_cell", "_law_cell", "_law_cell", s__law_cell, [], []⟩,
  ⟨fun K => He.ga K "fits_name", "fits_name", "fits_name", s_fits_name, [], []⟩,
  ⟨fun K => He.ma K (He.ga K "Chart") "check_arrows", "check_arrows", "Chart.check_arrows", s_Chart_check_arrows, [], []⟩,
  ⟨fun K => He.ga K "distinct", "distinct", "distinct", s_distinct, [], []⟩,
  ⟨fun K => He.ga K "spread", "spread", "spread", s_spread, [], []⟩,
  ⟨fun K => He.ma K (He.ga K "Chart") "check_places", "check_places", "Chart.check_places", s_Chart_check_places, [], []⟩,
  ⟨fun K => He.ma K (He.ga K "Chart") "__init__", "__init__", "Chart.__init__", s_Chart_init, [], []⟩,
  ⟨fun K => He.ga K "check_thread_names", "check_thread_names", "check_thread_names", s_check_thread_names, [], []⟩,
  ⟨fun K => He.ga K "weaving_chart", "weaving_chart", "weaving_chart", s_weaving_chart, [], []⟩,
  ⟨fun K => He.ga K "_law_caught", "_law_caught", "_law_caught", s__law_caught, [], []⟩,
  ⟨fun K => He.ma K (He.ga K "Chart") "parts", "parts", "Chart.parts", s_Chart_parts, [], []⟩,
  ⟨fun K => He.ma K (He.ga K "Chart") "__eq__", "__eq__", "Chart.__eq__", s_Chart_eq, [], []⟩,
  ⟨fun K => He.ga K "_law_pick", "_law_pick", "_law_pick", s__law_pick, [], []⟩,
  ⟨fun K => He.ga K "law", "law", "law", s_law, [], []⟩]
def others : List Str := (["_wall", "TriedError", "BadName", "NoPlace", "BadArrow", "LoosePlace", "TooGreat", "LETTERS", "fits_name", "MOST_PLACES", "MOST_ARROWS", "spread", "distinct", "Chart", "check_thread_names", "weaving_chart", "_law_state", "_law_draw", "_law_pick", "_law_cell", "_law_named", "_law_due", "_law_caught"] : List Str)
abbrev R : PySem.W.OpenRow := PySem.W.OpenLaw.row PySem.Challenge.rw_triedtells_k64_charts_of_weavings
abbrev hk : PySem.W.Hook := hookX 4 fbs dfs
def ob (s : PySem.W.SharedT) : SeenX := seenG 4 fbs dfs (HandSHeadRun.getT s)
theorem ob_eq (s : PySem.W.SharedT) : ob s = hk.obs s.abs := seenG_eq (HandSHeadRun.getT_eq s)
abbrev frS (s : PySem.W.SharedT) : PySem.W.Frag := He.frG (HandSHeadRun.getT s) (cStatics :: He.asD (HandSHeadRun.getT s) 4)
section
open HandSHeadRun PySem.W PySem.Calls
noncomputable abbrev enS (w : World) (os : PySem.OsState) : Option PySem.W.SharedT := endF (stepQ (denQ tabQ) R.prog w) 20000 R.prog w os
set_option maxHeartbeats 0 in
theorem runL (w : World) (os : PySem.OsState) : (enS w os).map (fun s => (looksF R.prog (boot_heap w.params) s.abs, seenQ (PySem.W.view R.prog [27]) others (importedModules R.prog.main.body) (fun s => xlAt (PySem.W.view R.prog [27]) [] s && recOk R.toRowW.records s) s.abs)) = some (true, openGood (PySem.W.view R.prog [27]) others) := by
  kernel_rfl
set_option maxHeartbeats 0 in
theorem runF (w : World) (os : PySem.OsState) : (enS w os).map (fun s => (facts.take 64).all fun f => f (frS s)) = some true := by
  kernel_rfl
set_option maxHeartbeats 0 in
theorem runG1 (w : World) (os : PySem.OsState) : (enS w os).map (fun s => ((facts.drop 64).take 64).all fun f => f (frS s)) = some true := by
  kernel_rfl
set_option maxHeartbeats 0 in
theorem runG2 (w : World) (os : PySem.OsState) : (enS w os).map (fun s => ((facts.drop 64).drop 64).all fun f => f (frS s)) = some true := by
  kernel_rfl
theorem run_two {σ : Type} {x : Option σ} {K : σ → PySem.W.Frag} {fs : List (PySem.W.Frag → Bool)} {k : Nat} (h1 : x.map (fun s => (fs.take k).all fun f => f (K s)) = some true) (h2 : x.map (fun s => (fs.drop k).all fun f => f (K s)) = some true) : x.map (fun s => fs.all fun f => f (K s)) = some true := by
  cases x with
  | none => cases h1
  | some s =>
    rw [Option.map_some] at h1 h2 ⊢
    rw [← List.take_append_drop k fs, List.all_append, Option.some.inj h1, Option.some.inj h2]
    rfl
theorem runG (w : World) (os : PySem.OsState) : (enS w os).map (fun s => (facts.drop 64).all fun f => f (frS s)) = some true := run_two (K := frS) (k := 64) (runG1 w os) (runG2 w os)
set_option maxHeartbeats 0 in
theorem runD (w : World) (os : PySem.OsState) : (enS w os).map (fun s => (dfs.take 27).map fun d => (d.good (frS s), fnAt (frS s) (d.ad (frS s)))) = some ((dfs.take 27).map fun d => (true, d.want)) := by
  kernel_rfl
set_option maxHeartbeats 0 in
theorem runE (w : World) (os : PySem.OsState) : (enS w os).map (fun s => (dfs.drop 27).map fun d => (d.good (frS s), fnAt (frS s) (d.ad (frS s)))) = some ((dfs.drop 27).map fun d => (true, d.want)) := by
  kernel_rfl
end
theorem run_join {σ β : Type} {x : Option σ} {a : σ → Bool} {b : σ → β} {b0 : β} {K : σ → PySem.W.Frag} {fs : List (PySem.W.Frag → Bool)} {ds : List DX} {k j : Nat} {o : σ → SeenX} (ho : ∀ s, o s = seenX (fun K => fs.all fun f => f K) ds (K s)) (h1 : x.map (fun s => (a s, b s)) = some (true, b0))
    (h2 : x.map (fun s => (fs.take k).all fun f => f (K s)) = some true) (h3 : x.map (fun s => (fs.drop k).all fun f => f (K s)) = some true) (h4 : x.map (fun s => (ds.take j).map fun d => (d.good (K s), fnAt (K s) (d.ad (K s)))) = some ((ds.take j).map fun d => (true, d.want)))
    (h5 : x.map (fun s => (ds.drop j).map fun d => (d.good (K s), fnAt (K s) (d.ad (K s)))) = some ((ds.drop j).map fun d => (true, d.want))) :
    x.map (fun s => (a s, b s, o s)) = some (true, b0, wantX ds) := by
  cases x with
  | none => cases h1
  | some s =>
    rw [Option.map_some] at h1 h2 h3 h4 h5 ⊢
    have e1 := Option.some.inj h1
    have e2 := Option.some.inj h2
    have e3 := Option.some.inj h3
    have e4 : ds.map (fun d => (d.good (K s), fnAt (K s) (d.ad (K s)))) = ds.map fun d => (true, d.want) := by
      rw [← List.take_append_drop j ds, List.map_append, List.map_append, Option.some.inj h4, Option.some.inj h5]
    have ea : a s = true := congrArg Prod.fst e1
    have eb : b s = b0 := congrArg Prod.snd e1
    have ef : (fs.all fun f => f (K s)) = true := by
      rw [← List.take_append_drop k fs, List.all_append, e2, e3]
      rfl
    have g1 := congrArg (List.map Prod.fst) e4
    have g2 := congrArg (List.map Prod.snd) e4
    rw [List.map_map, List.map_map] at g1 g2
    have eg : (ds.all fun d => d.good (K s)) = true := by
      rw [List.all_eq_true]
      intro d m
      exact List.map_inj_left.mp g1 d m
    rw [ea, eb, ho s]
    unfold seenX wantX
    dsimp only
    rw [ef, eg]
    have g2 : ds.map (fun d => fnAt (K s) (d.ad (K s))) = ds.map DX.want := g2
    rw [g2]
    rfl
theorem run (w : World) : HandSHeadRun.RunEq R (PySem.W.view R.prog [27]) hk ob 20000 others w := fun os => run_join (K := frS) (fs := facts) (ds := dfs) (k := 64) (j := 27) (fun _ => rfl) (runL w os) (runF w os) (runG w os) (runD w os) (runE w os)
end TT
namespace TT
open PySem PySem.Spec PyProof.Rows L2
set_option maxRecDepth 100000 in
set_option maxHeartbeats 0 in
open PySem.W PySem.Calls in
theorem early (F : ∀ (w : World) (mg : Str → Option Value) (fa : Addr) (h : Heap), hk.says w h → h.Ns mainGlobals mg → mg ("law" : PySem.Str) = some (.ref fa) →
      ∃ (K : PySem.W.Frag) (fd : FuncData) (sp : Sp), K.In h ∧ (∀ (s : Shared) (u : Value), BindsTo s fd ⟨[u], []⟩ [("_law_script", u)]) ∧
        (∀ (H : Hp) (a : Addr) (ns : List Int), ns.length ≤ 63 → Only H → SqL K H a (ns.map V.int) → sp [.ref a] H (fun v _ => v = .bl true) fun _ _ _ => False) ∧
        ∀ base : Heap, K.In base → base.Ns mainGlobals mg → FnOk (PySem.Challenge.rw_triedtells_k64_charts_of_weavings).prog w K mg base L2.CX0 8 fa fd ["_law_script"] sp) : PySem.Challenge.rw_triedtells_k64_charts_of_weavings.Holds := by
  w_on; o_law
  refine HandSHeadRun.head_any (r := OpenLaw.row PySem.Challenge.rw_triedtells_k64_charts_of_weavings) (q := view (OpenLaw.row PySem.Challenge.rw_triedtells_k64_charts_of_weavings).prog [27])
    (H := TT.hk) (ob := TT.ob) (M := 20000) (loose := TT.others) (d := HandSHeadRun.topDef (OpenLaw.row PySem.Challenge.rw_triedtells_k64_charts_of_weavings).prog 27) (kwd := []) TT.ob_eq
    (by kernel_rfl) (fun s => by kernel_rfl) TT.run (by kernel_rfl) (by kernel_rfl) (by kernel_rfl) (by rfl) (by first | assumption | decide +kernel) (by decide +kernel) ⟨rfl, rfl, rfl, rfl, rfl, by decide +kernel⟩ ?hw ?hc
  case hw => w_witness2
  case hc =>
    refine L2.walk_ofE (l := PySem.Challenge.rw_triedtells_k64_charts_of_weavings) (n := 63) (k := 8) (x := "_law_script") (CX := L2.CX0) rfl (by decide) (by kernel_rfl) ⟨rfl, by decide, by decide⟩ ?F (fun _ _ _ _ z => z)
    intro w mg fa h Y G hmg0
    have hmg : mg ("law" : PySem.Str) = some (.ref fa) := by
      have e : (HandSHeadRun.topDef (OpenLaw.row PySem.Challenge.rw_triedtells_k64_charts_of_weavings).prog 27).name = ("law" : PySem.Str) := by kernel_rfl
      rw [← e]
      exact hmg0
    exact F w mg fa h Y G hmg
end TT
namespace TT
open PySem PySem.Spec PyProof.Rows L2
def StepAt (K : PySem.W.Frag) (H : Hp) (v : V) (x : Wp) : Prop := ∃ q, v = .ref q ∧ SqT K H q [.str x.1, .int x.2]
section
variable {K : PySem.W.Frag} {H H1 : Hp} {v : V} {x : Wp} {ys : List V} {ws : List Wp}
theorem StepAt.same (h : StepAt K H v x) (s : Same H H1) : StepAt K H1 v x := let ⟨q, e, h⟩ := h; ⟨q, e, same_t s h⟩
theorem ParS.same (h : Par (StepAt K H) ys ws) (s : Same H H1) : Par (StepAt K H1) ys ws := h.mono fun v x z => z.same s
theorem Par.reverse {α β : Type} {R : α → β → Prop} {ys : List α} {xs : List β} (h : Par R ys xs) : Par R ys.reverse xs.reverse := ⟨by simp [h.1], fun k v x a b => by
  have hk := (List.getElem?_eq_some_iff.mp a).1
  rw [List.length_reverse] at hk
  rw [List.getElem?_reverse hk] at a
  rw [List.getElem?_reverse (by rw [← h.1]; exact hk), ← h.1] at b
  exact h.2 _ v x a b⟩
theorem Par.dropLast {α β : Type} {R : α → β → Prop} {ys : List α} {xs : List β} (h : Par R ys xs) : Par R ys.dropLast xs.dropLast := by
  rw [List.dropLast_eq_take, List.dropLast_eq_take, h.1]
  exact h.take _
theorem Par.getD {α β : Type} {R : α → β → Prop} {ys : List α} {xs : List β} (h : Par R ys xs) {k : Nat} {v : α} (hv : ys[k]? = some v) : ∃ x, xs[k]? = some x ∧ R v x := by
  have hk : k < xs.length := by rw [← h.1]; exact (List.getElem?_eq_some_iff.mp hv).1
  exact ⟨xs[k], List.getElem?_eq_getElem hk, h.2 k v _ hv (List.getElem?_eq_getElem hk)⟩
end
section
variable {K : PySem.W.Frag} {H H0 : Hp} {a : Addr} {xs : List V} {R : It → Hp → Prop}
end
end TT
namespace TT
open PySem PySem.Spec PyProof.Rows L2 HT
section
variable {prog : Program} {w : World} {A : Around} {E : Value → Shared → Prop} {s : Shared}
theorem adjust_rev (n : Nat) : Builtin.Slice.sliceAdjust none none (-1) (n : Int) = ((n : Int) - 1, -1) := by
  unfold Builtin.Slice.sliceAdjust
  rfl
theorem places_rev (n : Nat) : Builtin.Slice.slicePlaces ((n : Int) - 1) (-1) (-1) = n := by
  unfold Builtin.Slice.slicePlaces
  have h1 : ¬ ((-1 : Int) > 0) := by omega
  rw [if_neg h1]
  split
  · rw [show (-(-1 : Int)) = 1 from rfl, Int.ediv_one]
    omega
  · omega
theorem applied_rev {sl : Addr} {vl vu vs : Value} {n : Nat} {Q : Int × Int × Nat → Shared → Prop} (hs : s.heap.IsSliceOf sl vl vu vs) (pl : IsPart vl none) (pu : IsPart vu none) (ps : IsPart vs (some (-1)))
    (h : Q ((n : Int) - 1, -1, n) s) : wpAny (model prog w) A (Builtin.Slice.sliceApplied (.ref sl) (pure (n : Int))) Q E s := by
  obtain ⟨os, hos, hcs, hds⟩ := id hs
  unfold Builtin.Slice.sliceApplied Builtin.Slice.sliceFields
  refine wpAny_bind (wpAny_bind (wpAny_field hos hds (x := vl) rfl (wpAny_bind (wpAny_field hos hds (x := vu) rfl (wpAny_bind (wpAny_field hos hds (x := vs) rfl (wpAny_pure ?_)))))))
  refine wpAny_bind (slicePart_ ps ?_)
  show wpAny _ _ (if ((-1 : Int) == 0) = true then _ else _) _ _ s
  rw [if_neg (by decide)]
  refine wpAny_bind (slicePart_ pl (wpAny_bind (slicePart_ pu (wpAny_bind (wpAny_pure ?_)))))
  show wpAny _ _ (match Builtin.Slice.sliceAdjust none none (-1) (n : Int) with | (lo, hi) => pure (lo, (-1 : Int), Builtin.Slice.slicePlaces lo hi (-1))) _ _ s
  rw [adjust_rev n]
  show wpAny _ _ (pure ((n : Int) - 1, (-1 : Int), Builtin.Slice.slicePlaces ((n : Int) - 1) (-1) (-1))) _ _ s
  rw [places_rev]
  exact wpAny_pure h
theorem fm_congr {α β : Type} {f g : α → Option β} : ∀ {l : List α}, (∀ x ∈ l, f x = g x) → l.filterMap f = l.filterMap g
  | [], _ => rfl
  | x :: l, h => by
    rw [List.filterMap_cons, List.filterMap_cons, h x (List.mem_cons_self ..), fm_congr (l := l) fun y hy => h y (List.mem_cons_of_mem _ hy)]
theorem pick_rev (xs : Array Value) : ((List.range xs.size).filterMap fun (m : Nat) => xs[((xs.size : Int) - 1 + (m : Int) * (-1)).toNat]?).toArray = xs.toList.reverse.toArray := by
  congr 1
  have e : ((List.range xs.size).filterMap fun (m : Nat) => xs[((xs.size : Int) - 1 + (m : Int) * (-1)).toNat]?) = (List.range xs.size).filterMap fun m => xs.toList.reverse[m]? := by
    refine fm_congr fun m hm => ?_
    have hm := List.mem_range.mp hm
    rw [List.getElem?_reverse (by simpa using hm), Array.getElem?_toList, Array.length_toList]
    congr 1
    omega
  rw [e]
  have hl : xs.size = xs.toList.reverse.length := by simp
  rw [hl]
  generalize xs.toList.reverse = l
  refine revInd (P := fun l => (List.range l.length).filterMap (fun m => l[m]?) = l) rfl (fun l x ih => ?_) l
  rw [List.length_append, List.length_singleton, List.range_succ, List.filterMap_append]
  have e1 : (List.range l.length).filterMap (fun m => (l ++ [x])[m]?) = (List.range l.length).filterMap (fun m => l[m]?) := by
    refine fm_congr fun m hm => ?_
    rw [List.getElem?_append_left (List.mem_range.mp hm)]
  rw [e1, ih]
  simp
theorem getItem_tuple_rev {t sl : Addr} {items : Array Value} {vl vu vs : Value} {Q : Value → Shared → Prop} (ht : IsTup s.heap t items) (hs : s.heap.IsSliceOf sl vl vu vs) (pl : IsPart vl none) (pu : IsPart vu none) (ps : IsPart vs (some (-1)))
    (h : Q (.ref s.heap.objs.size) { s with heap := s.heap.push { cls := .type "tuple", data := .seq items.toList.reverse.toArray } })
    (hsz : items.size ≤ sizeLine) : wpAny (model prog w) A (getItem (.ref t) (.ref sl)) Q E s := by
  have htake : sizeOk (.seq items.toList.reverse.toArray) := by
    show items.toList.reverse.toArray.size ≤ sizeLine
    rw [List.size_toArray, List.length_reverse, Array.length_toList]
    exact hsz
  obtain ⟨os, hos, hcs, hds⟩ := id hs
  have hTs : s.TypeIs (.ref sl) "slice" := ⟨os, hos, hcs⟩
  unfold getItem
  try with_reducible refine wpAny_holding ?_
  first | refine wpAny_bind (wpAny_pure ?_) | skip
  refine wpAny_bind (wpAny_sequenceKey ht.typeIs (by decide) ?_)
  refine wpAny_bind (wpAny_callSpecial?_slot (name := Str.ofString "__getitem__") ht.typeIs PyProof.Rows.slot_tuple_getitem
    (wpAny_call_entry PyProof.Rows.slot_tuple_getitem ht.typeIs entry_tuple_getitem ?_ (args_tuple_getitem _ _)))
  show wpAny _ _ (Builtin.Tuple.tupleItemsOf (.ref t) >>= _) _ _ s
  refine wpAny_bind (tupleItemsOf_ ht ?_)
  refine wpAny_bind (wpAny_typeOf hTs ?_)
  rw [if_pos (by decide)]
  refine wpAny_bind (applied_rev hs pl pu ps ?_)
  have hno : ¬ ((((items.size : Int) - 1) == 0 && (-1 : Int) == 1 && items.size == items.size) = true) := by
    intro q
    rw [Bool.and_eq_true, Bool.and_eq_true] at q
    exact absurd (eq_of_beq q.1.2) (by decide)
  show wpAny _ _ (if (((items.size : Int) - 1) == 0 && (-1 : Int) == 1 && items.size == items.size) = true then _ else _) _ _ s
  rw [if_neg hno, pick_rev]
  first
    | exact wpAny_bind (m := Builtin.Tuple.tupleExact _) (wpAny_newObj_type (wpAny_pure ⟨_, rfl, wpAny_pure h⟩) htake)
    | exact wpAny_bind (m := Builtin.Tuple.tupleExact _) (wpAny_newObj_type (wpAny_bind (wpAny_pure (wpAny_pure ⟨_, rfl, wpAny_pure h⟩))) htake)
    | exact wpAny_bind (wpAny_bind (m := Builtin.Tuple.tupleExact _) (wpAny_newObj_type (wpAny_pure (wpAny_pure ⟨_, rfl, wpAny_pure h⟩)) htake))
    | exact wpAny_bind (wpAny_bind (m := Builtin.Tuple.tupleExact _) (wpAny_newObj_type (wpAny_pure ⟨_, rfl, wpAny_pure h⟩) htake))
end
def rRevU (K : PySem.W.Frag) (x : V) (H : Hp) (Q : VK) : Prop := ∃ a xs, x = .ref a ∧ ((SqL K H a xs ∧ ∀ p, H p = none → Q (.ref p) (upd H p (.lst xs.reverse))) ∨ (SqT K H a xs ∧ ∀ p, H p = none → Q (.ref p) (upd H p (.tup xs.reverse))))
def tRevU (K : PySem.W.Frag) (te : TE) : TE := fun σ H Q => te σ H fun x H1 => rRevU K x H1 Q
theorem k_rev {X : Cx} {K : PySem.W.Frag} {e : Expr} {te : TE} {k : Nat} {p1 p2 p3 pos : Pos} (hK : X.K = K) (he : PE X e te) : PE X (.Subscript e (.Slice none none (some (.UnaryOp .USub (.Constant (.int 1) k p1) p2)) p3) pos) (tRevU K te) := by
  subst hK
  refine ⟨fun pins s σ H Q I h => ?_⟩
  refine Subscript_ (thn (he.run pins s σ H _ I h) fun v s1 ⟨x, H1, I1, r1, q1⟩ => ?_)
  obtain ⟨a, xs, ex, hh⟩ := q1
  subst ex
  cases r1
  have hst : PO X (some (.UnaryOp .USub (.Constant (.int 1) k p1) p2)) (tPart (tUn (rU fun i => .int (-i)) (tC (.int 1)))) := po_some (pe_un un_neg pe_int)
  refine wpAny_Slice (thn (po_none.run pins s1 σ H1 (fun o H2 => o = none ∧ H2 = H1) I1 ⟨rfl, rfl⟩) fun vl s2 ⟨l, H2, I2, pl, el, e2⟩ => ?_)
  subst el e2
  refine thn (po_none.run pins s2 σ H2 (fun o H3 => o = none ∧ H3 = H2) I2 ⟨rfl, rfl⟩) fun vu s3 ⟨u, H3, I3, pu, eu, e3⟩ => ?_
  subst eu e3
  refine thn (hst.run pins s3 σ H3 (fun o H4 => o = some (-1) ∧ H4 = H3) I3 ⟨1, rfl, -1, rfl, rfl, rfl⟩) fun vs s4 ⟨o, H4, I4, ps, eo, e4⟩ => ?_
  subst eo e4
  have I5 : Inv X pins σ H4 { s4 with heap := s4.heap.push { cls := .type "slice", data := .fields #[vl, vu, vs] } } := I4.kept (t' := s4.toks) fun b ob q => Heap.get?_push_of_some _ q
  show wpAny (model X.prog X.w) X.A (subscriptTail e (.Slice none none (some (.UnaryOp .USub (.Constant (.int 1) k p1) p2)) p3) (.ref a) (.ref s4.heap.objs.size)) (EP X pins σ Q) X.xe { s4 with heap := s4.heap.push { cls := .type "slice", data := .fields #[vl, vu, vs] } }
  rcases hh with ⟨hx, q⟩ | ⟨hx, q⟩
  · obtain ⟨its, r, ht, hz⟩ := I5.list hx
    have hlen := r.length
    refine tail_any (ops := [.ref a, .ref s4.heap.objs.size]) ht.isList.typeIs (PySem.slot_list_getitem.lookup) ?_ (by with_unfolding_all rfl)
    refine wpAny_getItem_list_slice ht.isList (Heap.IsSliceOf.new _ vl vu vs) pl pu ps (by decide) ?_ (by rw [List.size_toArray]; omega)
    rw [PySem.W.krv_pick]
    refine ⟨.ref _, _, I5.laid (t' := s4.toks) (o := .lst xs.reverse) (fun b ob q => Heap.get?_push_of_some _ q) (Nat.le_refl _) ?_, rfl, q _ (I5.hok.fresh (Nat.le_refl _))⟩
    exact ⟨by rw [List.length_reverse]; exact hz, _, 0, r.reverse, Heap.get?_push_size _ rfl⟩
  · obtain ⟨its, r, ht, hz⟩ := I5.tuple hx
    have hlen := r.length
    refine tail_any (ops := [.ref a, .ref s4.heap.objs.size]) ht.typeIs (PyProof.Rows.slot_tuple_getitem.lookup) ?_ (by with_unfolding_all rfl)
    refine getItem_tuple_rev ht (Heap.IsSliceOf.new _ vl vu vs) pl pu ps ?_ (by rw [List.size_toArray]; omega)
    refine ⟨.ref _, _, I5.laid (t' := s4.toks) (o := .tup xs.reverse) (fun b ob q => Heap.get?_push_of_some _ q) (Nat.le_refl _) ?_, rfl, q _ (I5.hok.fresh (Nat.le_refl _))⟩
    exact ⟨by rw [List.length_reverse]; exact hz, _, r.reverse, ⟨_, Heap.get?_push_size _ rfl, rfl, 0, rfl⟩⟩
section
variable {K : PySem.W.Frag} {σ : L2.St} {H : Hp} {Q : VK} {te : TE} {a : Addr} {xs : List V}
end
end TT
namespace TT
open PySem PySem.Spec PyProof.Rows L2
section
variable {K : PySem.W.Frag} {H H1 : Hp} {a D : Addr} {o : HO} {xs : List V}
end
section
variable {J : It} {n : Nat} {G : Hp → Prop} {Y : Nat → Hp → V → Hp → Prop} {g : TG} {tt : TT} {te : TE} {vs : List Nat} {σ : L2.St} {H1 : Hp} {Q : VK}
end
end TT
namespace TT
open PySem PySem.Spec PyProof.Rows L2
end TT
namespace TT
open PySem PySem.Spec PyProof.Rows L2
end TT
namespace TT
open PySem PySem.Spec PyProof.Rows L2
theorem tuple_mul1 (l : Addr) (items : Array Value) (n : Nat) (dd : Option Addr) (sl : Array (Option Value)) (u : Tok) (c1 : (items.isEmpty || (1 : Int) == 1) = true) :
    Meets (Builtin.«tuple.__mul__» ⟨[.ref l, .int 1 u], []⟩) (fun _ R s => s.heap.get? l = some { cls := .type "tuple", dict := dd, data := .seq items n, slots := sl } ∧ R (.ok (.ret (Value.ref l))) s) :=
  .of_wp fun prog w A R s h => by
    obtain ⟨hp, g, d, tk, os⟩ := s
    obtain ⟨hl, h⟩ := h
    have f1 := AutoSeq1.idx_int
    wp_walk using wpAny_loadPart' hl
    repeat (first
      | (refine wpAny_ite_false (decide_eq_false (by decide)) ?_; wp_walk using wpAny_loadPart' hl)
      | (refine wpAny_ite_true (decide_eq_true (by rw [c1])) ?_; wp_walk using wpAny_loadPart' hl))
    exact ⟨_, rfl, h⟩
def rRepU (K : PySem.W.Frag) : R2 := fun x y H Q => ∃ (l : Addr) (k : Nat) (xs : List V), x = .ref l ∧ y = .int (k : Nat) ∧ SqT K H l xs ∧ xs ≠ [] ∧ 1 ≤ k ∧ k * xs.length ≤ 100000 ∧ (k = 1 → Q (.ref l) H) ∧ (2 ≤ k → ∀ p, H p = none → Q (.ref p) (upd H p (.tup (List.replicate k xs).flatten)))
section
variable {X : Cx}
theorem op_repU : OpR X (binaryOp .Mult) (rRepU X.K) := by
  intro pins s σ H x y v u Q I rx ry h
  obtain ⟨l, k, xs, rfl, rfl, hT, hne, h1, hz, q1, q⟩ := h
  cases rx
  obtain ⟨t, rfl⟩ := ry
  obtain ⟨its, r, ⟨⟨cls, dd, data, sl⟩, ho, hc, n, hd⟩, hs⟩ := I.tuple hT
  simp only at hc hd
  subst hc hd
  have hle : its.length = xs.length := r.length.symm
  have hn : its ≠ [] := fun e => hne (by
    rw [e] at hle
    exact List.eq_nil_of_length_eq_zero hle.symm)
  have hi : its.toArray.isEmpty = false := by
    cases its with
    | nil => exact absurd rfl hn
    | cons a b => rfl
  have hsz0 : its.toArray.size = xs.length := by rw [List.size_toArray, hle]
  by_cases k1 : k = 1
  · subst k1
    refine wpAny_binaryOp_repeat_ref (T := "tuple") (U := "int") (by decide) ⟨_, ho, rfl⟩ (fun s' => typeIs_int s' ((1 : Nat) : Int) t) noFill_tuple_mul F.fills_int_mul F.slot_int_rmul repeat_tuple F.slot_int_index.lookup
      (call_meets F.slot_int_rmul (typeIs_int s ((1 : Nat) : Int) t) F.entry_int_rmul (F.args_int_rmul_2 _ _) (int_rmul_tuple ((1 : Nat) : Int) t l its.toArray n dd sl)
        ⟨ho, rfl, ⟨_, ho, rfl⟩, call_meets F.slot_tuple_mul ⟨_, ho, rfl⟩ F.entry_tuple_mul (F.args_tuple_mul_2 _ _) (tuple_mul1 l its.toArray n dd sl t (by rw [hi]; rfl)) ⟨ho, ?_⟩⟩)
    exact ⟨.ref l, _, I, rfl, q1 rfl⟩
  · have hx1 : 1 ≤ xs.length := List.length_pos_iff.mpr hne
    have hk : k ≤ 100000 := Nat.le_trans (Nat.le_mul_of_pos_right k hx1) hz
    have hm : ((its.toArray.size : Nat) : Int) * (k : Int) ≤ 100000 := by
      rw [hsz0, Int.mul_comm, ← Int.natCast_mul]
      omega
    have flen : (List.replicate k its).flatten.length ≤ sizeLine := by
      rw [PyProof.Rows.lm_len_rep_flat, hle, sizeLine_eq]
      omega
    have ek : ((k : Nat) : Int).toNat = k := by omega
    have c0 : (decide ((k : Int) < -(2 ^ 63)) || decide ((k : Int) ≥ 2 ^ 63)) = false := by
      rw [decide_eq_false (by omega), decide_eq_false (by omega)] <;> rfl
    have c1 : (its.toArray.isEmpty || (k : Int) == 1) = false := by
      rw [hi, Bool.false_or]
      exact beq_eq_false_iff_ne.mpr (by omega)
    have c2 : (decide ((k : Int) ≤ 0) || its.toArray.isEmpty) = false := by
      rw [hi, Bool.or_false]
      exact decide_eq_false (by omega)
    have c4 : Builtin.Tuple.tupleTooMany (((its.toArray.size : Nat) : Int) * (k : Int)) = false := by
      unfold Builtin.Tuple.tupleTooMany
      rw [sizeLine_eq]
      exact decide_eq_false (by omega)
    refine wpAny_binaryOp_repeat_ref (T := "tuple") (U := "int") (by decide) ⟨_, ho, rfl⟩ (fun s' => typeIs_int s' (k : Int) t) noFill_tuple_mul F.fills_int_mul F.slot_int_rmul repeat_tuple F.slot_int_index.lookup
      (call_meets F.slot_int_rmul (typeIs_int s (k : Int) t) F.entry_int_rmul (F.args_int_rmul_2 _ _) (int_rmul_tuple (k : Int) t l its.toArray n dd sl)
        ⟨ho, rfl, ⟨_, ho, rfl⟩, call_meets F.slot_tuple_mul ⟨_, ho, rfl⟩ F.entry_tuple_mul (F.args_tuple_mul_2 _ _) (tuple_mulW l its.toArray n dd sl (k : Int) t c0 c1 c2 (by omega) c4 (by rw [size_rep, List.size_toArray, ek]; exact flen)) ⟨ho, ?_⟩⟩)
    rw [size_rep, ek]
    refine ⟨.ref s.heap.objs.size, _, I.laid (t' := s.toks) (o := .tup (List.replicate k xs).flatten) (fun b ob q => Heap.get?_push_of_some _ q) (Nat.le_refl _) ?_, rfl, q (by omega) _ (I.hok.fresh (Nat.le_refl _))⟩
    exact ⟨by rw [PyProof.Rows.lm_len_rep_flat, sizeLine_eq]; omega, _, r.rep k, IsTup.new _ _⟩
end
end TT
namespace TT
open PySem PySem.Spec PyProof.Rows L2
section
variable {X : Cx} {K : PySem.W.Frag} {o e : Expr} {to te : TE}
end
section
variable {K : PySem.W.Frag} {σ : L2.St} {H : Hp} {Q : VK} {to te : TE} {r : V → List V → Hp → VK → Prop}
end
end TT
namespace TT
open PySem PySem.Spec PyProof.Rows L2
inductive D where
  | non | bl (b : Bool) | int (i : Int) | str (s : Str)
  | tup (xs : List D) | lst (xs : List D) | dct (t : Bool) (kvs : List (D × D)) | obj (c : Str) (fs : List (Str × D)) | scr (ns : List Int)
instance : Inhabited D := ⟨.non⟩
inductive Rz (α : Type) where
  | ok (a : α) | ex (c : Str) (fs : List (Str × D)) | no
def Rz.bind {α β : Type} (r : Rz α) (k : α → Rz β) : Rz β := match r with | .ok a => k a | .ex c fs => .ex c fs | .no => .no
@[simp] theorem Rz.bind_ok {α β : Type} (a : α) (k : α → Rz β) : (Rz.ok a).bind k = k a := rfl
@[simp] theorem Rz.bind_ex {α β : Type} (c : Str) (fs : List (Str × D)) (k : α → Rz β) : (Rz.ex c fs : Rz α).bind k = .ex c fs := rfl
@[simp] theorem Rz.bind_no {α β : Type} (k : α → Rz β) : (Rz.no : Rz α).bind k = .no := rfl
def keyD : Key → D
  | .inl i => .int i
  | .inr x => .str x
def NoMore (fs : List (Str × D)) (ws : List (Str × V)) : Prop := ∀ f, fs.lookup f = none → ws.lookup f = none
section
variable (K : PySem.W.Frag) (F : Hp)
mutual
def Rep : D → V → Prop
  | .non, v => v = .non
  | .bl b, v => v = .bl b
  | .int i, v => v = .int i
  | .str s, v => v = .str s
  | .tup ds, v => ∃ a vs, v = .ref a ∧ (F a = some (.tup vs) ∨ (vs = [] ∧ SqT K F a [])) ∧ vs.length ≤ sizeLine ∧ Reps ds vs
  | .lst ds, v => ∃ a vs, v = .ref a ∧ Rd F a (.lst vs) ∧ vs.length ≤ sizeLine ∧ Reps ds vs
  | .dct false kvs, v => ∃ a ws, v = .ref a ∧ Rd F a (.dK ws) ∧ RepK kvs ws
  | .dct true kvs, v => ∃ a ws, v = .ref a ∧ Rd F a (.dT ws) ∧ RepT kvs ws
  | .scr ns, v => ∃ a, v = .ref a ∧ SqL K F a (ns.map V.int) ∧ ns.length ≤ sizeLine
  | .obj c fs, v => ∃ a dx ws, v = .ref a ∧ F a = some (.ins (He.ga K c) dx ws) ∧ NoMore fs ws ∧ RepF fs ws
def Reps : List D → List V → Prop
  | [], vs => vs = []
  | d :: ds, vs => ∃ v ws, vs = v :: ws ∧ Rep d v ∧ Reps ds ws
def RepK : List (D × D) → List (Key × V) → Prop
  | [], ws => ws = []
  | (k, d) :: r, ws => ∃ q v us, ws = (q, v) :: us ∧ k = keyD q ∧ Rep d v ∧ RepK r us
def RepT : List (D × D) → List (List Key × V) → Prop
  | [], ws => ws = []
  | (k, d) :: r, ws => ∃ q v us, ws = (q, v) :: us ∧ k = .tup (q.map keyD) ∧ Rep d v ∧ RepT r us
def RepF : List (Str × D) → List (Str × V) → Prop
  | [], _ => True
  | (f, d) :: r, ws => (∃ v, ws.lookup f = some v ∧ Rep d v) ∧ RepF r ws
end
end
section
variable {K : PySem.W.Frag} {F F' : Hp}
mutual
theorem Rep.mono (s : Same F F') : ∀ (d : D) {v : V}, Rep K F d v → Rep K F' d v
  | .non, _, h => by unfold Rep at h ⊢; exact h
  | .bl _, _, h => by unfold Rep at h ⊢; exact h
  | .int _, _, h => by unfold Rep at h ⊢; exact h
  | .str _, _, h => by unfold Rep at h ⊢; exact h
  | .tup ds, _, h => by
    unfold Rep at h ⊢
    obtain ⟨a, vs, e, h1, h2, h3⟩ := h
    exact ⟨a, vs, e, h1.elim (fun h => .inl (s _ _ h)) fun h => .inr ⟨h.1, same_t s h.2⟩, h2, Reps.mono s ds h3⟩
  | .lst ds, _, h => by
    unfold Rep at h ⊢
    obtain ⟨a, vs, e, h1, h2, h3⟩ := h
    exact ⟨a, vs, e, h1.elim (fun h => .inl (s _ _ h)) fun ⟨o, h⟩ => .inr ⟨o, s _ _ h⟩, h2, Reps.mono s ds h3⟩
  | .dct false kvs, _, h => by
    unfold Rep at h ⊢
    obtain ⟨a, ws, e, h1, h2⟩ := h
    exact ⟨a, ws, e, h1.elim (fun h => .inl (s _ _ h)) fun ⟨o, h⟩ => .inr ⟨o, s _ _ h⟩, RepK.mono s kvs h2⟩
  | .dct true kvs, _, h => by
    unfold Rep at h ⊢
    obtain ⟨a, ws, e, h1, h2⟩ := h
    exact ⟨a, ws, e, h1.elim (fun h => .inl (s _ _ h)) fun ⟨o, h⟩ => .inr ⟨o, s _ _ h⟩, RepT.mono s kvs h2⟩
  | .scr ns, _, h => by
    unfold Rep at h ⊢
    obtain ⟨a, e, h1, h2⟩ := h
    exact ⟨a, e, same_l s h1, h2⟩
  | .obj c fs, _, h => by
    unfold Rep at h ⊢
    obtain ⟨a, dx, ws, e, h1, h0, h2⟩ := h
    exact ⟨a, dx, ws, e, s _ _ h1, h0, RepF.mono s fs h2⟩
theorem Reps.mono (s : Same F F') : ∀ (ds : List D) {vs : List V}, Reps K F ds vs → Reps K F' ds vs
  | [], _, h => by unfold Reps at h ⊢; exact h
  | d :: ds, _, h => by
    unfold Reps at h ⊢
    obtain ⟨v, ws, e, h1, h2⟩ := h
    exact ⟨v, ws, e, Rep.mono s d h1, Reps.mono s ds h2⟩
theorem RepK.mono (s : Same F F') : ∀ (ds : List (D × D)) {vs : List (Key × V)}, RepK K F ds vs → RepK K F' ds vs
  | [], _, h => by unfold RepK at h ⊢; exact h
  | (k, d) :: ds, _, h => by
    unfold RepK at h ⊢
    obtain ⟨q, v, ws, e, e1, h1, h2⟩ := h
    exact ⟨q, v, ws, e, e1, Rep.mono s d h1, RepK.mono s ds h2⟩
theorem RepT.mono (s : Same F F') : ∀ (ds : List (D × D)) {vs : List (List Key × V)}, RepT K F ds vs → RepT K F' ds vs
  | [], _, h => by unfold RepT at h ⊢; exact h
  | (k, d) :: ds, _, h => by
    unfold RepT at h ⊢
    obtain ⟨q, v, ws, e, e1, h1, h2⟩ := h
    exact ⟨q, v, ws, e, e1, Rep.mono s d h1, RepT.mono s ds h2⟩
theorem RepF.mono (s : Same F F') : ∀ (ds : List (Str × D)) {vs : List (Str × V)}, RepF K F ds vs → RepF K F' ds vs
  | [], _, h => by unfold RepF; trivial
  | (k, d) :: ds, _, h => by
    unfold RepF at h ⊢
    obtain ⟨⟨v, e, h1⟩, h2⟩ := h
    exact ⟨⟨v, e, Rep.mono s d h1⟩, RepF.mono s ds h2⟩
end
theorem Reps.len : ∀ {ds : List D} {vs : List V}, Reps K F ds vs → vs.length = ds.length
  | [], _, h => by unfold Reps at h; subst h; rfl
  | d :: ds, _, h => by
    unfold Reps at h
    obtain ⟨v, ws, rfl, _, h2⟩ := h
    simp [Reps.len h2]
theorem Reps.nil : Reps K F [] [] := by unfold Reps; rfl
theorem Reps.cons {d : D} {ds : List D} {v : V} {vs : List V} (h : Rep K F d v) (t : Reps K F ds vs) : Reps K F (d :: ds) (v :: vs) := by
  unfold Reps
  exact ⟨v, vs, rfl, h, t⟩
theorem Reps.app : ∀ {ds es : List D} {vs ws : List V}, Reps K F ds vs → Reps K F es ws → Reps K F (ds ++ es) (vs ++ ws)
  | [], _, _, _, h, t => by unfold Reps at h; subst h; exact t
  | d :: ds, _, _, _, h, t => by
    unfold Reps at h
    obtain ⟨v, us, rfl, h1, h2⟩ := h
    exact Reps.cons h1 (Reps.app h2 t)
theorem Reps.get : ∀ {ds : List D} {vs : List V} {i : Nat} {v : V}, Reps K F ds vs → vs[i]? = some v → ∃ d, ds[i]? = some d ∧ Rep K F d v
  | [], _, _, _, h, e => by unfold Reps at h; subst h; simp at e
  | d :: ds, _, 0, _, h, e => by
    unfold Reps at h
    obtain ⟨v, us, rfl, h1, h2⟩ := h
    cases Option.some.inj e
    exact ⟨d, rfl, h1⟩
  | d :: ds, _, i + 1, _, h, e => by
    unfold Reps at h
    obtain ⟨v, us, rfl, h1, h2⟩ := h
    obtain ⟨d2, e2, r2⟩ := Reps.get (ds := ds) (vs := us) (i := i) h2 (by simpa using e)
    exact ⟨d2, by simpa using e2, r2⟩
theorem Reps.get' : ∀ {ds : List D} {vs : List V} {i : Nat} {d : D}, Reps K F ds vs → ds[i]? = some d → ∃ v, vs[i]? = some v ∧ Rep K F d v
  | [], _, _, _, h, e => by simp at e
  | d :: ds, _, 0, _, h, e => by
    unfold Reps at h
    obtain ⟨v, us, rfl, h1, h2⟩ := h
    cases Option.some.inj e
    exact ⟨v, rfl, h1⟩
  | d :: ds, _, i + 1, _, h, e => by
    unfold Reps at h
    obtain ⟨v, us, rfl, h1, h2⟩ := h
    obtain ⟨d2, e2, r2⟩ := Reps.get' (ds := ds) (vs := us) (i := i) h2 (by simpa using e)
    exact ⟨d2, by simpa using e2, r2⟩
theorem Reps.of : ∀ {ds : List D} {vs : List V}, vs.length = ds.length → (∀ (i : Nat) d v, ds[i]? = some d → vs[i]? = some v → Rep K F d v) → Reps K F ds vs
  | [], [], _, _ => .nil
  | d :: ds, v :: vs, e, h => .cons (h 0 d v rfl rfl) (Reps.of (by simpa using e) fun i d' v' a b => h (i + 1) d' v' (by simpa using a) (by simpa using b))
  | [], _ :: _, e, _ => by simp at e
  | _ :: _, [], e, _ => by simp at e
theorem Reps.set {ds : List D} {vs : List V} {d : D} {v : V} (i : Nat) (h : Reps K F ds vs) (r : Rep K F d v) : Reps K F (ds.set i d) (vs.set i v) := by
  refine Reps.of (by simp [h.len]) fun j d' v' a b => ?_
  rw [List.getElem?_set] at a b
  split at a
  · rename_i e
    subst e
    rw [if_pos rfl] at b
    split at a
    · cases a
      split at b
      · cases b
        exact r
      · cases b
    · cases a
  · rename_i e
    rw [if_neg e] at b
    obtain ⟨d2, e2, r2⟩ := h.get b
    rw [a] at e2
    cases e2
    exact r2
theorem Reps.take {ds : List D} {vs : List V} (n : Nat) (h : Reps K F ds vs) : Reps K F (ds.take n) (vs.take n) := by
  refine Reps.of (by simp [h.len]) fun j d' v' a b => ?_
  rw [List.getElem?_take] at a b
  split at a
  · rename_i e
    rw [if_pos e] at b
    obtain ⟨d2, e2, r2⟩ := h.get b
    rw [a] at e2
    cases e2
    exact r2
  · cases a
theorem Reps.drop {ds : List D} {vs : List V} (n : Nat) (h : Reps K F ds vs) : Reps K F (ds.drop n) (vs.drop n) := by
  refine Reps.of (by simp [h.len]) fun j d' v' a b => ?_
  rw [List.getElem?_drop] at a b
  obtain ⟨d2, e2, r2⟩ := h.get b
  rw [a] at e2
  cases e2
  exact r2
theorem Reps.rev {ds : List D} {vs : List V} (h : Reps K F ds vs) : Reps K F ds.reverse vs.reverse := by
  refine Reps.of (by simp [h.len]) fun j d' v' a b => ?_
  have hj : j < vs.length := by
    have := (List.getElem?_eq_some_iff.mp b).1
    simpa using this
  rw [List.getElem?_reverse (by rw [← h.len]; exact hj)] at a
  rw [List.getElem?_reverse hj] at b
  rw [h.len] at b
  obtain ⟨d2, e2, r2⟩ := h.get b
  rw [a] at e2
  cases e2
  exact r2
def tups (F : Hp) : Hp := fun a => match F a with
  | some (.tup xs) => some (.tup xs)
  | some (.frz o (.tup xs)) => some (.frz o (.tup xs))
  | _ => none
theorem tups_sub : Same (tups F) F := fun a o h => by
  unfold tups at h
  split at h
  · rename_i e; rw [e]; exact h
  · rename_i e; rw [e]; exact h
  · cases h
theorem sqt_tups {a : Addr} {xs : List V} (h : SqT K F a xs) : SqT K (tups F) a xs := by
  rcases h with (h | ⟨o, h⟩) | h
  · exact .inl (.inl (by unfold tups; rw [h]))
  · exact .inl (.inr ⟨o, by unfold tups; rw [h]⟩)
  · exact .inr h
mutual
def D.imm : D → Bool
  | .non | .bl _ | .int _ | .str _ => true
  | .tup ds => D.imms ds
  | .lst _ | .dct _ _ | .obj _ _ | .scr _ => false
def D.imms : List D → Bool
  | [] => true
  | d :: ds => D.imm d && D.imms ds
end
mutual
theorem Rep.imm : ∀ (d : D) {v : V}, Rep K F d v → d.imm = true → Rep K (tups F) d v
  | .non, _, h, _ => by unfold Rep at h ⊢; exact h
  | .bl _, _, h, _ => by unfold Rep at h ⊢; exact h
  | .int _, _, h, _ => by unfold Rep at h ⊢; exact h
  | .str _, _, h, _ => by unfold Rep at h ⊢; exact h
  | .tup ds, _, h, i => by
    unfold Rep at h ⊢
    unfold D.imm at i
    obtain ⟨a, vs, e, h1, h2, h3⟩ := h
    exact ⟨a, vs, e, h1.elim (fun h => .inl (by unfold tups; rw [h])) fun h => .inr ⟨h.1, sqt_tups h.2⟩, h2, Reps.imm ds h3 i⟩
  | .lst ds, _, h, i => by unfold D.imm at i; cases i
  | .dct _ kvs, _, h, i => by unfold D.imm at i; cases i
  | .obj c fs, _, h, i => by unfold D.imm at i; cases i
  | .scr ns, _, h, i => by unfold D.imm at i; cases i
theorem Reps.imm : ∀ (ds : List D) {vs : List V}, Reps K F ds vs → D.imms ds = true → Reps K (tups F) ds vs
  | [], _, h, _ => by unfold Reps at h ⊢; exact h
  | d :: ds, _, h, i => by
    unfold Reps at h ⊢
    unfold D.imms at i
    rw [Bool.and_eq_true] at i
    obtain ⟨v, ws, e, h1, h2⟩ := h
    exact ⟨v, ws, e, Rep.imm d h1 i.1, Reps.imm ds h2 i.2⟩
end
mutual
def D.py : D → PyData
  | .non => .none
  | .bl b => .bool b
  | .int i => .int i
  | .str s => .str s
  | .tup ds => .tuple (D.pys ds)
  | .lst ds => .list (D.pys ds)
  | .dct _ _ => .dict []
  | .obj _ _ => .dict []
  | .scr _ => .dict []
def D.pys : List D → List PyData
  | [] => []
  | d :: ds => D.py d :: D.pys ds
end
mutual
theorem Rep.dp : ∀ (d : D) {v : V}, Rep K F d v → d.py.canLay0 = true → Dp K F v d.py
  | .non, _, h, _ => by unfold Rep at h; subst h; unfold D.py; exact .non
  | .bl _, _, h, _ => by unfold Rep at h; subst h; unfold D.py; exact .bl _
  | .int _, _, h, _ => by unfold Rep at h; subst h; unfold D.py; exact .int _
  | .str _, _, h, _ => by unfold Rep at h; subst h; unfold D.py; exact .str _
  | .tup ds, _, h, i => by
    unfold Rep at h
    obtain ⟨a, vs, rfl, h1, h2, h3⟩ := h
    unfold D.py at i ⊢
    refine .tup (h1.elim SqT.of fun h => ?_) (Reps.dp ds h3 (by simpa [PyData.canLay0] using i))
    rw [h.1]
    exact h.2
  | .lst ds, _, h, i => by
    unfold Rep at h
    obtain ⟨a, vs, rfl, h1, h2, h3⟩ := h
    unfold D.py at i ⊢
    exact .lst (.inl h1) (Reps.dp ds h3 (by simpa [PyData.canLay0] using i))
  | .dct _ kvs, _, h, i => by unfold D.py at i; simp [PyData.canLay0] at i
  | .obj c fs, _, h, i => by unfold D.py at i; simp [PyData.canLay0] at i
  | .scr ns, _, h, i => by unfold D.py at i; simp [PyData.canLay0] at i
theorem Reps.dp : ∀ (ds : List D) {vs : List V}, Reps K F ds vs → PyData.canLayAll0 (D.pys ds) = true → DpAll K F vs (D.pys ds)
  | [], _, h, _ => by unfold Reps at h; subst h; unfold D.pys; exact .nil
  | d :: ds, _, h, i => by
    unfold Reps at h
    obtain ⟨v, ws, rfl, h1, h2⟩ := h
    unfold D.pys at i ⊢
    have z : d.py.canLay0 = true ∧ PyData.canLayAll0 (D.pys ds) = true := by simpa [PyData.canLayAll0] using i
    exact .cons (Rep.dp d h1 z.1) (Reps.dp ds h2 z.2)
end
end
end TT
namespace TT
open PySem PySem.Spec PyProof.Rows L2
structure Ok (F H : Hp) : Prop where
  sub : Same F H
  tup : Same (tups H) F
theorem tups_of {H : Hp} {a : Addr} {xs : List V} (h : H a = some (.tup xs)) : tups H a = some (.tup xs) := by unfold tups; rw [h]
def NoTup (o : HO) : Prop := ∀ xs, o ≠ .tup xs ∧ ∀ q, o ≠ .frz q (.tup xs)
theorem tups_no {H : Hp} {a : Addr} {o : HO} (h : H a = some o) (n : NoTup o) : tups H a = none := by
  unfold tups
  rw [h]
  split
  · rename_i xs e; cases e; exact ((n xs).1 rfl).elim
  · rename_i q xs e; cases e; exact ((n xs).2 q rfl).elim
  · rfl
theorem tups_some {H : Hp} {a : Addr} {o : HO} (h : tups H a = some o) : H a = some o ∧ ¬ NoTup o := by
  have h1 := tups_sub a o h
  refine ⟨h1, fun n => ?_⟩
  rw [tups_no h1 n] at h
  cases h
structure Evo (A : Addr → Prop) (F H F' H' : Hp) : Prop where
  same : Same F F'
  new : ∀ a, F' a ≠ none → F a ≠ none ∨ H a = none ∨ A a
  frm : ∀ a o, H a = some o → ¬ A a → H' a = some o
  liv : ∀ a, H a ≠ none → H' a ≠ none
  ok : Ok F' H'
theorem Evo.refl {A : Addr → Prop} {F H : Hp} (k : Ok F H) : Evo A F H F H := ⟨Same.refl _, fun _ h => .inl h, fun _ _ h _ => h, fun _ h => h, k⟩
theorem Evo.wide {A B : Addr → Prop} {F H F' H' : Hp} (x : Evo A F H F' H') (h : ∀ a, A a → B a) : Evo B F H F' H' :=
  ⟨x.same, fun a z => (x.new a z).elim .inl fun z => z.elim (fun z => .inr (.inl z)) fun z => .inr (.inr (h a z)), fun a o e n => x.frm a o e fun z => n (h a z), x.liv, x.ok⟩
theorem Evo.trans {A B : Addr → Prop} {F H F1 H1 F2 H2 : Hp} (x : Evo A F H F1 H1) (y : Evo B F1 H1 F2 H2) (s : ∀ a, B a → A a ∨ H a = none) : Evo A F H F2 H2 where
  same := x.same.trans y.same
  new := fun a h => (y.new a h).elim (x.new a) fun h => h.elim (fun h => .inr (.inl (Classical.byContradiction fun n => x.liv a n h))) fun h => (s a h).elim (fun h => .inr (.inr h)) fun h => .inr (.inl h)
  frm := fun a o h n => y.frm a o (x.frm a o h n) fun z => (s a z).elim n fun q => by rw [h] at q; cases q
  liv := fun a h => y.liv a (x.liv a h)
  ok := y.ok
abbrev Grow (F H F' H' : Hp) : Prop := Evo (fun _ => False) F H F' H'
theorem liv_of {H H' : Hp} (s : Same H H') : ∀ a, H a ≠ none → H' a ≠ none := fun a h => by
  cases e : H a with
  | none => exact absurd e h
  | some o => rw [s a o e]; simp
theorem Grow.of {F H H' : Hp} (k : Ok F H) (s : Same H H') (t : ∀ a o, H' a = some o → H a = none → NoTup o) : Grow F H F H' :=
  ⟨Same.refl _, fun _ h => .inl h, fun a o h _ => s a o h, liv_of s, k.sub.trans s, fun a o h => by
    obtain ⟨h1, h2⟩ := tups_some h
    cases e : H a with
    | none => exact (h2 (t a o h1 e)).elim
    | some u =>
      rw [s a u e] at h1
      cases h1
      refine k.tup a o ?_
      unfold tups at h ⊢
      rw [s a o e] at h
      rw [e]
      exact h⟩
theorem fnone {F H : Hp} {p : Addr} (s : Same F H) (n : H p = none) : F p = none := by
  cases h : F p with
  | none => rfl
  | some o => rw [s p o h] at n; cases n
theorem Grow.put {F H : Hp} {a : Addr} {o : HO} (k : Ok F H) (n : H a = none) : Grow F H (upd F a o) (upd H a o) := by
  have fn : F a = none := fnone k.sub n
  refine ⟨same_new fn, fun b h => ?_, fun b u h _ => same_new n b u h, liv_of (same_new n), fun b u h => ?_, fun b u h => ?_⟩
  · by_cases z : b = a
    · subst z; exact .inr (.inl n)
    · rw [upd_ne z] at h; exact .inl h
  · by_cases z : b = a
    · subst z; rw [upd_same] at h ⊢; exact h
    · rw [upd_ne z] at h ⊢; exact k.sub b u h
  · by_cases z : b = a
    · subst z; have := tups_sub b u h; rw [upd_same] at this ⊢; exact this
    · rw [upd_ne z]
      refine k.tup b u ?_
      unfold tups at h ⊢
      rw [upd_ne z] at h
      exact h
theorem Grow.own {F H : Hp} {a : Addr} {o : HO} (k : Ok F H) (n : H a = none) (t : NoTup o) : Grow F H F (upd H a o) := Grow.of k (same_new n) fun b u h e => by
  by_cases z : b = a
  · subst z; rw [upd_same] at h; cases h; exact t
  · rw [upd_ne z, e] at h; cases h
theorem nt_lst {xs : List V} : NoTup (.lst xs) := fun ys => ⟨(by intro z; cases z), fun q z => by cases z⟩
theorem nt_dK {xs : List (Key × V)} : NoTup (.dK xs) := fun ys => ⟨(by intro z; cases z), fun q z => by cases z⟩
theorem nt_dT {xs : List (List Key × V)} : NoTup (.dT xs) := fun ys => ⟨(by intro z; cases z), fun q z => by cases z⟩
theorem nt_ins {C dx : Addr} {xs : List (Str × V)} : NoTup (.ins C dx xs) := fun ys => ⟨(by intro z; cases z), fun q z => by cases z⟩
inductive Sh where
  | z | l (c : Sh) | k (c : Sh) | t (c : Sh) | i (fs : List (Str × Sh)) | u (cs : List Sh)
instance : Inhabited Sh := ⟨.z⟩
mutual
def Sh.eqb : Sh → Sh → Bool
  | .z, .z => true
  | .l a, .l b => Sh.eqb a b
  | .k a, .k b => Sh.eqb a b
  | .t a, .t b => Sh.eqb a b
  | .i a, .i b => Sh.eqbF a b
  | .u a, .u b => Sh.eqbs a b
  | _, _ => false
def Sh.eqbs : List Sh → List Sh → Bool
  | [], [] => true
  | a :: as, b :: bs => Sh.eqb a b && Sh.eqbs as bs
  | _, _ => false
def Sh.eqbF : List (Str × Sh) → List (Str × Sh) → Bool
  | [], [] => true
  | (f, a) :: as, (g, b) :: bs => decide (f = g) && Sh.eqb a b && Sh.eqbF as bs
  | _, _ => false
end
mutual
theorem Sh.eq_of : ∀ {a b : Sh}, Sh.eqb a b = true → a = b
  | .z, b, h => by cases b <;> first | rfl | (unfold Sh.eqb at h; cases h)
  | .l a, b, h => by
    cases b with
    | l b => unfold Sh.eqb at h; rw [Sh.eq_of h]
    | _ => unfold Sh.eqb at h; cases h
  | .k a, b, h => by
    cases b with
    | k b => unfold Sh.eqb at h; rw [Sh.eq_of h]
    | _ => unfold Sh.eqb at h; cases h
  | .t a, b, h => by
    cases b with
    | t b => unfold Sh.eqb at h; rw [Sh.eq_of h]
    | _ => unfold Sh.eqb at h; cases h
  | .i a, b, h => by
    cases b with
    | i b => unfold Sh.eqb at h; rw [Sh.eqF_of h]
    | _ => unfold Sh.eqb at h; cases h
  | .u a, b, h => by
    cases b with
    | u b => unfold Sh.eqb at h; rw [Sh.eqs_of h]
    | _ => unfold Sh.eqb at h; cases h
theorem Sh.eqs_of : ∀ {a b : List Sh}, Sh.eqbs a b = true → a = b
  | [], [], _ => rfl
  | a :: as, b :: bs, h => by
    unfold Sh.eqbs at h
    rw [Bool.and_eq_true] at h
    rw [Sh.eq_of h.1, Sh.eqs_of h.2]
  | [], _ :: _, h => by unfold Sh.eqbs at h; cases h
  | _ :: _, [], h => by unfold Sh.eqbs at h; cases h
theorem Sh.eqF_of : ∀ {a b : List (Str × Sh)}, Sh.eqbF a b = true → a = b
  | [], [], _ => rfl
  | (f, a) :: as, (g, b) :: bs, h => by
    unfold Sh.eqbF at h
    rw [Bool.and_eq_true, Bool.and_eq_true, decide_eq_true_eq] at h
    rw [h.1.1, Sh.eq_of h.1.2, Sh.eqF_of h.2]
  | [], _ :: _, h => by unfold Sh.eqbF at h; cases h
  | _ :: _, [], h => by unfold Sh.eqbF at h; cases h
end
inductive Mo where
  | u | z | o (s : Sh) | p (s : Sh)
def Mo.own : Mo → Bool
  | .o _ | .p _ => true
  | _ => false
def Mo.isU : Mo → Bool
  | .u => true
  | _ => false
def Mo.eqb : Mo → Mo → Bool
  | .u, .u => true
  | .z, .z => true
  | .o a, .o b => Sh.eqb a b
  | .p a, .p b => Sh.eqb a b
  | _, _ => false
theorem Mo.eq_of {a b : Mo} (h : Mo.eqb a b = true) : a = b := by
  cases a <;> cases b <;> first | rfl | cases h | (unfold Mo.eqb at h; rw [Sh.eq_of h])
def AllO (P : D → V → List Addr → Prop) : List D → List V → List Addr → Prop
  | [], vs, fp => vs = [] ∧ fp = []
  | d :: ds, vs, fp => ∃ v ws f1 f2, vs = v :: ws ∧ fp = f1 ++ f2 ∧ P d v f1 ∧ AllO P ds ws f2
def AllK (P : D → V → List Addr → Prop) : List (D × D) → List (Key × V) → List Addr → Prop
  | [], ws, fp => ws = [] ∧ fp = []
  | (k, d) :: r, ws, fp => ∃ q v us f1 f2, ws = (q, v) :: us ∧ fp = f1 ++ f2 ∧ k = keyD q ∧ P d v f1 ∧ AllK P r us f2
def AllT (P : D → V → List Addr → Prop) : List (D × D) → List (List Key × V) → List Addr → Prop
  | [], ws, fp => ws = [] ∧ fp = []
  | (k, d) :: r, ws, fp => ∃ q v us f1 f2, ws = (q, v) :: us ∧ fp = f1 ++ f2 ∧ k = .tup (q.map keyD) ∧ P d v f1 ∧ AllT P r us f2
theorem AllO.imp {P Q : D → V → List Addr → Prop} : ∀ {ds : List D} {vs : List V} {fp : List Addr}, (∀ d v f, (∀ a ∈ f, a ∈ fp) → P d v f → Q d v f) → AllO P ds vs fp → AllO Q ds vs fp
  | [], _, _, _, h => by unfold AllO at h ⊢; exact h
  | d :: ds, _, _, k, h => by
    unfold AllO at h ⊢
    obtain ⟨v, ws, f1, f2, e1, e2, h1, h2⟩ := h
    exact ⟨v, ws, f1, f2, e1, e2, k d v f1 (fun a z => by rw [e2]; exact List.mem_append_left _ z) h1, AllO.imp (fun d v f s => k d v f fun a z => by rw [e2]; exact List.mem_append_right _ (s a z)) h2⟩
theorem AllK.imp {P Q : D → V → List Addr → Prop} : ∀ {ds : List (D × D)} {vs : List (Key × V)} {fp : List Addr}, (∀ d v f, (∀ a ∈ f, a ∈ fp) → P d v f → Q d v f) → AllK P ds vs fp → AllK Q ds vs fp
  | [], _, _, _, h => by unfold AllK at h ⊢; exact h
  | (k', d) :: ds, _, _, k, h => by
    unfold AllK at h ⊢
    obtain ⟨q, v, ws, f1, f2, e1, e2, e3, h1, h2⟩ := h
    exact ⟨q, v, ws, f1, f2, e1, e2, e3, k d v f1 (fun a z => by rw [e2]; exact List.mem_append_left _ z) h1, AllK.imp (fun d v f s => k d v f fun a z => by rw [e2]; exact List.mem_append_right _ (s a z)) h2⟩
theorem AllT.imp {P Q : D → V → List Addr → Prop} : ∀ {ds : List (D × D)} {vs : List (List Key × V)} {fp : List Addr}, (∀ d v f, (∀ a ∈ f, a ∈ fp) → P d v f → Q d v f) → AllT P ds vs fp → AllT Q ds vs fp
  | [], _, _, _, h => by unfold AllT at h ⊢; exact h
  | (k', d) :: ds, _, _, k, h => by
    unfold AllT at h ⊢
    obtain ⟨q, v, ws, f1, f2, e1, e2, e3, h1, h2⟩ := h
    exact ⟨q, v, ws, f1, f2, e1, e2, e3, k d v f1 (fun a z => by rw [e2]; exact List.mem_append_left _ z) h1, AllT.imp (fun d v f s => k d v f fun a z => by rw [e2]; exact List.mem_append_right _ (s a z)) h2⟩
section
variable (K : PySem.W.Frag) (F H : Hp)
mutual
def OR : Sh → D → V → List Addr → Prop
  | .z, d, v, fp => fp = [] ∧ Rep K F d v
  | .l c, d, v, fp => ∃ ds a vs fq, d = .lst ds ∧ v = .ref a ∧ fp = a :: fq ∧ H a = some (.lst vs) ∧ vs.length ≤ sizeLine ∧ AllO (OR c) ds vs fq
  | .k c, d, v, fp => ∃ kvs a ws fq, d = .dct false kvs ∧ v = .ref a ∧ fp = a :: fq ∧ H a = some (.dK ws) ∧ AllK (OR c) kvs ws fq
  | .t c, d, v, fp => ∃ kvs a ws fq, d = .dct true kvs ∧ v = .ref a ∧ fp = a :: fq ∧ H a = some (.dT ws) ∧ AllT (OR c) kvs ws fq
  | .i fs, d, v, fp => ∃ c gs a dx ws fq, d = .obj c gs ∧ v = .ref a ∧ fp = a :: fq ∧ H a = some (.ins (He.ga K c) dx ws) ∧ NoMore gs ws ∧ (ws.length ≤ gs.length ∧ (gs.map (·.1)).Nodup) ∧ (∀ f x, gs.lookup f = some x → fs.lookup f = none → ∃ v, ws.lookup f = some v ∧ Rep K F x v) ∧ ORf fs gs ws fq
  | .u cs, d, v, fp => ∃ ds a vs, d = .tup ds ∧ v = .ref a ∧ H a = some (.tup vs) ∧ vs.length ≤ sizeLine ∧ ORu cs ds vs fp
def ORf : List (Str × Sh) → List (Str × D) → List (Str × V) → List Addr → Prop
  | [], _, _, fp => fp = []
  | (f, s) :: r, gs, ws, fp => ∃ f1 f2, fp = f1 ++ f2 ∧ ((gs.lookup f = none ∧ f1 = []) ∨ ∃ d v, gs.lookup f = some d ∧ ws.lookup f = some v ∧ OR s d v f1) ∧ ORf r gs ws f2
def ORu : List Sh → List D → List V → List Addr → Prop
  | [], ds, vs, fp => ds = [] ∧ vs = [] ∧ fp = []
  | s :: r, ds, vs, fp => ∃ d es v ws f1 f2, ds = d :: es ∧ vs = v :: ws ∧ fp = f1 ++ f2 ∧ OR s d v f1 ∧ ORu r es ws f2
end
end
section
variable {K : PySem.W.Frag} {F H F' H' : Hp}
mutual
theorem OR.mono : ∀ (s : Sh) {d : D} {v : V} {fp : List Addr}, OR K F H s d v fp → Same F F' → (∀ a o, H a = some o → (a ∈ fp ∨ ¬ NoTup o) → H' a = some o) → OR K F' H' s d v fp
  | .z, _, _, _, h, sf, _ => by unfold OR at h ⊢; exact ⟨h.1, Rep.mono sf _ h.2⟩
  | .l c, _, _, _, h, sf, k => by
    unfold OR at h ⊢
    obtain ⟨ds, a, vs, fq, e1, e2, e3, h1, h2, h3⟩ := h
    subst e3
    exact ⟨ds, a, vs, fq, e1, e2, rfl, k a _ h1 (.inl (List.mem_cons_self ..)), h2, h3.imp fun d v f s q => OR.mono c q sf fun b o e z => k b o e (z.imp (fun z => List.mem_cons_of_mem _ (s b z)) id)⟩
  | .k c, _, _, _, h, sf, k => by
    unfold OR at h ⊢
    obtain ⟨ds, a, vs, fq, e1, e2, e3, h1, h3⟩ := h
    subst e3
    exact ⟨ds, a, vs, fq, e1, e2, rfl, k a _ h1 (.inl (List.mem_cons_self ..)), h3.imp fun d v f s q => OR.mono c q sf fun b o e z => k b o e (z.imp (fun z => List.mem_cons_of_mem _ (s b z)) id)⟩
  | .t c, _, _, _, h, sf, k => by
    unfold OR at h ⊢
    obtain ⟨ds, a, vs, fq, e1, e2, e3, h1, h3⟩ := h
    subst e3
    exact ⟨ds, a, vs, fq, e1, e2, rfl, k a _ h1 (.inl (List.mem_cons_self ..)), h3.imp fun d v f s q => OR.mono c q sf fun b o e z => k b o e (z.imp (fun z => List.mem_cons_of_mem _ (s b z)) id)⟩
  | .i fs, _, _, _, h, sf, k => by
    unfold OR at h ⊢
    obtain ⟨c, gs, a, dx, ws, fq, e1, e2, e3, h1, h2, h3, h4, h5⟩ := h
    subst e3
    exact ⟨c, gs, a, dx, ws, fq, e1, e2, rfl, k a _ h1 (.inl (List.mem_cons_self ..)), h2, h3, fun f x e n => let ⟨v, e', r⟩ := h4 f x e n; ⟨v, e', Rep.mono sf _ r⟩, ORf.mono fs h5 sf fun b o e z => k b o e (z.imp (List.mem_cons_of_mem _) id)⟩
  | .u cs, _, _, _, h, sf, k => by
    unfold OR at h ⊢
    obtain ⟨ds, a, vs, e1, e2, h1, h2, h3⟩ := h
    exact ⟨ds, a, vs, e1, e2, k a _ h1 (.inr fun n => (n vs).1 rfl), h2, ORu.mono cs h3 sf k⟩
theorem ORf.mono : ∀ (fs : List (Str × Sh)) {gs : List (Str × D)} {ws : List (Str × V)} {fp : List Addr}, ORf K F H fs gs ws fp → Same F F' → (∀ a o, H a = some o → (a ∈ fp ∨ ¬ NoTup o) → H' a = some o) → ORf K F' H' fs gs ws fp
  | [], _, _, _, h, _, _ => by unfold ORf at h ⊢; exact h
  | (f, s) :: r, _, _, _, h, sf, k => by
    unfold ORf at h ⊢
    obtain ⟨f1, f2, e, h1, h2⟩ := h
    subst e
    exact ⟨f1, f2, rfl, h1.imp id fun ⟨d, v, e1, e2, q⟩ => ⟨d, v, e1, e2, OR.mono s q sf fun b o e z => k b o e (z.imp (List.mem_append_left _) id)⟩, ORf.mono r h2 sf fun b o e z => k b o e (z.imp (List.mem_append_right _) id)⟩
theorem ORu.mono : ∀ (cs : List Sh) {ds : List D} {vs : List V} {fp : List Addr}, ORu K F H cs ds vs fp → Same F F' → (∀ a o, H a = some o → (a ∈ fp ∨ ¬ NoTup o) → H' a = some o) → ORu K F' H' cs ds vs fp
  | [], _, _, _, h, _, _ => by unfold ORu at h ⊢; exact h
  | s :: r, _, _, _, h, sf, k => by
    unfold ORu at h ⊢
    obtain ⟨d, es, v, ws, f1, f2, e1, e2, e3, h1, h2⟩ := h
    subst e3
    exact ⟨d, es, v, ws, f1, f2, e1, e2, rfl, OR.mono s h1 sf fun b o e z => k b o e (z.imp (List.mem_append_left _) id), ORu.mono r h2 sf fun b o e z => k b o e (z.imp (List.mem_append_right _) id)⟩
end
theorem AllO.all {P : D → V → List Addr → Prop} {R : Addr → Prop} : ∀ {ds : List D} {vs : List V} {fp : List Addr}, (∀ d v f, P d v f → ∀ a ∈ f, R a) → AllO P ds vs fp → ∀ a ∈ fp, R a
  | [], _, _, _, h, a, m => by unfold AllO at h; rw [h.2] at m; cases m
  | d :: ds, _, _, k, h, a, m => by
    unfold AllO at h
    obtain ⟨v, ws, f1, f2, e1, e2, h1, h2⟩ := h
    rw [e2] at m
    exact (List.mem_append.mp m).elim (k d v f1 h1 a) (AllO.all k h2 a)
theorem AllK.all {P : D → V → List Addr → Prop} {R : Addr → Prop} : ∀ {ds : List (D × D)} {vs : List (Key × V)} {fp : List Addr}, (∀ d v f, P d v f → ∀ a ∈ f, R a) → AllK P ds vs fp → ∀ a ∈ fp, R a
  | [], _, _, _, h, a, m => by unfold AllK at h; rw [h.2] at m; cases m
  | (_, d) :: ds, _, _, k, h, a, m => by
    unfold AllK at h
    obtain ⟨q, v, ws, f1, f2, e1, e2, _, h1, h2⟩ := h
    rw [e2] at m
    exact (List.mem_append.mp m).elim (k d v f1 h1 a) (AllK.all k h2 a)
theorem AllT.all {P : D → V → List Addr → Prop} {R : Addr → Prop} : ∀ {ds : List (D × D)} {vs : List (List Key × V)} {fp : List Addr}, (∀ d v f, P d v f → ∀ a ∈ f, R a) → AllT P ds vs fp → ∀ a ∈ fp, R a
  | [], _, _, _, h, a, m => by unfold AllT at h; rw [h.2] at m; cases m
  | (_, d) :: ds, _, _, k, h, a, m => by
    unfold AllT at h
    obtain ⟨q, v, ws, f1, f2, e1, e2, _, h1, h2⟩ := h
    rw [e2] at m
    exact (List.mem_append.mp m).elim (k d v f1 h1 a) (AllT.all k h2 a)
abbrev LiveN (H : Hp) (a : Addr) : Prop := ∃ o, H a = some o ∧ NoTup o
mutual
theorem OR.live : ∀ (s : Sh) {d : D} {v : V} {fp : List Addr}, OR K F H s d v fp → ∀ a ∈ fp, LiveN H a
  | .z, _, _, _, h, a, m => by unfold OR at h; rw [h.1] at m; cases m
  | .l c, _, _, _, h, b, m => by
    unfold OR at h
    obtain ⟨ds, a, vs, fq, e1, e2, e3, h1, h2, h3⟩ := h
    rw [e3] at m
    rcases List.mem_cons.mp m with rfl | m
    · exact ⟨_, h1, nt_lst⟩
    · exact h3.all (fun d v f q => OR.live c q) b m
  | .k c, _, _, _, h, b, m => by
    unfold OR at h
    obtain ⟨ds, a, vs, fq, e1, e2, e3, h1, h3⟩ := h
    rw [e3] at m
    rcases List.mem_cons.mp m with rfl | m
    · exact ⟨_, h1, nt_dK⟩
    · exact h3.all (fun d v f q => OR.live c q) b m
  | .t c, _, _, _, h, b, m => by
    unfold OR at h
    obtain ⟨ds, a, vs, fq, e1, e2, e3, h1, h3⟩ := h
    rw [e3] at m
    rcases List.mem_cons.mp m with rfl | m
    · exact ⟨_, h1, nt_dT⟩
    · exact h3.all (fun d v f q => OR.live c q) b m
  | .i fs, _, _, _, h, b, m => by
    unfold OR at h
    obtain ⟨c, gs, a, dx, ws, fq, e1, e2, e3, h1, h2, h3, h4, h5⟩ := h
    rw [e3] at m
    rcases List.mem_cons.mp m with rfl | m
    · exact ⟨_, h1, nt_ins⟩
    · exact ORf.live fs h5 b m
  | .u cs, _, _, _, h, b, m => by
    unfold OR at h
    obtain ⟨ds, a, vs, e1, e2, h1, h2, h3⟩ := h
    exact ORu.live cs h3 b m
theorem ORf.live : ∀ (fs : List (Str × Sh)) {gs : List (Str × D)} {ws : List (Str × V)} {fp : List Addr}, ORf K F H fs gs ws fp → ∀ a ∈ fp, LiveN H a
  | [], _, _, _, h, a, m => by unfold ORf at h; rw [h] at m; cases m
  | (f, s) :: r, _, _, _, h, a, m => by
    unfold ORf at h
    obtain ⟨f1, f2, e, h1, h2⟩ := h
    rw [e] at m
    rcases List.mem_append.mp m with m | m
    · rcases h1 with ⟨_, e1⟩ | ⟨d, v, _, _, q⟩
      · rw [e1] at m; cases m
      · exact OR.live s q a m
    · exact ORf.live r h2 a m
theorem ORu.live : ∀ (cs : List Sh) {ds : List D} {vs : List V} {fp : List Addr}, ORu K F H cs ds vs fp → ∀ a ∈ fp, LiveN H a
  | [], _, _, _, h, a, m => by unfold ORu at h; rw [h.2.2] at m; cases m
  | s :: r, _, _, _, h, a, m => by
    unfold ORu at h
    obtain ⟨d, es, v, ws, f1, f2, e1, e2, e3, h1, h2⟩ := h
    rw [e3] at m
    exact (List.mem_append.mp m).elim (OR.live s h1 a) (ORu.live r h2 a)
end
theorem AllO.reps {P : D → V → List Addr → Prop} {G : Hp} : ∀ {ds : List D} {vs : List V} {fp : List Addr}, (∀ d v f, (∀ a ∈ f, a ∈ fp) → P d v f → Rep K G d v) → AllO P ds vs fp → Reps K G ds vs
  | [], _, _, _, h => by unfold AllO at h; rw [h.1]; exact .nil
  | d :: ds, _, _, k, h => by
    unfold AllO at h
    obtain ⟨v, ws, f1, f2, e1, e2, h1, h2⟩ := h
    rw [e1]
    exact .cons (k d v f1 (fun a z => by rw [e2]; exact List.mem_append_left _ z) h1) (AllO.reps (fun d v f s => k d v f fun a z => by rw [e2]; exact List.mem_append_right _ (s a z)) h2)
theorem AllK.repk {P : D → V → List Addr → Prop} {G : Hp} : ∀ {ds : List (D × D)} {vs : List (Key × V)} {fp : List Addr}, (∀ d v f, (∀ a ∈ f, a ∈ fp) → P d v f → Rep K G d v) → AllK P ds vs fp → RepK K G ds vs
  | [], _, _, _, h => by unfold AllK at h; rw [h.1]; unfold RepK; rfl
  | (_, d) :: ds, _, _, k, h => by
    unfold AllK at h
    obtain ⟨q, v, ws, f1, f2, e1, e2, e3, h1, h2⟩ := h
    unfold RepK
    exact ⟨q, v, ws, e1, e3, k d v f1 (fun a z => by rw [e2]; exact List.mem_append_left _ z) h1, AllK.repk (fun d v f s => k d v f fun a z => by rw [e2]; exact List.mem_append_right _ (s a z)) h2⟩
theorem AllT.rept {P : D → V → List Addr → Prop} {G : Hp} : ∀ {ds : List (D × D)} {vs : List (List Key × V)} {fp : List Addr}, (∀ d v f, (∀ a ∈ f, a ∈ fp) → P d v f → Rep K G d v) → AllT P ds vs fp → RepT K G ds vs
  | [], _, _, _, h => by unfold AllT at h; rw [h.1]; unfold RepT; rfl
  | (_, d) :: ds, _, _, k, h => by
    unfold AllT at h
    obtain ⟨q, v, ws, f1, f2, e1, e2, e3, h1, h2⟩ := h
    unfold RepT
    exact ⟨q, v, ws, e1, e3, k d v f1 (fun a z => by rw [e2]; exact List.mem_append_left _ z) h1, AllT.rept (fun d v f s => k d v f fun a z => by rw [e2]; exact List.mem_append_right _ (s a z)) h2⟩
theorem RepF.all {gs : List (Str × D)} {ws : List (Str × V)} {G : Hp} (nd : ∀ f x, (f, x) ∈ gs → ∃ v, ws.lookup f = some v ∧ Rep K G x v) : RepF K G gs ws := by
  induction gs with
  | nil => unfold RepF; trivial
  | cons p gs ih =>
    obtain ⟨f, x⟩ := p
    unfold RepF
    exact ⟨nd f x (List.mem_cons_self ..), ih fun f x m => nd f x (List.mem_cons_of_mem _ m)⟩
theorem lookup_nodup {gs : List (Str × D)} (n : (gs.map (·.1)).Nodup) {f : Str} {x : D} (m : (f, x) ∈ gs) : gs.lookup f = some x := by
  induction gs with
  | nil => cases m
  | cons p gs ih =>
    obtain ⟨g, y⟩ := p
    rw [List.map_cons, List.nodup_cons] at n
    rw [List.lookup_cons]
    rcases List.mem_cons.mp m with e | m
    · cases e
      simp
    · have : f ≠ g := fun z => n.1 (by rw [← z]; exact List.mem_map.mpr ⟨(f, x), m, rfl⟩)
      rw [show (f == g) = false by simpa using this]
      exact ih n.2 m
theorem ORf.at_ {fs : List (Str × Sh)} {gs : List (Str × D)} {ws : List (Str × V)} {fp : List Addr} (h : ORf K F H fs gs ws fp) {f : Str} {s : Sh} {x : D} (e : fs.lookup f = some s) (ex : gs.lookup f = some x) : ∃ v f1, ws.lookup f = some v ∧ OR K F H s x v f1 ∧ ∀ a ∈ f1, a ∈ fp := by
  induction fs generalizing fp with
  | nil => cases e
  | cons p r ih =>
    obtain ⟨g, s'⟩ := p
    unfold ORf at h
    obtain ⟨f1, f2, e1, h1, h2⟩ := h
    rw [List.lookup_cons] at e
    split at e
    · rename_i z
      cases e
      have : f = g := by simpa using z
      subst this
      rcases h1 with ⟨n, _⟩ | ⟨d, v, g1, g2, q⟩
      · rw [n] at ex; cases ex
      · rw [g1] at ex; cases ex
        exact ⟨v, f1, g2, q, fun a m => by rw [e1]; exact List.mem_append_left _ m⟩
    · obtain ⟨v, f1', g1, g2, g3⟩ := ih h2 e
      exact ⟨v, f1', g1, g2, fun a m => by rw [e1]; exact List.mem_append_right _ (g3 a m)⟩
mutual
theorem OR.rep : ∀ (s : Sh) {d : D} {v : V} {fp : List Addr}, OR K F H s d v fp → Same F F' → (∀ a o, H a = some o → (a ∈ fp ∨ ¬ NoTup o) → F' a = some o) → Rep K F' d v
  | .z, _, _, _, h, sf, _ => by unfold OR at h; exact Rep.mono sf _ h.2
  | .l c, _, _, _, h, sf, k => by
    unfold OR at h
    obtain ⟨ds, a, vs, fq, rfl, rfl, rfl, h1, h2, h3⟩ := h
    unfold Rep
    exact ⟨a, vs, rfl, .inl (k a _ h1 (.inl (List.mem_cons_self ..))), h2, h3.reps fun d v f s q => OR.rep c q sf fun b o e z => k b o e (z.imp (fun z => List.mem_cons_of_mem _ (s b z)) id)⟩
  | .k c, _, _, _, h, sf, k => by
    unfold OR at h
    obtain ⟨ds, a, vs, fq, rfl, rfl, rfl, h1, h3⟩ := h
    unfold Rep
    exact ⟨a, vs, rfl, .inl (k a _ h1 (.inl (List.mem_cons_self ..))), h3.repk fun d v f s q => OR.rep c q sf fun b o e z => k b o e (z.imp (fun z => List.mem_cons_of_mem _ (s b z)) id)⟩
  | .t c, _, _, _, h, sf, k => by
    unfold OR at h
    obtain ⟨ds, a, vs, fq, rfl, rfl, rfl, h1, h3⟩ := h
    unfold Rep
    exact ⟨a, vs, rfl, .inl (k a _ h1 (.inl (List.mem_cons_self ..))), h3.rept fun d v f s q => OR.rep c q sf fun b o e z => k b o e (z.imp (fun z => List.mem_cons_of_mem _ (s b z)) id)⟩
  | .i fs, _, _, _, h, sf, k => by
    unfold OR at h
    obtain ⟨c, gs, a, dx, ws, fq, rfl, rfl, rfl, h1, h2, h3, h4, h5⟩ := h
    unfold Rep
    refine ⟨a, dx, ws, rfl, k a _ h1 (.inl (List.mem_cons_self ..)), h2, RepF.all fun f x m => ?_⟩
    have ex := lookup_nodup h3.2 m
    cases e : fs.lookup f with
    | none =>
      obtain ⟨v, e', r⟩ := h4 f x ex e
      exact ⟨v, e', Rep.mono sf _ r⟩
    | some s => exact ORf.rep fs h5 sf (fun b o e z => k b o e (z.imp (List.mem_cons_of_mem _) id)) e ex
  | .u cs, _, _, _, h, sf, k => by
    unfold OR at h
    obtain ⟨ds, a, vs, rfl, rfl, h1, h2, h3⟩ := h
    unfold Rep
    exact ⟨a, vs, rfl, .inl (k a _ h1 (.inr fun n => (n vs).1 rfl)), h2, ORu.rep cs h3 sf k⟩
theorem ORf.rep : ∀ (fs : List (Str × Sh)) {gs : List (Str × D)} {ws : List (Str × V)} {fp : List Addr}, ORf K F H fs gs ws fp → Same F F' → (∀ a o, H a = some o → (a ∈ fp ∨ ¬ NoTup o) → F' a = some o) → ∀ {f : Str} {s : Sh} {x : D}, fs.lookup f = some s → gs.lookup f = some x → ∃ v, ws.lookup f = some v ∧ Rep K F' x v
  | [], _, _, _, _, _, _, _, _, _, e, _ => by cases e
  | (g, s) :: r, _, _, _, h, sf, k, f, s', x, e, ex => by
    unfold ORf at h
    obtain ⟨f1, f2, e1, h1, h2⟩ := h
    subst e1
    rw [List.lookup_cons] at e
    split at e
    · rename_i z
      cases e
      have : f = g := by simpa using z
      subst this
      rcases h1 with ⟨n, _⟩ | ⟨d, v, g1, g2, q⟩
      · rw [n] at ex; cases ex
      · rw [g1] at ex; cases ex
        exact ⟨v, g2, OR.rep s q sf fun b o e z => k b o e (z.imp (List.mem_append_left _) id)⟩
    · exact ORf.rep r h2 sf (fun b o e z => k b o e (z.imp (List.mem_append_right _) id)) e ex
theorem ORu.rep : ∀ (cs : List Sh) {ds : List D} {vs : List V} {fp : List Addr}, ORu K F H cs ds vs fp → Same F F' → (∀ a o, H a = some o → (a ∈ fp ∨ ¬ NoTup o) → F' a = some o) → Reps K F' ds vs
  | [], _, _, _, h, _, _ => by unfold ORu at h; obtain ⟨rfl, rfl, _⟩ := h; exact .nil
  | s :: r, _, _, _, h, sf, k => by
    unfold ORu at h
    obtain ⟨d, es, v, ws, f1, f2, rfl, rfl, rfl, h1, h2⟩ := h
    exact .cons (OR.rep s h1 sf fun b o e z => k b o e (z.imp (List.mem_append_left _) id)) (ORu.rep r h2 sf fun b o e z => k b o e (z.imp (List.mem_append_right _) id))
end
theorem allO_z {ds : List D} {vs : List V} (r : Reps K F ds vs) : AllO (OR K F H .z) ds vs [] := by
  induction ds generalizing vs with
  | nil => unfold Reps at r; subst r; exact ⟨rfl, rfl⟩
  | cons d ds ih =>
    unfold Reps at r
    obtain ⟨v, ws, rfl, h1, h2⟩ := r
    exact ⟨v, ws, [], [], rfl, rfl, by unfold OR; exact ⟨rfl, h1⟩, ih h2⟩
theorem allO_zi {ds : List D} {vs : List V} {fp : List Addr} (h : AllO (OR K F H .z) ds vs fp) : fp = [] ∧ Reps K F ds vs := by
  induction ds generalizing vs fp with
  | nil => obtain ⟨rfl, rfl⟩ := h; exact ⟨rfl, .nil⟩
  | cons d ds ih =>
    obtain ⟨v, ws, f1, f2, rfl, rfl, h1, h2⟩ := h
    unfold OR at h1
    obtain ⟨rfl, r2⟩ := ih h2
    obtain ⟨rfl, r1⟩ := h1
    exact ⟨rfl, .cons r1 r2⟩
theorem OR.ofL {ds : List D} {vs : List V} {p : Addr} (e : H p = some (.lst vs)) (l : vs.length ≤ sizeLine) (r : Reps K F ds vs) : OR K F H (.l .z) (.lst ds) (.ref p) [p] := by
  unfold OR
  exact ⟨ds, p, vs, [], rfl, rfl, rfl, e, l, allO_z r⟩
theorem OR.toL {d : D} {v : V} {fp : List Addr} (h : OR K F H (.l .z) d v fp) : ∃ ds p vs, d = .lst ds ∧ v = .ref p ∧ fp = [p] ∧ H p = some (.lst vs) ∧ vs.length ≤ sizeLine ∧ Reps K F ds vs := by
  unfold OR at h
  obtain ⟨ds, p, vs, fq, e1, e2, e3, h1, h2, h3⟩ := h
  obtain ⟨rfl, r⟩ := allO_zi h3
  exact ⟨ds, p, vs, e1, e2, e3, h1, h2, r⟩
end
section
variable (K : PySem.W.Frag)
def SR (F H : Hp) : Mo → D → Option V → List Addr → Prop
  | .u, d, _, fp => d = .non ∧ fp = []
  | .z, d, v, fp => fp = [] ∧ ∃ x, v = some x ∧ Rep K F d x
  | .o s, d, v, fp => ∃ x, v = some x ∧ OR K F H s d x fp
  | .p s, d, v, fp => ∃ x, v = some x ∧ OR K F H s d x fp
end
def Mine (fps : List (List Addr)) (a : Addr) : Prop := ∃ f ∈ fps, a ∈ f
structure IO where
  a : Addr → Prop
  v : Option V
structure Rel (K : PySem.W.Frag) (H0 F0 : Hp) (io : IO) (F H : Hp) (ms : List Mo) (S : List D) (σ : L2.St) (fps : List (List Addr)) : Prop where
  evo : Evo io.a F0 H0 F H
  lS : S.length = ms.length
  lσ : σ.length = ms.length
  lf : fps.length = ms.length
  at_ : ∀ (i : Nat) (m : Mo), ms[i]? = some m → ∃ (d : D) (v : Option V) (f : List Addr), S[i]? = some d ∧ σ[i]? = some v ∧ fps[i]? = some f ∧ SR K F H m d v f ∧ f.Nodup ∧
    (∀ a ∈ f, F a = none ∧ (H0 a = none ∨ io.a a)) ∧ ((∀ s, m = .o s → ∀ a ∈ f, H0 a = none) ∧ ∀ s, m = .p s → v = io.v)
  dis : ∀ (i j : Nat) (f g : List Addr) (a : Addr), fps[i]? = some f → fps[j]? = some g → a ∈ f → a ∈ g → i = j
section
variable {K : PySem.W.Frag} {H0 F0 F H F' H' : Hp} {io : IO} {ms : List Mo} {S : List D} {σ : L2.St} {s : Sh} {d : D} {v : V} {a : Addr} {fps : List (List Addr)}
theorem Rel.ok (r : Rel K H0 F0 io F H ms S σ fps) : Ok F H := r.evo.ok
theorem Rel.sub (r : Rel K H0 F0 io F H ms S σ fps) : Same F H := r.evo.ok.sub
theorem SR.mono {m : Mo} {v : Option V} {f : List Addr} (h : SR K F H m d v f) (sf : Same F F') (k : ∀ a o, H a = some o → (a ∈ f ∨ ¬ NoTup o) → H' a = some o) : SR K F' H' m d v f := by
  cases m with
  | u => exact h
  | z => obtain ⟨e0, x, e1, r⟩ := h; exact ⟨e0, x, e1, Rep.mono sf _ r⟩
  | o s => obtain ⟨x, e1, r⟩ := h; exact ⟨x, e1, r.mono _ sf k⟩
  | p s => obtain ⟨x, e1, r⟩ := h; exact ⟨x, e1, r.mono _ sf k⟩
theorem SR.live {m : Mo} {v : Option V} {f : List Addr} (h : SR K F H m d v f) : ∀ a ∈ f, LiveN H a := by
  cases m with
  | u => rw [h.2]; intro a m; cases m
  | z => rw [h.1]; intro a m; cases m
  | o s => obtain ⟨x, e1, r⟩ := h; exact r.live _
  | p s => obtain ⟨x, e1, r⟩ := h; exact r.live _
theorem Rel.mine (r : Rel K H0 F0 io F H ms S σ fps) (m : Mine fps a) : ∃ (i : Nat) (f : List Addr), fps[i]? = some f ∧ a ∈ f ∧ LiveN H a ∧ F a = none ∧ (H0 a = none ∨ io.a a) := by
  obtain ⟨f, hf, ha⟩ := m
  obtain ⟨i, hi, e⟩ := List.getElem_of_mem hf
  have e' : fps[i]? = some f := by rw [List.getElem?_eq_getElem hi, e]
  have hm : i < ms.length := by rw [← r.lf]; exact hi
  obtain ⟨d, v, f', e1, e2, e3, sr, nd, q, _⟩ := r.at_ i ms[i] (List.getElem?_eq_getElem hm)
  rw [e'] at e3
  cases e3
  exact ⟨i, f, e', ha, sr.live a ha, q a ha⟩
theorem Rel.live (r : Rel K H0 F0 io F H ms S σ fps) (m : Mine fps a) : LiveN H a := let ⟨_, _, _, _, h, _⟩ := r.mine m; h
theorem Rel.ne (r : Rel K H0 F0 io F H ms S σ fps) (m : Mine fps a) : H a ≠ none := fun z => by
  obtain ⟨o, e, _⟩ := r.live m
  rw [z] at e; cases e
theorem Rel.notup (r : Rel K H0 F0 io F H ms S σ fps) {o : HO} (e : H a = some o) (n : ¬ NoTup o) : ¬ Mine fps a := fun m => by
  obtain ⟨u, e', n'⟩ := r.live m
  rw [e] at e'; cases e'
  exact n n'
theorem Rel.go {A : Addr → Prop} (r : Rel K H0 F0 io F H ms S σ fps) (e : Evo A F H F' H') (n : ∀ a, Mine fps a → ¬ A a) (nt : ∀ a o, H a = some o → A a → NoTup o) (w : ∀ a, A a → H0 a = none ∨ io.a a) : Rel K H0 F0 io F' H' ms S σ fps where
  evo := r.evo.trans e fun a z => (w a z).elim .inr .inl
  lS := r.lS
  lσ := r.lσ
  lf := r.lf
  at_ := fun i m h => by
    obtain ⟨d, v, f, e1, e2, e3, sr, nd, q, q2⟩ := r.at_ i m h
    have mf : ∀ b ∈ f, Mine fps b := fun b z => ⟨f, List.mem_of_getElem? e3, z⟩
    refine ⟨d, v, f, e1, e2, e3, sr.mono e.same fun b o eb z => e.frm b o eb ?_, nd, fun b m => ⟨?_, (q b m).2⟩, q2⟩
    · rcases z with z | z
      · exact n b (mf b z)
      · exact fun x => z (nt b o eb x)
    · refine Classical.byContradiction fun z => (e.new b z).elim (fun z => z (q b m).1) fun z => z.elim (fun z => r.ne (mf b m) z) (n b (mf b m))
  dis := r.dis
theorem Rel.grow (r : Rel K H0 F0 io F H ms S σ fps) (e : Grow F H F' H') : Rel K H0 F0 io F' H' ms S σ fps := r.go e (fun _ _ z => z) (fun _ _ _ z => z.elim) fun _ z => z.elim
end
def VR (K : PySem.W.Frag) (F H B : Hp) (M : Addr → Prop) : Mo → D → V → Prop
  | .z, d, v => Rep K F d v
  | .o s, d, v => ∃ f, OR K F H s d v f ∧ f.Nodup ∧ ∀ a ∈ f, F a = none ∧ B a = none ∧ ¬ M a
  | _, _, _ => False
def XR (K : PySem.W.Frag) (H : Hp) (c : Str) (fs : List (Str × D)) (cls : Value) (Dd : Option Addr) : Prop :=
  cls = .ref (He.ga K c) ∧ ((fs = [] ∧ Dd = none) ∨ ∃ b ws, Dd = some b ∧ H b = some (.xd ws) ∧ RepF K (tups H) fs ws)
structure Ev (fps fps' : List (List Addr)) (F H F' H' : Hp) : Prop where
  evo : Evo (Mine fps) F H F' H'
  mine : ∀ a, Mine fps' a → Mine fps a ∨ H a = none
theorem Ev.refl {fps : List (List Addr)} {F H : Hp} (k : Ok F H) : Ev fps fps F H F H := ⟨Evo.refl k, fun _ => .inl⟩
theorem Ev.trans {f0 f1 f2 : List (List Addr)} {F H F1 H1 F2 H2 : Hp} (x : Ev f0 f1 F H F1 H1) (y : Ev f1 f2 F1 H1 F2 H2) : Ev f0 f2 F H F2 H2 :=
  ⟨x.evo.trans y.evo x.mine, fun a m => (y.mine a m).elim (x.mine a) fun z => .inr (Classical.byContradiction fun n => x.evo.liv a n z)⟩
theorem Ev.grow {fps : List (List Addr)} {F H F' H' : Hp} (g : Grow F H F' H') : Ev fps fps F H F' H' := ⟨g.wide fun _ z => z.elim, fun _ => .inl⟩
section
variable (K : PySem.W.Frag) (E : L2.St → XK) (H0 F0 : Hp) (io : IO) (ms : List Mo) (σ : L2.St)
def Go {α : Type} (fps : List (List Addr)) (F H : Hp) (r : Rz (α × List D)) (P : α → List D → List (List Addr) → Hp → Hp → Prop) : Prop := match r with
  | .ok (x, S') => ∀ F' H' fps', Rel K H0 F0 io F' H' ms S' σ fps' → Ev fps fps' F H F' H' → P x S' fps' F' H'
  | .ex c fs => ∀ cls Dd F' H', Evo (Mine fps) F H F' H' → XR K H' c fs cls Dd → E σ cls Dd H'
  | .no => False
end
abbrev PV (K : PySem.W.Frag) (H : Hp) (m : Mo) (Q : VK) : D → List D → List (List Addr) → Hp → Hp → Prop := fun d _ fps' F' H' => ∀ v, VR K F' H' H (Mine fps') m d v → Q v H'
def SE (K : PySem.W.Frag) (E : L2.St → XK) (ms : List Mo) (m : Mo) (t : TE) (a : List D → Rz (D × List D)) : Prop :=
  ∀ (σ : L2.St) (H : Hp) (Q : VK) (H0 F0 : Hp) (io : IO) (F : Hp) (S : List D) (fps : List (List Addr)), Rel K H0 F0 io F H ms S σ fps → Go K E H0 F0 io ms σ fps F H (a S) (PV K H m Q) → t σ H Q
def ST (K : PySem.W.Frag) (E : L2.St → XK) (ms : List Mo) (t : TT) (a : List D → Rz (Bool × List D)) : Prop :=
  ∀ (σ : L2.St) (H : Hp) (Q : Bool → Hp → Prop) (H0 F0 : Hp) (io : IO) (F : Hp) (S : List D) (fps : List (List Addr)), Rel K H0 F0 io F H ms S σ fps → Go K E H0 F0 io ms σ fps F H (a S) (fun b _ _ _ H' => Q b H') → t σ H Q
section
variable {K : PySem.W.Frag} {E : L2.St → XK} {H0 F0 F H F1 H1 : Hp} {io : IO} {ms : List Mo} {S : List D} {σ : L2.St} {α β : Type} {fps f1 : List (List Addr)}
theorem Go.base {r : Rz (α × List D)} {P : α → List D → List (List Addr) → Hp → Hp → Prop} (e : Ev fps f1 F H F1 H1) (h : Go K E H0 F0 io ms σ fps F H r P) : Go K E H0 F0 io ms σ f1 F1 H1 r P := by
  rcases r with ⟨x, S'⟩ | ⟨c, fs⟩ | _
  · exact fun F' H' f' r' e' => h F' H' f' r' (e.trans e')
  · exact fun cls Dd F' H' e' => h cls Dd F' H' (e.evo.trans e' e.mine)
  · exact h
theorem Go.bind {r : Rz (α × List D)} {k : α × List D → Rz (β × List D)} {P : β → List D → List (List Addr) → Hp → Hp → Prop} (h : Go K E H0 F0 io ms σ fps F H (r.bind k) P) :
    Go K E H0 F0 io ms σ fps F H r fun x S1 f1 F1 H1 => Go K E H0 F0 io ms σ f1 F1 H1 (k (x, S1)) P := by
  rcases r with ⟨x, S'⟩ | ⟨c, fs⟩ | _
  · exact fun F' H' f' r' e' => Go.base e' h
  · exact h
  · exact h
theorem Go.imp {r : Rz (α × List D)} {P P' : α → List D → List (List Addr) → Hp → Hp → Prop} (h : Go K E H0 F0 io ms σ fps F H r P) (hp : ∀ x S1 f1 F1 H1, Rel K H0 F0 io F1 H1 ms S1 σ f1 → Ev fps f1 F H F1 H1 → P x S1 f1 F1 H1 → P' x S1 f1 F1 H1) : Go K E H0 F0 io ms σ fps F H r P' := by
  rcases r with ⟨x, S'⟩ | ⟨c, fs⟩ | _
  · exact fun F' H' f' r' e' => hp _ _ _ _ _ r' e' (h F' H' f' r' e')
  · exact h
  · exact h
theorem Go.done {x : α} {P : α → List D → List (List Addr) → Hp → Hp → Prop} (h : Go K E H0 F0 io ms σ fps F H (.ok (x, S)) P) (r : Rel K H0 F0 io F H ms S σ fps) : P x S fps F H := h F H fps r (Ev.refl r.ok)
theorem SE.use {m : Mo} {t : TE} {a : List D → Rz (D × List D)} {k : D × List D → Rz (β × List D)} {P : β → List D → List (List Addr) → Hp → Hp → Prop} {Q : VK} (s : SE K E ms m t a) (r : Rel K H0 F0 io F H ms S σ fps) (h : Go K E H0 F0 io ms σ fps F H ((a S).bind k) P)
    (q : ∀ d S1 f1 F1 H1 v, Rel K H0 F0 io F1 H1 ms S1 σ f1 → Ev fps f1 F H F1 H1 → VR K F1 H1 H (Mine f1) m d v → Go K E H0 F0 io ms σ f1 F1 H1 (k (d, S1)) P → Q v H1) : t σ H Q :=
  s σ H Q H0 F0 io F S fps r (h.bind.imp fun d S1 f1 F1 H1 r1 e1 g v vr => q d S1 f1 F1 H1 v r1 e1 vr g)
theorem ST.use {t : TT} {a : List D → Rz (Bool × List D)} {k : Bool × List D → Rz (β × List D)} {P : β → List D → List (List Addr) → Hp → Hp → Prop} {Q : Bool → Hp → Prop} (s : ST K E ms t a) (r : Rel K H0 F0 io F H ms S σ fps) (h : Go K E H0 F0 io ms σ fps F H ((a S).bind k) P)
    (q : ∀ d S1 f1 F1 H1, Rel K H0 F0 io F1 H1 ms S1 σ f1 → Ev fps f1 F H F1 H1 → Go K E H0 F0 io ms σ f1 F1 H1 (k (d, S1)) P → Q d H1) : t σ H Q :=
  s σ H Q H0 F0 io F S fps r (h.bind.imp fun d S1 f1 F1 H1 r1 e1 g => q d S1 f1 F1 H1 r1 e1 g)
end
end TT
namespace TT
open PySem PySem.Spec PyProof.Rows L2
section
variable {X : Cx} {pins : List (Addr × Obj)} {σ : L2.St} {H : Hp} {s : Shared}
theorem lstR (I : Inv X pins σ H s) {l : Addr} {xs : List V} (hH : Rd H l (.lst xs)) : xs.length ≤ sizeLine ∧ ∃ (its : List Value) (n : Nat), Vals xs its ∧ xs.length = its.length ∧ s.heap.get? l = some { cls := .type "list", data := .seq its.toArray n } := by
  obtain ⟨z, its, n, r, e⟩ := hH.ok I.hok
  exact ⟨z, its, n, r, r.length, e⟩
def rCatR : R2 := fun x y H Q => ∃ l b xs zs, x = .ref l ∧ y = .ref b ∧ Rd H l (.lst xs) ∧ Rd H b (.lst zs) ∧ xs.length + zs.length ≤ sizeLine ∧ ∀ p, H p = none → Q (.ref p) (upd H p (.lst (xs ++ zs)))
theorem op_catR : OpR X (binaryOp .Add) rCatR := by
  intro pins s σ H x y v u Q I rx ry h
  obtain ⟨l, b, xs, zs, rfl, rfl, hH, hB, hz, q⟩ := h
  cases rx
  cases ry
  obtain ⟨z, its, n, r, hl, e⟩ := lstR I hH
  obtain ⟨z2, its2, n2, r2, hl2, e2⟩ := lstR I hB
  refine PySem.P.add_list e e2 ?_ (by rw [List.size_toArray, List.size_toArray]; omega)
  have ea : its.toArray ++ its2.toArray = (its ++ its2).toArray := by simp
  rw [ea]
  exact ⟨.ref _, _, I.lnew (t' := s.toks) (r.append r2) (by rw [List.length_append]; omega), rfl, q _ I.fresh⟩
def rExtR : V → List V → Hp → VK → Prop := fun x vs H Q => ∃ l b xs zs, x = .ref l ∧ vs = [.ref b] ∧ H l = some (.lst xs) ∧ Rd H b (.lst zs) ∧ xs.length + zs.length ≤ sizeLine ∧ Q .non (upd H l (.lst (xs ++ zs)))
theorem mt_extR : MtR X "list.extend" rExtR := by
  intro pins s σ H x vs v us Q I rx rv h
  obtain ⟨l, b, xs, zs, rfl, rfl, hH, hB, hz, q⟩ := h
  cases rx
  obtain ⟨u, rfl, ru⟩ := rv.one
  cases ru
  obtain ⟨z, its, n, r, hl, e⟩ := I.lstM hH
  obtain ⟨z2, its2, n2, r2, hl2, e2⟩ := lstR I hB
  have hsz : its.toArray.size + its2.toArray.size ≤ sizeLine := by rw [List.size_toArray, List.size_toArray]; omega
  have hlong : ¬ (!its.toArray.isEmpty && Builtin.List.listTooLong (its.toArray.size + its2.toArray.size)) = true := by
    rw [notLongL hsz, Bool.and_false]
    exact Bool.false_ne_true
  refine call_meets F.slot_list_extend ⟨_, e, rfl⟩ F.entry_list_extend (F.args_list_extend_2 _ _)
    (AutoSeq1.list_extend_list_list_0 l its.toArray n b its2.toArray n2 hlong (by rw [List.size_toArray]; omega) (by omega)) ⟨e, e2, ?_⟩
  refine ⟨.non, _, I.lset (its' := its ++ its2) hH e (by simp) (r.append r2) ?_, rfl, q⟩
  rw [List.length_append]
  omega
def rRepR : R2 := fun x y H Q => ∃ l k xs, x = .ref l ∧ y = .int k ∧ Rd H l (.lst xs) ∧ -(2 ^ 63) ≤ k ∧ k < 2 ^ 63 ∧ xs.length * k.toNat ≤ sizeLine ∧
  ∀ p, H p = none → Q (.ref p) (upd H p (.lst (List.replicate k.toNat xs).flatten))
theorem op_repR : OpR X (binaryOp .Mult) rRepR := by
  intro pins s σ H x y v u Q I rx ry h
  obtain ⟨l, k, xs, rfl, rfl, hH, h1, h2, hz, q⟩ := h
  cases rx
  obtain ⟨t, rfl⟩ := ry
  obtain ⟨z, its, n, r, hl, e⟩ := lstR I hH
  have hlen : its.toArray.size * k.toNat ≤ sizeLine := by rw [List.size_toArray, ← hl]; exact hz
  have hcap : ¬ its.toArray.size * k.toNat > (2 ^ 63 - 1) / 8 := by
    have : (sizeLine : Nat) ≤ (2 ^ 63 - 1) / 8 := by decide
    omega
  have hfit : ¬ (!Builtin.List.listFitsIndex k) = true := by
    rw [fitsIndex_both h1 h2]
    exact Bool.false_ne_true
  have hlong : ¬ Builtin.List.listTooLong (its.toArray.size * k.toNat) = true := by
    rw [notLongL hlen]
    exact Bool.false_ne_true
  have hnew : List.foldl (fun x1 x2 => x1 ++ x2) #[] (List.replicate (if its.toArray.isEmpty = true then 0 else k.toNat) its.toArray) = (List.replicate k.toNat its).flatten.toArray := by
    have f0 : ∀ m : Nat, List.foldl (fun x1 x2 => x1 ++ x2) #[] (List.replicate m its.toArray) = (List.replicate m its).flatten.toArray := fun m => by
      have := foldl_rep its m []
      rw [List.nil_append] at this
      exact this
    rw [f0]
    cases its with
    | nil => simp
    | cons a r' => rw [if_neg (by simp)]
  refine wpAny_binaryOp_repeat_ref (T := "list") (U := "int") (by decide) ⟨_, e, rfl⟩ (fun s' => typeIs_int s' k t) noFill_list_mul F.fills_int_mul F.slot_int_rmul repeat_list F.slot_int_index.lookup
    (call_meets F.slot_int_rmul (typeIs_int s k t) F.entry_int_rmul (F.args_int_rmul_2 _ _) (int___rmul___int_list k t l its.toArray n)
      ⟨e, rfl, ⟨_, e, rfl⟩, call_meets F.slot_list_mul ⟨_, e, rfl⟩ F.entry_list_mul (F.args_list_mul_2 _ _) (AutoListH.list___mul___list_int_3 l its.toArray n k t hfit hcap hlong) ⟨e, ?_⟩⟩)
  rw [hnew]
  exact ⟨.ref _, _, I.lnew (t' := s.toks) (r.rep k.toNat) (by rw [PyProof.Rows.lm_len_rep_flat, Nat.mul_comm]; exact hz), rfl, q _ I.fresh⟩
def rIM : R2 := rI (fun i j => CMul i j ∨ CMulW i j) fun i j => .int (i * j)
theorem op_mulA : OpR X (binaryOp .Mult) rIM := by
  intro pins s σ H x y v u Q I rx ry ⟨i, j, ex, ey, c, q⟩
  rcases c with c | c
  · exact op_mul pins s σ H x y v u Q I rx ry ⟨i, j, ex, ey, c, q⟩
  · exact op_mulW pins s σ H x y v u Q I rx ry ⟨i, j, ex, ey, c, q⟩
def rFd : R2 := rI (fun _ j => j ≠ 0 ∧ j.natAbs.log2 < 9000) fun i j => .int (i.fdiv j)
theorem op_fdivA : OpR X (binaryOp .FloorDiv) rFd := by
  rintro pins s σ H x y v u Q I rx ry ⟨i, j, rfl, rfl, c, q⟩
  obtain ⟨t, rfl⟩ := rx
  obtain ⟨t', rfl⟩ := ry
  exact floordiv_int c.1 ⟨.int _, H, I.tok _, ⟨_, rfl⟩, q⟩ (.inl (PyProof.noPylong_of_log2 c.2))
def rMd : R2 := rI (fun _ j => j ≠ 0) fun i j => .int (i.fmod j)
theorem op_modA : OpR X (binaryOp .Mod) rMd := op_modN
variable {K : PySem.W.Frag}
def rAddA (K : PySem.W.Frag) : R2 := fun x y H Q => (rI0 fun i j => .int (i + j)) x y H Q ∨ rCatR x y H Q ∨ rCatA K x y H Q ∨ rAddS x y H Q
theorem k_addA (hK : X.K = K) : OpR X (binaryOp .Add) (rAddA K) := hK ▸ OpR_or op_add (OpR_or op_catR (OpR_or op_catA op_addSU))
def rMulA (K : PySem.W.Frag) : R2 := fun x y H Q => rIM x y H Q ∨ rRepR x y H Q ∨ rRepU K x y H Q
theorem k_mulA (hK : X.K = K) : OpR X (binaryOp .Mult) (rMulA K) := hK ▸ OpR_or op_mulA (OpR_or op_repR op_repU)
def rInA (K : PySem.W.Frag) : R2 := fun x y H Q => rIn K false x y H Q ∨ rInD K x y H Q ∨ rInS x y H Q
theorem k_inA (hK : X.K = K) (hu : X.A.units + 65 < cLine) : OpR X (compareOp .In) (rInA K) := hK ▸ OpR_or op_in_seq (OpR_or (op_inD hu) op_inSU)
def rNinA (K : PySem.W.Frag) : R2 := fun x y H Q => rIn K true x y H Q ∨ rNotInD K x y H Q ∨ rNinS x y H Q
theorem k_ninA (hK : X.K = K) (hu : X.A.units + 65 < cLine) : OpR X (compareOp .NotIn) (rNinA K) := hK ▸ OpR_or op_notIn_seq (OpR_or (op_notInD hu) op_ninSU)
end
abbrev noM : Addr → Prop := fun _ => False
def PGo (K : PySem.W.Frag) (F H : Hp) (r : Option D) (m : Mo) (Q : VK) : Prop := match r with
  | some d => ∀ v F' H', Grow F H F' H' → VR K F' H' H noM m d v → Q v H'
  | none => False
def Mo.isL (m : Mo) : Prop := m = .z ∨ m = .o (.l .z)
section
variable {K : PySem.W.Frag} {F H : Hp} {Q : VK} {m : Mo} {d : D} {v : V} {ds : List D} {vs : List V} {p : Addr}
theorem PGo.same (h : PGo K F H (some d) .z Q) (s : Ok F H) (r : Rep K F d v) : Q v H := h v F H (Evo.refl s) r
theorem own_lst {B : Hp} (k : Ok F H) (n : H p = none) (r : Reps K F ds vs) (l : vs.length ≤ sizeLine) : VR K F (upd H p (.lst vs)) H noM (.o (.l .z)) (.lst ds) (.ref p) :=
  ⟨[p], OR.ofL upd_same l r, List.nodup_cons.mpr ⟨by simp, List.nodup_nil⟩, fun a m => by
    rw [List.mem_singleton] at m
    subst m
    exact ⟨fnone k.sub n, n, id⟩⟩
theorem PGo.lst (h : PGo K F H (some (.lst ds)) m Q) (hm : m.isL) (s : Ok F H) (n : H p = none) (r : Reps K F ds vs) (l : vs.length ≤ sizeLine) : Q (.ref p) (upd H p (.lst vs)) := by
  rcases hm with rfl | rfl
  · have g := Grow.put (o := .lst vs) s n
    exact h _ _ _ g (by unfold VR Rep; exact ⟨p, vs, rfl, .inl upd_same, l, Reps.mono g.same ds r⟩)
  · exact h _ F _ (Grow.own s n nt_lst) (own_lst (B := H) s n r l)
theorem PGo.tup (h : PGo K F H (some (.tup ds)) .z Q) (s : Ok F H) (n : H p = none) (r : Reps K F ds vs) (l : vs.length ≤ sizeLine) : Q (.ref p) (upd H p (.tup vs)) := by
  have g := Grow.put (o := .tup vs) s n
  exact h _ _ _ g (by unfold VR Rep; exact ⟨p, vs, rfl, .inl upd_same, l, Reps.mono g.same ds r⟩)
theorem PGo.bl {b : Bool} (h : PGo K F H (some (.bl b)) .z Q) (s : Ok F H) : Q (.bl b) H := h.same s (by unfold Rep; rfl)
theorem PGo.int {i : Int} (h : PGo K F H (some (.int i)) .z Q) (s : Ok F H) : Q (.int i) H := h.same s (by unfold Rep; rfl)
theorem PGo.str {i : Str} (h : PGo K F H (some (.str i)) .z Q) (s : Ok F H) : Q (.str i) H := h.same s (by unfold Rep; rfl)
theorem Rep.sqt (h : Rep K F (.tup ds) v) : ∃ a vs, v = .ref a ∧ SqT K F a vs ∧ vs.length ≤ sizeLine ∧ Reps K F ds vs := by
  unfold Rep at h
  obtain ⟨a, vs, e, h1, h2, h3⟩ := h
  exact ⟨a, vs, e, h1.elim SqT.of fun z => by rw [z.1]; exact z.2, h2, h3⟩
theorem Rep.rd (h : Rep K F (.lst ds) v) : ∃ a vs, v = .ref a ∧ Rd F a (.lst vs) ∧ vs.length ≤ sizeLine ∧ Reps K F ds vs := by
  unfold Rep at h
  exact h
theorem rd_up {u : HO} {a : Addr} (h : Rd F a u) (s : Same F H) : Rd H a u := h.elim (fun h => .inl (s _ _ h)) fun ⟨o, h⟩ => .inr ⟨o, s _ _ h⟩
def D.seq? : D → Option (List D)
  | .lst ds => some ds
  | .tup ds => some ds
  | .scr ns => some (ns.map .int)
  | _ => none
theorem reps_ints {K : PySem.W.Frag} {F : Hp} : ∀ ns : List Int, Reps K F (ns.map .int) (ns.map V.int)
  | [] => .nil
  | n :: ns => .cons (by unfold Rep; rfl) (reps_ints ns)
theorem Rep.seq (h : Rep K F d v) (e : d.seq? = some ds) (s : Same F H) : ∃ a vs, v = .ref a ∧ (SqL K H a vs ∨ SqT K H a vs) ∧ vs.length ≤ sizeLine ∧ Reps K F ds vs := by
  cases d with
  | lst xs =>
    cases e
    obtain ⟨a, vs, e1, h1, h2, h3⟩ := h.rd
    exact ⟨a, vs, e1, .inl (.inl (rd_up h1 s)), h2, h3⟩
  | tup xs =>
    cases e
    obtain ⟨a, vs, e1, h1, h2, h3⟩ := h.sqt
    exact ⟨a, vs, e1, .inr (same_t s h1), h2, h3⟩
  | scr ns =>
    cases e
    unfold Rep at h
    obtain ⟨a, e1, h1, h2⟩ := h
    exact ⟨a, _, e1, .inl (same_l s h1), by rw [List.length_map]; exact h2, reps_ints ns⟩
  | _ => cases e
def D.flat : D → Option V
  | .non => some .non
  | .bl b => some (.bl b)
  | .int i => some (.int i)
  | .str s => some (.str s)
  | _ => none
theorem Rep.flat (h : Rep K F d v) {w : V} (e : d.flat = some w) : v = w ∧ flatV w = true := by
  cases d <;> first | (cases e; unfold Rep at h; exact ⟨h, rfl⟩) | cases e
def flats : List D → Option (List V)
  | [] => some []
  | d :: ds => match d.flat, flats ds with | some v, some vs => some (v :: vs) | _, _ => none
theorem Reps.flat : ∀ {ds : List D} {vs ws : List V}, Reps K F ds vs → flats ds = some ws → vs = ws ∧ ws.all flatV = true
  | [], _, _, h, e => by unfold Reps at h; cases e; exact ⟨h, rfl⟩
  | d :: ds, _, ws, h, e => by
    unfold Reps at h
    obtain ⟨v, us, rfl, h1, h2⟩ := h
    unfold flats at e
    cases e1 : d.flat with
    | none => rw [e1] at e; cases e
    | some w =>
      cases e2 : flats ds with
      | none => rw [e1, e2] at e; cases e
      | some zs =>
        rw [e1, e2] at e
        cases e
        obtain ⟨rfl, f1⟩ := h1.flat e1
        obtain ⟨rfl, f2⟩ := Reps.flat h2 e2
        exact ⟨rfl, by rw [List.all_cons, f1, f2]; rfl⟩
end
def okL (n : Nat) (d : D) : Option D := if n ≤ sizeLine then some d else none
def dAdd : D → D → Option D
  | .int i, .int j => some (.int (i + j))
  | .str a, .str b => okL (a.length + b.length) (.str (a ++ b))
  | .tup a, .tup b => okL (a.length + b.length) (.tup (a ++ b))
  | _, _ => none
def dCat : D → D → Option D
  | .lst a, .lst b => okL (a.length + b.length) (.lst (a ++ b))
  | _, _ => none
def dSub : D → D → Option D
  | .int i, .int j => some (.int (i - j))
  | _, _ => none
@[irreducible] def dMulI : D → D → Option D
  | .int i, .int j => if ((-(2 ^ 64) < i ∧ i < 2 ^ 64) ∨ (-(2 ^ 64) < j ∧ j < 2 ^ 64)) ∨ i.natAbs.log2 + j.natAbs.log2 < 1000000 then some (.int (i * j)) else none
  | _, _ => none
@[irreducible] def dRep : D → D → Option D
  | .lst a, .int k => if -(2 ^ 63) ≤ k ∧ k < 2 ^ 63 ∧ a.length * k.toNat ≤ sizeLine then some (.lst (List.replicate k.toNat a).flatten) else none
  | _, _ => none
@[irreducible] def dDiv : D → D → Option D
  | .int i, .int j => if j ≠ 0 ∧ j.natAbs.log2 < 9000 then some (.int (i.fdiv j)) else none
  | _, _ => none
def dMod : D → D → Option D
  | .int i, .int j => if j ≠ 0 then some (.int (i.fmod j)) else none
  | _, _ => none
@[irreducible] def dPow : D → D → Option D
  | .int i, .int j => if 0 ≤ j ∧ j ≤ 1000000 ∧ i.natAbs < 2 ^ 64 then some (.int (i ^ j.toNat)) else none
  | _, _ => none
def dCmp (p : Int → Int → Bool) : D → D → Option D
  | .int i, .int j => some (.bl (p i j))
  | _, _ => none
abbrev dLt := dCmp fun i j => decide (i < j)
abbrev dLe := dCmp fun i j => decide (i ≤ j)
abbrev dGt := dCmp fun i j => decide (j < i)
abbrev dGe := dCmp fun i j => decide (j ≤ i)
def dEqB : D → D → Option Bool
  | .int i, .int j => some (decide (i = j))
  | .str i, .str j => some (decide (i = j))
  | .non, .non => some true
  | .bl i, .bl j => some (decide (i = j))
  | x, y => if SeqAt.shaped x.py && SeqAt.shaped y.py then some (PyData.eqv x.py y.py) else none
def dEq (x y : D) : Option D := (dEqB x y).map .bl
def dNe (x y : D) : Option D := (dEqB x y).map fun b => .bl (!b)
def dInB (x c : D) : Option Bool := match c with
  | .str z => match x with | .str y => if y.cps.size = 1 then some (decide (y.cps.toList.headD 0 ∈ z.cps.toList)) else none | _ => none
  | _ => match c.seq? with
    | none => none
    | some ys => match x.flat, flats ys with
      | some v, some vs => some (inV v vs)
      | _, _ => match c with
        | .lst ys => if SeqAt.shaped x.py && SeqAt.shaped (.list (D.pys ys)) then some ((D.pys ys).any fun z => PyData.eqv z x.py) else none
        | _ => none
def dIn (x c : D) : Option D := (dInB x c).map .bl
def dNin (x c : D) : Option D := (dInB x c).map fun b => .bl (!b)
def D.isNon : D → Bool
  | .non => true
  | _ => false
def dIsN (x y : D) : Option D := match y with | .non => some (.bl x.isNon) | _ => none
def dNotN (x y : D) : Option D := match y with | .non => some (.bl (!x.isNon)) | _ => none
def dIx (c x : D) : Option D := match x with
  | .int i => match c with
    | .str z => if z.length ≤ sizeLine then (atI z.cps.toList i).map fun k => .str ⟨#[k]⟩ else none
    | _ => match c.seq? with | some ds => atI ds i | none => none
  | _ => none
def cutD {α : Type} (xs : List α) (lo hi : Option Int) : List α := (xs.drop (HT.sIx xs.length 0 lo)).take (HT.sIx xs.length xs.length hi - HT.sIx xs.length 0 lo)
def dSl (c : D) (lo hi : Option Int) : Option D := match c with
  | .lst ds => some (.lst (cutD ds lo hi))
  | .tup ds => some (.tup (cutD ds lo hi))
  | _ => none
def dRev : D → Option D
  | .lst ds => some (.lst ds.reverse)
  | .tup ds => some (.tup ds.reverse)
  | _ => none
def dTruB : D → Option Bool
  | .non => some false
  | .bl b => some b
  | .int i => some (i != 0)
  | .str y => if y.length ≤ sizeLine then some ((y.length : Int) != 0) else none
  | .lst ds => some (!ds.isEmpty)
  | .tup ds => some (!ds.isEmpty)
  | _ => none
theorem Reps.nilD {K : PySem.W.Frag} {F : Hp} : ∀ {ds : List D}, Reps K F ds [] → ds = []
  | [], _ => rfl
  | d :: ds, h => by
    unfold Reps at h
    obtain ⟨v, ws, e, _⟩ := h
    cases e
def OpOk (K : PySem.W.Frag) (r : R2) (f : D → D → Option D) (m : Mo) : Prop := ∀ (F H : Hp) (d e : D) (x y : V) (Q : VK), Ok F H → Rep K F d x → Rep K F e y → PGo K F H (f d e) m Q → r x y H Q
section
variable {K : PySem.W.Frag} {m : Mo}
theorem PGo.okL {F H : Hp} {n : Nat} {d : D} {Q : VK} (h : PGo K F H (okL n d) m Q) : n ≤ sizeLine ∧ PGo K F H (some d) m Q := by
  unfold TT.okL at h
  split at h
  · exact ⟨by assumption, h⟩
  · exact h.elim
theorem PGo.ite {F H : Hp} {c : Prop} [Decidable c] {d : D} {Q : VK} (h : PGo K F H (if c then some d else none) m Q) : c ∧ PGo K F H (some d) m Q := by
  split at h
  · exact ⟨by assumption, h⟩
  · exact h.elim
theorem ok_add : OpOk K (rAddA K) dAdd .z := by
  intro F H d e x y Q s rx ry h
  unfold dAdd at h
  split at h
  · unfold Rep at rx ry; subst rx ry
    exact .inl ⟨_, _, rfl, rfl, h.int s⟩
  · unfold Rep at rx ry; subst rx ry
    exact .inr (.inr (.inr ⟨_, _, rfl, rfl, h.okL.1, h.okL.2.str s⟩))
  · obtain ⟨a, vs, rfl, h1, l1, r1⟩ := rx.sqt
    obtain ⟨b, ws, rfl, h2, l2, r2⟩ := ry.sqt
    obtain ⟨l, h⟩ := h.okL
    have lv : (vs ++ ws).length ≤ sizeLine := by rw [List.length_append, r1.len, r2.len]; exact l
    refine .inr (.inr (.inl ⟨a, b, vs, ws, rfl, rfl, same_t s.sub h1, same_t s.sub h2, by rw [r1.len, r2.len]; exact l, ?_⟩))
    refine ⟨fun e1 => ?_, fun _ e1 => ?_, fun _ _ p np => h.tup s np (r1.app r2) lv⟩
    · subst e1
      cases r1.nilD
      exact h.same s (Rep.mono (Same.refl _) _ ry)
    · subst e1
      cases r2.nilD
      rw [List.append_nil] at h
      exact h.same s (Rep.mono (Same.refl _) _ rx)
  · exact h.elim
theorem ok_cat (hm : m.isL) : OpOk K (rAddA K) dCat m := by
  intro F H d e x y Q s rx ry h
  unfold dCat at h
  split at h
  · obtain ⟨a, vs, rfl, h1, l1, r1⟩ := rx.rd
    obtain ⟨b, ws, rfl, h2, l2, r2⟩ := ry.rd
    obtain ⟨l, h⟩ := h.okL
    have lv : (vs ++ ws).length ≤ sizeLine := by rw [List.length_append, r1.len, r2.len]; exact l
    exact .inr (.inl ⟨a, b, vs, ws, rfl, rfl, rd_up h1 s.sub, rd_up h2 s.sub, by rw [r1.len, r2.len]; exact l, fun p np => h.lst hm s np (r1.app r2) lv⟩)
  · exact h.elim
theorem ok_sub : OpOk K (rI0 fun i j => .int (i - j)) dSub .z := by
  intro F H d e x y Q s rx ry h
  unfold dSub at h
  split at h
  · unfold Rep at rx ry; subst rx ry
    exact ⟨_, _, rfl, rfl, h.int s⟩
  · exact h.elim
theorem ok_mul : OpOk K (rMulA K) dMulI .z := by
  intro F H d e x y Q s rx ry h
  unfold dMulI at h
  split at h
  · unfold Rep at rx ry; subst rx ry
    exact .inl ⟨_, _, rfl, rfl, h.ite.1, h.ite.2.int s⟩
  · exact h.elim
theorem Reps.rep {F : Hp} {ds : List D} {vs : List V} (r : Reps K F ds vs) : ∀ n : Nat, Reps K F (List.replicate n ds).flatten (List.replicate n vs).flatten
  | 0 => .nil
  | n + 1 => by
    rw [List.replicate_succ, List.replicate_succ, List.flatten_cons, List.flatten_cons]
    exact r.app (Reps.rep r n)
theorem ok_rep (hm : m.isL) : OpOk K (rMulA K) dRep m := by
  intro F H d e x y Q s rx ry h
  unfold dRep at h
  split at h
  · unfold Rep at ry; subst ry
    obtain ⟨a, vs, rfl, h1, l1, r1⟩ := rx.rd
    obtain ⟨⟨k1, k2, l⟩, h⟩ := h.ite
    rw [← r1.len] at l
    exact .inr (.inl ⟨a, _, vs, rfl, rfl, rd_up h1 s.sub, k1, k2, l, fun p np => h.lst hm s np (r1.rep _) (by rw [PyProof.Rows.lm_len_rep_flat, Nat.mul_comm]; exact l)⟩)
  · exact h.elim
theorem ok_div : OpOk K rFd dDiv .z := by
  intro F H d e x y Q s rx ry h
  unfold dDiv at h
  split at h
  · unfold Rep at rx ry; subst rx ry
    exact ⟨_, _, rfl, rfl, h.ite.1, h.ite.2.int s⟩
  · exact h.elim
theorem ok_mod : OpOk K rMd dMod .z := by
  intro F H d e x y Q s rx ry h
  unfold dMod at h
  split at h
  · unfold Rep at rx ry; subst rx ry
    exact ⟨_, _, rfl, rfl, h.ite.1, h.ite.2.int s⟩
  · exact h.elim
theorem ok_pow : OpOk K (rI CPow fun i j => .int (i ^ j.toNat)) dPow .z := by
  intro F H d e x y Q s rx ry h
  unfold dPow at h
  split at h
  · unfold Rep at rx ry; subst rx ry
    exact ⟨_, _, rfl, rfl, h.ite.1, h.ite.2.int s⟩
  · exact h.elim
theorem ok_cmp (p : Int → Int → Bool) : OpOk K (rI0 fun i j => .bl (p i j)) (dCmp p) .z := by
  intro F H d e x y Q s rx ry h
  unfold dCmp at h
  split at h
  · unfold Rep at rx ry; subst rx ry
    exact ⟨_, _, rfl, rfl, h.bl s⟩
  · exact h.elim
theorem eqB_ok {F H : Hp} {d e : D} {x y : V} {b : Bool} (s : Same F H) (rx : Rep K F d x) (ry : Rep K F e y) (h : dEqB d e = some b) :
    (scal x y = true ∧ b = decide (x = y)) ∨ ∃ p q, Dp K H x p ∧ Dp K H y q ∧ SeqAt.shaped p = true ∧ SeqAt.shaped q = true ∧ b = PyData.eqv p q := by
  unfold dEqB at h
  split at h
  · unfold Rep at rx ry; subst rx ry; cases h
    exact .inl ⟨rfl, by simp⟩
  · unfold Rep at rx ry; subst rx ry; cases h
    exact .inl ⟨rfl, by simp⟩
  · unfold Rep at rx ry; subst rx ry; cases h
    exact .inl ⟨rfl, by simp⟩
  · unfold Rep at rx ry; subst rx ry; cases h
    exact .inl ⟨rfl, by simp⟩
  · split at h
    · rename_i c
      rw [Bool.and_eq_true] at c
      cases h
      refine .inr ⟨_, _, Rep.dp d (Rep.mono s d rx) (SeqAt.canLay_of_shaped c.1), Rep.dp e (Rep.mono s e ry) (SeqAt.canLay_of_shaped c.2), c.1, c.2, rfl⟩
    · cases h
theorem ok_eq : OpOk K (rEqU K) dEq .z := by
  intro F H d e x y Q s rx ry h
  unfold dEq at h
  cases e1 : dEqB d e with
  | none => rw [e1] at h; exact h.elim
  | some b =>
    rw [e1] at h
    have q := PGo.bl h s
    rcases eqB_ok s.sub rx ry e1 with ⟨c, rfl⟩ | ⟨p, p', h1, h2, h3, h4, rfl⟩
    · exact .inl ⟨c, q⟩
    · exact .inr ⟨p, p', h1, h2, h3, h4, q⟩
theorem ok_ne : OpOk K (rNeU K) dNe .z := by
  intro F H d e x y Q s rx ry h
  unfold dNe at h
  cases e1 : dEqB d e with
  | none => rw [e1] at h; exact h.elim
  | some b =>
    rw [e1] at h
    have q := PGo.bl h s
    rcases eqB_ok s.sub rx ry e1 with ⟨c, rfl⟩ | ⟨p, p', h1, h2, h3, h4, rfl⟩
    · exact .inl ⟨c, q⟩
    · exact .inr ⟨p, p', h1, h2, h3, h4, q⟩
theorem inB_ok {F H : Hp} {d e : D} {x y : V} {b : Bool} (s : Same F H) (rx : Rep K F d x) (ry : Rep K F e y) (h : dInB d e = some b) :
    (∃ p xs, y = .ref p ∧ (SqL K H p xs ∨ SqT K H p xs) ∧ flatV x = true ∧ xs.all flatV = true ∧ b = inV x xs) ∨
    (∃ p ds, Dp K H x p ∧ Dp K H y (.list ds) ∧ SeqAt.shaped p = true ∧ SeqAt.shaped (.list ds) = true ∧ b = ds.any fun z => PyData.eqv z p) ∨
    ∃ (c : Nat) (z : Str), x = .str ⟨#[c]⟩ ∧ y = .str z ∧ b = decide (c ∈ z.cps.toList) := by
  unfold dInB at h
  split at h
  · split at h
    · unfold Rep at rx ry; subst rx ry
      split at h
      · rename_i y c
        cases h
        refine .inr (.inr ⟨y.cps.toList.headD 0, _, ?_, rfl, rfl⟩)
        obtain ⟨⟨l⟩⟩ := y
        match l, c with
        | [k], _ => rfl
      · cases h
    · cases h
  · split at h
    · cases h
    · rename_i ys ey
      split at h
      · rename_i v vs e1 e2
        cases h
        obtain ⟨a, us, rfl, hs, _, r⟩ := ry.seq ey s
        obtain ⟨rfl, f1⟩ := rx.flat e1
        obtain ⟨rfl, f2⟩ := r.flat e2
        exact .inl ⟨a, us, rfl, hs, f1, f2, rfl⟩
      · split at h
        · split at h
          · rename_i c
            rw [Bool.and_eq_true] at c
            cases h
            refine .inr (.inl ⟨_, _, Rep.dp d (Rep.mono s d rx) (SeqAt.canLay_of_shaped c.1), ?_, c.1, c.2, rfl⟩)
            have := Rep.dp (.lst _) (Rep.mono s _ ry) (by unfold D.py; exact SeqAt.canLay_of_shaped c.2)
            unfold D.py at this
            exact this
          · cases h
        · cases h
theorem ok_in : OpOk K (rInA K) dIn .z := by
  intro F H d e x y Q s rx ry h
  unfold dIn at h
  cases e1 : dInB d e with
  | none => rw [e1] at h; exact h.elim
  | some b =>
    rw [e1] at h
    have q := PGo.bl h s
    rcases inB_ok s.sub rx ry e1 with ⟨p, xs, h1, h2, h3, h4, rfl⟩ | ⟨p, ds, h1, h2, h3, h4, rfl⟩ | ⟨c, z, h1, h2, rfl⟩
    · exact .inl ⟨p, xs, h1, h2, h3, h4, q⟩
    · exact .inr (.inl ⟨p, ds, h1, h2, h3, h4, q⟩)
    · exact .inr (.inr ⟨c, z, h1, h2, q⟩)
theorem ok_nin : OpOk K (rNinA K) dNin .z := by
  intro F H d e x y Q s rx ry h
  unfold dNin at h
  cases e1 : dInB d e with
  | none => rw [e1] at h; exact h.elim
  | some b =>
    rw [e1] at h
    have q := PGo.bl h s
    rcases inB_ok s.sub rx ry e1 with ⟨p, xs, h1, h2, h3, h4, rfl⟩ | ⟨p, ds, h1, h2, h3, h4, rfl⟩ | ⟨c, z, h1, h2, rfl⟩
    · exact .inl ⟨p, xs, h1, h2, h3, h4, q⟩
    · exact .inr (.inl ⟨p, ds, h1, h2, h3, h4, q⟩)
    · exact .inr (.inr ⟨c, z, h1, h2, q⟩)
theorem Rep.isNon {F : Hp} {d : D} {x : V} (r : Rep K F d x) : d.isNon = decide (x = .non) := by
  cases d with
  | non => unfold Rep at r; subst r; rfl
  | bl _ => unfold Rep at r; subst r; rfl
  | int _ => unfold Rep at r; subst r; rfl
  | str _ => unfold Rep at r; subst r; rfl
  | tup _ => obtain ⟨a, vs, rfl, _⟩ := r.sqt; rfl
  | lst _ => obtain ⟨a, vs, rfl, _⟩ := r.rd; rfl
  | dct t kvs =>
    cases t with
    | false => unfold Rep at r; obtain ⟨a, ws, rfl, _⟩ := r; rfl
    | true => unfold Rep at r; obtain ⟨a, ws, rfl, _⟩ := r; rfl
  | obj c fs => unfold Rep at r; obtain ⟨a, dx, ws, rfl, _⟩ := r; rfl
  | scr ns => unfold Rep at r; obtain ⟨a, rfl, _⟩ := r; rfl
theorem Reps.atI {F : Hp} {ds : List D} {vs : List V} {i : Int} {d : D} (r : Reps K F ds vs) (e : atI ds i = some d) : ∃ v, L2.atI vs i = some v ∧ Rep K F d v := by
  unfold L2.atI at e ⊢
  rw [r.len]
  cases e1 : ixN ds.length i with
  | none => rw [e1] at e; cases e
  | some j => rw [e1] at e; exact r.get' e
theorem ok_ix : OpOk K (rIx K) dIx .z := by
  intro F H d e x y Q s rx ry h
  unfold dIx at h
  split at h
  · unfold Rep at ry; subst ry
    split at h
    · rename_i z
      unfold Rep at rx; subst rx
      split at h
      · cases e1 : L2.atI z.cps.toList _ with
        | none => rw [e1] at h; exact h.elim
        | some k => rw [e1] at h; exact .inr (.inr ⟨z, _, k, rfl, rfl, by assumption, e1, PGo.str h s⟩)
      · exact h.elim
    · split at h
      · rename_i ds eds
        obtain ⟨a, vs, rfl, hs, _, r⟩ := rx.seq eds s.sub
        cases e1 : L2.atI ds _ with
        | none => rw [e1] at h; exact h.elim
        | some k =>
          rw [e1] at h
          obtain ⟨v, e2, r2⟩ := r.atI e1
          have q := PGo.same h s r2
          rcases hs with hs | hs
          · exact .inl ⟨a, vs, _, v, rfl, rfl, hs, e2, q⟩
          · exact .inr (.inl ⟨a, vs, _, v, rfl, rfl, hs, e2, q⟩)
      · exact h.elim
  · exact h.elim
theorem truB_ok {F H : Hp} {d : D} {x : V} {b : Bool} (s : Same F H) (r : Rep K F d x) (h : dTruB d = some b) : TruV K x H b := by
  cases d with
  | non => unfold Rep at r; subst r; cases h; rfl
  | bl _ => unfold Rep at r; subst r; cases h; rfl
  | int _ => unfold Rep at r; subst r; cases h; rfl
  | str y =>
    unfold Rep at r; subst r
    unfold dTruB at h
    dsimp only at h
    split at h
    · cases h; exact ⟨by assumption, rfl⟩
    · cases h
  | tup ds =>
    obtain ⟨a, vs, rfl, h1, _, r2⟩ := r.sqt
    cases h
    refine .inr (.inl ⟨vs, same_t s h1, ?_⟩)
    have := r2.len
    cases vs <;> cases ds <;> simp_all
  | lst ds =>
    obtain ⟨a, vs, rfl, h1, _, r2⟩ := r.rd
    cases h
    refine .inl ⟨vs, .inl (rd_up h1 s), ?_⟩
    have := r2.len
    cases vs <;> cases ds <;> simp_all
  | dct t ds => cases h
  | scr ns => cases h
  | obj c fs => cases h
end
end TT
namespace TT
open PySem PySem.Spec PyProof.Rows L2
abbrev E1 := List D → Rz (D × List D)
abbrev EB := List D → Rz (Bool × List D)
abbrev EA := List D → Rz (List D × List D)
def oR {α : Type} (o : Option α) (S : List D) : Rz (α × List D) := match o with
  | some d => .ok (d, S)
  | none => .no
@[simp] theorem oR_some {α : Type} (d : α) (S : List D) : oR (some d) S = .ok (d, S) := rfl
@[simp] theorem oR_none {α : Type} (S : List D) : (oR none S : Rz (α × List D)) = .no := rfl
def aVar (i : Nat) : E1 := fun S => oR S[i]? S
def aC (d : D) : E1 := fun S => .ok (d, S)
def aBin (f : D → D → Option D) (a b : E1) : E1 := fun S => (a S).bind fun p => (b p.2).bind fun q => oR (f p.1 q.1) q.2
def aUn (f : D → Option D) (a : E1) : E1 := fun S => (a S).bind fun p => oR (f p.1) p.2
def D.bool? : D → Option Bool
  | .bl b => some b
  | _ => none
def aTest (a : E1) : EB := fun S => (a S).bind fun p => oR p.1.bool? p.2
def aTr (a : E1) : EB := fun S => (a S).bind fun p => oR (dTruB p.1) p.2
def aNotB (a : EB) : EB := fun S => (a S).bind fun p => .ok (!p.1, p.2)
def aOrB (a b : EB) : EB := fun S => (a S).bind fun p => if p.1 = true then .ok (true, p.2) else b p.2
def aAndB (a b : EB) : EB := fun S => (a S).bind fun p => if p.1 = true then b p.2 else .ok (false, p.2)
def aIf (c : EB) (a b : E1) : E1 := fun S => (c S).bind fun p => if p.1 = true then a p.2 else b p.2
def aAndV (a b : E1) : E1 := fun S => (a S).bind fun p => (oR p.1.bool? p.2).bind fun q => if q.1 = true then b q.2 else .ok (.bl false, q.2)
def aOrV (a b : E1) : E1 := fun S => (a S).bind fun p => (oR p.1.bool? p.2).bind fun q => if q.1 = true then .ok (.bl true, q.2) else b q.2
def aNotV (a : E1) : E1 := fun S => (a S).bind fun p => oR ((dTruB p.1).map fun b => .bl (!b)) p.2
def aChain (f g : D → D → Option D) (a b c : E1) : E1 := fun S => (a S).bind fun p => (b p.2).bind fun q => (oR (f p.1 q.1) q.2).bind fun z => (oR z.1.bool? z.2).bind fun w =>
  if w.1 = true then (c w.2).bind fun r => oR (g q.1 r.1) r.2 else .ok (.bl false, w.2)
def aNil : EA := fun S => .ok ([], S)
def aCons (a : E1) (as : EA) : EA := fun S => (a S).bind fun p => (as p.2).bind fun q => .ok (p.1 :: q.1, q.2)
def aLst (as : EA) : E1 := fun S => (as S).bind fun p => oR (okL p.1.length (.lst p.1)) p.2
def aTup (as : EA) : E1 := fun S => (as S).bind fun p => oR (okL p.1.length (.tup p.1)) p.2
def aFn (f : List D → Option D) (as : EA) : E1 := fun S => (as S).bind fun p => oR (f p.1) p.2
def dFld (c f : Str) : D → Option D
  | .obj c' fs => if c' = c then fs.lookup f else none
  | _ => none
abbrev EO := List D → Rz (Option Int × List D)
def aNoP : EO := fun S => .ok (none, S)
def D.int? : D → Option Int
  | .int i => some i
  | _ => none
def aPart (a : E1) : EO := fun S => (a S).bind fun p => (oR p.1.int? p.2).bind fun q => .ok (some q.1, q.2)
def aSl (a : E1) (l h : EO) : E1 := fun S => (a S).bind fun p => (l p.2).bind fun q => (h q.2).bind fun r => oR (dSl p.1 q.1 r.1) r.2
def SA (K : PySem.W.Frag) (E : L2.St → XK) (ms : List Mo) (t : TA) (a : EA) : Prop :=
  ∀ (σ : L2.St) (H : Hp) (Q : List V → Hp → Prop) (H0 F0 : Hp) (io : IO) (F : Hp) (S : List D) (fps : List (List Addr)), Rel K H0 F0 io F H ms S σ fps → Go K E H0 F0 io ms σ fps F H (a S) (fun ds _ _ F' H' => ∀ vs, Reps K F' ds vs → Q vs H') → t σ H Q
def SO (K : PySem.W.Frag) (E : L2.St → XK) (ms : List Mo) (t : TO) (a : EO) : Prop :=
  ∀ (σ : L2.St) (H : Hp) (Q : Option Int → Hp → Prop) (H0 F0 : Hp) (io : IO) (F : Hp) (S : List D) (fps : List (List Addr)), Rel K H0 F0 io F H ms S σ fps → Go K E H0 F0 io ms σ fps F H (a S) (fun d _ _ _ H' => Q d H') → t σ H Q
section
variable {fps f1 : List (List Addr)} {K : PySem.W.Frag} {E : L2.St → XK} {H0 F0 F H B : Hp} {io : IO} {ms : List Mo} {S : List D} {σ : L2.St} {α β : Type} {m : Mo} {Q : VK}
theorem Ev.lv {F' H' : Hp} {f1 : List (List Addr)} (e : Ev fps f1 F H F' H') (lv : ∀ a, B a ≠ none → H a ≠ none) : ∀ a, B a ≠ none → H' a ≠ none := fun a h => e.evo.liv a (lv a h)
theorem VR.base {F' H' B1 : Hp} {M M1 : Addr → Prop} {d : D} {v : V} (lv : ∀ a, B a ≠ none → B1 a ≠ none) (mv : ∀ a, M a → B1 a ≠ none ∨ M1 a) (h : VR K F' H' B1 M1 m d v) : VR K F' H' B M m d v := by
  cases m with
  | o s =>
    obtain ⟨f, o, nd, q⟩ := h
    exact ⟨f, o, nd, fun a z => ⟨(q a z).1, Classical.byContradiction fun y => lv a y (q a z).2.1, fun y => (mv a y).elim (fun y => y (q a z).2.1) (q a z).2.2⟩⟩
  | z => exact h
  | u => exact h
  | p s => exact h
theorem Go.pg {o : Option D} (h : Go K E H0 F0 io ms σ fps F H (oR o S) (PV K B m Q)) (r : Rel K H0 F0 io F H ms S σ fps) (lv : ∀ a, B a ≠ none → H a ≠ none) : PGo K F H o m Q := by
  cases o with
  | none => exact h
  | some d => exact fun v F' H' g vr => h F' H' fps (r.grow g) (Ev.grow g) v (vr.base lv fun a z => .inl (r.ne z))
theorem SA.use {t : TA} {a : EA} {k : List D × List D → Rz (β × List D)} {P : β → List D → List (List Addr) → Hp → Hp → Prop} {Q : List V → Hp → Prop} (s : SA K E ms t a) (r : Rel K H0 F0 io F H ms S σ fps) (h : Go K E H0 F0 io ms σ fps F H ((a S).bind k) P)
    (q : ∀ d S1 f1 F1 H1 vs, Rel K H0 F0 io F1 H1 ms S1 σ f1 → Ev fps f1 F H F1 H1 → Reps K F1 d vs → Go K E H0 F0 io ms σ f1 F1 H1 (k (d, S1)) P → Q vs H1) : t σ H Q :=
  s σ H Q H0 F0 io F S fps r (h.bind.imp fun d S1 f1 F1 H1 r1 e1 g v vr => q d S1 f1 F1 H1 v r1 e1 vr g)
theorem SO.use {t : TO} {a : EO} {k : Option Int × List D → Rz (β × List D)} {P : β → List D → List (List Addr) → Hp → Hp → Prop} {Q : Option Int → Hp → Prop} (s : SO K E ms t a) (r : Rel K H0 F0 io F H ms S σ fps) (h : Go K E H0 F0 io ms σ fps F H ((a S).bind k) P)
    (q : ∀ d S1 f1 F1 H1, Rel K H0 F0 io F1 H1 ms S1 σ f1 → Ev fps f1 F H F1 H1 → Go K E H0 F0 io ms σ f1 F1 H1 (k (d, S1)) P → Q d H1) : t σ H Q :=
  s σ H Q H0 F0 io F S fps r (h.bind.imp fun d S1 f1 F1 H1 r1 e1 g => q d S1 f1 F1 H1 r1 e1 g)
theorem live0 : ∀ a : Addr, H a ≠ none → H a ≠ none := fun _ h => h
variable {i : Nat} {ta tb tc : TE} {a b c : E1} {tt tu : TT} {x y : EB} {ts : TA} {as : EA} {f g : D → D → Option D} {r r' : R2}
theorem se_var (hi : ms[i]? = some .z) : SE K E ms .z (tVar i) (aVar i) := by
  intro σ H Q H0 F0 io F S fps rl h
  obtain ⟨d, v, f, e1, e2, _, ⟨_, x, e3, rp⟩, _⟩ := rl.at_ i .z hi
  subst e3
  unfold aVar at h
  rw [e1] at h
  exact ⟨x, e2, h.done rl x rp⟩
theorem se_c {d : D} {v : V} (h : ∀ F, Rep K F d v) : SE K E ms .z (tC v) (aC d) := fun σ H Q H0 F0 io F S fps rl g => g.done rl v (h F)
theorem se_int (n : Int) : SE K E ms .z (tC (.int n)) (aC (.int n)) := se_c fun F => by unfold Rep; rfl
theorem se_str (n : Str) : SE K E ms .z (tC (.str n)) (aC (.str n)) := se_c fun F => by unfold Rep; rfl
theorem se_bl (n : Bool) : SE K E ms .z (tC (.bl n)) (aC (.bl n)) := se_c fun F => by unfold Rep; rfl
theorem se_non : SE K E ms .z (tC .non) (aC .non) := se_c fun F => by unfold Rep; rfl
theorem se_op (hr : OpOk K r f m) (ha : SE K E ms .z ta a) (hb : SE K E ms .z tb b) : SE K E ms m (tOp r ta tb) (aBin f a b) := fun σ H Q H0 F0 io F S fps rl h =>
  ha.use rl h fun d S1 f1 F1 H1 v r1 e1 v1 h => hb.use r1 h fun e S2 f2 F2 H2 w r2 e2 v2 h => hr F2 H2 d e v w Q r2.ok (Rep.mono e2.evo.same _ v1) v2 (h.pg r2 (e2.lv (e1.lv live0)))
theorem bool?_eq {d : D} {b : Bool} (h : d.bool? = some b) : d = .bl b := by
  cases d <;> first | (cases h; rfl) | cases h
theorem int?_eq {d : D} {b : Int} (h : d.int? = some b) : d = .int b := by
  cases d <;> first | (cases h; rfl) | cases h
theorem Go.opt {o : Option α} {k : α × List D → Rz (β × List D)} {P : β → List D → List (List Addr) → Hp → Hp → Prop} (h : Go K E H0 F0 io ms σ fps F H ((oR o S).bind k) P) : ∃ x, o = some x ∧ Go K E H0 F0 io ms σ fps F H (k (x, S)) P := by
  cases o with
  | none => exact h.elim
  | some x => exact ⟨x, rfl, h⟩
theorem Go.opt0 {o : Option α} {P : α → List D → List (List Addr) → Hp → Hp → Prop} (h : Go K E H0 F0 io ms σ fps F H (oR o S) P) : ∃ x, o = some x ∧ Go K E H0 F0 io ms σ fps F H (.ok (x, S)) P := by
  cases o with
  | none => exact h.elim
  | some x => exact ⟨x, rfl, h⟩
theorem repB {d : D} {v : V} {b : Bool} (h : Rep K F d v) (e : d.bool? = some b) : v = .bl b := by
  rw [bool?_eq e] at h
  unfold Rep at h
  exact h
theorem st_test (ha : SE K E ms .z ta a) : ST K E ms (tTest ta) (aTest a) := fun σ H Q H0 F0 io F S fps rl h =>
  ha.use rl h fun d S1 f1 F1 H1 v r1 e1 v1 h => let ⟨b, e, h⟩ := h.opt0; ⟨b, repB v1 e, h.done r1⟩
theorem st_tr (ha : SE K E ms .z ta a) : ST K E ms (tTr K ta) (aTr a) := fun σ H Q H0 F0 io F S fps rl h =>
  ha.use rl h fun d S1 f1 F1 H1 v r1 e1 v1 h => let ⟨b, e, h⟩ := h.opt0; ⟨b, truB_ok r1.sub v1 e, h.done r1⟩
theorem st_not (ha : ST K E ms tt x) : ST K E ms (tNot tt) (aNotB x) := fun σ H Q H0 F0 io F S fps rl h => ha.use rl h fun d S1 f1 F1 H1 r1 e1 h => h.done r1
theorem st_or (ha : ST K E ms tt x) (hb : ST K E ms tu y) : ST K E ms (tOr tt tu) (aOrB x y) := fun σ H Q H0 F0 io F S fps rl h => ha.use rl h fun d S1 f1 F1 H1 r1 e1 h => by
  cases d with
  | true => exact h.done r1
  | false => exact hb σ H1 Q H0 F0 io F1 S1 f1 r1 h
theorem st_and (ha : ST K E ms tt x) (hb : ST K E ms tu y) : ST K E ms (tAnd tt tu) (aAndB x y) := fun σ H Q H0 F0 io F S fps rl h => ha.use rl h fun d S1 f1 F1 H1 r1 e1 h => by
  cases d with
  | false => exact h.done r1
  | true => exact hb σ H1 Q H0 F0 io F1 S1 f1 r1 h
theorem PV.base {d : D} {S' : List D} {F' H' : Hp} (lv : ∀ a, B a ≠ none → H a ≠ none) (h : PV K B m Q d S' f1 F' H') : PV K H m Q d S' f1 F' H' := fun v vr => h v (vr.base lv fun a z => .inr z)
theorem SE.last (ha : SE K E ms m ta a) (rl : Rel K H0 F0 io F H ms S σ fps) (h : Go K E H0 F0 io ms σ fps F H (a S) (PV K B m Q)) (lv : ∀ a, B a ≠ none → H a ≠ none) : ta σ H Q := ha σ H Q H0 F0 io F S fps rl (h.imp fun _ _ _ _ _ _ _ p => p.base lv)
theorem se_if (hc : ST K E ms tt x) (ha : SE K E ms m ta a) (hb : SE K E ms m tb b) : SE K E ms m (tIf tt ta tb) (aIf x a b) := fun σ H Q H0 F0 io F S fps rl h => hc.use rl h fun d S1 f1 F1 H1 r1 e1 h => by
  cases d with
  | true => exact ha.last r1 h (e1.lv live0)
  | false => exact hb.last r1 h (e1.lv live0)
theorem se_andV (ha : SE K E ms .z ta a) (hb : SE K E ms .z tb b) : SE K E ms .z (tAndV ta tb) (aAndV a b) := fun σ H Q H0 F0 io F S fps rl h => ha.use rl h fun d S1 f1 F1 H1 v r1 e1 v1 h => by
  obtain ⟨k, e, h⟩ := h.opt
  refine ⟨k, repB v1 e, ?_⟩
  cases k with
  | true => exact hb.last r1 h (e1.lv live0)
  | false => exact h.done r1 _ (by unfold VR Rep; rfl)
theorem se_chain (hf : OpOk K r f .z) (hg : OpOk K r' g .z) (ha : SE K E ms .z ta a) (hb : SE K E ms .z tb b) (hc : SE K E ms .z tc c) : SE K E ms .z (tChain r r' ta tb tc) (aChain f g a b c) := fun σ H Q H0 F0 io F S fps rl h =>
  ha.use rl h fun d S1 f1 F1 H1 v r1 e1 v1 h => hb.use r1 h fun e S2 f2 F2 H2 w r2 e2 v2 h => by
    obtain ⟨z, ez, h⟩ := h.opt
    refine hf F2 H2 d e v w _ r2.ok (Rep.mono e2.evo.same _ v1) v2 ?_
    rw [ez]
    intro u F' H' gr vr
    have r3 := r2.grow gr
    have h := Go.base (Ev.grow gr) h
    obtain ⟨k, ek, h⟩ := h.opt
    refine ⟨k, repB vr ek, ?_⟩
    cases k with
    | false => exact h.done r3 _ (by unfold VR Rep; rfl)
    | true => exact hc.use r3 h fun e' S4 f4 F4 H4 w' r4 e4 v4 h => hg F4 H4 e e' w w' Q r4.ok (Rep.mono e4.evo.same _ (Rep.mono gr.same _ v2)) v4 (h.pg r4 (e4.lv (fun a z => gr.liv a (e2.lv (e1.lv live0) a z))))
theorem sa_nil : SA K E ms tNil aNil := fun σ H Q H0 F0 io F S fps rl h => h.done rl [] .nil
theorem sa_cons (ha : SE K E ms .z ta a) (hs : SA K E ms ts as) : SA K E ms (tCons ta ts) (aCons a as) := fun σ H Q H0 F0 io F S fps rl h =>
  ha.use rl h fun d S1 f1 F1 H1 v r1 e1 v1 h => hs.use r1 h fun ds S2 f2 F2 H2 vs r2 e2 v2 h => h.done r2 (v :: vs) (.cons (Rep.mono e2.evo.same _ v1) v2)
theorem se_lst (hm : m.isL) (hs : SA K E ms ts as) : SE K E ms m (tLst ts) (aLst as) := fun σ H Q H0 F0 io F S fps rl h => hs.use rl h fun ds S1 f1 F1 H1 vs r1 e1 v1 h => by
  replace h := h.pg r1 (e1.lv live0)
  obtain ⟨l, h⟩ := h.okL
  rw [← v1.len] at l
  exact ⟨l, fun p np => h.lst hm r1.ok np v1 l⟩
theorem se_tup (hs : SA K E ms ts as) : SE K E ms .z (tTup ts) (aTup as) := fun σ H Q H0 F0 io F S fps rl h => hs.use rl h fun ds S1 f1 F1 H1 vs r1 e1 v1 h => by
  replace h := h.pg r1 (e1.lv live0)
  obtain ⟨l, h⟩ := h.okL
  rw [← v1.len] at l
  exact ⟨l, fun p np => h.tup r1.ok np v1 l⟩
def FnOkA (K : PySem.W.Frag) (r : List V → Hp → VK → Prop) (f : List D → Option D) (m : Mo) : Prop := ∀ (F H : Hp) (ds : List D) (vs : List V) (Q : VK), Ok F H → Reps K F ds vs → PGo K F H (f ds) m Q → r vs H Q
theorem se_fn {f : List D → Option D} {r : List V → Hp → VK → Prop} (hr : FnOkA K r f m) (hs : SA K E ms ts as) : SE K E ms m (tCB r ts) (aFn f as) := fun σ H Q H0 F0 io F S fps rl h => hs.use rl h fun ds S1 f1 F1 H1 vs r1 e1 v1 h => hr F1 H1 ds vs Q r1.ok v1 (h.pg r1 (e1.lv live0))
theorem RepF.get {fs : List (Str × D)} {ws : List (Str × V)} {f : Str} {d : D} (h : RepF K F fs ws) (e : fs.lookup f = some d) : ∃ v, ws.lookup f = some v ∧ Rep K F d v := by
  induction fs with
  | nil => cases e
  | cons p fs ih =>
    obtain ⟨g, x⟩ := p
    unfold RepF at h
    rw [List.lookup_cons] at e
    split at e
    · rename_i z
      cases e
      have : f = g := by simpa using z
      subst this
      exact h.1
    · exact ih h.2 e
theorem se_fld {C : Str} {n : Str} (cl : Cls K (He.ga K C)) (na : NoAttr K (He.ga K C) n) (ha : SE K E ms .z ta a) : SE K E ms .z (tFld K ta n) (aUn (dFld C n) a) := fun σ H Q H0 F0 io F S fps rl h => ha.use rl h fun d S1 f1 F1 H1 v r1 e1 v1 hg => by
  have hp : PGo K F1 H1 (dFld C n d) .z Q := hg.pg r1 (e1.lv live0)
  clear hg
  cases d with
  | obj c' fs =>
    unfold dFld at hp
    dsimp only at hp
    split at hp
    · rename_i ec
      subst ec
      have v2 : Rep K F1 (.obj c' fs) v := v1
      unfold Rep at v2
      obtain ⟨p, dx, ws, rfl, g1, _, g2⟩ := v2
      cases e2 : fs.lookup n with
      | none => rw [e2] at hp; exact hp.elim
      | some z =>
        rw [e2] at hp
        obtain ⟨u, e3, ru⟩ := g2.get e2
        exact ⟨p, _, dx, ws, u, rfl, r1.sub _ _ g1, cl, na, e3, hp.same r1.ok ru⟩
    · exact hp.elim
  | _ => exact (show False from hp).elim
theorem so_no : SO K E ms tNoPart aNoP := fun σ H Q H0 F0 io F S fps rl h => h.done rl
theorem so_part (ha : SE K E ms .z ta a) : SO K E ms (tPart ta) (aPart a) := fun σ H Q H0 F0 io F S fps rl h => ha.use rl h fun d S1 f1 F1 H1 v r1 e1 v1 h => by
  obtain ⟨i, e, h⟩ := h.opt
  have v2 : Rep K F1 d v := v1
  rw [int?_eq (show d.int? = some i from e)] at v2
  unfold Rep at v2
  exact ⟨i, v2, h.done r1⟩
theorem Reps.cut {ds : List D} {vs : List V} (r : Reps K F ds vs) (l h : Option Int) : Reps K F (cutD ds l h) (cutV vs l h) := by
  unfold cutD cutV
  rw [r.len]
  exact (r.drop _).take _
def dSlL (c : D) (lo hi : Option Int) : Option D := match c with
  | .lst ds => some (.lst (cutD ds lo hi))
  | _ => none
theorem sl_ok {d : D} {v : V} {l h : Option Int} {F H : Hp} {Q : VK} (hm : m.isL) (s : Ok F H) (r : Rep K F d v) (g : PGo K F H (dSlL d l h) m Q) : rSlU K v l h H Q := by
  cases d with
  | lst ds =>
    obtain ⟨a, vs, rfl, h1, l1, r1⟩ := r.rd
    exact .inl ⟨a, vs, rfl, .inl (rd_up h1 s.sub), fun p np => g.lst hm s np (r1.cut l h) (Nat.le_trans (cutV_length vs l h) l1)⟩
  | _ => exact g.elim
theorem sl_okT {ds : List D} {v : V} {l h : Option Int} {F H : Hp} {Q : VK} (s : Ok F H) (r : Rep K F (.tup ds) v) (g : PGo K F H (some (.tup (cutD ds l h))) .z Q) : rSlU K v l h H Q := by
  obtain ⟨a, vs, rfl, h1, l1, r1⟩ := r.sqt
  refine .inr ⟨a, vs, rfl, same_t s.sub h1, fun c => ?_, fun _ p np => g.tup s np (r1.cut l h) (Nat.le_trans (cutV_length vs l h) l1)⟩
  have : cutD ds l h = ds := by
    unfold cutD
    rw [← r1.len, c.1, c.2]
    simp [r1.len]
  rw [this] at g
  exact g.same s r
theorem se_sl {tl th : TO} {l u : EO} (ha : SE K E ms .z ta a) (hl : SO K E ms tl l) (hh : SO K E ms th u) : SE K E ms .z (tSl (rSlU K) ta tl th) (aSl a l u) := fun σ H Q H0 F0 io F S fps rl h =>
  ha.use rl h fun d S1 f1 F1 H1 v r1 e1 v1 h => hl.use r1 h fun o1 S2 f2 F2 H2 r2 e2 h => hh.use r2 h fun o2 S3 f3 F3 H3 r3 e3 h => by
    replace h := h.pg r3 (e3.lv (e2.lv (e1.lv live0)))
    have v3 : Rep K F3 d v := Rep.mono e3.evo.same _ (Rep.mono e2.evo.same _ v1)
    cases d with
    | lst ds => exact sl_ok (.inl rfl) r3.ok v3 h
    | tup ds => exact sl_okT r3.ok v3 h
    | _ => exact (show False from h).elim
def aSlL (a : E1) (l h : EO) : E1 := fun S => (a S).bind fun p => (l p.2).bind fun q => (h q.2).bind fun r => oR (dSlL p.1 q.1 r.1) r.2
theorem se_rev (ha : SE K E ms .z ta a) : SE K E ms .z (tRevU K ta) (aUn dRev a) := fun σ H Q H0 F0 io F S fps rl h => ha.use rl h fun d S1 f1 F1 H1 v r1 e1 v1 h => by
  replace h := h.pg r1 (e1.lv live0)
  cases d with
  | lst ds =>
    obtain ⟨a, vs, rfl, h1, l1, r2⟩ := Rep.rd v1
    exact ⟨a, vs, rfl, .inl ⟨.inl (rd_up h1 r1.sub), fun p np => h.lst (.inl rfl) r1.ok np r2.rev (by rw [List.length_reverse]; exact l1)⟩⟩
  | tup ds =>
    obtain ⟨a, vs, rfl, h1, l1, r2⟩ := Rep.sqt v1
    exact ⟨a, vs, rfl, .inr ⟨same_t r1.sub h1, fun p np => h.tup r1.ok np r2.rev (by rw [List.length_reverse]; exact l1)⟩⟩
  | _ => exact (show False from h).elim
open Classical in
noncomputable def frzF (A : Addr → Prop) (F H : Hp) : Hp := fun a => if A a then H a else F a
theorem frz_in {A : Addr → Prop} {a : Addr} (h : A a) : frzF A F H a = H a := if_pos h
theorem frz_out {A : Addr → Prop} {a : Addr} (h : ¬ A a) : frzF A F H a = F a := if_neg h
theorem frzF_ok {A : Addr → Prop} (k : Ok F H) (n : ∀ a, A a → F a = none) : Evo A F H (frzF A F H) H := ⟨fun a o e => by
    by_cases z : A a
    · rw [n a z] at e; cases e
    · rw [frz_out z]; exact e, fun a h => by
    by_cases z : A a
    · exact .inr (.inr z)
    · rw [frz_out z] at h; exact .inl h, fun _ _ e _ => e, fun _ h => h, fun a o e => by
    by_cases z : A a
    · rw [frz_in z] at e; exact e
    · rw [frz_out z] at e; exact k.sub a o e, fun a o e => by
    by_cases z : A a
    · rw [frz_in z]; exact tups_sub a o e
    · rw [frz_out z]; exact k.tup a o e⟩
theorem OR.freeze {s : Sh} {d : D} {v : V} {fp : List Addr} (k : Ok F H) (o : OR K F H s d v fp) (n : ∀ a ∈ fp, F a = none) : Evo (fun a => a ∈ fp) F H (frzF (fun a => a ∈ fp) F H) H ∧ Rep K (frzF (fun a => a ∈ fp) F H) d v := by
  have e := frzF_ok (A := fun a => a ∈ fp) k n
  refine ⟨e, o.rep _ e.same fun a w h z => ?_⟩
  by_cases m : a ∈ fp
  · rw [frz_in (A := fun a => a ∈ fp) m]; exact h
  · rcases z with z | z
    · exact absurd z m
    · rw [frz_out (A := fun a => a ∈ fp) m]
      refine k.tup a w ?_
      cases w with
      | tup xs => exact tups_of h
      | frz q u =>
        cases u with
        | tup xs => unfold tups; rw [h]
        | _ => exact absurd (fun ys => ⟨(by intro z; cases z), fun q z => by cases z⟩) z
      | _ => exact absurd (fun ys => ⟨(by intro z; cases z), fun q z => by cases z⟩) z
theorem Go.frz {s : Sh} {r : Rz (D × List D)} (rl : Rel K H0 F0 io F H ms S σ fps) (h : Go K E H0 F0 io ms σ fps F H r (PV K H .z Q)) : Go K E H0 F0 io ms σ fps F H r (PV K H (.o s) Q) := by
    rcases r with ⟨d, S'⟩ | ⟨c, fs⟩ | _
    · intro F' H' f' r' e' v vr
      obtain ⟨fp, o, nd, q⟩ := vr
      obtain ⟨ev, rp⟩ := OR.freeze r'.ok o fun a z => (q a z).1
      have lv : ∀ a ∈ fp, H' a ≠ none := fun a z y => by
        obtain ⟨w, hw, _⟩ := o.live _ a z
        rw [y] at hw; cases hw
      refine h _ H' f' (r'.go ev (fun a m z => (q a z).2.2 m) (fun a w e z => ?_) fun a z => .inl (Classical.byContradiction fun y => rl.evo.liv a y (q a z).2.1)) ⟨⟨e'.evo.same.trans ev.same, fun b hb => ?_, fun b w e n => e'.evo.frm b w e n, e'.evo.liv, ev.ok⟩, e'.mine⟩ v rp
      · obtain ⟨w', hw, n⟩ := o.live _ a z
        rw [e] at hw; cases hw
        exact n
      · by_cases z : b ∈ fp
        · exact .inr (.inl (q b z).2.1)
        · exact (ev.new b hb).elim (e'.evo.new b) fun y => y.elim (fun y => absurd (ev.ok.sub b) (fun k => by
            cases e : frzF (fun a => a ∈ fp) F' H' b with
            | none => exact hb e
            | some o => rw [k o e] at y; cases y)) fun y => absurd y z
    · exact h
    · exact h
theorem se_frz {s : Sh} (ha : SE K E ms (.o s) ta a) : SE K E ms .z ta a := fun σ H Q H0 F0 io F S fps rl h => ha σ H Q H0 F0 io F S fps rl (Go.frz rl h)
end
end TT
namespace TT
open PySem PySem.Spec PyProof.Rows L2
def rLenR : List V → Hp → VK → Prop := fun xs H Q => ∃ a kvs, xs = [V.ref a] ∧ Rd H a (.dK kvs) ∧ Q (.int kvs.length) H
theorem call_lenR {X : Cx} : CallR X (.builtin "len") rLenR := by
  intro pins s σ H xs us Q I r h
  obtain ⟨a, kvs, rfl, ha, q⟩ := h
  obtain ⟨u, rfl, ru⟩ := vals1 r
  cases ru
  exact d_len I ha fun t s' I' => ⟨.int kvs.length, H, I', ⟨t, rfl⟩, q⟩
def rLenA (K : PySem.W.Frag) : List V → Hp → VK → Prop := fun xs H Q => rLenU K xs H Q ∨ rLenS xs H Q ∨ rLenR xs H Q
theorem k_lenA {X : Cx} {K : PySem.W.Frag} (hK : X.K = K) : CallR X (.builtin "len") (rLenA K) := (k_len hK).or (call_lenSU.or call_lenR)
def rListA (K : PySem.W.Frag) : List V → Hp → VK → Prop := fun xs H Q => rListU K xs H Q ∨ rListDU xs H Q
theorem k_listA {X : Cx} {K : PySem.W.Frag} (hK : X.K = K) (hc : X.calm = true) : CallR X (.type "list") (rListA K) := (k_list hK).or (call_listDU hc)
def dLen : List D → Option D
  | [.scr ns] => some (.int ns.length)
  | [.lst ds] => some (.int ds.length)
  | [.tup ds] => some (.int ds.length)
  | [.str z] => if z.length ≤ sizeLine then some (.int z.length) else none
  | [.dct false ds] => some (.int ds.length)
  | _ => none
def dList : List D → Option D
  | [.scr ns] => some (.lst (ns.map .int))
  | [.lst ds] => some (.lst ds)
  | [.tup ds] => some (.lst ds)
  | [.dct false ds] => okL ds.length (.lst (ds.map (·.1)))
  | _ => none
def dTuple : List D → Option D
  | [.lst ds] => some (.tup ds)
  | [.tup ds] => some (.tup ds)
  | _ => none
def dInt : List D → Option D
  | [.int i] => some (.int i)
  | [.bl b] => some (.int (if b then 1 else 0))
  | _ => none
def dMax2 : List D → Option D
  | [.int i, .int j] => some (.int (if j > i then j else i))
  | _ => none
def dMin2 : List D → Option D
  | [.int i, .int j] => some (.int (if j < i then j else i))
  | _ => none
def boolsD : List D → Option (List Bool)
  | [] => some []
  | d :: ds => match d.bool?, boolsD ds with | some i, some is => some (i :: is) | _, _ => none
def dAll : List D → Option D
  | [.lst ds] => (boolsD ds).map fun bs => .bl (bs.all id)
  | _ => none
section
variable {K : PySem.W.Frag} {m : Mo}
theorem Reps.one {F : Hp} {d : D} {vs : List V} (h : Reps K F [d] vs) : ∃ v, vs = [v] ∧ Rep K F d v := by
  unfold Reps at h
  obtain ⟨v, ws, rfl, h1, h2⟩ := h
  unfold Reps at h2
  subst h2
  exact ⟨v, rfl, h1⟩
theorem Reps.two {F : Hp} {d e : D} {vs : List V} (h : Reps K F [d, e] vs) : ∃ v w, vs = [v, w] ∧ Rep K F d v ∧ Rep K F e w := by
  unfold Reps at h
  obtain ⟨v, ws, rfl, h1, h2⟩ := h
  obtain ⟨w, rfl, h3⟩ := h2.one
  exact ⟨v, w, rfl, h1, h3⟩
theorem boolsD_ok {F : Hp} : ∀ {ds : List D} {vs : List V} {is : List Bool}, Reps K F ds vs → boolsD ds = some is → vs = is.map V.bl
  | [], _, _, h, e => by unfold Reps at h; cases e; exact h
  | d :: ds, _, is, h, e => by
    unfold Reps at h
    obtain ⟨v, us, rfl, h1, h2⟩ := h
    unfold boolsD at e
    cases e1 : d.bool? with
    | none => rw [e1] at e; cases e
    | some w =>
      cases e2 : boolsD ds with
      | none => rw [e1, e2] at e; cases e
      | some zs =>
        rw [e1, e2] at e
        cases e
        rw [bool?_eq e1] at h1
        unfold Rep at h1
        rw [h1, boolsD_ok h2 e2]
        rfl
theorem RepK.len {F : Hp} : ∀ {ds : List (D × D)} {ws : List (Key × V)}, RepK K F ds ws → ws.length = ds.length
  | [], _, h => by unfold RepK at h; subst h; rfl
  | (k, d) :: ds, _, h => by
    unfold RepK at h
    obtain ⟨q, v, us, rfl, _, _, h2⟩ := h
    simp [RepK.len h2]
theorem rep_key {F : Hp} (q : Key) : Rep K F (keyD q) (kV q) := by
  cases q <;> (unfold keyD Rep; rfl)
theorem RepK.keys {F : Hp} : ∀ {ds : List (D × D)} {ws : List (Key × V)}, RepK K F ds ws → Reps K F (ds.map (·.1)) (ws.map fun kv => kV kv.1)
  | [], _, h => by unfold RepK at h; subst h; exact .nil
  | (k, d) :: ds, _, h => by
    unfold RepK at h
    obtain ⟨q, v, us, rfl, rfl, _, h2⟩ := h
    exact .cons (rep_key q) (RepK.keys h2)
theorem fn_len : FnOkA K (rLenA K) dLen .z := by
  intro F H ds vs Q s r h
  unfold dLen at h
  split at h
  · obtain ⟨v, rfl, r1⟩ := r.one
    unfold Rep at r1
    obtain ⟨a, rfl, h1, _⟩ := r1
    exact .inl ⟨a, _, rfl, .inl (same_l s.sub h1), by rw [List.length_map]; exact h.int s⟩
  · obtain ⟨v, rfl, r1⟩ := r.one
    obtain ⟨a, us, rfl, h1, _, r2⟩ := r1.rd
    rw [← r2.len] at h
    exact .inl ⟨a, us, rfl, .inl (.inl (rd_up h1 s.sub)), h.int s⟩
  · obtain ⟨v, rfl, r1⟩ := r.one
    obtain ⟨a, us, rfl, h1, _, r2⟩ := r1.sqt
    rw [← r2.len] at h
    exact .inl ⟨a, us, rfl, .inr (same_t s.sub h1), h.int s⟩
  · obtain ⟨v, rfl, r1⟩ := r.one
    unfold Rep at r1
    subst r1
    exact .inr (.inl ⟨_, rfl, h.ite.1, h.ite.2.int s⟩)
  · obtain ⟨v, rfl, r1⟩ := r.one
    unfold Rep at r1
    obtain ⟨a, ws, rfl, h1, r2⟩ := r1
    rw [← r2.len] at h
    exact .inr (.inr ⟨a, ws, rfl, rd_up h1 s.sub, h.int s⟩)
  · exact h.elim
theorem fn_list (hm : m.isL) : FnOkA K (rListA K) dList m := by
  intro F H ds vs Q s r h
  unfold dList at h
  split at h
  · obtain ⟨v, rfl, r1⟩ := r.one
    unfold Rep at r1
    obtain ⟨a, rfl, h1, l⟩ := r1
    exact .inl ⟨a, _, rfl, .inl (same_l s.sub h1), fun p np => h.lst hm s np (reps_ints _) (by rw [List.length_map]; exact l)⟩
  · obtain ⟨v, rfl, r1⟩ := r.one
    obtain ⟨a, us, rfl, h1, l, r2⟩ := r1.rd
    exact .inl ⟨a, us, rfl, .inl (.inl (rd_up h1 s.sub)), fun p np => h.lst hm s np r2 l⟩
  · obtain ⟨v, rfl, r1⟩ := r.one
    obtain ⟨a, us, rfl, h1, l, r2⟩ := r1.sqt
    exact .inl ⟨a, us, rfl, .inr (same_t s.sub h1), fun p np => h.lst hm s np r2 l⟩
  · obtain ⟨v, rfl, r1⟩ := r.one
    unfold Rep at r1
    obtain ⟨a, ws, rfl, h1, r2⟩ := r1
    obtain ⟨l, h⟩ := h.okL
    exact .inr ⟨a, ws, rfl, rd_up h1 s.sub, fun p np => h.lst hm s np r2.keys (by rw [List.length_map, r2.len]; exact l)⟩
  · exact h.elim
theorem fn_tuple : FnOkA K (rTupU K) dTuple .z := by
  intro F H ds vs Q s r h
  unfold dTuple at h
  split at h
  · obtain ⟨v, rfl, r1⟩ := r.one
    obtain ⟨a, us, rfl, h1, l, r2⟩ := r1.rd
    exact ⟨a, us, rfl, .inl ⟨.inl (rd_up h1 s.sub), fun p np => h.tup s np r2 l⟩⟩
  · obtain ⟨v, rfl, r1⟩ := r.one
    obtain ⟨a, us, rfl, h1, l, r2⟩ := r1.sqt
    exact ⟨a, us, rfl, .inr ⟨same_t s.sub h1, h.same s r1⟩⟩
  · exact h.elim
theorem fn_int : FnOkA K rInt1 dInt .z := by
  intro F H ds vs Q s r h
  unfold dInt at h
  split at h
  · obtain ⟨v, rfl, r1⟩ := r.one
    unfold Rep at r1
    subst r1
    exact .inl ⟨_, rfl, h.int s⟩
  · obtain ⟨v, rfl, r1⟩ := r.one
    unfold Rep at r1
    subst r1
    exact .inr ⟨_, rfl, h.int s⟩
  · exact h.elim
theorem fn_max2 : FnOkA K rMax2 dMax2 .z := by
  intro F H ds vs Q s r h
  unfold dMax2 at h
  split at h
  · obtain ⟨v, w, rfl, r1, r2⟩ := r.two
    unfold Rep at r1 r2
    subst r1 r2
    exact ⟨_, _, rfl, h.int s⟩
  · exact h.elim
theorem fn_min2 : FnOkA K rMin2 dMin2 .z := by
  intro F H ds vs Q s r h
  unfold dMin2 at h
  split at h
  · obtain ⟨v, w, rfl, r1, r2⟩ := r.two
    unfold Rep at r1 r2
    subst r1 r2
    exact ⟨_, _, rfl, h.int s⟩
  · exact h.elim
theorem PGo.map {F H : Hp} {α : Type} {o : Option α} {f : α → D} {Q : VK} (h : PGo K F H (o.map f) m Q) : ∃ x, o = some x ∧ PGo K F H (some (f x)) m Q := by
  cases o with
  | none => exact h.elim
  | some x => exact ⟨x, rfl, h⟩
theorem fn_all : FnOkA K (rAll K) dAll .z := by
  intro F H ds vs Q s r h
  unfold dAll at h
  split at h
  · obtain ⟨v, rfl, r1⟩ := r.one
    obtain ⟨a, us, rfl, h1, l, r2⟩ := r1.rd
    obtain ⟨is, e, h⟩ := h.map
    rw [boolsD_ok r2 e] at h1
    exact ⟨a, is, rfl, .inl (rd_up h1 s.sub), h.bl s⟩
  · exact h.elim
end
def rangeD (a b : Int) : List D := (List.range (b - a).toNat).map fun i => .int (a + (i : Nat))
def okRg (a b : Int) : Bool := decide (-(2 ^ 62) ≤ a ∧ a < 2 ^ 62 ∧ -(2 ^ 62) ≤ b ∧ b < 2 ^ 62 ∧ (b - a).toNat ≤ 2 ^ 24)
def aRg1 (a : E1) : List D → Rz ((Int × Int) × List D) := fun S => (a S).bind fun p => (oR p.1.int? p.2).bind fun q => .ok ((0, q.1), q.2)
def aRg2 (a b : E1) : List D → Rz ((Int × Int) × List D) := fun S => (a S).bind fun p => (b p.2).bind fun q => (oR p.1.int? q.2).bind fun i => (oR q.1.int? i.2).bind fun j => .ok ((i.1, j.1), j.2)
def aLrg (a : List D → Rz ((Int × Int) × List D)) : E1 := fun S => (a S).bind fun p => oR (if okRg p.1.1 p.1.2 = true then some (.lst (rangeD p.1.1 p.1.2)) else none) p.2
def aTrg (a : List D → Rz ((Int × Int) × List D)) : E1 := fun S => (a S).bind fun p => oR (if okRg p.1.1 p.1.2 = true then some (.tup (rangeD p.1.1 p.1.2)) else none) p.2
section
variable {K : PySem.W.Frag} {E : L2.St → XK} {ms : List Mo} {m : Mo} {ta tb : TE} {a b : E1} {tr : L2.St → Hp → (Int → Int → Hp → Prop) → Prop} {ar : List D → Rz ((Int × Int) × List D)}
theorem repI {F : Hp} {d : D} {v : V} {b : Int} (h : Rep K F d v) (e : d.int? = some b) : v = .int b := by
  rw [int?_eq e] at h
  unfold Rep at h
  exact h
end
def Mo.frz : Mo → Mo
  | .o _ | .p _ => .z
  | m => m
mutual
def cleanS : Sh → D → Bool
  | .z, d => d.imm
  | .l c, .lst ds => ds.all (cleanS c)
  | .k c, .dct false kvs => kvs.all fun p => cleanS c p.2
  | .t c, .dct true kvs => kvs.all fun p => cleanS c p.2
  | .i fs, .obj _ gs => (gs.all fun p => (fs.lookup p.1).isSome || p.2.imm) && cleanF fs gs
  | .u cs, .tup ds => cleanU cs ds
  | _, _ => false
def cleanF : List (Str × Sh) → List (Str × D) → Bool
  | [], _ => true
  | (f, s) :: r, gs => (match gs.lookup f with | none => true | some d => cleanS s d) && cleanF r gs
def cleanU : List Sh → List D → Bool
  | [], [] => true
  | s :: r, d :: ds => cleanS s d && cleanU r ds
  | _, _ => false
end
def clean : Mo → D → Bool
  | .z, d => d.imm
  | .o s, d => cleanS s d
  | _, _ => false
def aBr (m : Mo) (a : E1) : E1 := fun S => (a S).bind fun p => if clean m p.1 = true then .ok (p.1, S) else .no
def aBrB (a : EB) : EB := fun S => (a S).bind fun p => .ok (p.1, S)
section
variable {K : PySem.W.Frag} {E : L2.St → XK} {H0 F0 F H F' H' G : Hp} {io : IO} {ms : List Mo} {S : List D} {σ : L2.St} {m : Mo} {ta : TE} {tt : TT} {a : E1} {x : EB} {fps : List (List Addr)}
theorem AllO.clean {P Q : D → V → List Addr → Prop} {c : D → Bool} : ∀ {ds : List D} {vs : List V} {fp : List Addr}, (∀ d v f, c d = true → P d v f → Q d v f) → ds.all c = true → AllO P ds vs fp → AllO Q ds vs fp
  | [], _, _, _, _, h => h
  | d :: ds, _, _, k, i, h => by
    rw [List.all_cons, Bool.and_eq_true] at i
    obtain ⟨v, ws, f1, f2, e1, e2, h1, h2⟩ := h
    exact ⟨v, ws, f1, f2, e1, e2, k d v f1 i.1 h1, AllO.clean k i.2 h2⟩
theorem AllK.clean {P Q : D → V → List Addr → Prop} {c : D → Bool} : ∀ {ds : List (D × D)} {vs : List (Key × V)} {fp : List Addr}, (∀ d v f, c d = true → P d v f → Q d v f) → (ds.all fun p => c p.2) = true → AllK P ds vs fp → AllK Q ds vs fp
  | [], _, _, _, _, h => h
  | (k', d) :: ds, _, _, k, i, h => by
    rw [List.all_cons, Bool.and_eq_true] at i
    obtain ⟨q, v, ws, f1, f2, e1, e2, e3, h1, h2⟩ := h
    exact ⟨q, v, ws, f1, f2, e1, e2, e3, k d v f1 i.1 h1, AllK.clean k i.2 h2⟩
theorem AllT.clean {P Q : D → V → List Addr → Prop} {c : D → Bool} : ∀ {ds : List (D × D)} {vs : List (List Key × V)} {fp : List Addr}, (∀ d v f, c d = true → P d v f → Q d v f) → (ds.all fun p => c p.2) = true → AllT P ds vs fp → AllT Q ds vs fp
  | [], _, _, _, _, h => h
  | (k', d) :: ds, _, _, k, i, h => by
    rw [List.all_cons, Bool.and_eq_true] at i
    obtain ⟨q, v, ws, f1, f2, e1, e2, e3, h1, h2⟩ := h
    exact ⟨q, v, ws, f1, f2, e1, e2, e3, k d v f1 i.1 h1, AllT.clean k i.2 h2⟩
theorem mem_lookup {gs : List (Str × D)} {f : Str} {x : D} (h : gs.lookup f = some x) : (f, x) ∈ gs := by
  induction gs with
  | nil => cases h
  | cons p gs ih =>
    obtain ⟨g, y⟩ := p
    rw [List.lookup_cons] at h
    split at h
    · rename_i z
      cases h
      have : f = g := by simpa using z
      subst this
      exact List.mem_cons_self ..
    · exact List.mem_cons_of_mem _ (ih h)
mutual
theorem OR.clean : ∀ (s : Sh) {d : D} {v : V} {fp : List Addr}, OR K F H s d v fp → cleanS s d = true → Same (tups F) G → OR K G H s d v fp
  | .z, d, _, _, h, c, sg => by unfold OR at h ⊢; exact ⟨h.1, Rep.mono sg d (Rep.imm d h.2 (by unfold cleanS at c; exact c))⟩
  | .l s, _, _, _, h, c, sg => by
    unfold OR at h ⊢
    obtain ⟨ds, a, vs, fq, rfl, e2, e3, h1, h2, h3⟩ := h
    unfold cleanS at c
    exact ⟨ds, a, vs, fq, rfl, e2, e3, h1, h2, h3.clean (fun d v f i q => OR.clean s q i sg) c⟩
  | .k s, _, _, _, h, c, sg => by
    unfold OR at h ⊢
    obtain ⟨ds, a, vs, fq, rfl, e2, e3, h1, h3⟩ := h
    unfold cleanS at c
    exact ⟨ds, a, vs, fq, rfl, e2, e3, h1, h3.clean (fun d v f i q => OR.clean s q i sg) c⟩
  | .t s, _, _, _, h, c, sg => by
    unfold OR at h ⊢
    obtain ⟨ds, a, vs, fq, rfl, e2, e3, h1, h3⟩ := h
    unfold cleanS at c
    exact ⟨ds, a, vs, fq, rfl, e2, e3, h1, h3.clean (fun d v f i q => OR.clean s q i sg) c⟩
  | .i fs, _, _, _, h, c, sg => by
    unfold OR at h ⊢
    obtain ⟨cc, gs, a, dx, ws, fq, rfl, e2, e3, h1, h2, h3, h4, h5⟩ := h
    unfold cleanS at c
    rw [Bool.and_eq_true] at c
    refine ⟨cc, gs, a, dx, ws, fq, rfl, e2, e3, h1, h2, h3, fun f x e n => ?_, ORf.clean fs h5 c.2 sg⟩
    obtain ⟨v, e', r⟩ := h4 f x e n
    have := List.all_eq_true.mp c.1 (f, x) (mem_lookup e)
    rw [n] at this
    exact ⟨v, e', Rep.mono sg x (Rep.imm x r (by simpa using this))⟩
  | .u cs, _, _, _, h, c, sg => by
    unfold OR at h ⊢
    obtain ⟨ds, a, vs, rfl, e2, h1, h2, h3⟩ := h
    unfold cleanS at c
    exact ⟨ds, a, vs, rfl, e2, h1, h2, ORu.clean cs h3 c sg⟩
theorem ORf.clean : ∀ (fs : List (Str × Sh)) {gs : List (Str × D)} {ws : List (Str × V)} {fp : List Addr}, ORf K F H fs gs ws fp → cleanF fs gs = true → Same (tups F) G → ORf K G H fs gs ws fp
  | [], _, _, _, h, _, _ => by unfold ORf at h ⊢; exact h
  | (f, s) :: r, _, _, _, h, c, sg => by
    unfold ORf at h ⊢
    unfold cleanF at c
    rw [Bool.and_eq_true] at c
    obtain ⟨f1, f2, e, h1, h2⟩ := h
    refine ⟨f1, f2, e, h1.imp id fun ⟨d, v, e1, e2, q⟩ => ⟨d, v, e1, e2, OR.clean s q ?_ sg⟩, ORf.clean r h2 c.2 sg⟩
    have := c.1
    rw [e1] at this
    exact this
theorem ORu.clean : ∀ (cs : List Sh) {ds : List D} {vs : List V} {fp : List Addr}, ORu K F H cs ds vs fp → cleanU cs ds = true → Same (tups F) G → ORu K G H cs ds vs fp
  | [], _, _, _, h, _, _ => by unfold ORu at h ⊢; exact h
  | s :: r, _, _, _, h, c, sg => by
    unfold ORu at h ⊢
    obtain ⟨d, es, v, ws, f1, f2, rfl, e2, e3, h1, h2⟩ := h
    unfold cleanU at c
    rw [Bool.and_eq_true] at c
    exact ⟨d, es, v, ws, f1, f2, rfl, e2, e3, OR.clean s h1 c.1 sg, ORu.clean r h2 c.2 sg⟩
end
theorem VR.clean {d : D} {v : V} {B : Hp} {M M' : Addr → Prop} (h : VR K F H B M m d v) (c : clean m d = true) (s : Same (tups F) G) (fn : ∀ a, F a = none → G a = none) (hM : ∀ a, M' a → M a ∨ B a ≠ none) : VR K G H B M' m d v := by
  cases m with
  | u => exact h
  | p s => exact h
  | z => exact Rep.mono s d (Rep.imm d h c)
  | o sh =>
    obtain ⟨f, o, nd, q⟩ := h
    exact ⟨f, o.clean _ c s, nd, fun a z => ⟨fn a (q a z).1, (q a z).2.1, fun y => (hM a y).elim (q a z).2.2 fun w => w (q a z).2.1⟩⟩
open Classical in
noncomputable def thawF (A : Addr → Prop) (F : Hp) : Hp := fun a => if A a then none else F a
theorem thaw_in {A : Addr → Prop} {a : Addr} (h : A a) : thawF A F a = none := if_pos h
theorem thaw_out {A : Addr → Prop} {a : Addr} (h : ¬ A a) : thawF A F a = F a := if_neg h
def noFp (fps : List (List Addr)) : List (List Addr) := fps.map fun _ => []
theorem noFp_mine {b : Addr} : ¬ Mine (noFp fps) b := fun ⟨f, hf, hb⟩ => by
  obtain ⟨_, _, rfl⟩ := List.mem_map.mp hf
  cases hb
theorem frz_mo {i : Nat} {m' : Mo} (h : (ms.map Mo.frz)[i]? = some m') : ∃ m, ms[i]? = some m ∧ m' = m.frz := by
  rw [List.getElem?_map] at h
  obtain ⟨m, e, rfl⟩ := Option.map_eq_some_iff.mp h
  exact ⟨m, e, rfl⟩
theorem Rel.noneF (r : Rel K H0 F0 io F H ms S σ fps) {b : Addr} {o : HO} (e : F b = some o) : ¬ Mine fps b := fun z => by
  obtain ⟨_, _, _, _, _, n, _⟩ := r.mine z
  rw [e] at n; cases n
theorem Rel.mineN (r : Rel K H0 F0 io F H ms S σ fps) {b : Addr} (z : Mine fps b) : F b = none := by
  obtain ⟨_, _, _, _, _, n, _⟩ := r.mine z
  exact n
theorem mine_at {i : Nat} {f : List Addr} {b : Addr} (e : fps[i]? = some f) (m : b ∈ f) : Mine fps b := ⟨f, List.mem_of_getElem? e, m⟩
theorem Rel.frz (r : Rel K H0 F0 io F H ms S σ fps) : Rel K H0 F0 io (frzF (Mine fps) F H) H (ms.map Mo.frz) S σ (noFp fps) where
  evo := r.evo.trans (frzF_ok r.ok fun b z => r.mineN z) fun b z => by
    obtain ⟨_, _, _, _, _, _, w⟩ := r.mine z
    exact w.elim .inr .inl
  lS := by rw [List.length_map]; exact r.lS
  lσ := by rw [List.length_map]; exact r.lσ
  lf := by unfold noFp; rw [List.length_map, List.length_map]; exact r.lf
  at_ := fun i m' h => by
    obtain ⟨m, e, rfl⟩ := frz_mo h
    obtain ⟨d, v, f, e1, e2, e3, sr, nd, q, q2⟩ := r.at_ i m e
    have e4 : (noFp fps)[i]? = some [] := by unfold noFp; rw [List.getElem?_map, e3]; rfl
    have ev := frzF_ok r.ok fun b z => r.mineN (fps := fps) z
    refine ⟨d, v, [], e1, e2, e4, ?_, List.nodup_nil, (fun _ z => by cases z), (fun _ _ _ z => by cases z), fun s e => by cases m <;> cases e⟩
    have rp : ∀ {s x}, OR K F H s d x f → Rep K (frzF (Mine fps) F H) d x := fun {s x} o => o.rep _ ev.same fun b w hb z => by
      by_cases mb : Mine fps b
      · rw [frz_in mb]; exact hb
      · rcases z with z | z
        · exact absurd (mine_at e3 z) mb
        · refine ev.ok.tup b w ?_
          cases w with
          | tup xs => exact tups_of hb
          | frz q u =>
            cases u with
            | tup xs => unfold tups; rw [hb]
            | _ => exact absurd (fun ys => ⟨(by intro z; cases z), fun q z => by cases z⟩) z
          | _ => exact absurd (fun ys => ⟨(by intro z; cases z), fun q z => by cases z⟩) z
    cases m with
    | u => exact ⟨sr.1, rfl⟩
    | z => obtain ⟨_, x, rfl, q⟩ := sr; exact ⟨rfl, x, rfl, Rep.mono ev.same d q⟩
    | o s => obtain ⟨x, rfl, q⟩ := sr; exact ⟨rfl, x, rfl, rp q⟩
    | p s => obtain ⟨x, rfl, q⟩ := sr; exact ⟨rfl, x, rfl, rp q⟩
  dis := fun i j f g b h1 h2 m1 _ => by
    unfold noFp at h1
    rw [List.getElem?_map] at h1
    obtain ⟨_, _, rfl⟩ := Option.map_eq_some_iff.mp h1
    cases m1
theorem Rel.thaw {A : Addr → Prop} (r : Rel K H0 F0 io F H ms S σ fps) (nA : ∀ b, ¬ A b) (e : Evo A (frzF (Mine fps) F H) H F' H') :
    Grow F H (thawF (Mine fps) F') H' ∧ Same (tups F') (thawF (Mine fps) F') ∧ ∀ b, F' b = none → thawF (Mine fps) F' b = none := by
  have frm : ∀ b o, H b = some o → H' b = some o := fun b o z => e.frm b o z (nA b)
  have tp : ∀ b o, tups H' b = some o → ¬ Mine fps b := fun b o z y => by
    obtain ⟨w, hw, n⟩ := r.live y
    obtain ⟨h1, h2⟩ := tups_some z
    rw [frm b w hw] at h1
    cases h1
    exact h2 n
  refine ⟨⟨fun b o z => ?_, fun b z => ?_, fun b o z _ => frm b o z, e.liv, fun b o z => ?_, fun b o z => ?_⟩, fun b o z => ?_, fun b z => ?_⟩
  · have n := r.noneF z
    rw [thaw_out n]
    exact e.same b o (by rw [frz_out n]; exact z)
  · by_cases y : Mine fps b
    · rw [thaw_in y] at z; exact absurd rfl z
    · rw [thaw_out y] at z
      rcases e.new b z with q | q | q
      · rw [frz_out y] at q; exact .inl q
      · exact .inr (.inl q)
      · exact absurd q (nA b)
  · by_cases y : Mine fps b
    · rw [thaw_in y] at z; cases z
    · rw [thaw_out y] at z; exact e.ok.sub b o z
  · rw [thaw_out (tp b o z)]
    exact e.ok.tup b o z
  · have z' : tups H' b = some o := by
      have h1 := tups_sub b o z
      have h2 := e.ok.sub b o h1
      unfold tups at z ⊢
      rw [h1] at z
      rw [h2]
      exact z
    rw [thaw_out (tp b o z')]
    exact tups_sub b o z
  · by_cases y : Mine fps b
    · exact thaw_in y
    · rw [thaw_out y]; exact z
theorem se_br (h : SE K E (ms.map Mo.frz) m ta a) : SE K E ms m ta (aBr m a) := fun σ H Q H0 F0 io F S fps rl g => by
  refine h σ H Q H0 F0 io _ S _ rl.frz ?_
  unfold aBr at g
  generalize a S = r at g ⊢
  rcases r with ⟨d, S'⟩ | ⟨c, fs⟩ | _
  · intro F' H' f' r' e' v vr
    obtain ⟨g1, s2, fn⟩ := rl.thaw (fun b => noFp_mine) e'.evo
    have g2 : Go K E H0 F0 io ms σ fps F H (if clean m d = true then .ok (d, S) else .no) (PV K H m Q) := g
    by_cases c : clean m d = true
    · rw [if_pos c] at g2
      exact g2 _ _ fps (rl.grow g1) (Ev.grow g1) v (vr.clean c s2 fn fun b z => .inr (rl.ne z))
    · rw [if_neg c] at g2
      exact g2.elim
  · intro cls Dd F' H' e' x
    obtain ⟨g1, _, _⟩ := rl.thaw (fun b => noFp_mine) e'
    exact g cls Dd _ H' (g1.wide fun _ z => z.elim) x
  · exact g
end
end TT
namespace TT
open PySem PySem.Spec PyProof.Rows L2
inductive Out where
  | nx (S : List D) | rt (d : D) (S : List D) | bk (S : List D) | ct (S : List D)
abbrev S1 := List D → Rz Out
def maskD : List Mo → List D → List D
  | m :: ms, d :: S => (if m.isU = true then D.non else d) :: maskD ms S
  | _, _ => []
def maskF : List Mo → List (List Addr) → List (List Addr)
  | m :: ms, f :: fs => (if m.isU = true then [] else f) :: maskF ms fs
  | _, _ => []
def wk : List Mo → List Mo → Bool
  | [], [] => true
  | m :: ms, n :: ns => (n.isU || Mo.eqb n m) && wk ms ns
  | _, _ => false
def aNext : S1 := fun S => .ok (.nx S)
def aSeq (s t : S1) : S1 := fun S => (s S).bind fun o => match o with
  | .nx S' => t S'
  | o => .ok o
def aDrop (ms : List Mo) (s : S1) : S1 := fun S => (s S).bind fun o => match o with
  | .nx S' => .ok (.nx (maskD ms S'))
  | o => .ok o
def aIfS (c : EB) (s t : S1) : S1 := fun S => (c S).bind fun p => if p.1 = true then s p.2 else t p.2
def aSet (i : Nat) (a : E1) : S1 := fun S => (a S).bind fun p => .ok (.nx (p.2.set i p.1))
def aExpr (a : E1) : S1 := fun S => (a S).bind fun p => .ok (.nx p.2)
def aRet (mio : List Mo) (a : E1) : S1 := fun S => (a S).bind fun p => .ok (.rt p.1 (maskD mio p.2))
def aRetN (mio : List Mo) : S1 := fun S => .ok (.rt .non (maskD mio S))
def aRetO (mio : List Mo) (i : Nat) : S1 := fun S => (oR S[i]? S).bind fun p => .ok (.rt p.1 (maskD mio S))
def aPar (i j : Nat) (a b : E1) : S1 := fun S => (a S).bind fun p => (b p.2).bind fun q => .ok (.nx ((q.2.set i p.1).set j q.1))
def aAug (i : Nat) (f : D → D → Option D) (a : E1) : S1 := fun S => (oR S[i]? S).bind fun x => (a x.2).bind fun p => (oR (f x.1 p.1) p.2).bind fun q => .ok (.nx (q.2.set i q.1))
section
variable (K : PySem.W.Frag) (E : L2.St → XK) (H0 F0 : Hp) (io : IO) (rm : Mo) (mio ms' msb : List Mo)
def GoS (En : Ends) (F : Hp) (r : Rz Out) : Prop := match r with
  | .ok (.nx S') => ∀ σ' F' H' f', Same F F' → Rel K H0 F0 io F' H' ms' S' σ' f' → En.nx σ' H'
  | .ok (.bk S') => ∀ σ' F' H' f', Same F F' → Rel K H0 F0 io F' H' msb S' σ' f' → En.bk σ' H'
  | .ok (.ct S') => ∀ σ' F' H' f', Same F F' → Rel K H0 F0 io F' H' msb S' σ' f' → En.ct σ' H'
  | .ok (.rt d S') => ∀ v σ' F' H' f', Rel K H0 F0 io F' H' mio S' σ' f' → VR K F' H' H0 (Mine f') rm d v → En.rt v H'
  | .ex c fs => ∀ σ' cls Dd F' H', Evo io.a F0 H0 F' H' → XR K H' c fs cls Dd → E σ' cls Dd H'
  | .no => False
end
def SS (K : PySem.W.Frag) (E : L2.St → XK) (rm : Mo) (mio msb ms ms' : List Mo) (t : TS) (s : S1) : Prop :=
  ∀ (σ : L2.St) (H : Hp) (En : Ends) (H0 F0 : Hp) (io : IO) (F : Hp) (S : List D) (fps : List (List Addr)), Rel K H0 F0 io F H ms S σ fps → GoS K E H0 F0 io rm mio ms' msb En F (s S) → t En σ H
section
variable {K : PySem.W.Frag} {E : L2.St → XK} {H0 F0 F H B : Hp} {io : IO} {rm m : Mo} {mio msb ms ms1 ms' : List Mo} {S : List D} {σ : L2.St} {ta tb te : TE} {a b c : E1} {tt : TT} {x : EB} {t u : TS} {s s' : S1} {En : Ends} {i j : Nat} {fps f1 : List (List Addr)} {σ' : L2.St}
theorem getset_ne {α : Type} {l : List α} {i j : Nat} {x : α} (h : i ≠ j) : (l.set i x)[j]? = l[j]? := by rw [List.getElem?_set, if_neg h]
theorem getset_eq {α : Type} {l : List α} {i : Nat} {x y : α} (h : l[i]? = some y) : (l.set i x)[i]? = some x := by
  rw [List.getElem?_set, if_pos rfl]
  have := (List.getElem?_eq_some_iff.mp h).1
  rw [if_pos this]
theorem isU_eq {m : Mo} (h : m.isU = true) : m = .u := by cases m <;> first | rfl | cases h
theorem wk_at : ∀ {ms ns : List Mo}, wk ms ns = true → ms.length = ns.length ∧ ∀ (i : Nat) n, ns[i]? = some n → n = .u ∨ ms[i]? = some n
  | [], [], _ => ⟨rfl, fun i n h => by simp at h⟩
  | m :: ms, n :: ns, h => by
    unfold wk at h
    rw [Bool.and_eq_true, Bool.or_eq_true] at h
    obtain ⟨l, w⟩ := wk_at h.2
    refine ⟨by simp [l], fun i k e => ?_⟩
    cases i with
    | zero =>
      cases Option.some.inj e
      rcases h.1 with z | z
      · exact .inl (isU_eq z)
      · exact .inr (by rw [Mo.eq_of z]; rfl)
    | succ i => exact w i k (by simpa using e)
  | [], _ :: _, h => by cases h
  | _ :: _, [], h => by cases h
theorem mask_at : ∀ {ms : List Mo} {S : List D}, S.length = ms.length → (maskD ms S).length = ms.length ∧ ∀ (i : Nat) m d, ms[i]? = some m → S[i]? = some d → (maskD ms S)[i]? = some (if m.isU = true then .non else d)
  | [], [], _ => ⟨rfl, fun i m d h => by simp at h⟩
  | m :: ms, d :: S, l => by
    obtain ⟨h1, h2⟩ := mask_at (ms := ms) (S := S) (by simpa using l)
    refine ⟨by unfold maskD; simp [h1], fun i n e a b => ?_⟩
    unfold maskD
    cases i with
    | zero => cases Option.some.inj a; cases Option.some.inj b; rfl
    | succ i => simpa using h2 i n e (by simpa using a) (by simpa using b)
  | [], _ :: _, l => by simp at l
  | _ :: _, [], l => by simp at l
theorem maskF_at : ∀ {ms : List Mo} {S : List (List Addr)}, S.length = ms.length → (maskF ms S).length = ms.length ∧ (∀ (i : Nat) m d, ms[i]? = some m → S[i]? = some d → (maskF ms S)[i]? = some (if m.isU = true then [] else d)) ∧
    ∀ (i : Nat) f a, (maskF ms S)[i]? = some f → a ∈ f → ∃ m, ms[i]? = some m ∧ m.isU = false ∧ S[i]? = some f
  | [], [], _ => ⟨rfl, fun i m d h => by simp at h, fun i f a h => by unfold maskF at h; simp at h⟩
  | m :: ms, d :: S, l => by
    obtain ⟨h1, h2, h3⟩ := maskF_at (ms := ms) (S := S) (by simpa using l)
    refine ⟨by unfold maskF; simp [h1], fun i n e a b => ?_, fun i f a h z => ?_⟩
    · unfold maskF
      cases i with
      | zero => cases Option.some.inj a; cases Option.some.inj b; rfl
      | succ i => simpa using h2 i n e (by simpa using a) (by simpa using b)
    · unfold maskF at h
      cases i with
      | zero =>
        have e := Option.some.inj h
        cases mu : m.isU with
        | true => rw [mu, if_pos rfl] at e; subst e; cases z
        | false => rw [mu, if_neg Bool.false_ne_true] at e; subst e; exact ⟨m, rfl, mu, rfl⟩
      | succ i => simpa using h3 i f a (by simpa using h) z
  | [], _ :: _, l => by simp at l
  | _ :: _, [], l => by simp at l
theorem Rel.weak {ns : List Mo} (r : Rel K H0 F0 io F H ms S σ fps) (w : wk ms ns = true) : Rel K H0 F0 io F H ns (maskD ns S) σ (maskF ns fps) := by
  obtain ⟨l, wa⟩ := wk_at w
  have sl : S.length = ns.length := r.lS.trans l
  have fl : fps.length = ns.length := r.lf.trans l
  obtain ⟨ml, ma⟩ := mask_at sl
  obtain ⟨gl, ga, gb⟩ := maskF_at fl
  refine ⟨r.evo, ml, r.lσ.trans l, gl, fun i n h => ?_, fun i j f g a h1 h2 m1 m2 => ?_⟩
  · have hi : i < ms.length := by rw [l]; exact (List.getElem?_eq_some_iff.mp h).1
    obtain ⟨d, v, f, e1, e2, e3, sr, nd, q, q2⟩ := r.at_ i ms[i] (List.getElem?_eq_getElem hi)
    refine ⟨_, v, _, ma i n d h e1, e2, ga i n f h e3, ?_⟩
    cases z : n.isU with
    | true =>
      rw [isU_eq z, if_pos rfl, if_pos rfl]
      exact ⟨⟨rfl, rfl⟩, List.nodup_nil, (fun _ z => by cases z), (fun _ _ _ z => by cases z), fun _ e => by cases e⟩
    | false =>
      rw [if_neg Bool.false_ne_true, if_neg Bool.false_ne_true]
      rcases wa i n h with y | y
      · rw [y] at z; cases z
      · rw [List.getElem?_eq_getElem hi] at y
        cases y
        exact ⟨sr, nd, q, q2⟩
  · obtain ⟨_, _, _, e1⟩ := gb i f a h1 m1
    obtain ⟨_, _, _, e2⟩ := gb j g a h2 m2
    exact r.dis i j f g a e1 e2 m1 m2
theorem mine_mask {ns : List Mo} (l : fps.length = ns.length) {a : Addr} (m : Mine (maskF ns fps) a) : ∃ (i : Nat) (f : List Addr) (n : Mo), ns[i]? = some n ∧ n.isU = false ∧ fps[i]? = some f ∧ a ∈ f := by
  obtain ⟨f, hf, ha⟩ := m
  obtain ⟨i, hi, e⟩ := List.getElem_of_mem hf
  obtain ⟨n, h1, h2, h3⟩ := (maskF_at l).2.2 i f a (by rw [List.getElem?_eq_getElem hi, e]) ha
  exact ⟨i, f, n, h1, h2, h3, ha⟩
theorem Rel.storeG {F' H' : Hp} {S' : List D} {d : D} {v : V} {g : List Addr} (r : Rel K H0 F0 io F' H' ms S' σ f1) (hi : i < ms.length) (hg : SR K F' H' m d (some v) g) (nd : g.Nodup) (q : ∀ a ∈ g, F' a = none ∧ (H0 a = none ∨ io.a a)) (q2 : ∀ s, m = .o s → ∀ a ∈ g, H0 a = none) (hp : ∀ s, m ≠ .p s)
    (q3 : ∀ a ∈ g, ¬ Mine f1 a) : Rel K H0 F0 io F' H' (ms.set i m) (S'.set i d) (σ.set i (some v)) (f1.set i g) := by
  have hf : i < f1.length := by rw [r.lf]; exact hi
  have hS : i < S'.length := by rw [r.lS]; exact hi
  have hs : i < σ.length := by rw [r.lσ]; exact hi
  refine ⟨r.evo, by simp [r.lS], by simp [r.lσ], by simp [r.lf], fun j n h => ?_, fun j k f f' a h1 h2 m1 m2 => ?_⟩
  · by_cases z : i = j
    · subst z
      rw [getset_eq (List.getElem?_eq_getElem hi)] at h
      cases h
      exact ⟨d, some v, g, getset_eq (List.getElem?_eq_getElem hS), getset_eq (List.getElem?_eq_getElem hs), getset_eq (List.getElem?_eq_getElem hf), hg, nd, q, q2, fun s e => (hp s e).elim⟩
    · rw [getset_ne z] at h
      obtain ⟨d', v', f', e1, e2, e3, w⟩ := r.at_ j n h
      exact ⟨d', v', f', by rw [getset_ne z]; exact e1, by rw [getset_ne z]; exact e2, by rw [getset_ne z]; exact e3, w⟩
  · by_cases z1 : i = j
    · subst z1
      rw [getset_eq (List.getElem?_eq_getElem hf)] at h1
      cases h1
      by_cases z2 : i = k
      · exact z2
      · rw [getset_ne z2] at h2
        exact ((q3 a m1) (mine_at h2 m2)).elim
    · rw [getset_ne z1] at h1
      by_cases z2 : i = k
      · subst z2
        rw [getset_eq (List.getElem?_eq_getElem hf)] at h2
        cases h2
        exact ((q3 a m2) (mine_at h1 m1)).elim
      · rw [getset_ne z2] at h2
        exact r.dis j k f f' a h1 h2 m1 m2
theorem Rel.store {F' H' : Hp} {S' : List D} {d : D} {v : V} (r0 : Rel K H0 F0 io F H ms1 S σ' fps) (r : Rel K H0 F0 io F' H' ms S' σ f1) (hi : i < ms.length) (vr : VR K F' H' H (Mine f1) m d v) : ∃ g, Rel K H0 F0 io F' H' (ms.set i m) (S'.set i d) (σ.set i (some v)) (f1.set i g) ∧ (m = .z → g = []) := by
  cases m with
  | z => exact ⟨[], r.storeG hi ⟨rfl, v, rfl, vr⟩ List.nodup_nil (fun _ z => by cases z) (fun _ _ _ z => by cases z) (fun _ z => by cases z) (fun _ z => by cases z), fun _ => rfl⟩
  | o s =>
    obtain ⟨g, o, nd, q⟩ := vr
    have h0 : ∀ a ∈ g, H0 a = none := fun a z => Classical.byContradiction fun y => r0.evo.liv a y (q a z).2.1
    exact ⟨g, r.storeG hi ⟨v, rfl, o⟩ nd (fun a z => ⟨(q a z).1, .inl (h0 a z)⟩) (fun _ _ a z => h0 a z) (fun _ z => by cases z) fun a z => (q a z).2.2, fun z => by cases z⟩
  | u => exact vr.elim
  | p s => exact vr.elim
theorem Rel.evoX {F' H' : Hp} (r : Rel K H0 F0 io F H ms S σ fps) (e : Evo (Mine fps) F H F' H') : Evo io.a F0 H0 F' H' := r.evo.trans e fun a z => by
  obtain ⟨_, _, _, _, _, _, w⟩ := r.mine z
  exact w.elim .inr .inl
theorem GoS.base {F F1 : Hp} {r : Rz Out} (h : GoS K E H0 F0 io rm mio ms' msb En F r) (s : Same F F1) : GoS K E H0 F0 io rm mio ms' msb En F1 r := by
  rcases r with (S' | ⟨d, S'⟩ | S' | S') | ⟨c, fs⟩ | _
  · exact fun σ' F' H' f' s' r' => h σ' F' H' f' (s.trans s') r'
  · exact h
  · exact fun σ' F' H' f' s' r' => h σ' F' H' f' (s.trans s') r'
  · exact fun σ' F' H' f' s' r' => h σ' F' H' f' (s.trans s') r'
  · exact h
  · exact h
abbrev Flat (E : L2.St → XK) : Prop := ∀ σ σ', E σ = E σ'
theorem SE.stm {k : D × List D → Rz Out} {Q : VK} (ha : SE K E ms m ta a) (hE : Flat E) (r : Rel K H0 F0 io F H ms S σ fps) (h : GoS K E H0 F0 io rm mio ms' msb En F ((a S).bind k))
    (q : ∀ d S1 f1 F1 H1 v, Rel K H0 F0 io F1 H1 ms S1 σ f1 → Ev fps f1 F H F1 H1 → VR K F1 H1 H (Mine f1) m d v → GoS K E H0 F0 io rm mio ms' msb En F1 (k (d, S1)) → Q v H1) : ta σ H Q := by
  refine ha σ H Q H0 F0 io F S fps r ?_
  generalize a S = z at h ⊢
  rcases z with ⟨d, S'⟩ | ⟨c, fs⟩ | _
  · exact fun F' H' f' r' e' v vr => q d S' f' F' H' v r' e' vr (h.base e'.evo.same)
  · exact fun cls Dd F' H' e' x => h σ cls Dd F' H' (r.evoX e') x
  · exact h
theorem ST.stm {k : Bool × List D → Rz Out} {Q : Bool → Hp → Prop} (ha : ST K E ms tt x) (hE : Flat E) (r : Rel K H0 F0 io F H ms S σ fps) (h : GoS K E H0 F0 io rm mio ms' msb En F ((x S).bind k))
    (q : ∀ d S1 f1 F1 H1, Rel K H0 F0 io F1 H1 ms S1 σ f1 → Ev fps f1 F H F1 H1 → GoS K E H0 F0 io rm mio ms' msb En F1 (k (d, S1)) → Q d H1) : tt σ H Q := by
  refine ha σ H Q H0 F0 io F S fps r ?_
  generalize x S = z at h ⊢
  rcases z with ⟨d, S'⟩ | ⟨c, fs⟩ | _
  · exact fun F' H' f' r' e' => q d S' f' F' H' r' e' (h.base e'.evo.same)
  · exact fun cls Dd F' H' e' x => h σ cls Dd F' H' (r.evoX e') x
  · exact h
theorem GoS.opt {α : Type} {o : Option α} {k : α × List D → Rz Out} (h : GoS K E H0 F0 io rm mio ms' msb En F ((oR o S).bind k)) : ∃ x, o = some x ∧ GoS K E H0 F0 io rm mio ms' msb En F (k (x, S)) := by
  cases o with
  | none => exact h.elim
  | some x => exact ⟨x, rfl, h⟩
theorem ss_next : SS K E rm mio msb ms ms tNext aNext := fun σ H En H0 F0 io F S fps r h => h σ F H fps (Same.refl F) r
theorem ss_seq (h1 : SS K E rm mio msb ms ms1 t s) (h2 : SS K E rm mio msb ms1 ms' u s') : SS K E rm mio msb ms ms' (tSeq t u) (aSeq s s') := fun σ H En H0 F0 io F S fps r h => by
  refine h1 σ H _ H0 F0 io F S fps r ?_
  unfold aSeq at h
  generalize s S = z at h ⊢
  rcases z with (S' | ⟨d, S'⟩ | S' | S') | ⟨c, fs⟩ | _
  · exact fun σ' F' H' f' s' r' => h2 σ' H' En H0 F0 io F' S' f' r' (h.base s')
  · exact h
  · exact h
  · exact h
  · exact h
  · exact h
theorem ss_drop {ns : List Mo} (w : wk ms' ns = true) (h1 : SS K E rm mio msb ms ms' t s) : SS K E rm mio msb ms ns t (aDrop ns s) := fun σ H En H0 F0 io F S fps r h => by
  refine h1 σ H _ H0 F0 io F S fps r ?_
  unfold aDrop at h
  generalize s S = z at h ⊢
  rcases z with (S' | ⟨d, S'⟩ | S' | S') | ⟨c, fs⟩ | _
  · exact fun σ' F' H' f' s' r' => h σ' F' H' _ s' (r'.weak w)
  · exact h
  · exact h
  · exact h
  · exact h
  · exact h
theorem ss_if (hE : Flat E) (hc : ST K E ms tt x) (h1 : SS K E rm mio msb ms ms' t s) (h2 : SS K E rm mio msb ms ms' u s') : SS K E rm mio msb ms ms' (tIfS tt t u) (aIfS x s s') := fun σ H En H0 F0 io F S fps r h =>
  hc.stm hE r h fun d S1 f1 F1 H1 r1 e1 h => by
    cases d with
    | true => exact h1 σ H1 En H0 F0 io F1 S1 f1 r1 h
    | false => exact h2 σ H1 En H0 F0 io F1 S1 f1 r1 h
theorem ss_set (hE : Flat E) (hi : i < ms.length) (ha : SE K E ms m ta a) : SS K E rm mio msb ms (ms.set i m) (tAsg ta (gName i)) (aSet i a) := fun σ H En H0 F0 io F S fps r h =>
  ha.stm hE r h fun d S1 f1 F1 H1 v r1 e1 v1 h => by
    obtain ⟨g, r2, _⟩ := r.store r1 hi v1
    exact h _ F1 H1 _ (Same.refl F1) r2
theorem ss_expr (hE : Flat E) (ha : SE K E ms m ta a) : SS K E rm mio msb ms ms (tDrop ta) (aExpr a) := fun σ H En H0 F0 io F S fps r h =>
  ha.stm hE r h fun d S1 f1 F1 H1 v r1 e1 v1 h => h σ F1 H1 f1 (Same.refl F1) r1
theorem ss_ret (hE : Flat E) (w : wk ms mio = true) (ha : SE K E ms rm ta a) : SS K E rm mio msb ms ms' (tRet ta) (aRet mio a) := fun σ H En H0 F0 io F S fps r h =>
  ha.stm hE r h fun d S1 f1 F1 H1 v r1 e1 v1 h => h v σ F1 H1 _ (r1.weak w) (v1.base r.evo.liv fun a z => by
    obtain ⟨i, f, n, _, _, e, m⟩ := mine_mask (r1.lf.trans (wk_at w).1) z
    exact .inr (mine_at e m))
theorem own_evo {A : Addr → Prop} {F1 H1 F2 H2 : Hp} {d : D} {v : V} {M M2 : Addr → Prop} {sh : Sh} {f : List Addr} (o : OR K F1 H1 sh d v f) (q : ∀ a ∈ f, F1 a = none ∧ B a = none ∧ ¬ M a) (e : Evo A F1 H1 F2 H2) (n : ∀ a, A a → M a) (n2 : ∀ a, M2 a → M a ∨ H1 a = none) (nt : ∀ a o, H1 a = some o → A a → NoTup o) :
    OR K F2 H2 sh d v f ∧ ∀ a ∈ f, F2 a = none ∧ B a = none ∧ ¬ M2 a := by
  have na : ∀ a ∈ f, ¬ A a := fun a z y => (q a z).2.2 (n a y)
  refine ⟨o.mono _ e.same fun a w hw z => e.frm a w hw ?_, fun a z => ⟨?_, (q a z).2.1, fun y => ?_⟩⟩
  · rcases z with z | z
    · exact na a z
    · exact fun y => z (nt a w hw y)
  · obtain ⟨w, hw, _⟩ := o.live _ a z
    exact Classical.byContradiction fun y => (e.new a y).elim (fun y => y (q a z).1) fun y => y.elim (fun y => by rw [hw] at y; cases y) (na a z)
  · obtain ⟨w, hw, _⟩ := o.live _ a z
    exact (n2 a y).elim (q a z).2.2 fun y => by rw [hw] at y; cases y
theorem mine_set {g : List Addr} {a : Addr} (m : Mine (fps.set i g) a) : Mine fps a ∨ a ∈ g := by
  obtain ⟨f, hm, ha⟩ := m
  rcases List.mem_or_eq_of_mem_set hm with z | z
  · exact .inl ⟨f, z, ha⟩
  · subst z; exact .inr ha
theorem ss_par {m2 : Mo} (hE : Flat E) (hi : i < ms.length) (hj : j < ms.length) (ha : SE K E ms m ta a) (hb : SE K E ms m2 tb b) : SS K E rm mio msb ms ((ms.set i m).set j m2) (tPar i j (tCons ta (tCons tb tNil))) (aPar i j a b) := fun σ H En H0 F0 io F S fps r h =>
  ha.stm hE r h fun d S1 f1 F1 H1 v r1 e1 v1 h => hb.stm hE r1 h fun d2 S2 f2 F2 H2 w r2 e2 v2 h => by
    have nt : ∀ a o, H1 a = some o → Mine f1 a → NoTup o := fun a o h1 z => by
      obtain ⟨u, hu, n⟩ := r1.live z
      rw [h1] at hu; cases hu
      exact n
    obtain ⟨g, r3, m3⟩ : ∃ g, Rel K H0 F0 io F2 H2 (ms.set i m) (S2.set i d) (σ.set i (some v)) (f2.set i g) ∧ ∀ a ∈ g, H1 a ≠ none := by
      cases m with
      | u => exact v1.elim
      | p s => exact v1.elim
      | z => exact ⟨[], r2.storeG hi ⟨rfl, v, rfl, Rep.mono e2.evo.same d v1⟩ List.nodup_nil (fun _ z => by cases z) (fun _ _ _ z => by cases z) (fun _ z => by cases z) (fun _ z => by cases z), fun _ z => by cases z⟩
      | o s =>
        obtain ⟨g, o, nd, q⟩ := v1
        obtain ⟨o2, q2⟩ := own_evo o q e2.evo (fun a z => z) e2.mine nt
        have h0 : ∀ a ∈ g, H0 a = none := fun a z => Classical.byContradiction fun y => r.evo.liv a y (q a z).2.1
        refine ⟨g, r2.storeG hi ⟨v, rfl, o2⟩ nd (fun a z => ⟨(q2 a z).1, .inl (h0 a z)⟩) (fun _ _ a z => h0 a z) (fun _ z => by cases z) fun a z => (q2 a z).2.2, fun a z y => ?_⟩
        obtain ⟨u, hu, _⟩ := o.live _ a z
        rw [y] at hu; cases hu
    have hj' : j < (ms.set i m).length := by rw [List.length_set]; exact hj
    have lv1 : ∀ a, H a ≠ none → H1 a ≠ none := e1.evo.liv
    have v2' : VR K F2 H2 H (Mine (f2.set i g)) m2 d2 w := v2.base lv1 fun a z => (mine_set z).elim .inr fun z => .inl (m3 a z)
    obtain ⟨g2, r4, _⟩ := r.store r3 hj' v2'
    exact ⟨v, w, rfl, h _ F2 H2 _ (Same.refl F2) r4⟩
end
end TT
namespace TT
open PySem PySem.Spec PyProof.Rows L2
abbrev ownAt (ms : List Mo) (i : Nat) (s : Sh) : Prop := ms[i]? = some (.o s) ∨ ms[i]? = some (.p s)
def D.lst? : D → Option (List D)
  | .lst ds => some ds
  | _ => none
def slotL (S : List D) (i : Nat) : Option (List D) := S[i]?.bind D.lst?
section
variable {K : PySem.W.Frag} {E : L2.St → XK} {H0 F0 F H B F' H' : Hp} {io : IO} {rm m : Mo} {mio msb ms ms1 ms' : List Mo} {S : List D} {σ : L2.St} {i j : Nat} {sh : Sh} {α : Type} {fps f1 : List (List Addr)}
theorem Rel.slot (r : Rel K H0 F0 io F H ms S σ fps) (h : ownAt ms i sh) : ∃ d v f, S[i]? = some d ∧ σ[i]? = some (some v) ∧ fps[i]? = some f ∧ OR K F H sh d v f ∧ f.Nodup ∧ (∀ a ∈ f, F a = none ∧ (H0 a = none ∨ io.a a)) := by
  rcases h with h | h
  · obtain ⟨d, v, f, e1, e2, e3, ⟨x, rfl, o⟩, nd, q, _⟩ := r.at_ i _ h
    exact ⟨d, x, f, e1, e2, e3, o, nd, q⟩
  · obtain ⟨d, v, f, e1, e2, e3, ⟨x, rfl, o⟩, nd, q, _⟩ := r.at_ i _ h
    exact ⟨d, x, f, e1, e2, e3, o, nd, q⟩
theorem Rel.own' {A : Addr → Prop} {d' : D} {v : V} {f g : List Addr} (r : Rel K H0 F0 io F H ms S σ fps) (h : ownAt ms i sh) (ev : σ[i]? = some (some v)) (ef : fps[i]? = some f) (e : Evo A F H F' H') (hA : ∀ a, A a → a ∈ f) (o : OR K F' H' sh d' v g) (nd : g.Nodup)
    (hg : ∀ a ∈ g, a ∈ f ∨ H a = none) (fn : ∀ a ∈ g, F' a = none) : Rel K H0 F0 io F' H' ms (S.set i d') σ (fps.set i g) ∧ Ev fps (fps.set i g) F H F' H' := by
  have eA : Evo (Mine fps) F H F' H' := e.wide fun a z => mine_at ef (hA a z)
  have hm : ∀ a, Mine (fps.set i g) a → Mine fps a ∨ H a = none := fun a z => (mine_set z).elim .inl fun z => (hg a z).imp (mine_at ef) id
  refine ⟨⟨r.evoX eA, by simp [r.lS], r.lσ, by simp [r.lf], fun k n hk => ?_, fun k l f1 f2 a h1 h2 m1 m2 => ?_⟩, ⟨eA, hm⟩⟩
  · obtain ⟨d, v', f', e1, e2, e3, sr, nd', q, q2⟩ := r.at_ k n hk
    by_cases z : i = k
    · subst z
      rw [ev] at e2
      cases e2
      rw [ef] at e3
      cases e3
      have w : ∀ a ∈ g, F' a = none ∧ (H0 a = none ∨ io.a a) := fun a z => ⟨fn a z, (hg a z).elim (fun z => (q a z).2) fun z => .inl (Classical.byContradiction fun y => r.evo.liv a y z)⟩
      rcases h with h | h
      · rw [h] at hk
        cases hk
        exact ⟨d', some v, g, getset_eq e1, ev, getset_eq ef, ⟨v, rfl, o⟩, nd, w, (fun s es a z => (hg a z).elim (q2.1 s es a) fun z => Classical.byContradiction fun y => r.evo.liv a y z), q2.2⟩
      · rw [h] at hk
        cases hk
        exact ⟨d', some v, g, getset_eq e1, ev, getset_eq ef, ⟨v, rfl, o⟩, nd, w, (fun s es => by cases es), q2.2⟩
    · have nf : ∀ a ∈ f', ¬ A a := fun a m y => z (r.dis i k f f' a ef e3 (hA a y) m)
      refine ⟨d, v', f', by rw [getset_ne z]; exact e1, e2, by rw [getset_ne z]; exact e3, sr.mono e.same fun a o ea y => e.frm a o ea ?_, nd', fun a m => ⟨?_, (q a m).2⟩, q2⟩
      · rcases y with y | y
        · exact nf a y
        · intro x
          exact r.notup ea y (mine_at ef (hA a x))
      · exact Classical.byContradiction fun y => (e.new a y).elim (fun y => y (q a m).1) fun y => y.elim (fun y => r.ne (mine_at e3 m) y) (nf a m)
  · by_cases z1 : i = k
    · subst z1
      rw [getset_eq ef] at h1
      cases h1
      by_cases z2 : i = l
      · exact z2
      · rw [getset_ne z2] at h2
        rcases hg a m1 with y | y
        · exact absurd (r.dis i l f f2 a ef h2 y m2) z2
        · exact absurd y (r.ne (mine_at h2 m2))
    · rw [getset_ne z1] at h1
      by_cases z2 : i = l
      · subst z2
        rw [getset_eq ef] at h2
        cases h2
        rcases hg a m2 with y | y
        · exact absurd (r.dis k i f1 f a h1 ef m1 y) (Ne.symm z1)
        · exact absurd y (r.ne (mine_at h1 m1))
      · rw [getset_ne z2] at h2
        exact r.dis k l f1 f2 a h1 h2 m1 m2
theorem Evo.upd {p : Addr} {o o' : HO} (k : Ok F H) (e : H p = some o) (n : NoTup o) (n' : NoTup o') (fn : F p = none) : Evo (fun a => a = p) F H F (L2.upd H p o') :=
  ⟨Same.refl _, fun _ z => .inl z, fun a u z y => by rw [upd_ne y]; exact z, fun a z => by
    by_cases q : a = p
    · rw [q, upd_same]; simp
    · rw [upd_ne q]; exact z, fun a u z => by
    have : a ≠ p := fun q => by rw [q, fn] at z; cases z
    rw [upd_ne this]; exact k.sub a u z, fun a u z => by
    have : a ≠ p := fun q => by
      subst q
      rw [tups_no upd_same n'] at z; cases z
    refine k.tup a u ?_
    unfold tups at z ⊢
    rw [upd_ne this] at z
    exact z⟩
theorem Rel.fz (r : Rel K H0 F0 io F H ms S σ fps) (h : ms[i]? = some (.o sh)) : ∃ F', Rel K H0 F0 io F' H (ms.set i .z) S σ (fps.set i []) ∧ Same F F' := by
  obtain ⟨d, v, f, e1, e2, e3, ⟨x, rfl, o⟩, nd, q, q2⟩ := r.at_ i _ h
  obtain ⟨ev, rp⟩ := OR.freeze r.ok o fun a z => (q a z).1
  refine ⟨_, ⟨r.evo.trans ev fun a z => .inr (q2.1 sh rfl a z), by simp [r.lS], by simp [r.lσ], by simp [r.lf], fun k n hk => ?_, fun k l f1 f2 a h1 h2 m1 m2 => ?_⟩, ev.same⟩
  · by_cases z : i = k
    · subst z
      rw [getset_eq h] at hk
      cases hk
      exact ⟨d, some x, [], e1, e2, getset_eq e3, ⟨rfl, x, rfl, rp⟩, List.nodup_nil, (fun _ z => by cases z), (fun _ _ _ z => by cases z), fun _ e => by cases e⟩
    · rw [getset_ne z] at hk
      obtain ⟨d', v', f', g1, g2, g3, sr, nd', q', q2'⟩ := r.at_ k n hk
      refine ⟨d', v', f', g1, g2, by rw [getset_ne z]; exact g3, sr.mono ev.same fun a o ea _ => ea, nd', fun a m => ⟨?_, (q' a m).2⟩, q2'⟩
      have : a ∉ f := fun y => z (r.dis i k f f' a e3 g3 y m)
      rw [frz_out (A := fun a => a ∈ f) this]
      exact (q' a m).1
  · by_cases z1 : i = k
    · subst z1
      rw [getset_eq e3] at h1
      cases h1
      cases m1
    · rw [getset_ne z1] at h1
      by_cases z2 : i = l
      · subst z2
        rw [getset_eq e3] at h2
        cases h2
        cases m2
      · rw [getset_ne z2] at h2
        exact r.dis k l f1 f2 a h1 h2 m1 m2
theorem ss_fz {t : TS} {s : S1} (h : ms[i]? = some (.o sh)) (hs : SS K E rm mio msb (ms.set i .z) ms' t s) : SS K E rm mio msb ms ms' t s := fun σ H En H0 F0 io F S fps r g => by
  obtain ⟨F', r', s'⟩ := r.fz h
  exact hs σ H En H0 F0 io F' S _ r' (g.base s')
theorem ss_fzE {t : TS} {s : S1} (h : ms'[i]? = some (.o sh)) (hs : SS K E rm mio msb ms ms' t s) : SS K E rm mio msb ms (ms'.set i .z) t s := fun σ H En H0 F0 io F S fps r g => by
  refine hs σ H En H0 F0 io F S fps r ?_
  generalize s S = z at g ⊢
  rcases z with (S' | ⟨d, S'⟩ | S' | S') | ⟨c, fs⟩ | _
  · intro σ' F' H' f' s' r'
    obtain ⟨F2, r2, s2⟩ := r'.fz h
    exact g σ' F2 H' _ (s'.trans s2) r2
  · exact g
  · exact g
  · exact g
  · exact g
  · exact g
end
def aApp (i : Nat) (a : E1) : E1 := fun S => (a S).bind fun p => (oR (slotL p.2 i) p.2).bind fun l => if l.1.length < sizeLine then .ok (.non, p.2.set i (.lst (l.1 ++ [p.1]))) else .no
def aExt (i : Nat) (a : E1) : E1 := fun S => (a S).bind fun p => (oR p.1.lst? p.2).bind fun q => (oR (slotL p.2 i) p.2).bind fun l => if l.1.length + q.1.length ≤ sizeLine then .ok (.non, p.2.set i (.lst (l.1 ++ q.1))) else .no
def aPop (i : Nat) : E1 := fun S => (oR (slotL S i) S).bind fun l => (oR l.1[l.1.length - 1]? S).bind fun x => .ok (x.1, S.set i (.lst l.1.dropLast))
def aPopAt (i : Nat) (a : E1) : E1 := fun S => (a S).bind fun p => (oR p.1.int? p.2).bind fun k => (oR (slotL p.2 i) p.2).bind fun l => (oR (ixN l.1.length k.1) p.2).bind fun j => (oR l.1[j.1]? p.2).bind fun x =>
  .ok (x.1, p.2.set i (.lst (l.1.eraseIdx j.1)))
def aIns (i : Nat) (a b : E1) : E1 := fun S => (a S).bind fun p => (b p.2).bind fun q => (oR p.1.int? q.2).bind fun k => (oR (slotL q.2 i) q.2).bind fun l =>
  if l.1.length < sizeLine ∧ 0 ≤ k.1 ∧ k.1 < 2 ^ 63 then .ok (.non, q.2.set i (.lst (l.1.take k.1.toNat ++ [q.1] ++ l.1.drop k.1.toNat))) else .no
def aIxO (i : Nat) (a : E1) : E1 := fun S => (a S).bind fun p => (oR p.1.int? p.2).bind fun k => (oR (slotL p.2 i) p.2).bind fun l => oR (atI l.1 k.1) p.2
def aSetIx (i : Nat) (v a : E1) : S1 := fun S => (v S).bind fun p => (a p.2).bind fun q => (oR q.1.int? q.2).bind fun k => (oR (slotL q.2 i) q.2).bind fun l => (oR (ixN l.1.length k.1) q.2).bind fun j => .ok (.nx (q.2.set i (.lst (l.1.set j.1 p.1))))
section
variable {K : PySem.W.Frag} {E : L2.St → XK} {H0 F0 F H B : Hp} {io : IO} {rm m : Mo} {mio msb ms ms1 ms' : List Mo} {S : List D} {σ : L2.St} {ta tb te : TE} {a b c : E1} {ts : TA} {as : EA} {i j : Nat} {sh : Sh} {α : Type} {fps f1 : List (List Addr)}
theorem slotL_at {S : List D} {i : Nat} {d : D} {l : List D} (e : S[i]? = some d) (h : slotL S i = some l) : d = .lst l := by
  unfold slotL at h
  rw [e] at h
  cases d <;> first | (cases h; rfl) | cases h
theorem Go.iteB {c : Prop} [Decidable c] {r : Rz (α × List D)} {P : α → List D → List (List Addr) → Hp → Hp → Prop} (h : Go K E H0 F0 io ms σ fps F H (if c then r else .no) P) : c ∧ Go K E H0 F0 io ms σ fps F H r P := by
  split at h
  · exact ⟨by assumption, h⟩
  · exact h.elim
theorem Rel.root (r : Rel K H0 F0 io F H ms S σ fps) (h : ownAt ms i (.l .z)) : ∃ p, σ[i]? = some (some (.ref p)) ∧ fps[i]? = some [p] ∧ ∃ l vs, S[i]? = some (.lst l) ∧ H p = some (.lst vs) ∧ vs.length ≤ sizeLine ∧ Reps K F l vs ∧ F p = none := by
  obtain ⟨d, v, f, e1, e2, e3, o, nd, q⟩ := r.slot h
  obtain ⟨ds, p, vs, rfl, rfl, rfl, h1, h2, h3⟩ := o.toL
  exact ⟨p, e2, e3, ds, vs, e1, h1, h2, h3, (q p (List.mem_singleton.mpr rfl)).1⟩
theorem Rel.lst (r : Rel K H0 F0 io F H ms S σ fps) (h : ownAt ms i (.l .z)) {l : List D} {p : Addr} (e : slotL S i = some l) (ep : σ[i]? = some (some (.ref p))) : ∃ vs, H p = some (.lst vs) ∧ vs.length ≤ sizeLine ∧ Reps K F l vs ∧ fps[i]? = some [p] ∧ F p = none := by
  obtain ⟨p', e2, e3, l', vs, e1, h1, h2, h3, fn⟩ := r.root h
  rw [ep] at e2
  cases e2
  cases slotL_at e1 e
  exact ⟨vs, h1, h2, h3, e3, fn⟩
theorem Rel.lstTo (r : Rel K H0 F0 io F H ms S σ fps) (h : ownAt ms i (.l .z)) {l' : List D} {p : Addr} {vs vs' : List V} (ep : σ[i]? = some (some (.ref p))) (ef : fps[i]? = some [p]) (hp : H p = some (.lst vs)) (fn : F p = none) (rs : Reps K F l' vs') (le : vs'.length ≤ sizeLine) :
    Rel K H0 F0 io F (upd H p (.lst vs')) ms (S.set i (.lst l')) σ (fps.set i [p]) ∧ Ev fps (fps.set i [p]) F H F (upd H p (.lst vs')) :=
  r.own' h ep ef (Evo.upd r.ok hp nt_lst nt_lst fn) (fun a z => by rw [z]; exact List.mem_singleton.mpr rfl) (OR.ofL upd_same le rs) (List.nodup_cons.mpr ⟨by simp, List.nodup_nil⟩) (fun a z => .inl z) fun a z => by rw [List.mem_singleton.mp z]; exact fn
theorem se_app (h : ownAt ms i (.l .z)) (ha : SE K E ms .z ta a) : SE K E ms .z (tBM K "list" rAppend (tVar i) (tCons ta tNil)) (aApp i a) := fun σ H Q H0 F0 io F S fps rl g => by
  obtain ⟨p, e2, _, _, vs0, _, h0, _⟩ := rl.root h
  refine ⟨.ref p, e2, Or.inl ⟨rfl, _, SqL.of h0⟩, ha.use rl g fun d S1 f1 F1 H1 v r1 e1 v1 g => ?_⟩
  obtain ⟨l, el, g⟩ := g.opt
  obtain ⟨hl, g⟩ := g.iteB
  obtain ⟨vs, hv, lv, rv, ef, fn⟩ := r1.lst h el e2
  have lt : vs.length < sizeLine := by rw [rv.len]; exact hl
  have q := r1.lstTo h e2 ef hv fn (rv.app (.cons v1 .nil)) (by rw [List.length_append]; exact lt)
  exact ⟨p, vs, v, rfl, rfl, hv, lt, g _ _ _ q.1 q.2 .non (by unfold VR Rep; rfl)⟩
theorem se_ext (h : ownAt ms i (.l .z)) (ha : SE K E ms .z ta a) : SE K E ms .z (tBM K "list" rExtR (tVar i) (tCons ta tNil)) (aExt i a) := fun σ H Q H0 F0 io F S fps rl g => by
  obtain ⟨p, e2, _, _, vs0, _, h0, _⟩ := rl.root h
  refine ⟨.ref p, e2, Or.inl ⟨rfl, _, SqL.of h0⟩, ha.use rl g fun d S1 f1 F1 H1 v r1 e1 v1 g => ?_⟩
  obtain ⟨l2, el2, g⟩ := g.opt
  obtain ⟨l, el, g⟩ := g.opt
  obtain ⟨hl, g⟩ := g.iteB
  obtain ⟨vs, hv, lv, rv, ef, fn⟩ := r1.lst h el e2
  have v1' : Rep K F1 (.lst l2) v := by
    cases d <;> first | (cases el2; exact v1) | cases el2
  obtain ⟨b, ws, rfl, hb, lw, rw'⟩ := v1'.rd
  have lt : vs.length + ws.length ≤ sizeLine := by rw [rv.len, rw'.len]; exact hl
  have q := r1.lstTo h e2 ef hv fn (rv.app rw') (by rw [List.length_append]; exact lt)
  exact ⟨p, b, vs, ws, rfl, rfl, hv, rd_up hb r1.sub, lt, g _ _ _ q.1 q.2 .non (by unfold VR Rep; rfl)⟩
theorem Reps.last {ds : List D} {vs : List V} (r : Reps K F ds vs) : Reps K F ds.dropLast vs.dropLast := by
  rw [List.dropLast_eq_take, List.dropLast_eq_take, r.len]
  exact r.take _
theorem se_ixO (h : ownAt ms i (.l .z)) (ha : SE K E ms .z ta a) : SE K E ms .z (tOp (rIx K) (tVar i) ta) (aIxO i a) := fun σ H Q H0 F0 io F S fps rl g => by
  obtain ⟨p, e2, _, _, vs0, _, h0, _⟩ := rl.root h
  refine ⟨.ref p, e2, ha.use rl g fun d S1 f1 F1 H1 v r1 e1 v1 g => ?_⟩
  obtain ⟨k, ek, g⟩ := g.opt
  obtain ⟨l, el, g⟩ := g.opt
  obtain ⟨x, ex, g⟩ := g.opt0
  obtain ⟨vs, hv, lv, rv, ef, fn⟩ := r1.lst h el e2
  obtain ⟨y, ey, ry⟩ := rv.atI ex
  exact .inl ⟨p, vs, k, y, rfl, by rw [repI v1 ek], SqL.of hv, ey, g.done r1 y ry⟩
theorem ss_setIx (hE : Flat E) (h : ownAt ms i (.l .z)) (hv : SE K E ms .z ta a) (ha : SE K E ms .z tb b) : SS K E rm mio msb ms ms (tAsg ta (gSub (tVar i) tb rSetL)) (aSetIx i a b) := fun σ H En H0 F0 io F S fps r h' =>
  hv.stm hE r h' fun d S1 f1 F1 H1 v r1 e1 v1 h' => by
    obtain ⟨p, e2, _⟩ := r1.root h
    refine ⟨.ref p, e2, ha.stm hE r1 h' fun d2 S2 f2 F2 H2 w r2 e2' v2 h' => ?_⟩
    obtain ⟨k, ek, h'⟩ := GoS.opt h'
    obtain ⟨l, el, h'⟩ := GoS.opt h'
    obtain ⟨j, ej, h'⟩ := GoS.opt h'
    obtain ⟨vs, hv, lv, rv, ef, fn⟩ := r2.lst h el e2
    have q := r2.lstTo h e2 ef hv fn (rv.set j (Rep.mono e2'.evo.same _ v1)) (by rw [List.length_set]; exact lv)
    exact ⟨p, vs, k, j, rfl, repI v2 ek, hv, by rw [rv.len]; exact ej, h' σ _ _ _ (Same.refl _) q.1⟩
theorem ss_aug {f : D → D → Option D} (hE : Flat E) {r : TIp} (hi : ms[i]? = some .z) (ho : OpOk K r f .z) (ha : SE K E ms .z ta a) : SS K E rm mio msb ms ms (tAug i ta r) (aAug i f a) := fun σ H En H0 F0 io F S fps rl h => by
  obtain ⟨d, v, fp, e1, e2, _, ⟨_, x, e3, rp⟩, _⟩ := rl.at_ i .z hi
  subst e3
  obtain ⟨d', e4, h⟩ := GoS.opt h
  rw [e1] at e4
  cases e4
  refine ⟨x, e2, ha.stm hE rl h fun d2 S2 f2 F2 H2 w r2 e2' v2 h => ho F2 H2 d d2 x w _ r2.ok (Rep.mono e2'.evo.same _ rp) v2 ?_⟩
  obtain ⟨z, ez, h⟩ := GoS.opt h
  rw [ez]
  intro u F' H' g vr
  have r3 := r2.grow g
  have r4 := r3.storeG (m := .z) (g := []) (List.getElem?_eq_some_iff.mp hi).1 ⟨rfl, u, rfl, vr⟩ List.nodup_nil (fun _ z => by cases z) (fun _ _ _ z => by cases z) (fun _ z => by cases z) (fun _ z => by cases z)
  rw [show ms.set i .z = ms from List.ext_getElem? fun k => by
    by_cases z : i = k
    · subst z; rw [getset_eq hi, hi]
    · rw [getset_ne z]] at r4
  exact h _ F' H' _ g.same r4
def dAugI (g : Int → Int → Int) : D → D → Option D
  | .int i, .int j => some (.int (g i j))
  | _, _ => none
theorem ok_augI (g : Int → Int → Int) : OpOk K (ipI g) (dAugI g) .z := by
  intro F H d e x y Q s rx ry h
  unfold dAugI at h
  split at h
  · unfold Rep at rx ry; subst rx ry
    exact ⟨_, _, rfl, rfl, h.int s⟩
  · exact h.elim
end
end TT
namespace TT
open PySem PySem.Spec PyProof.Rows L2
def EndA (K : PySem.W.Frag) (rm : Mo) (F H : Hp) (Q : VK) (E : XK) (r : Rz D) : Prop := match r with
  | .ok r => ∀ v F' H', Grow F H F' H' → VR K F' H' H noM rm r v → Q v H'
  | .ex c fs => ∀ cls Dd F' H', Grow F H F' H' → XR K H' c fs cls Dd → E cls Dd H'
  | .no => False
def spA (K : PySem.W.Frag) (rm : Mo) (φ : List D → Rz D) : Sp := fun vs H Q E => ∃ F ds, Ok F H ∧ Reps K F ds vs ∧ EndA K rm F H Q E (φ ds)
def EndIo (K : PySem.W.Frag) (sh : Sh) (rm : Mo) (v0 : V) (fp : List Addr) (F H : Hp) (Q : VK) (E : XK) (r : Rz (D × D)) : Prop := match r with
  | .ok (r, out) => ∀ v F' H' fp', Evo (fun a => a ∈ fp) F H F' H' → OR K F' H' sh out v0 fp' → fp'.Nodup → (∀ a ∈ fp', (a ∈ fp ∨ H a = none) ∧ F' a = none) → VR K F' H' H (fun a => a ∈ fp') rm r v → Q v H'
  | .ex c fs => ∀ cls Dd F' H', Evo (fun a => a ∈ fp) F H F' H' → XR K H' c fs cls Dd → E cls Dd H'
  | .no => False
def spIo (K : PySem.W.Frag) (sh : Sh) (rm : Mo) (φ : List D → Rz (D × D)) : Sp := fun vs H Q E => ∃ F v0 d ds us fp, vs = v0 :: us ∧ Ok F H ∧ OR K F H sh d v0 fp ∧ fp.Nodup ∧ (∀ a ∈ fp, F a = none) ∧ Reps K F ds us ∧ EndIo K sh rm v0 fp F H Q E (φ (d :: ds))
def aCall (φ : List D → Rz D) (as : EA) : E1 := fun S => (as S).bind fun p => (φ p.1).bind fun r => .ok (r, p.2)
def aCallIo (φ : List D → Rz (D × D)) (i : Nat) (as : EA) : E1 := fun S => (as S).bind fun p => (oR p.2[i]? p.2).bind fun d => (φ (d.1 :: p.1)).bind fun r => .ok (r.1, p.2.set i r.2)
def D.isObj (c m : Str) : D → Bool
  | .obj c' fs => decide (c' = c) && (fs.lookup m).isNone
  | _ => false
def aMeth (c m : Str) (φ : List D → Rz D) (a : E1) (as : EA) : E1 := fun S => (a S).bind fun q => if q.1.isObj c m = true then (as q.2).bind fun p => (φ (q.1 :: p.1)).bind fun r => .ok (r, p.2) else .no
def aMake (c : Str) (φ : List D → Rz (D × D)) (as : EA) : E1 := fun S => (as S).bind fun p => (φ (.obj c [] :: p.1)).bind fun r => if r.1.isNon = true then .ok (r.2, p.2) else .no
section
variable {K : PySem.W.Frag} {E : L2.St → XK} {XE : XK} {H0 F0 F H B : Hp} {io : IO} {rm m : Mo} {mio msb ms ms1 ms' : List Mo} {S : List D} {σ : L2.St} {ta tb te : TE} {a b c : E1} {ts : TA} {as : EA} {i j : Nat} {sh : Sh} {α β : Type} {C n : Str} {fps f1 : List (List Addr)}
def PhiR (K : PySem.W.Frag) (E : L2.St → XK) (H0 F0 : Hp) (io : IO) (ms : List Mo) (σ : L2.St) {α β : Type} (fps : List (List Addr)) (F H : Hp) (r : Rz β) (k : β → Rz (α × List D)) (P : α → List D → List (List Addr) → Hp → Hp → Prop) : Prop := match r with
  | .ok x => Go K E H0 F0 io ms σ fps F H (k x) P
  | .ex c fs => ∀ cls Dd F' H', Evo (Mine fps) F H F' H' → XR K H' c fs cls Dd → E σ cls Dd H'
  | .no => False
theorem Go.phi {r : Rz β} {k : β → Rz (α × List D)} {P : α → List D → List (List Addr) → Hp → Hp → Prop} (h : Go K E H0 F0 io ms σ fps F H (r.bind k) P) : PhiR K E H0 F0 io ms σ fps F H r k P := by
  rcases r with x | ⟨c, fs⟩ | _ <;> exact h
theorem sp_call {φ : List D → Rz D} {ds : List D} {vs : List V} {Q : VK} (hE : E σ = XE) (r : Rel K H0 F0 io F H ms S σ fps) (rv : Reps K F ds vs) (h : Go K E H0 F0 io ms σ fps F H ((φ ds).bind fun r => .ok (r, S)) (PV K B rm Q)) (lv : ∀ a, B a ≠ none → H a ≠ none) : spA K rm φ vs H Q XE := by
  refine ⟨F, ds, r.ok, rv, ?_⟩
  have h2 := h.phi
  generalize φ ds = z at h2 ⊢
  rcases z with x | ⟨c, fs⟩ | _
  · exact fun v F' H' g vr => h2 F' H' fps (r.grow g) (Ev.grow g) v (vr.base lv fun a z => .inl (r.ne z))
  · exact fun cls Dd F' H' g x => hE ▸ h2 cls Dd F' H' (g.wide fun _ z => z.elim) x
  · exact h2
theorem sp_callIo {φ : List D → Rz (D × D)} {ds : List D} {vs : List V} {Q : VK} {d : D} {v0 : V} (hE : E σ = XE) (hi : ownAt ms i sh) (r : Rel K H0 F0 io F H ms S σ fps) (rv : Reps K F ds vs) (e1 : S[i]? = some d) (e2 : σ[i]? = some (some v0))
    (h : Go K E H0 F0 io ms σ fps F H ((φ (d :: ds)).bind fun r => .ok (r.1, S.set i r.2)) (PV K B rm Q)) (lv : ∀ a, B a ≠ none → H a ≠ none) : spIo K sh rm φ (v0 :: vs) H Q XE := by
  obtain ⟨d', v', f, g1, g2, g3, o, nd, q⟩ := r.slot hi
  rw [e1] at g1
  cases g1
  rw [e2] at g2
  cases g2
  refine ⟨F, v0, d, ds, vs, f, rfl, r.ok, o, nd, fun a z => (q a z).1, rv, ?_⟩
  have h2 := h.phi
  generalize φ (d :: ds) = z at h2 ⊢
  rcases z with ⟨x, out⟩ | ⟨c, fs⟩ | _
  · intro v F' H' fp' ev o' nd' hf vr
    obtain ⟨r', e'⟩ := r.own' hi e2 g3 ev (fun a z => z) o' nd' (fun a z => (hf a z).1) fun a z => (hf a z).2
    exact h2 F' H' _ r' e' v (vr.base lv fun a z => by
      obtain ⟨w, hw, ha⟩ := z
      rcases List.mem_or_eq_of_mem_set hw with y | y
      · exact .inl (r.ne ⟨w, y, ha⟩)
      · subst y; exact .inr ha)
  · exact fun cls Dd F' H' g x => hE ▸ h2 cls Dd F' H' (g.wide fun b z => mine_at g3 z) x
  · exact h2
theorem se_call {φ : List D → Rz D} (hE : ∀ σ, E σ = XE) (ha : SA K E ms ts as) : SE K E ms rm (tF (spA K rm φ) XE ts) (aCall φ as) := fun σ H Q H0 F0 io F S fps rl h => ha.use rl h fun ds S1 f1 F1 H1 vs r1 e1 v1 h => sp_call (hE σ) r1 v1 h (e1.lv live0)
theorem se_callS {φ : List D → Rz D} (ha : SA K E ms ts as) : SE K E ms rm (tFS (spA K rm φ) E ts) (aCall φ as) := fun σ H Q H0 F0 io F S fps rl h => ha.use rl h fun ds S1 f1 F1 H1 vs r1 e1 v1 h => sp_call rfl r1 v1 h (e1.lv live0)
theorem callIo_go {φ : List D → Rz (D × D)} {Q : VK} (hE : E σ = XE) (hi : ownAt ms i sh) (ha : SA K E ms ts as) (rl : Rel K H0 F0 io F H ms S σ fps) (h : Go K E H0 F0 io ms σ fps F H ((as S).bind fun p => (oR p.2[i]? p.2).bind fun d => (φ (d.1 :: p.1)).bind fun r => .ok (r.1, p.2.set i r.2)) (PV K B rm Q)) (lv : ∀ a, B a ≠ none → H a ≠ none) :
    ∃ p, σ[i]? = some (some p) ∧ ts σ H fun vs H1 => spIo K sh rm φ (p :: vs) H1 Q XE := by
  obtain ⟨d0, p, f, e0, e2, _⟩ := rl.slot hi
  refine ⟨p, e2, ha.use rl h fun ds S1 f1 F1 H1 vs r1 e1 v1 h => ?_⟩
  obtain ⟨d, ed, h⟩ := h.opt
  exact sp_callIo hE hi r1 v1 ed e2 h (e1.lv lv)
theorem se_callIo {φ : List D → Rz (D × D)} (hE : ∀ σ, E σ = XE) (hi : ownAt ms i sh) (ha : SA K E ms ts as) : SE K E ms rm (tF (spIo K sh rm φ) XE (tCons (tVar i) ts)) (aCallIo φ i as) := fun σ H Q H0 F0 io F S fps rl h => by
  obtain ⟨p, e2, q⟩ := callIo_go (hE σ) hi ha rl h live0
  exact ⟨p, e2, q⟩
theorem isObj_at {d : D} {v : V} (h : d.isObj C n = true) (r : Rep K F d v) (s : Same F H) : ∃ p dx ws, v = .ref p ∧ H p = some (.ins (He.ga K C) dx ws) ∧ ws.lookup n = none := by
  cases d with
  | obj c' fs =>
    have h' : (decide (c' = C) && (fs.lookup n).isNone) = true := h
    rw [Bool.and_eq_true, decide_eq_true_eq, Option.isNone_iff_eq_none] at h'
    obtain ⟨rfl, e⟩ := h'
    unfold Rep at r
    obtain ⟨p, dx, ws, rfl, h1, h2, _⟩ := r
    exact ⟨p, dx, ws, rfl, s _ _ h1, h2 n e⟩
  | _ => cases h
theorem se_meth {φ : List D → Rz D} (hE : ∀ σ, E σ = XE) (ha : SE K E ms .z ta a) (hs : SA K E ms ts as) : SE K E ms rm (tMethR (He.ga K C) n (spA K rm φ) XE ta ts) (aMeth C n φ a as) := fun σ H Q H0 F0 io F S fps rl h => ha.use rl h fun d S1 f1 F1 H1 v r1 e1 v1 h => by
  obtain ⟨io', h⟩ := h.iteB
  obtain ⟨p, dx, ws, rfl, h1, h2⟩ := isObj_at io' v1 r1.sub
  exact ⟨p, dx, ws, rfl, h1, h2, hs.use r1 h fun ds S2 f2 F2 H2 vs r2 e2 v2 h => sp_call (hE σ) r2 (.cons (Rep.mono e2.evo.same _ v1) v2) h (e2.lv (e1.lv live0))⟩
theorem se_make {φ : List D → Rz (D × D)} {fs : List (Str × Sh)} (hE : ∀ σ, E σ = XE) (ha : SA K E ms ts as) : SE K E ms (.o (.i fs)) (StX.tMakeR (He.ga K C) (spIo K (.i fs) .z φ) XE ts) (aMake C φ as) := fun σ H Q H0 F0 io F S fps rl h => ha.use rl h fun ds S1 f1 F1 H1 vs r1 e1 v1 h => by
  intro x dx hx hd ne
  have g1 : Grow F1 H1 F1 (upd H1 dx (.own x)) := Grow.own r1.ok hd fun ys => ⟨(by intro z; cases z), fun q z => by cases z⟩
  have hx2 : upd H1 dx (.own x) x = none := by rw [upd_ne (Ne.symm ne)]; exact hx
  have g2 : Grow F1 (upd H1 dx (.own x)) F1 (upd (upd H1 dx (.own x)) x (.ins (He.ga K C) dx [])) := Grow.own g1.ok hx2 nt_ins
  have g3 : Grow F1 H1 F1 (upd (upd H1 dx (.own x)) x (.ins (He.ga K C) dx [])) := g1.trans g2 fun _ z => .inl z
  have fx : F1 x = none := fnone r1.sub hx
  have emp : ∀ fs : List (Str × Sh), ORf K F1 (upd (upd H1 dx (.own x)) x (.ins (He.ga K C) dx [])) fs [] [] [] := fun fs => by
    induction fs with
    | nil => unfold ORf; rfl
    | cons p r ih => obtain ⟨f, s⟩ := p; unfold ORf; exact ⟨[], [], rfl, .inl ⟨rfl, rfl⟩, ih⟩
  refine ⟨F1, .ref x, .obj C [], ds, vs, [x], rfl, g3.ok, ?_, List.nodup_cons.mpr ⟨by simp, List.nodup_nil⟩, fun a z => by rw [List.mem_singleton.mp z]; exact fx, v1, ?_⟩
  · unfold OR
    exact ⟨C, [], x, dx, [], [], rfl, rfl, rfl, upd_same, fun f _ => rfl, ⟨Nat.le_refl _, List.nodup_nil⟩, (fun f y e => by cases e), emp fs⟩
  have h2 := h.phi
  generalize φ (.obj C [] :: ds) = z at h2 ⊢
  have ev3 : ∀ {F' H'}, Evo (fun b => b ∈ [x]) F1 (upd (upd H1 dx (.own x)) x (.ins (He.ga K C) dx [])) F' H' → Grow F1 H1 F' H' := fun {F' H'} ev => g3.trans ev fun b z => .inr (by rw [List.mem_singleton.mp z]; exact hx)
  rcases z with ⟨x', out⟩ | ⟨c, fs⟩ | _
  · intro v F' H' fp' ev o nd hf vr
    have h3 : Go K E H0 F0 io ms σ f1 F1 H1 (if x'.isNon = true then .ok (out, S1) else .no) (PV K H (.o (.i fs)) Q) := h2
    obtain ⟨c, h3⟩ := h3.iteB
    have xn : x' = .non := by cases x' <;> first | rfl | cases c
    subst xn
    have vn : v = .non := by unfold VR Rep at vr; exact vr
    refine ⟨vn, h3 F' H' f1 (r1.grow (ev3 ev)) (Ev.grow (ev3 ev)) _ ⟨fp', o, nd, fun a z => ?_⟩⟩
    have h1 : H1 a = none := by
      rcases (hf a z).1 with y | y
      · rw [List.mem_singleton.mp y]; exact hx
      · exact Classical.byContradiction fun w => g3.liv a w y
    exact ⟨(hf a z).2, Classical.byContradiction fun w => e1.evo.liv a w h1, fun m => r1.ne m h1⟩
  · exact fun cls Dd F' H' ev x => hE σ ▸ h2 cls Dd F' H' ((ev3 ev).wide fun _ z => z.elim) x
  · exact h2
end
def us (n : Nat) : List Mo := List.replicate n .u
def zs (n k : Nat) : List Mo := List.replicate n .z ++ List.replicate k .u
def endO (o : Out) : Rz D := match o with
  | .rt d _ => .ok d
  | .nx _ => .ok .non
  | _ => .no
def endR (o : Out) : Rz D := match o with
  | .rt d _ => .ok d
  | _ => .no
def endIo (o : Out) : Rz (D × D) := match o with
  | .rt d S => .ok (d, S.headD .non)
  | .nx S => .ok (.non, S.headD .non)
  | _ => .no
def endIoR (o : Out) : Rz (D × D) := match o with
  | .rt d S => .ok (d, S.headD .non)
  | _ => .no
def aFun (n k : Nat) (body : S1) : List D → Rz D := fun ds => if ds.length = n then (body (ds ++ List.replicate k .non)).bind endO else .no
def aFunR (n k : Nat) (body : S1) : List D → Rz D := fun ds => if ds.length = n then (body (ds ++ List.replicate k .non)).bind endR else .no
def aFunIo (n k : Nat) (body : S1) : List D → Rz (D × D) := fun ds => if ds.length = n then (body (ds ++ List.replicate k .non)).bind endIo else .no
def aFunIoR (n k : Nat) (body : S1) : List D → Rz (D × D) := fun ds => if ds.length = n then (body (ds ++ List.replicate k .non)).bind endIoR else .no
section
variable {K : PySem.W.Frag} {XE : XK} {H : Hp} {rm : Mo} {msb ms' : List Mo} {vs : List V} {n k : Nat} {t : TS} {body : S1} {Q : VK}
theorem zs_at (n k i : Nat) : (zs n k)[i]? = if i < n then some .z else if i < n + k then some .u else none := by
  unfold zs
  by_cases c : i < n
  · rw [if_pos c, List.getElem?_append_left (by simpa using c), List.getElem?_replicate, if_pos c]
  · rw [if_neg c, List.getElem?_append_right (by simpa using Nat.le_of_not_lt c), List.getElem?_replicate, List.length_replicate]
    by_cases c2 : i < n + k
    · rw [if_pos c2, if_pos (by omega)]
    · rw [if_neg c2, if_neg (by omega)]
theorem empty_mine {l : Nat} {a : Addr} : ¬ Mine (List.replicate l []) a := fun ⟨f, hf, ha⟩ => by
  rw [(List.mem_replicate.mp hf).2] at ha
  cases ha
theorem rel_start {F : Hp} {ds : List D} (s : Ok F H) (r : Reps K F ds vs) (hn : vs.length = n) : Rel K H F ⟨fun _ => False, none⟩ F H (zs n k) (ds ++ List.replicate k .non) (vs.map some ++ List.replicate k none) (List.replicate (n + k) []) := by
  have hd : ds.length = n := by rw [← r.len]; exact hn
  refine ⟨Evo.refl s, by unfold zs; simp [hd], by unfold zs; simp [hn], by unfold zs; simp, fun i m h => ?_, fun i j f g a h1 h2 m1 m2 => ?_⟩
  · rw [zs_at] at h
    have e3 : i < n + k → (List.replicate (n + k) ([] : List Addr))[i]? = some [] := fun c => by rw [List.getElem?_replicate, if_pos c]
    by_cases c : i < n
    · rw [if_pos c] at h
      cases h
      have hv : i < vs.length := by omega
      obtain ⟨d, e, q⟩ := r.get (List.getElem?_eq_getElem hv)
      refine ⟨d, some vs[i], [], by rw [List.getElem?_append_left (by omega)]; exact e, ?_, e3 (by omega), ⟨rfl, _, rfl, q⟩, List.nodup_nil, (fun _ z => by cases z), (fun _ _ _ z => by cases z), fun _ e => by cases e⟩
      rw [List.getElem?_append_left (by simpa using hv), List.getElem?_map, List.getElem?_eq_getElem hv]
      rfl
    · rw [if_neg c] at h
      split at h
      · rename_i c2
        cases h
        refine ⟨.non, none, [], ?_, ?_, e3 c2, ⟨rfl, rfl⟩, List.nodup_nil, (fun _ z => by cases z), (fun _ _ _ z => by cases z), fun _ e => by cases e⟩
        · rw [List.getElem?_append_right (by omega), List.getElem?_replicate, if_pos (by omega)]
        · rw [List.getElem?_append_right (by simp; omega), List.getElem?_replicate, List.length_map, if_pos (by omega)]
      · cases h
  · exact (empty_mine (mine_at h1 m1)).elim
theorem nl {N : List Str} (hN : N.length = n + k) (hn : vs.length = n) : L2.start N vs = vs.map some ++ List.replicate k none := by
  unfold L2.start
  rw [hN, hn, Nat.add_sub_cancel_left]
theorem spA_len {φ : List D → Rz D} {E : XK} (hφ : ∀ ds, ds.length ≠ n → φ ds = .no) (h : spA K rm φ vs H Q E) : vs.length = n := by
  obtain ⟨F, ds, _, r, h⟩ := h
  rw [r.len]
  exact Classical.byContradiction fun z => by rw [hφ ds z] at h; exact h
theorem spIo_len {sh : Sh} {φ : List D → Rz (D × D)} {E : XK} (hφ : ∀ ds, ds.length ≠ n → φ ds = .no) (h : spIo K sh rm φ vs H Q E) : vs.length = n := by
  obtain ⟨F, v0, d, ds, us, fp, rfl, _, _, _, _, r, h⟩ := h
  rw [List.length_cons, r.len]
  exact Classical.byContradiction fun z => by rw [hφ (d :: ds) (by rw [List.length_cons]; exact z)] at h; exact h
theorem aFun_len {ds : List D} (h : ds.length ≠ n) : aFun n k body ds = .no := if_neg h
theorem aFunR_len {ds : List D} (h : ds.length ≠ n) : aFunR n k body ds = .no := if_neg h
theorem aFunIo_len {ds : List D} (h : ds.length ≠ n) : aFunIo n k body ds = .no := if_neg h
theorem aFunIoR_len {ds : List D} (h : ds.length ≠ n) : aFunIoR n k body ds = .no := if_neg h
theorem VR.noM {F' H' B : Hp} {M : Addr → Prop} {m : Mo} {d : D} {v : V} (h : VR K F' H' B M m d v) : VR K F' H' B TT.noM m d v := h.base (fun _ z => z) fun _ z => z.elim
theorem fn_body {N : List Str} (hN : N.length = n + k) (hs : SS K (fun _ => XE) .z (us (n + k)) msb (zs n k) ms' t body) (h : spA K .z (aFun n k body) vs H Q XE) : t { nx := fun _ H' => Q .non H', rt := Q } (L2.start N vs) H := by
  have hn := spA_len (fun _ z => aFun_len z) h
  obtain ⟨F, ds, s, r, h⟩ := h
  rw [nl hN hn]
  refine hs _ H _ H F _ F _ _ (rel_start s r hn) ?_
  unfold aFun at h
  rw [if_pos (by rw [← r.len]; exact hn)] at h
  generalize body (ds ++ List.replicate k .non) = z at h ⊢
  rcases z with (S' | ⟨d, S'⟩ | S' | S') | ⟨c, fs⟩ | _
  · exact fun σ' F' H' f' _ r' => h .non F' H' r'.evo (by unfold VR Rep; rfl)
  · exact fun v σ' F' H' f' r' vr => h v F' H' r'.evo vr.noM
  · exact h.elim
  · exact h.elim
  · exact fun σ' cls Dd F' H' e x => h cls Dd F' H' e x
  · exact h
theorem fn_bodyR {N : List Str} (hN : N.length = n + k) (hs : SS K (fun _ => XE) rm (us (n + k)) msb (zs n k) ms' t body) (h : spA K rm (aFunR n k body) vs H Q XE) : t { nx := fun _ H' => Q .non H', rt := Q } (L2.start N vs) H := by
  have hn := spA_len (fun _ z => aFunR_len z) h
  obtain ⟨F, ds, s, r, h⟩ := h
  rw [nl hN hn]
  refine hs _ H _ H F _ F _ _ (rel_start s r hn) ?_
  unfold aFunR at h
  rw [if_pos (by rw [← r.len]; exact hn)] at h
  generalize body (ds ++ List.replicate k .non) = z at h ⊢
  rcases z with (S' | ⟨d, S'⟩ | S' | S') | ⟨c, fs⟩ | _
  · exact h.elim
  · exact fun v σ' F' H' f' r' vr => h v F' H' r'.evo vr.noM
  · exact h.elim
  · exact h.elim
  · exact fun σ' cls Dd F' H' e x => h cls Dd F' H' e x
  · exact h
def iz (sh : Sh) (n k : Nat) : List Mo := .p sh :: zs n k
def iu (sh : Sh) (n : Nat) : List Mo := .p sh :: us n
theorem rel_startIo {F : Hp} {ds : List D} {sh : Sh} {v0 : V} {fp : List Addr} {d : D} (s : Ok F H) (o : OR K F H sh d v0 fp) (nd : fp.Nodup) (fa : ∀ a ∈ fp, F a = none) (r : Reps K F ds vs) (hn : vs.length = n) :
    Rel K H F ⟨fun b => b ∈ fp, some v0⟩ F H (iz sh n k) ((d :: ds) ++ List.replicate k .non) ((v0 :: vs).map some ++ List.replicate k none) (fp :: List.replicate (n + k) []) := by
  have r0 := rel_start (k := k) s r hn
  refine ⟨Evo.refl s, by unfold iz; have := r0.lS; simp at this ⊢; exact this, by unfold iz; have := r0.lσ; simp at this ⊢; exact this, by unfold iz; have := r0.lf; simp at this ⊢; exact this, fun i m h => ?_, fun i j f g a h1 h2 m1 m2 => ?_⟩
  · cases i with
    | zero =>
      cases Option.some.inj h
      exact ⟨d, some v0, fp, rfl, rfl, rfl, ⟨v0, rfl, o⟩, nd, (fun a z => ⟨fa a z, .inr z⟩), (fun s e => by cases e), fun _ _ => rfl⟩
    | succ i =>
      have h2 : (zs n k)[i]? = some m := by unfold iz at h; simpa using h
      obtain ⟨d', v', f', e1, e2, e3, sr, nd', q, q2⟩ := r0.at_ i m h2
      have f0 : f' = [] := by
        cases f' with
        | nil => rfl
        | cons b l => exact (empty_mine (mine_at e3 (List.mem_cons_self ..))).elim
      subst f0
      exact ⟨d', v', [], by simpa using e1, by simpa using e2, by simpa using e3, sr, List.nodup_nil, (fun _ z => by cases z), (fun _ _ _ z => by cases z), fun s e => by
        subst e
        rw [zs_at] at h2
        split at h2
        · cases h2
        · split at h2 <;> cases h2⟩
  · have key : ∀ (i : Nat) (f : List Addr), (fp :: List.replicate (n + k) [])[i]? = some f → a ∈ f → i = 0 := fun i f e m => by
      cases i with
      | zero => rfl
      | succ i => exact (empty_mine (mine_at (show (List.replicate (n + k) [])[i]? = some f by simpa using e) m)).elim
    rw [key i f h1 m1, key j g h2 m2]
theorem io_end {F0 F' H' : Hp} {sh : Sh} {fp : List Addr} {S' : List D} {σ' : L2.St} {ks : List Mo} {f' : List (List Addr)} {v0 : V} (r : Rel K H F0 ⟨fun b => b ∈ fp, some v0⟩ F' H' (.p sh :: ks) S' σ' f') : ∃ fp', OR K F' H' sh (S'.headD .non) v0 fp' ∧ fp'.Nodup ∧ (∀ a ∈ fp', (a ∈ fp ∨ H a = none) ∧ F' a = none) ∧ ∀ a ∈ fp', Mine f' a := by
  obtain ⟨d, v, f, e1, e2, e3, ⟨x, rfl, o⟩, nd, q, q2⟩ := r.at_ 0 (.p sh) rfl
  cases q2.2 sh rfl
  refine ⟨f, ?_, nd, fun a z => ⟨(q a z).2.symm, (q a z).1⟩, fun a z => mine_at e3 z⟩
  cases S' with
  | nil => cases e1
  | cons x l =>
    cases Option.some.inj e1
    exact o
theorem fn_bodyIo {N : List Str} {sh : Sh} (hN : N.length = n + 1 + k) (hs : SS K (fun _ => XE) .z (iu sh (n + k)) msb (iz sh n k) (iu sh (n + k)) t body) (h : spIo K sh .z (aFunIo (n + 1) k body) vs H Q XE) : t { nx := fun _ H' => Q .non H', rt := Q } (L2.start N vs) H := by
  have hn := spIo_len (fun _ z => aFunIo_len z) h
  obtain ⟨F, v0, d, ds, us', fp, rfl, s, o, nd, fa, r, h⟩ := h
  have hu : us'.length = n := by simpa using hn
  rw [nl hN hn]
  refine hs _ H _ H F _ F _ _ (rel_startIo s o nd fa r hu) ?_
  unfold aFunIo at h
  rw [if_pos (by rw [List.length_cons, ← r.len, hu])] at h
  generalize body ((d :: ds) ++ List.replicate k .non) = z at h ⊢
  rcases z with (S' | ⟨d', S'⟩ | S' | S') | ⟨c, fs⟩ | _
  · intro σ' F' H' f' _ r'
    obtain ⟨fp', h1, h2, h3, _⟩ := io_end r'
    exact h .non F' H' fp' r'.evo h1 h2 h3 (by unfold VR Rep; rfl)
  · intro v σ' F' H' f' r' vr
    obtain ⟨fp', h1, h2, h3, h4⟩ := io_end r'
    exact h v F' H' fp' r'.evo h1 h2 h3 (vr.base (fun _ z => z) fun a z => .inr (h4 a z))
  · exact h.elim
  · exact h.elim
  · exact fun σ' cls Dd F' H' e x => h cls Dd F' H' e x
  · exact h
theorem fn_bodyIoR {N : List Str} {sh : Sh} (hN : N.length = n + 1 + k) (hs : SS K (fun _ => XE) rm (iu sh (n + k)) msb (iz sh n k) ms' t body) (h : spIo K sh rm (aFunIoR (n + 1) k body) vs H Q XE) : t { nx := fun _ H' => Q .non H', rt := Q } (L2.start N vs) H := by
  have hn := spIo_len (fun _ z => aFunIoR_len z) h
  obtain ⟨F, v0, d, ds, us', fp, rfl, s, o, nd, fa, r, h⟩ := h
  have hu : us'.length = n := by simpa using hn
  rw [nl hN hn]
  refine hs _ H _ H F _ F _ _ (rel_startIo s o nd fa r hu) ?_
  unfold aFunIoR at h
  rw [if_pos (by rw [List.length_cons, ← r.len, hu])] at h
  generalize body ((d :: ds) ++ List.replicate k .non) = z at h ⊢
  rcases z with (S' | ⟨d', S'⟩ | S' | S') | ⟨c, fs⟩ | _
  · exact h.elim
  · intro v σ' F' H' f' r' vr
    obtain ⟨fp', h1, h2, h3, h4⟩ := io_end r'
    exact h v F' H' fp' r'.evo h1 h2 h3 (vr.base (fun _ z => z) fun a z => .inr (h4 a z))
  · exact h.elim
  · exact h.elim
  · exact fun σ' cls Dd F' H' e x => h cls Dd F' H' e x
  · exact h
end
end TT
namespace TT
open PySem PySem.Spec PyProof.Rows L2
inductive Pat where
  | s (i : Nat) | t (ps : List Pat) | l (ps : List Pat)
mutual
def bindP : Pat → D → List D → Option (List D)
  | .s i, d, S => some (S.set i d)
  | .t ps, .tup ds, S => bindPs ps ds S
  | .l ps, .lst ds, S => bindPs ps ds S
  | .t _, _, _ => none
  | .l _, _, _ => none
def bindPs : List Pat → List D → List D → Option (List D)
  | [], [], S => some S
  | p :: ps, d :: ds, S => (bindP p d S).bind fun S' => bindPs ps ds S'
  | _, _, _ => none
end
mutual
def patM : Pat → List Mo → List Mo
  | .s i, ms => ms.set i .z
  | .t ps, ms => patMs ps ms
  | .l ps, ms => patMs ps ms
def patMs : List Pat → List Mo → List Mo
  | [], ms => ms
  | p :: ps, ms => patMs ps (patM p ms)
end
mutual
def patF : Pat → List (List Addr) → List (List Addr)
  | .s i, ms => ms.set i []
  | .t ps, ms => patFs ps ms
  | .l ps, ms => patFs ps ms
def patFs : List Pat → List (List Addr) → List (List Addr)
  | [], ms => ms
  | p :: ps, ms => patFs ps (patF p ms)
end
mutual
def patI : Pat → List Nat
  | .s i => [i]
  | .t ps => patIs ps
  | .l ps => patIs ps
def patIs : List Pat → List Nat
  | [] => []
  | p :: ps => patI p ++ patIs ps
end
def ButAt (is : List Nat) (σ σ' : L2.St) : Prop := σ'.length = σ.length ∧ ∀ j, j ∉ is → σ'[j]? = σ[j]?
def SG (K : PySem.W.Frag) (p : Pat) (g : TG) : Prop := ∀ (ms : List Mo) (σ : L2.St) (H H0 F0 : Hp) (io : IO) (F : Hp) (S : List D) (fps : List (List Addr)) (d : D) (x : V) (Q : L2.St → Hp → Prop) (S' : List D), Rel K H0 F0 io F H ms S σ fps → Rep K F d x → (∀ i ∈ patI p, i < ms.length) →
  bindP p d S = some S' → (∀ σ', Rel K H0 F0 io F H (patM p ms) S' σ' (patF p fps) → ButAt (patI p) σ σ' → Q σ' H) → g x σ H Q
def SGs (K : PySem.W.Frag) (ps : List Pat) (g : TGs) : Prop := ∀ (ms : List Mo) (σ : L2.St) (H H0 F0 : Hp) (io : IO) (F : Hp) (S : List D) (fps : List (List Addr)) (ds : List D) (xs : List V) (Q : L2.St → Hp → Prop) (S' : List D), Rel K H0 F0 io F H ms S σ fps → Reps K F ds xs → (∀ i ∈ patIs ps, i < ms.length) →
  bindPs ps ds S = some S' → (∀ σ', Rel K H0 F0 io F H (patMs ps ms) S' σ' (patFs ps fps) → ButAt (patIs ps) σ σ' → Q σ' H) → g xs σ H Q
section
variable {K : PySem.W.Frag} {E : L2.St → XK} {H0 F0 F H B : Hp} {io : IO} {rm m : Mo} {mio msb ms ms1 ms' : List Mo} {S : List D} {σ : L2.St} {ta tb te : TE} {a b c : E1} {ts : TA} {as : EA} {i j : Nat} {sh : Sh} {α β : Type} {p : Pat} {ps : List Pat} {g : TG} {gs : TGs} {fps f1 : List (List Addr)}
theorem sg_name : SG K (.s i) (gName i) := fun ms σ H H0 F0 io F S fps d x Q S' r rp hi e q => by
  cases e
  refine q _ (by unfold patM patF; exact r.storeG (m := .z) (g := []) (hi i (by simp [patI])) ⟨rfl, x, rfl, rp⟩ List.nodup_nil (fun _ z => by cases z) (fun _ _ _ z => by cases z) (fun _ z => by cases z) (fun _ z => by cases z)) ⟨by simp, fun j hj => ?_⟩
  rw [getset_ne]
  intro z
  subst z
  exact hj (by simp [patI])
theorem sgs_nil : SGs K [] gNil := fun ms σ H H0 F0 io F S fps ds xs Q S' r rp hi e q => by
  cases ds with
  | nil =>
    cases e
    unfold Reps at rp
    exact ⟨rp, q σ r ⟨rfl, fun _ _ => rfl⟩⟩
  | cons d ds => unfold bindPs at e; cases e
mutual
theorem patM_len : ∀ (p : Pat) (ms : List Mo), (patM p ms).length = ms.length
  | .s i, ms => by unfold patM; simp
  | .t ps, ms => by unfold patM; exact patMs_len ps ms
  | .l ps, ms => by unfold patM; exact patMs_len ps ms
theorem patMs_len : ∀ (ps : List Pat) (ms : List Mo), (patMs ps ms).length = ms.length
  | [], ms => by unfold patMs; rfl
  | p :: ps, ms => by unfold patMs; rw [patMs_len ps, patM_len p]
end
theorem sgs_cons (h1 : SG K p g) (h2 : SGs K ps gs) : SGs K (p :: ps) (gCons g gs) := fun ms σ H H0 F0 io F S fps ds xs Q S' r rp hi e q => by
  cases ds with
  | nil => unfold bindPs at e; cases e
  | cons d ds =>
    unfold bindPs at e
    unfold Reps at rp
    obtain ⟨v, ws, rfl, r1, r2⟩ := rp
    obtain ⟨S1, e1, e2⟩ := Option.bind_eq_some_iff.mp e
    refine ⟨v, ws, rfl, h1 ms σ H H0 F0 io F S fps d v _ S1 r r1 (fun i m => hi i (by unfold patIs; exact List.mem_append_left _ m)) e1 fun σ1 q1 b1 => ?_⟩
    refine h2 _ σ1 H H0 F0 io F S1 _ ds ws Q S' q1 r2 (fun i m => by rw [patM_len]; exact hi i (by unfold patIs; exact List.mem_append_right _ m)) e2 fun σ2 q2 b2 => ?_
    refine q σ2 (by unfold patMs patFs; exact q2) ⟨b2.1.trans b1.1, fun j hj => ?_⟩
    unfold patIs at hj
    rw [List.mem_append, not_or] at hj
    exact (b2.2 j hj.2).trans (b1.2 j hj.1)
theorem sg_tup {n : Nat} (h : SGs K ps gs) (hn : ps.length = n) : SG K (.t ps) (gTup K n gs) := fun ms σ H H0 F0 io F S fps d x Q S' r rp hi e q => by
  cases d with
  | tup ds =>
    unfold bindP at e
    obtain ⟨a, xs, rfl, hs, _, rs⟩ := rp.sqt
    have len : ∀ {ps : List Pat} {ds : List D} {S S' : List D}, bindPs ps ds S = some S' → ps.length = ds.length := by
      intro ps
      induction ps with
      | nil =>
        intro ds S S' e
        cases ds with
        | nil => rfl
        | cons d ds => unfold bindPs at e; cases e
      | cons p ps ih =>
        intro ds S S' e
        cases ds with
        | nil => unfold bindPs at e; cases e
        | cons d ds =>
          unfold bindPs at e
          obtain ⟨S1, e1, e2⟩ := Option.bind_eq_some_iff.mp e
          simp [ih e2]
    exact ⟨a, xs, rfl, same_t r.sub hs, by rw [rs.len, ← len e, hn], h ms σ H H0 F0 io F S fps ds xs Q S' r rs hi e fun σ' q' b' => q σ' (by unfold patM patF; exact q') b'⟩
  | _ => unfold bindP at e; cases e
def WalkD (K : PySem.W.Frag) (F : Hp) (J : It) (ds : List D) : Prop := ∀ F1 H1, Same F F1 → Ok F1 H1 → (∀ i, i < ds.length → J.go i H1) ∧ J.stop ds.length H1 ∧
  ∀ (i : Nat) x H2 d, ds[i]? = some d → J.yld i H1 x H2 → ∃ F2, Grow F1 H1 F2 H2 ∧ Rep K F2 d x
def SI (K : PySem.W.Frag) (E : L2.St → XK) (ms : List Mo) (t : TI) (a : EA) : Prop :=
  ∀ (σ : L2.St) (H : Hp) (Q : It → Hp → Prop) (H0 F0 : Hp) (io : IO) (F : Hp) (S : List D) (fps : List (List Addr)), Rel K H0 F0 io F H ms S σ fps → Go K E H0 F0 io ms σ fps F H (a S) (fun ds _ _ F' H' => ∀ J, ds.length ≤ sizeLine → WalkD K F' J ds → Q J H') → t σ H Q
def aIt (a : E1) : EA := fun S => (a S).bind fun p => oR p.1.seq? p.2
def aItR (as : EA) : EA := fun S => (as S).bind fun p => match p.1 with
  | [.int j] => if -(2 ^ 62) ≤ j ∧ j ≤ 2 ^ 24 then .ok (rangeD 0 j, p.2) else .no
  | _ => .no
def aItR2 (as : EA) : EA := fun S => (as S).bind fun p => match p.1 with
  | [.int i, .int j] => if (-(2 ^ 62) ≤ i ∧ i < 2 ^ 62 ∧ -(2 ^ 62) ≤ j ∧ j < 2 ^ 62) ∧ (j - i).toNat ≤ 2 ^ 24 then .ok (rangeD i j, p.2) else .no
  | _ => .no
def enumD (n : Nat) : List D → List D
  | [] => []
  | d :: ds => .tup [.int (n : Nat), d] :: enumD (n + 1) ds
def aItE (as : EA) : EA := fun S => (as S).bind fun p => match p.1 with
  | [d] => match d.seq? with | some ds => .ok (enumD 0 ds, p.2) | none => .no
  | _ => .no
def aItZ (as : EA) : EA := fun S => (as S).bind fun p => match p.1 with
  | [.lst xs, .lst ys] => .ok ((xs.zip ys).map fun p => .tup [p.1, p.2], p.2)
  | _ => .no
theorem walkD_of {J : It} {xs : List V} {ds : List D} (rs : Reps K F ds xs) (w : ∀ H1, Same F H1 → Walk J xs.length (fun H' => Same F H') (YAt xs)) : WalkD K F J ds := fun F1 H1 s1 s2 => by
  have w := w H1 (s1.trans s2.sub)
  have g := s1.trans s2.sub
  refine ⟨fun i hi => w.goes i H1 (by rw [rs.len]; exact hi) g, by rw [← rs.len]; exact w.stops H1 g, fun i x H2 d e y => ?_⟩
  obtain ⟨rfl, ex⟩ := w.yields i H1 x H2 (by rw [rs.len]; exact (List.getElem?_eq_some_iff.mp e).1) g y
  obtain ⟨d', e', r⟩ := rs.get ex
  rw [e] at e'
  cases e'
  exact ⟨F1, Evo.refl s2, Rep.mono s1 d r⟩
theorem si_seq (ha : SE K E ms .z ta a) : SI K E ms (iSeq K ta) (aIt a) := fun σ H Q H0 F0 io F S fps rl h => ha.use rl h fun d S1 f1 F1 H1 v r1 e1 v1 h => by
  obtain ⟨ds, ed, h⟩ := h.opt0
  obtain ⟨p, xs, rfl, hs, l, rs⟩ := Rep.seq v1 ed (Same.refl F1)
  have hx : SqL K H1 p xs ∨ SqT K H1 p xs := hs.elim (fun h => .inl (same_l r1.sub h)) fun h => .inr (same_t r1.sub h)
  have q := h.done r1
  rcases hs with hs | hs
  · exact ⟨p, rfl, .inl ⟨⟨xs, same_l r1.sub hs⟩, q _ (by rw [← rs.len]; exact l) (walkD_of rs fun H2 s2 => walk_list.mono (fun H' s => same_l s hs) fun _ _ _ _ _ _ y => y)⟩⟩
  · exact ⟨p, rfl, .inr ⟨⟨xs, same_t r1.sub hs⟩, q _ (by rw [← rs.len]; exact l) (walkD_of rs fun H2 s2 => walk_tup.mono (fun H' s => same_t s hs) fun _ _ _ _ _ _ y => y)⟩⟩
theorem walkD_rng (lo : Int) (n : Nat) : WalkD K F (Itr lo n) ((List.range n).map fun i => .int (lo + (i : Nat))) := fun F1 H1 s1 s2 => by
  have w := walk_range (lo := lo) (n := n)
  refine ⟨fun i hi => w.goes i H1 (by simpa using hi) True.intro, by have := w.stops H1 True.intro; simpa using this, fun i x H2 d e y => ?_⟩
  have hi : i < n := by have := (List.getElem?_eq_some_iff.mp e).1; simpa using this
  obtain ⟨rfl, ex⟩ := w.yields i H1 x H2 hi True.intro y
  rw [List.getElem?_map, List.getElem?_range hi] at e
  cases e
  refine ⟨F1, Evo.refl s2, ?_⟩
  unfold Rep
  exact ex
theorem si_rng (hs : SA K E ms ts as) : SI K E ms (iRng1 ts) (aItR as) := fun σ H Q H0 F0 io F S fps rl h => hs.use rl h fun ds S1 f1 F1 H1 vs r1 e1 v1 h => by
  dsimp only at h
  split at h
  · rename_i j
    obtain ⟨c, h⟩ := h.iteB
    obtain ⟨v, rfl, rv⟩ := v1.one
    unfold Rep at rv
    subst rv
    have sl : (2 : Int) ^ 24 < 2 ^ 62 := by decide
    have q := h.done r1
    refine ⟨j, rfl, c.1, by omega, q _ (by unfold rangeD; rw [List.length_map, List.length_range]; show _ ≤ 2 ^ 24; omega) ?_⟩
    have := walkD_rng (K := K) (F := F1) 0 j.toNat
    unfold rangeD
    rw [Int.sub_zero]
    exact this
  · exact h.elim
theorem enum_at : ∀ (ds : List D) (n i : Nat), (enumD n ds)[i]? = ds[i]?.map fun d => .tup [.int ((n + i : Nat) : Int), d]
  | [], n, i => by unfold enumD; simp
  | d :: ds, n, 0 => by unfold enumD; rfl
  | d :: ds, n, i + 1 => by
    unfold enumD
    rw [List.getElem?_cons_succ, List.getElem?_cons_succ, enum_at ds (n + 1) i]
    congr 1
    funext x
    congr 3
    omega
theorem enum_len : ∀ (ds : List D) (n : Nat), (enumD n ds).length = ds.length
  | [], n => rfl
  | d :: ds, n => by unfold enumD; simp [enum_len ds]
theorem rep_pair {F : Hp} {q : Addr} {d e : D} {x y : V} (h : F q = some (.tup [x, y])) (r1 : Rep K F d x) (r2 : Rep K F e y) : Rep K F (.tup [d, e]) (.ref q) := by
  unfold Rep
  exact ⟨q, _, rfl, .inl h, by show 2 ≤ sizeLine; decide, .cons r1 (.cons r2 .nil)⟩
theorem walkD_pair {J : It} {n : Nat} {f g : Nat → Option V} {ds : List D} (hn : ds.length = n) (w : ∀ H1, Same F H1 → Walk J n (fun H' => Same F H') (YPair f g)) (hd : ∀ (i : Nat) d x y, ds[i]? = some d → f i = some x → g i = some y → ∃ a b, d = .tup [a, b] ∧ Rep K F a x ∧ Rep K F b y) : WalkD K F J ds := fun F1 H1 s1 s2 => by
  have w := w H1 (s1.trans s2.sub)
  have gg := s1.trans s2.sub
  refine ⟨fun i hi => w.goes i H1 (by omega) gg, by rw [hn]; exact w.stops H1 gg, fun i x H2 d e y => ?_⟩
  obtain ⟨T, x1, y1, rfl, nT, rfl, ef, eg⟩ := w.yields i H1 x H2 (by have := (List.getElem?_eq_some_iff.mp e).1; omega) gg y
  obtain ⟨a, b, rfl, ra, rb⟩ := hd i d x1 y1 e ef eg
  have gr := Grow.put (o := .tup [x1, y1]) s2 nT
  exact ⟨_, gr, rep_pair upd_same (Rep.mono (s1.trans gr.same) _ ra) (Rep.mono (s1.trans gr.same) _ rb)⟩
theorem si_enum (hs : SA K E ms ts as) : SI K E ms (iEs K ts) (aItE as) := fun σ H Q H0 F0 io F S fps rl h => hs.use rl h fun ds S1 f1 F1 H1 vs r1 e1 v1 h => by
  dsimp only at h
  split at h
  · rename_i d
    obtain ⟨v, rfl, rv⟩ := v1.one
    cases ed : d.seq? with
    | none => rw [ed] at h; exact h.elim
    | some xs =>
      rw [ed] at h
      have q := h.done r1
      obtain ⟨p, ys, rfl, hs, l, rs⟩ := Rep.seq rv ed (Same.refl F1)
      have hd : ∀ (i : Nat) d x y, (enumD 0 xs)[i]? = some d → some (V.int (i : Nat)) = some x → ys[i]? = some y → ∃ a b, d = .tup [a, b] ∧ Rep K F1 a x ∧ Rep K F1 b y := fun i d x y e1 e2 e3 => by
        rw [enum_at] at e1
        obtain ⟨z, ez, r⟩ := rs.get e3
        rw [ez] at e1
        cases e1
        cases e2
        exact ⟨_, z, rfl, by unfold Rep; rw [Nat.zero_add], r⟩
      have ln : (enumD 0 xs).length = ys.length := by rw [enum_len, rs.len]
      rcases hs with hs | hs
      · exact ⟨p, rfl, .inl ⟨⟨ys, same_l r1.sub hs⟩, q _ (by rw [enum_len, ← rs.len]; exact l) (walkD_pair ln (fun H2 s2 => walk_enum.mono (fun H' s => same_l s hs) fun _ _ _ _ _ _ y => y) hd)⟩⟩
      · exact ⟨p, rfl, .inr ⟨⟨ys, same_t r1.sub hs⟩, q _ (by rw [enum_len, ← rs.len]; exact l) (walkD_pair ln (fun H2 s2 => walk_et.mono (fun H' s => same_t s hs) fun _ _ _ _ _ _ y => y) hd)⟩⟩
  · exact h.elim
end
end TT
namespace TT
open PySem PySem.Spec PyProof.Rows L2
def loopK (ms0 : List Mo) (k : List D → Rz Out) : Out → Rz Out
  | .nx S2 => k (maskD ms0 S2)
  | .ct S2 => k (maskD ms0 S2)
  | .bk S2 => .ok (.nx (maskD ms0 S2))
  | .rt d S2 => .ok (.rt d S2)
def forGo (p : Pat) (ms0 : List Mo) (body : S1) : List D → List D → Rz Out
  | [], S => .ok (.nx S)
  | d :: ds, S => match bindP p d S with
    | none => .no
    | some S' => (body S').bind (loopK ms0 (forGo p ms0 body ds))
def aFor (p : Pat) (ms0 : List Mo) (it : EA) (body : S1) : S1 := fun S => (it S).bind fun q => forGo p ms0 body q.1 q.2
def whGo (c : EB) (ms0 : List Mo) (body : S1) : Nat → List D → Rz Out
  | 0, _ => .no
  | n + 1, S => (c S).bind fun q => if q.1 = true then (body q.2).bind (loopK ms0 (whGo c ms0 body n)) else .ok (.nx q.2)
def aWhile (fuel : Nat) (c : EB) (ms0 : List Mo) (body : S1) : S1 := whGo c ms0 body fuel
section
variable {K : PySem.W.Frag} {E : L2.St → XK} {H0 F0 F H B : Hp} {io : IO} {rm m : Mo} {mio msb ms0 ms ms1 ms2 msB : List Mo} {S : List D} {σ : L2.St} {wi : TI} {it : EA} {g : TG} {p : Pat} {tb : TS} {body : S1} {En : Ends} {tt : TT} {c : EB} {fps f1 : List (List Addr)}
theorem SI.stm {k : List D × List D → Rz Out} {Q : It → Hp → Prop} {ms' : List Mo} (ha : SI K E ms wi it) (r : Rel K H0 F0 io F H ms S σ fps) (h : GoS K E H0 F0 io rm mio ms' msb En F ((it S).bind k))
    (q : ∀ ds S1 f1 F1 H1 J, Rel K H0 F0 io F1 H1 ms S1 σ f1 → ds.length ≤ sizeLine → WalkD K F1 J ds → GoS K E H0 F0 io rm mio ms' msb En F1 (k (ds, S1)) → Q J H1) : wi σ H Q := by
  refine ha σ H Q H0 F0 io F S fps r ?_
  generalize it S = z at h ⊢
  rcases z with ⟨d, S'⟩ | ⟨c, fs⟩ | _
  · exact fun F' H' f' r' e' J l w => q d S' f' F' H' J r' l w (h.base e'.evo.same)
  · exact fun cls Dd F' H' e' x => h σ cls Dd F' H' (r.evoX e') x
  · exact h
theorem SS.turn {k : List D → Rz Out} {N : L2.St → Hp → Prop} (hb : SS K E rm mio msB ms1 ms2 tb body) (w : wk ms2 ms0 = true) (wB : wk msB ms0 = true) (r : Rel K H0 F0 io F H ms1 S σ fps)
    (h : GoS K E H0 F0 io rm mio ms0 msb En F ((body S).bind (loopK ms0 k))) (hN : ∀ S2 σ' F' H' f', Same F F' → Rel K H0 F0 io F' H' ms0 S2 σ' f' → GoS K E H0 F0 io rm mio ms0 msb En F' (k S2) → N σ' H') : tb { En with nx := N, ct := N, bk := En.nx } σ H := by
  refine hb σ H _ H0 F0 io F S fps r ?_
  generalize body S = z at h ⊢
  rcases z with (S' | ⟨d, S'⟩ | S' | S') | ⟨c, fs⟩ | _
  · exact fun σ' F' H' f' s' r' => hN _ σ' F' H' _ s' (r'.weak w) (GoS.base h s')
  · exact h
  · exact fun σ' F' H' f' s' r' => h σ' F' H' _ s' (r'.weak wB)
  · exact fun σ' F' H' f' s' r' => hN _ σ' F' H' _ s' (r'.weak wB) (GoS.base h s')
  · exact h
  · exact h
theorem ss_for (hi : SI K E ms0 wi it) (hg : SG K p g) (hp : ∀ i ∈ patI p, i < ms0.length) (hb : SS K E rm mio msB (patM p ms0) ms2 tb body) (w : wk ms2 ms0 = true) (wB : wk msB ms0 = true) :
    SS K E rm mio msb ms0 ms0 (tFor wi g tb) (aFor p ms0 it body) := fun σ H En H0 F0 io F S fps r h => hi.stm r h fun ds S1 f1 F1 H1 J r1 l wd h => by
  refine ⟨fun i n σ' H' => n = ds.length - i ∧ i ≤ ds.length ∧ ∃ F' S' f', Rel K H0 F0 io F' H' ms0 S' σ' f' ∧ Same F1 F' ∧ GoS K E H0 F0 io rm mio ms0 msb En F' (forGo p ms0 body (ds.drop i) S'), ⟨ds.length, by simp, Nat.zero_le _, F1, S1, f1, r1, Same.refl _, h⟩, ?_⟩
  rintro i n σ' H' ⟨rfl, hil, F', S', f', r', s', h'⟩
  obtain ⟨w1, w2, w3⟩ := wd F' H' s' r'.ok
  by_cases hlt : i < ds.length
  · refine .inr ⟨w1 i hlt, fun σ2 H2 => ds.length - (i + 1) = ds.length - (i + 1) ∧ i + 1 ≤ ds.length ∧ ∃ F2 S2 f2, Rel K H0 F0 io F2 H2 ms0 S2 σ2 f2 ∧ Same F1 F2 ∧ GoS K E H0 F0 io rm mio ms0 msb En F2 (forGo p ms0 body (ds.drop (i + 1)) S2), fun σ2 H2 q => ⟨ds.length - (i + 1), by omega, q⟩, fun x H2 y => ?_⟩
    obtain ⟨F2, gr, rx⟩ := w3 i x H2 ds[i] (List.getElem?_eq_getElem hlt) y
    have r2 := r'.grow gr
    rw [List.drop_eq_getElem_cons hlt] at h'
    unfold forGo at h'
    cases eb : bindP p ds[i] S' with
    | none => rw [eb] at h'; exact h'.elim
    | some S3 =>
      rw [eb] at h'
      refine hg ms0 σ' H2 H0 F0 io F2 S' f' ds[i] x _ S3 r2 rx hp eb fun σ3 r3 _ => ?_
      exact hb.turn w wB r3 (GoS.base h' gr.same) fun S4 σ4 F4 H4 f4 s4 r4 h4 => ⟨rfl, hlt, F4, S4, f4, r4, (s'.trans gr.same).trans s4, h4⟩
  · have e : i = ds.length := by omega
    subst e
    rw [List.drop_length] at h'
    exact .inl ⟨w2, h' σ' F' H' f' (Same.refl F') r'⟩
theorem ss_while {fuel : Nat} (hE : Flat E) (hc : ST K E ms0 tt c) (hb : SS K E rm mio msB ms0 ms2 tb body) (w : wk ms2 ms0 = true) (wB : wk msB ms0 = true) :
    SS K E rm mio msb ms0 ms0 (tWhile tt tb) (aWhile fuel c ms0 body) := fun σ H En H0 F0 io F S fps r h => by
  refine ⟨fun n σ' H' => ∃ F' S' f', Rel K H0 F0 io F' H' ms0 S' σ' f' ∧ GoS K E H0 F0 io rm mio ms0 msb En F' (whGo c ms0 body n S'), ⟨fuel, F, S, fps, r, h⟩, ?_⟩
  rintro n σ' H' ⟨F', S', f', r', h'⟩
  cases n with
  | zero => exact h'.elim
  | succ n =>
    unfold whGo at h'
    refine hc.stm hE r' h' fun b S1 f1 F1 H1 r1 e1 h1 => ?_
    cases b with
    | true =>
      rw [if_pos rfl]
      refine ⟨fun σ2 H2 => ∃ F2 S2 f2, Rel K H0 F0 io F2 H2 ms0 S2 σ2 f2 ∧ GoS K E H0 F0 io rm mio ms0 msb En F2 (whGo c ms0 body n S2), fun σ2 H2 q => ⟨n, Nat.lt_succ_self n, q⟩, ?_⟩
      exact hb.turn w wB r1 h1 fun S4 σ4 F4 H4 f4 s4 r4 h4 => ⟨F4, S4, f4, r4, h4⟩
    | false =>
      rw [if_neg Bool.false_ne_true]
      exact h1 σ' F1 H1 f1 (Same.refl F1) r1
end
def unM : List Nat → List Mo → List Mo
  | [], ms => ms
  | v :: vs, ms => (unM vs ms).set v .u
def unF : List Nat → List (List Addr) → List (List Addr)
  | [], S => S
  | v :: vs, S => (unF vs S).set v []
def unD : List Nat → List D → List D
  | [], S => S
  | v :: vs, S => (unD vs S).set v .non
def reD : List Nat → List D → List D → List D
  | [], _, S => S
  | v :: vs, S0, S => (reD vs S0 S).set v (S0.getD v .non)
def lcGo (p : Pat) (vs : List Nat) (c : EB) (te : E1) : List D → List D → List D → Rz (List D × List D)
  | [], S, acc => .ok (acc, S)
  | d :: ds, S, acc => match bindP p d S with
    | none => .no
    | some S1 => match c S1 with
      | .ok (b, S2) => if b = true then (match te S2 with
          | .ok (x, S3) => lcGo p vs c te ds (unD vs S3) (acc ++ [x])
          | _ => .no) else lcGo p vs c te ds (unD vs S2) acc
      | _ => .no
def aYes : EB := fun S => .ok (true, S)
def aLc (p : Pat) (vs : List Nat) (it : EA) (c : EB) (te : E1) : E1 := fun S => (it S).bind fun q => (lcGo p vs c te q.1 (unD vs q.2) []).bind fun r => .ok (.lst r.1, reD vs q.2 r.2)
section
variable {K : PySem.W.Frag} {E : L2.St → XK} {H0 F0 F H B : Hp} {io : IO} {rm m : Mo} {ms : List Mo} {S : List D} {σ : L2.St} {wi : TI} {it : EA} {g : TG} {p : Pat} {tt : TT} {c : EB} {te : TE} {ta : E1} {vs : List Nat} {fps f1 : List (List Addr)}
theorem st_yes : ST K E ms tYes aYes := fun σ H Q H0 F0 io F S fps r h => h.done r
theorem un_len (vs : List Nat) : (∀ ms : List Mo, (unM vs ms).length = ms.length) ∧ (∀ S : List D, (unD vs S).length = S.length) ∧ ∀ S0 S : List D, (reD vs S0 S).length = S.length := by
  induction vs with
  | nil => exact ⟨fun _ => rfl, fun _ => rfl, fun _ _ => rfl⟩
  | cons v vs ih => exact ⟨fun ms => by unfold unM; rw [List.length_set, ih.1], fun S => by unfold unD; rw [List.length_set, ih.2.1], fun S0 S => by unfold reD; rw [List.length_set, ih.2.2]⟩
theorem un_out {j : Nat} : ∀ {vs : List Nat}, j ∉ vs → (∀ ms : List Mo, (unM vs ms)[j]? = ms[j]?) ∧ (∀ S : List D, (unD vs S)[j]? = S[j]?) ∧ (∀ S0 S : List D, (reD vs S0 S)[j]? = S[j]?) ∧ ∀ σ : L2.St, (wipe σ vs)[j]? = σ[j]?
  | [], _ => ⟨fun _ => rfl, fun _ => rfl, fun _ _ => rfl, fun _ => rfl⟩
  | v :: vs, h => by
    rw [List.mem_cons, not_or] at h
    have ih := un_out h.2
    have n : v ≠ j := fun z => h.1 z.symm
    exact ⟨fun ms => by unfold unM; rw [getset_ne n, ih.1], fun S => by unfold unD; rw [getset_ne n, ih.2.1], fun S0 S => by unfold reD; rw [getset_ne n, ih.2.2.1], fun σ => by unfold wipe; rw [getset_ne n, ih.2.2.2]⟩
theorem un_in {j : Nat} : ∀ {vs : List Nat}, j ∈ vs → (∀ ms : List Mo, j < ms.length → (unM vs ms)[j]? = some .u) ∧ (∀ S : List D, j < S.length → (unD vs S)[j]? = some .non) ∧ (∀ S0 S : List D, j < S.length → (reD vs S0 S)[j]? = some (S0.getD j .non)) ∧ ∀ σ : L2.St, j < σ.length → (wipe σ vs)[j]? = some none
  | v :: vs, h => by
    by_cases e : v = j
    · subst e
      exact ⟨fun ms l => by unfold unM; exact getset_eq (List.getElem?_eq_getElem (by rw [(un_len vs).1]; exact l)), fun S l => by unfold unD; exact getset_eq (List.getElem?_eq_getElem (by rw [(un_len vs).2.1]; exact l)),
        fun S0 S l => by unfold reD; exact getset_eq (List.getElem?_eq_getElem (by rw [(un_len vs).2.2]; exact l)), fun σ l => by unfold wipe; exact getset_eq (List.getElem?_eq_getElem (by rw [wipe_length]; exact l))⟩
    · have h2 : j ∈ vs := (List.mem_cons.mp h).elim (fun z => absurd z.symm e) id
      have ih := un_in h2
      exact ⟨fun ms l => by unfold unM; rw [getset_ne e, ih.1 ms l], fun S l => by unfold unD; rw [getset_ne e, ih.2.1 S l], fun S0 S l => by unfold reD; rw [getset_ne e, ih.2.2.1 S0 S l], fun σ l => by unfold wipe; rw [getset_ne e, ih.2.2.2 σ l]⟩
theorem unF_out {j : Nat} : ∀ {vs : List Nat}, j ∉ vs → ∀ S : List (List Addr), (unF vs S)[j]? = S[j]?
  | [], _, _ => rfl
  | v :: vs, h, S => by
    rw [List.mem_cons, not_or] at h
    unfold unF
    rw [getset_ne fun z => h.1 z.symm, unF_out h.2]
theorem unF_len (vs : List Nat) : ∀ S : List (List Addr), (unF vs S).length = S.length := by
  induction vs with
  | nil => exact fun _ => rfl
  | cons v vs ih => exact fun S => by unfold unF; rw [List.length_set, ih]
theorem unF_in {j : Nat} : ∀ {vs : List Nat}, j ∈ vs → ∀ S : List (List Addr), j < S.length → (unF vs S)[j]? = some []
  | v :: vs, h, S, l => by
    unfold unF
    by_cases e : v = j
    · subst e
      exact getset_eq (List.getElem?_eq_getElem (by rw [unF_len]; exact l))
    · rw [getset_ne e]
      exact unF_in ((List.mem_cons.mp h).elim (fun z => absurd z.symm e) id) S l
def noOwn (vs : List Nat) (ms : List Mo) : Bool := vs.all fun v => match ms[v]? with
  | some m => !m.own
  | none => false
theorem noOwn_at (no : noOwn vs ms = true) : ∀ i ∈ vs, ∃ m, ms[i]? = some m ∧ m.own = false := fun i hi => by
  have := List.all_eq_true.mp no i hi
  cases e : ms[i]? with
  | none => rw [e] at this; cases this
  | some m => rw [e] at this; exact ⟨m, rfl, by simpa using this⟩
theorem SR.noown {m : Mo} {d : D} {v : Option V} {f : List Addr} (h : SR K F H m d v f) (o : m.own = false) : f = [] := by
  cases m with
  | u => exact h.2
  | z => exact h.1
  | o s => cases o
  | p s => cases o
theorem Rel.unF_eq (r : Rel K H0 F0 io F H ms S σ fps) (no : noOwn vs ms = true) : unF vs fps = fps := by
  refine List.ext_getElem? fun j => ?_
  by_cases z : j ∈ vs
  · obtain ⟨m, e, o⟩ := noOwn_at no j z
    obtain ⟨d, v, f, e1, e2, e3, sr, _⟩ := r.at_ j m e
    rw [unF_in z _ (List.getElem?_eq_some_iff.mp e3).1, e3, sr.noown o]
  · exact unF_out z _
theorem Rel.unv (r : Rel K H0 F0 io F H ms S σ fps) (vs : List Nat) : Rel K H0 F0 io F H (unM vs ms) (unD vs S) (wipe σ vs) (unF vs fps) := by
  refine ⟨r.evo, by rw [(un_len vs).1, (un_len vs).2.1]; exact r.lS, by rw [(un_len vs).1, wipe_length]; exact r.lσ, by rw [(un_len vs).1, unF_len]; exact r.lf, fun i m h => ?_, fun i j f g a h1 h2 m1 m2 => ?_⟩
  · by_cases z : i ∈ vs
    · have hi : i < ms.length := by have := (List.getElem?_eq_some_iff.mp h).1; rwa [(un_len vs).1] at this
      have ui := un_in z
      rw [ui.1 ms hi] at h
      cases h
      exact ⟨.non, none, [], ui.2.1 S (by rw [r.lS]; exact hi), ui.2.2.2 σ (by rw [r.lσ]; exact hi), unF_in z _ (by rw [r.lf]; exact hi), ⟨rfl, rfl⟩, List.nodup_nil, (fun _ z => by cases z), (fun _ _ _ z => by cases z), fun _ e => by cases e⟩
    · have uo := un_out z
      rw [uo.1] at h
      obtain ⟨d, v, f, e1, e2, e3, w⟩ := r.at_ i m h
      exact ⟨d, v, f, by rw [uo.2.1]; exact e1, by rw [uo.2.2.2]; exact e2, by rw [unF_out z]; exact e3, w⟩
  · have key : ∀ (i : Nat) f, (unF vs fps)[i]? = some f → a ∈ f → fps[i]? = some f := fun i f h m => by
      by_cases z : i ∈ vs
      · have hi : i < fps.length := by have := (List.getElem?_eq_some_iff.mp h).1; rwa [unF_len] at this
        rw [unF_in z _ hi] at h
        cases h
        cases m
      · rw [unF_out z] at h; exact h
    exact r.dis i j f g a (key i f h1 m1) (key j g h2 m2) m1 m2
theorem Rel.rev {F' H' : Hp} {S' : List D} {f' : List (List Addr)} (r : Rel K H0 F0 io F H ms S σ fps) (no : noOwn vs ms = true) (r' : Rel K H0 F0 io F' H' (unM vs ms) S' (wipe σ vs) f') (s : Same F F') : Rel K H0 F0 io F' H' ms (reD vs S S') σ f' := by
  have l' : S'.length = ms.length := by have := r'.lS; rwa [(un_len vs).1] at this
  refine ⟨r'.evo, by rw [(un_len vs).2.2]; exact l', r.lσ, by rw [r'.lf, (un_len vs).1], fun i m h => ?_, r'.dis⟩
  by_cases z : i ∈ vs
  · have hi : i < ms.length := (List.getElem?_eq_some_iff.mp h).1
    obtain ⟨d, v, f, e1, e2, e3, sr, _⟩ := r.at_ i m h
    obtain ⟨m', e, n⟩ := noOwn_at no i z
    rw [h] at e
    cases e
    obtain ⟨_, _, f2, _, _, g3, sr2, _⟩ := r'.at_ i .u ((un_in z).1 ms hi)
    have f0 : f = [] := sr.noown n
    subst f0
    refine ⟨d, v, [], ?_, e2, by rw [g3, sr2.2], sr.mono s fun a o ea y => ?_, List.nodup_nil, (fun _ z => by cases z), (fun _ _ _ z => by cases z), fun s e => by subst e; cases n⟩
    · rw [(un_in z).2.2.1 S S' (by rw [l']; exact hi), List.getD_eq_getElem?_getD, e1]
      rfl
    · cases m with
      | u => exact r'.ok.sub a o (s a o (by
          rcases y with y | y
          · cases y
          · exact r.ok.tup a o (by
              unfold tups
              rw [ea]
              cases o with
              | tup xs => rfl
              | frz q u =>
                cases u with
                | tup xs => rfl
                | _ => exact absurd (fun ys => ⟨(by intro z; cases z), fun q z => by cases z⟩) y
              | _ => exact absurd (fun ys => ⟨(by intro z; cases z), fun q z => by cases z⟩) y)))
      | z => exact r'.ok.sub a o (s a o (by
          rcases y with y | y
          · cases y
          · exact r.ok.tup a o (by
              unfold tups
              rw [ea]
              cases o with
              | tup xs => rfl
              | frz q u =>
                cases u with
                | tup xs => rfl
                | _ => exact absurd (fun ys => ⟨(by intro z; cases z), fun q z => by cases z⟩) y
              | _ => exact absurd (fun ys => ⟨(by intro z; cases z), fun q z => by cases z⟩) y)))
      | o s => cases n
      | p s => cases n
  · have uo := un_out z
    obtain ⟨d, v, f, e1, e2, e3, w⟩ := r'.at_ i m (by rw [uo.1]; exact h)
    exact ⟨d, v, f, by rw [uo.2.2.1]; exact e1, by rw [← e2, uo.2.2.2], e3, w⟩
theorem wipe_but {σ' : L2.St} (b : ButAt (patI p) (wipe σ vs) σ') (hp : ∀ i ∈ patI p, i ∈ vs) : wipe σ' vs = wipe σ vs := by
  refine List.ext_getElem? fun j => ?_
  by_cases z : j ∈ vs
  · by_cases hj : j < σ.length
    · rw [(un_in z).2.2.2 σ hj, (un_in z).2.2.2 σ' (by rw [b.1, wipe_length]; exact hj)]
    · rw [List.getElem?_eq_none (by rw [wipe_length, b.1, wipe_length]; omega), List.getElem?_eq_none (by rw [wipe_length]; omega)]
  · rw [(un_out z).2.2.2, b.2 j fun q => z (hp j q)]
theorem unM_pat (hp : ∀ i ∈ patI p, i ∈ vs) : unM vs (patM p (unM vs ms)) = unM vs ms := by
  have key : ∀ (j : Nat), j ∉ patI p → (patM p (unM vs ms))[j]? = (unM vs ms)[j]? := fun j hj => patM_out p _ j hj
  refine List.ext_getElem? fun j => ?_
  by_cases z : j ∈ vs
  · by_cases hj : j < ms.length
    · rw [(un_in z).1 _ (by rw [patM_len, (un_len vs).1]; exact hj), (un_in z).1 _ hj]
    · rw [List.getElem?_eq_none (by rw [(un_len vs).1, patM_len, (un_len vs).1]; omega), List.getElem?_eq_none (by rw [(un_len vs).1]; omega)]
  · rw [(un_out z).1, key j fun q => z (hp j q)]
where
  patM_out : ∀ (p : Pat) (ms : List Mo) (j : Nat), j ∉ patI p → (patM p ms)[j]? = ms[j]?
  | .s i, ms, j, h => by unfold patM; exact getset_ne fun z => h (by simp [patI, z])
  | .t ps, ms, j, h => by unfold patM; exact patMs_out ps ms j (by unfold patI at h; exact h)
  | .l ps, ms, j, h => by unfold patM; exact patMs_out ps ms j (by unfold patI at h; exact h)
  patMs_out : ∀ (ps : List Pat) (ms : List Mo) (j : Nat), j ∉ patIs ps → (patMs ps ms)[j]? = ms[j]?
  | [], ms, j, _ => by unfold patMs; rfl
  | p :: ps, ms, j, h => by
    unfold patIs at h
    rw [List.mem_append, not_or] at h
    unfold patMs
    rw [patMs_out ps _ j h.2, patM_out p ms j h.1]
end
end TT
namespace TT
open PySem PySem.Spec PyProof.Rows L2
mutual
theorem patF_mine : ∀ (p : Pat) {fps : List (List Addr)} {a : Addr}, Mine (patF p fps) a → Mine fps a
  | .s i, fps, a, h => by unfold patF at h; exact (mine_set h).elim id fun z => by cases z
  | .t ps, fps, a, h => by unfold patF at h; exact patFs_mine ps h
  | .l ps, fps, a, h => by unfold patF at h; exact patFs_mine ps h
theorem patFs_mine : ∀ (ps : List Pat) {fps : List (List Addr)} {a : Addr}, Mine (patFs ps fps) a → Mine fps a
  | [], fps, a, h => by unfold patFs at h; exact h
  | p :: ps, fps, a, h => by unfold patFs at h; exact patF_mine p (patFs_mine ps h)
end
theorem unF_mine : ∀ (vs : List Nat) {fps : List (List Addr)} {a : Addr}, Mine (unF vs fps) a → Mine fps a
  | [], _, _, h => h
  | v :: vs, _, _, h => by unfold unF at h; exact (mine_set h).elim (unF_mine vs) fun z => by cases z
section
variable {K : PySem.W.Frag} {E : L2.St → XK} {H0 F0 F H B : Hp} {io : IO} {rm m : Mo} {ms : List Mo} {S : List D} {σ σ' : L2.St} {wi : TI} {it : EA} {g : TG} {p : Pat} {tt : TT} {c : EB} {te : TE} {ta : E1} {vs : List Nat} {β : Type} {fps : List (List Addr)}
theorem SI.use {k : List D × List D → Rz (β × List D)} {P : β → List D → List (List Addr) → Hp → Hp → Prop} {Q : It → Hp → Prop} (s : SI K E ms wi it) (r : Rel K H0 F0 io F H ms S σ fps) (h : Go K E H0 F0 io ms σ fps F H ((it S).bind k) P)
    (q : ∀ ds S1 f1 F1 H1 J, Rel K H0 F0 io F1 H1 ms S1 σ f1 → Ev fps f1 F H F1 H1 → ds.length ≤ sizeLine → WalkD K F1 J ds → Go K E H0 F0 io ms σ f1 F1 H1 (k (ds, S1)) P → Q J H1) : wi σ H Q :=
  s σ H Q H0 F0 io F S fps r (h.bind.imp fun ds S1 f1 F1 H1 r1 e1 g J l w => q ds S1 f1 F1 H1 J r1 e1 l w g)
theorem stayD {fa fb : List (List Addr)} {Fa Ha Fb Hb : Hp} {p : Addr} {o : HO} (h1 : Ha p = some o) (h2 : Fa p = none) (h3 : ¬ Mine fa p) (e : Ev fa fb Fa Ha Fb Hb) : Hb p = some o ∧ Fb p = none ∧ ¬ Mine fb p :=
  ⟨e.evo.frm _ _ h1 h3, Classical.byContradiction fun z => (e.evo.new p z).elim (fun z => z h2) fun z => z.elim (fun z => by rw [h1] at z; cases z) h3, fun m => (e.mine p m).elim h3 fun z => by rw [h1] at z; cases z⟩
theorem se_lc (hi : SI K E ms wi it) (hg : SG K p g) (hp : ∀ i ∈ patI p, i ∈ vs) (no : noOwn vs ms = true) (hc : ST K (fun _ => E0) (patM p (unM vs ms)) tt c) (he : SE K (fun _ => E0) (patM p (unM vs ms)) .z te ta) :
    SE K E ms (.o (.l .z)) (tLc wi g tt te vs) (aLc p vs it c ta) := fun σ H Q H0 F0 io F S fps rl h => hi.use rl h fun ds S1 f1 F1 H1 J r1 e1 ln wd h => by
  intro Dl hD
  have F1D : F1 Dl = none := fnone r1.sub hD
  have H0D : H0 Dl = none := Classical.byContradiction fun z => r1.evo.liv Dl z hD
  have mD : ¬ Mine f1 Dl := fun z => r1.ne z hD
  have hvl : ∀ i ∈ patI p, i < ms.length := fun i z => by
    obtain ⟨m, e, _⟩ := noOwn_at no i (hp i z)
    exact (List.getElem?_eq_some_iff.mp e).1
  have uf := r1.unF_eq no
  have g0 : Grow F1 H1 F1 (upd H1 Dl (.lst [])) := Grow.own r1.ok hD nt_lst
  have rw1 := r1.unv vs
  rw [uf] at rw1
  obtain ⟨R0, eR⟩ : ∃ R0, R0 = lcGo p vs c ta ds (unD vs S1) [] := ⟨_, rfl⟩
  replace h : Go K E H0 F0 io ms σ f1 F1 H1 (R0.bind fun r => .ok (.lst r.1, reD vs S1 r.2)) (PV K H (.o (.l .z)) Q) := by rw [eR]; exact h
  refine ⟨fun i n H' => n = ds.length - i ∧ i ≤ ds.length ∧ ∃ F' S' acc accV f', Rel K H0 F0 io F' H' (unM vs ms) S' (wipe σ vs) f' ∧ Ev f1 f' F1 H1 F' H' ∧ (H' Dl = some (.lst accV) ∧ F' Dl = none ∧ ¬ Mine f' Dl) ∧ Reps K F' acc accV ∧ accV.length ≤ i ∧ lcGo p vs c ta (ds.drop i) S' acc = R0,
    ⟨ds.length, by simp, Nat.zero_le _, F1, unD vs S1, [], [], f1, rw1.grow g0, Ev.grow g0, ⟨upd_same, F1D, mD⟩, .nil, Nat.le_refl _, eR.symm⟩, ?_⟩
  rintro i n H' ⟨rfl, hil, F', S', acc, accV, f', r', ev, tD, ra, la, eg⟩
  obtain ⟨w1, w2, w3⟩ := wd F' H' ev.evo.same r'.ok
  rw [← eg] at h
  by_cases hlt : i < ds.length
  · refine .inr ⟨w1 i hlt, fun H2 => ds.length - (i + 1) = ds.length - (i + 1) ∧ i + 1 ≤ ds.length ∧ ∃ F2 S2 acc2 accV2 f2, Rel K H0 F0 io F2 H2 (unM vs ms) S2 (wipe σ vs) f2 ∧ Ev f1 f2 F1 H1 F2 H2 ∧ (H2 Dl = some (.lst accV2) ∧ F2 Dl = none ∧ ¬ Mine f2 Dl) ∧ Reps K F2 acc2 accV2 ∧ accV2.length ≤ i + 1 ∧ lcGo p vs c ta (ds.drop (i + 1)) S2 acc2 = R0,
      fun H2 q => ⟨ds.length - (i + 1), by omega, q⟩, fun x H2 y => ?_⟩
    obtain ⟨F2, gr, rx⟩ := w3 i x H2 ds[i] (List.getElem?_eq_getElem hlt) y
    have r2 := r'.grow gr
    have tD2 := stayD tD.1 tD.2.1 tD.2.2 (Ev.grow (fps := f') gr)
    have ev2 := ev.trans (Ev.grow (fps := f') gr)
    rw [List.drop_eq_getElem_cons hlt] at h eg
    unfold lcGo at h eg
    cases eb : bindP p ds[i] S' with
    | none => rw [eb] at h; exact h.elim
    | some S3 =>
      rw [eb] at h eg
      refine hg (unM vs ms) _ H2 H0 F0 io F2 S' f' ds[i] x _ S3 r2 rx (fun j z => by rw [(un_len vs).1]; exact hvl j z) eb fun σ3 r3 b3 => ⟨wipe_but b3 hp, ?_⟩
      have tD3 : H2 Dl = some (.lst accV) ∧ F2 Dl = none ∧ ¬ Mine (patF p f') Dl := ⟨tD2.1, tD2.2.1, fun z => tD2.2.2 (patF_mine p z)⟩
      have ev3 : Ev f1 (patF p f') F1 H1 F2 H2 := ⟨ev2.evo, fun a z => ev2.mine a (patF_mine p z)⟩
      dsimp only at h eg
      have back : ∀ {Fa Ha Sa fa}, Rel K H0 F0 io Fa Ha (patM p (unM vs ms)) Sa σ3 fa → Rel K H0 F0 io Fa Ha (unM vs ms) (unD vs Sa) (wipe σ vs) (unF vs fa) := fun {Fa Ha Sa fa} r => by
        have := r.unv vs
        rw [unM_pat hp, wipe_but b3 hp] at this
        exact this
      cases ec : c S3 with
      | no => rw [ec] at h; exact h.elim
      | ex cc fs => rw [ec] at h; exact h.elim
      | ok bS =>
        obtain ⟨b, S4⟩ := bS
        rw [ec] at h eg
        dsimp only at h eg
        refine hc σ3 H2 _ H0 F0 io F2 S3 _ r3 ?_
        rw [ec]
        intro F4 H4 f4 r4 e4
        have tD4 := stayD tD3.1 tD3.2.1 tD3.2.2 e4
        have ev4 := ev3.trans e4
        cases b with
        | false =>
          rw [if_neg Bool.false_ne_true] at h eg ⊢
          exact ⟨rfl, hlt, F4, _, acc, accV, _, back r4, ⟨ev4.evo, fun a z => ev4.mine a (unF_mine vs z)⟩, ⟨tD4.1, tD4.2.1, fun z => tD4.2.2 (unF_mine vs z)⟩, Reps.mono (gr.same.trans e4.evo.same) acc ra, by omega, eg⟩
        | true =>
          rw [if_pos rfl] at h eg ⊢
          cases et : ta S4 with
          | no => rw [et] at h; exact h.elim
          | ex cc fs => rw [et] at h; exact h.elim
          | ok xS =>
            obtain ⟨d, S5⟩ := xS
            rw [et] at h eg
            dsimp only at h eg
            refine he σ3 H4 _ H0 F0 io F4 S4 f4 r4 ?_
            rw [et]
            intro F5 H5 f5 r5 e5 v rv
            have tD5 := stayD tD4.1 tD4.2.1 tD4.2.2 e5
            have ev5 := ev4.trans e5
            have e6 : Evo (fun a => a = Dl) F5 H5 F5 (upd H5 Dl (.lst (accV ++ [v]))) := Evo.upd r5.ok tD5.1 nt_lst nt_lst tD5.2.1
            have r6 := (back r5).go e6 (fun a z q => tD5.2.2 (unF_mine vs (by rw [← q]; exact z))) (fun a o z q => by rw [q, tD5.1] at z; cases z; exact nt_lst) fun a z => .inl (by rw [z]; exact H0D)
            refine ⟨accV, tD5.1, by omega, rfl, hlt, F5, _, acc ++ [d], accV ++ [v], _, r6, ⟨ev5.evo.trans e6 fun a z => .inr (by rw [z]; exact hD), fun a z => ev5.mine a (unF_mine vs z)⟩, ⟨upd_same, tD5.2.1, fun z => tD5.2.2 (unF_mine vs z)⟩, (Reps.mono ((gr.same.trans e4.evo.same).trans e5.evo.same) acc ra).app (.cons rv .nil), by rw [List.length_append]; simp; omega, eg⟩
  · have e : i = ds.length := by omega
    subst e
    rw [List.drop_length] at h
    unfold lcGo at h
    refine .inl ⟨w2, ?_⟩
    have h : Go K E H0 F0 io ms σ f1 F1 H1 (.ok (.lst acc, reD vs S1 S')) (PV K H (.o (.l .z)) Q) := h
    refine h F' H' f' (r1.rev no r' ev.evo.same) ev (.ref Dl) ⟨[Dl], OR.ofL tD.1 (by omega) ra, List.nodup_cons.mpr ⟨by simp, List.nodup_nil⟩, fun a z => ?_⟩
    rw [List.mem_singleton.mp z]
    exact ⟨tD.2.1, Classical.byContradiction fun z => e1.evo.liv Dl z hD, tD.2.2⟩
end
end TT
namespace TT
open PySem PySem.Spec PyProof.Rows L2
section
variable (K : PySem.W.Frag) (E : L2.St → XK)
def QGo {α : Type} (σ : L2.St) (F H : Hp) (r : Rz α) (P : α → Hp → Hp → Prop) : Prop := match r with
  | .ok x => ∀ F' H', Grow F H F' H' → P x F' H'
  | .ex c fs => ∀ cls Dd F' H', Grow F H F' H' → XR K H' c fs cls Dd → E σ cls Dd H'
  | .no => False
abbrev QX := List D → Rz D
def QA (ms : List Mo) (t : TA) (a : List D → Rz (List D)) : Prop :=
  ∀ (σ : L2.St) (H : Hp) (Q : List V → Hp → Prop) (H0 F0 : Hp) (io : IO) (F : Hp) (S : List D) (fps : List (List Addr)), Rel K H0 F0 io F H ms S σ fps → QGo K E σ F H (a S) (fun ds F' H' => ∀ vs, Reps K F' ds vs → Q vs H') → t σ H Q
end
def aQ {α : Type} (a : List D → Rz α) : List D → Rz (α × List D) := fun S => (a S).bind fun d => .ok (d, S)
def Mo.hide : Mo → Mo
  | .z => .z
  | _ => .u
def qHid {α : Type} (ms : List Mo) (a : List D → Rz (α × List D)) : List D → Rz α := fun S => (a (maskD (ms.map Mo.hide) S)).bind fun p => .ok p.1
def qBr (m : Mo) (a : E1) : QX := fun S => (a S).bind fun p => if clean m p.1 = true then .ok p.1 else .no
section
variable {K : PySem.W.Frag} {E : L2.St → XK} {H0 F0 F H B F1 H1 F' H' : Hp} {io : IO} {rm m : Mo} {mio msb ms ms1 ms' : List Mo} {S : List D} {σ : L2.St} {ta tb te t : TE} {a b : E1} {tt : TT} {x : EB} {i j : Nat} {α β : Type} {fps f1 : List (List Addr)} {qa qb : QX} {ts : TA} {qs : List D → Rz (List D)} {qx : List D → Rz Bool}
theorem Grow.tr {F2 H2 : Hp} (x : Grow F H F1 H1) (y : Grow F1 H1 F2 H2) : Grow F H F2 H2 := x.trans y fun _ z => z.elim
theorem QGo.base {r : Rz α} {P : α → Hp → Hp → Prop} (g : Grow F H F1 H1) (h : QGo K E σ F H r P) : QGo K E σ F1 H1 r P := by
  rcases r with x | ⟨c, fs⟩ | _
  · exact fun F' H' g' => h F' H' (g.tr g')
  · exact fun cls Dd F' H' g' => h cls Dd F' H' (g.tr g')
  · exact h
theorem QGo.bind {r : Rz α} {k : α → Rz β} {P : β → Hp → Hp → Prop} (h : QGo K E σ F H (r.bind k) P) : QGo K E σ F H r fun x F1 H1 => QGo K E σ F1 H1 (k x) P := by
  rcases r with x | ⟨c, fs⟩ | _
  · exact fun F' H' g => QGo.base g h
  · exact h
  · exact h
theorem QGo.opt {o : Option α} {S : List D} {k : α × List D → Rz β} {P : β → Hp → Hp → Prop} (h : QGo K E σ F H ((oR o S).bind k) P) : ∃ x, o = some x ∧ QGo K E σ F H (k (x, S)) P := by
  cases o with
  | none => exact h.elim
  | some x => exact ⟨x, rfl, h⟩
theorem QGo.done {x : α} {P : α → Hp → Hp → Prop} (h : QGo K E σ F H (.ok x) P) (k : Ok F H) : P x F H := h F H (Evo.refl k)
theorem QGo.iteB {c : Prop} [Decidable c] {r : Rz α} {P : α → Hp → Hp → Prop} (h : QGo K E σ F H (if c then r else .no) P) : c ∧ QGo K E σ F H r P := by
  split at h
  · exact ⟨by assumption, h⟩
  · exact h.elim
theorem QGo.imp {r : Rz α} {P P' : α → Hp → Hp → Prop} (h : QGo K E σ F H r P) (p : ∀ x F1 H1, Grow F H F1 H1 → P x F1 H1 → P' x F1 H1) : QGo K E σ F H r P' := by
  rcases r with x | ⟨c, fs⟩ | _
  · exact fun F' H' g => p x F' H' g (h F' H' g)
  · exact h
  · exact h
theorem QA.use {k : List D → Rz β} {P : β → Hp → Hp → Prop} {Q : List V → Hp → Prop} (s : QA K E ms ts qs) (r : Rel K H0 F0 io F H ms S σ fps) (h : QGo K E σ F H ((qs S).bind k) P) (q : ∀ d F1 H1 v, Grow F H F1 H1 → Reps K F1 d v → QGo K E σ F1 H1 (k d) P → Q v H1) : ts σ H Q :=
  s σ H Q H0 F0 io F S fps r (h.bind.imp fun d F1 H1 g p v vr => q d F1 H1 v g vr p)
theorem Evo.empty {A : Addr → Prop} (e : Evo A F H F' H') (n : ∀ b, ¬ A b) : Grow F H F' H' := e.wide fun b z => (n b z).elim
def qCons (a : QX) (as : List D → Rz (List D)) : List D → Rz (List D) := fun S => (a S).bind fun d => (as S).bind fun ds => .ok (d :: ds)
end
section
variable (K : PySem.W.Frag)
structure Foc (F H : Hp) (s : Sh) (d : D) (v : V) (fp : List Addr) (s' : Sh) (d' : D) (v' : V) (fp' : List Addr) (up : D → D) : Prop where
  sub : ∀ a ∈ fp', a ∈ fp
  nd : fp'.Nodup
  or : OR K F H s' d' v' fp'
  put : ∀ F' H' d2 g, Same F F' → (∀ a o, H a = some o → ((a ∈ fp ∧ a ∉ fp') ∨ ¬ NoTup o) → H' a = some o) → OR K F' H' s' d2 v' g → g.Nodup → (∀ a ∈ g, a ∈ fp' ∨ a ∉ fp) →
    ∃ h, OR K F' H' s (up d2) v h ∧ h.Nodup ∧ ∀ a ∈ h, a ∈ g ∨ (a ∈ fp ∧ a ∉ fp')
end
def setFD : List (Str × D) → Str → D → List (Str × D)
  | [], f, x => [(f, x)]
  | (g, y) :: r, f, x => if g = f then (g, x) :: r else (g, y) :: setFD r f x
section
variable {K : PySem.W.Frag} {F H F' H' : Hp} {s s1 s2 : Sh} {d d1 d2 : D} {v v1 v2 : V} {fp f1 f2 : List Addr} {up up1 : D → D}
theorem Foc.refl (o : OR K F H s d v fp) (nd : fp.Nodup) : Foc K F H s d v fp s d v fp id := ⟨fun _ z => z, nd, o, fun F' H' d2 g _ _ o' n _ => ⟨g, o', n, fun a z => .inl z⟩⟩
theorem Foc.trans (x : Foc K F H s d v fp s1 d1 v1 f1 up) (y : Foc K F H s1 d1 v1 f1 s2 d2 v2 f2 up1) : Foc K F H s d v fp s2 d2 v2 f2 (fun z => up (up1 z)) := by
  refine ⟨fun a z => x.sub a (y.sub a z), y.nd, y.or, fun F' H' d3 g sf k o n q => ?_⟩
  obtain ⟨h1, o1, n1, q1⟩ := y.put F' H' d3 g sf (fun a o e z => k a o e (z.imp (fun z => ⟨x.sub a z.1, z.2⟩) id)) o n (fun a z => (q a z).imp id fun w u => w (x.sub a u))
  obtain ⟨h2, o2, n2, q2⟩ := x.put F' H' (up1 d3) h1 sf (fun a o e z => k a o e (z.imp (fun z => ⟨z.1, fun u => z.2 (y.sub a u)⟩) id)) o1 n1 (fun a z => (q1 a z).elim (fun z => (q a z).imp (y.sub a) id) fun z => .inl z.1)
  exact ⟨h2, o2, n2, fun a z => (q2 a z).elim (fun z => (q1 a z).imp id fun z => ⟨x.sub a z.1, z.2⟩) fun z => .inr ⟨z.1, fun u => z.2 (y.sub a u)⟩⟩
theorem Foc.grow (x : Foc K F H s d v fp s1 d1 v1 f1 up) (g : Grow F H F' H') : Foc K F' H' s d v fp s1 d1 v1 f1 up :=
  ⟨x.sub, x.nd, x.or.mono _ g.same fun a o e _ => g.frm a o e id, fun F2 H2 d3 g' sf k o n q => x.put F2 H2 d3 g' (g.same.trans sf) (fun a o e z => k a o (g.frm a o e id) z) o n q⟩
theorem setFD_look : ∀ (gs : List (Str × D)) (f g : Str) (x : D), (setFD gs f x).lookup g = if g = f then some x else gs.lookup g
  | [], f, g, x => by
    unfold setFD
    rw [List.lookup_cons]
    by_cases z : g = f
    · subst z; simp
    · rw [if_neg z]
      have : (g == f) = false := by simpa using z
      rw [this]
  | (h, y) :: r, f, g, x => by
    unfold setFD
    by_cases z : h = f
    · subst z
      rw [if_pos rfl, List.lookup_cons, List.lookup_cons]
      by_cases w : g = h
      · subst w; simp
      · have : (g == h) = false := by simpa using w
        rw [this, if_neg w]
    · rw [if_neg z, List.lookup_cons, List.lookup_cons, setFD_look r]
      by_cases w : g = h
      · subst w; simp [z]
      · have : (g == h) = false := by simpa using w
        rw [this]
theorem ORf.other : ∀ (fs : List (Str × Sh)) {gs gs' : List (Str × D)} {ws ws' : List (Str × V)} {fp : List Addr}, ORf K F H fs gs ws fp → (∀ f, f ∈ fs.map (·.1) → gs'.lookup f = gs.lookup f ∧ ws'.lookup f = ws.lookup f) → ORf K F H fs gs' ws' fp
  | [], _, _, _, _, _, h, _ => by unfold ORf at h ⊢; exact h
  | (f, s) :: r, gs, gs', ws, ws', _, h, k => by
    unfold ORf at h ⊢
    obtain ⟨f1, f2, e, h1, h2⟩ := h
    have k0 := k f (by simp)
    refine ⟨f1, f2, e, ?_, ORf.other r h2 fun g m => k g (by simp at m ⊢; exact .inr m)⟩
    rw [k0.1, k0.2]
    exact h1
theorem AllO.len {P : D → V → List Addr → Prop} : ∀ {ds : List D} {vs : List V} {fp : List Addr}, AllO P ds vs fp → vs.length = ds.length
  | [], _, _, h => by unfold AllO at h; rw [h.1]; rfl
  | d :: ds, _, _, h => by
    unfold AllO at h
    obtain ⟨v, ws, f1, f2, rfl, rfl, h1, h2⟩ := h
    simp [AllO.len h2]
abbrev PL := List D → Rz (D × (D → D))
def SP (K : PySem.W.Frag) (E : L2.St → XK) (ms : List Mo) (i : Nat) (s' : Sh) (t : TE) (pl : PL) : Prop :=
  ∀ (σ : L2.St) (H : Hp) (Q : VK) (H0 F0 : Hp) (io : IO) (F : Hp) (S : List D) (fps : List (List Addr)), Rel K H0 F0 io F H ms S σ fps →
    QGo K E σ F H (pl S) (fun p F' H' => ∀ s d v f v' fp', ownAt ms i s → S[i]? = some d → σ[i]? = some (some v) → fps[i]? = some f → Foc K F' H' s d v f s' p.1 v' fp' p.2 → Q v' H') → t σ H Q
def plV (i : Nat) : PL := fun S => (oR S[i]? S).bind fun p => .ok (p.1, id)
def plF (c f : Str) (pl : PL) : PL := fun S => (pl S).bind fun p => match p.1 with
  | .obj c' gs => if c' = c then (oR (gs.lookup f) S).bind fun y => .ok (y.1, fun x => p.2 (.obj c (setFD gs f x))) else .no
  | _ => .no
def plI (pl : PL) (a : QX) : PL := fun S => (pl S).bind fun p => (a S).bind fun k => (oR k.int? S).bind fun k => match p.1 with
  | .lst ds => (oR (ixN ds.length k.1) S).bind fun j => (oR ds[j.1]? S).bind fun y => .ok (y.1, fun x => p.2 (.lst (ds.set j.1 x)))
  | _ => .no
section
variable {K : PySem.W.Frag} {E : L2.St → XK} {H0 F0 F H B F1 H1 F' H' : Hp} {io : IO} {rm m : Mo} {mio msb ms ms1 ms' : List Mo} {S : List D} {σ : L2.St} {ta tb te t : TE} {a b : E1} {tt : TT} {x : EB} {i j : Nat} {s s' : Sh} {α β : Type} {fps f1 : List (List Addr)} {qa qb : QX} {ts : TA} {qs : List D → Rz (List D)} {qx : List D → Rz Bool} {pl : PL}
theorem sp_var (h : ownAt ms i s) : SP K E ms i s (tVar i) (plV i) := fun σ H Q H0 F0 io F S fps rl g => by
  obtain ⟨d, v, f, e1, e2, e3, o, nd, q⟩ := rl.slot h
  obtain ⟨d', ed, g⟩ := QGo.opt (show QGo K E σ F H ((oR S[i]? S).bind _) _ from g)
  rw [e1] at ed
  cases ed
  exact ⟨v, e2, g.done rl.ok s d v f v f h e1 e2 e3 (Foc.refl o nd)⟩
theorem SP.use {k : D × (D → D) → Rz β} {P : β → Hp → Hp → Prop} {Q : VK} (s : SP K E ms i s' t pl) (r : Rel K H0 F0 io F H ms S σ fps) (h : QGo K E σ F H ((pl S).bind k) P)
    (q : ∀ p F1 H1 sh d v f v' fp', Grow F H F1 H1 → ownAt ms i sh → S[i]? = some d → σ[i]? = some (some v) → fps[i]? = some f → Foc K F1 H1 sh d v f s' p.1 v' fp' p.2 → QGo K E σ F1 H1 (k p) P → Q v' H1) : t σ H Q :=
  s σ H Q H0 F0 io F S fps r (h.bind.imp fun p F1 H1 g h sh d v f v' fp' a1 a2 a3 a4 a5 => q p F1 H1 sh d v f v' fp' g a1 a2 a3 a4 a5 h)
end
end
end TT
namespace TT
open PySem PySem.Spec PyProof.Rows L2
mutual
def keq : D → D → Bool
  | .int i, .int j => decide (i = j)
  | .str i, .str j => decide (i = j)
  | .tup a, .tup b => keqs a b
  | _, _ => false
def keqs : List D → List D → Bool
  | [], [] => true
  | a :: as, b :: bs => keq a b && keqs as bs
  | _, _ => false
end
def lookD (kvs : List (D × D)) (k : D) : Option D := (kvs.find? fun p => keq p.1 k).map (·.2)
def putD (kvs : List (D × D)) (k x : D) : List (D × D) := if (kvs.any fun p => keq p.1 k) = true then kvs.map (fun p => if keq p.1 k = true then (p.1, x) else p) else kvs ++ [(k, x)]
def dropD (kvs : List (D × D)) (k : D) : List (D × D) := kvs.filter fun p => !keq p.1 k
def D.key? : D → Option Key
  | .int i => some (.inl i)
  | .str s => some (.inr s)
  | _ => none
def keys? : List D → Option (List Key)
  | [] => some []
  | d :: ds => match d.key?, keys? ds with | some k, some ks => some (k :: ks) | _, _ => none
def isKey : Bool → D → Bool
  | false, d => d.key?.isSome
  | true, .tup ks => !ks.isEmpty && (keys? ks).isSome
  | _, _ => false
def dGet : D → D → Option D
  | .dct t kvs, k => if isKey t k = true then lookD kvs k else none
  | _, _ => none
def dHas : D → D → Option Bool
  | .dct t kvs, k => if isKey t k = true then some (lookD kvs k).isSome else none
  | _, _ => none
def dGetD : D → D → D → Option D
  | .dct t kvs, k, x => if isKey t k = true then some ((lookD kvs k).getD x) else none
  | _, _, _ => none
theorem keq_key (q r : Key) : keq (keyD q) (keyD r) = decide (q = r) := by
  cases q with
  | inl i =>
    cases r with
    | inl j =>
      show decide (i = j) = _
      by_cases z : i = j
      · subst z; simp
      · rw [decide_eq_false z, decide_eq_false (fun q => z (Sum.inl.inj q))]
    | inr j => rfl
  | inr i =>
    cases r with
    | inl j => rfl
    | inr j =>
      show decide (i = j) = _
      by_cases z : i = j
      · subst z; simp
      · rw [decide_eq_false z, decide_eq_false (fun q => z (Sum.inr.inj q))]
theorem keqs_key : ∀ q r : List Key, keqs (q.map keyD) (r.map keyD) = decide (q = r)
  | [], [] => by rfl
  | [], _ :: _ => by rfl
  | _ :: _, [] => by rfl
  | a :: q, b :: r => by
    rw [List.map_cons, List.map_cons]
    unfold keqs
    rw [keq_key, keqs_key q r]
    by_cases z : a = b
    · subst z
      by_cases w : q = r
      · subst w; simp
      · rw [decide_eq_false w, decide_eq_false (fun e => w (List.cons.inj e).2)]; simp
    · rw [decide_eq_false z, decide_eq_false (fun e => z (List.cons.inj e).1)]; rfl
theorem keq_keyT (q r : List Key) : keq (.tup (q.map keyD)) (.tup (r.map keyD)) = decide (q = r) := by
  unfold keq
  exact keqs_key q r
theorem key?_eq {d : D} {q : Key} (h : d.key? = some q) : d = keyD q := by
  cases d <;> first | (cases h; rfl) | cases h
theorem keys?_eq : ∀ {ds : List D} {qs : List Key}, keys? ds = some qs → ds = qs.map keyD
  | [], _, h => by cases h; rfl
  | d :: ds, _, h => by
    unfold keys? at h
    cases e : d.key? with
    | none => rw [e] at h; cases h
    | some k =>
      cases e2 : keys? ds with
      | none => rw [e, e2] at h; cases h
      | some ks =>
        rw [e, e2] at h
        cases h
        rw [key?_eq e, keys?_eq e2]
        rfl
section
variable {K : PySem.W.Frag} {F H : Hp}
theorem rep_keyV {q : Key} {y : V} (r : Rep K F (keyD q) y) : y = kV q := by
  cases q <;> (unfold keyD Rep at r; exact r)
theorem reps_keyV : ∀ {qs : List Key} {vs : List V}, Reps K F (qs.map keyD) vs → vs = qs.map kV
  | [], _, r => by unfold List.map Reps at r; exact r
  | q :: qs, _, r => by
    rw [List.map_cons] at r
    unfold Reps at r
    obtain ⟨v, ws, rfl, h1, h2⟩ := r
    rw [rep_keyV h1, reps_keyV h2]
    rfl
def RepG (K : PySem.W.Frag) (F : Hp) {κ : Type} (kd : κ → D) : List (D × D) → List (κ × V) → Prop
  | [], ws => ws = []
  | (k, d) :: r, ws => ∃ q v us, ws = (q, v) :: us ∧ k = kd q ∧ Rep K F d v ∧ RepG K F kd r us
theorem repK_g : ∀ {kvs : List (D × D)} {ws : List (Key × V)}, RepK K F kvs ws ↔ RepG K F keyD kvs ws
  | [], _ => by unfold RepK RepG; rfl
  | (k, d) :: r, _ => by
    unfold RepK RepG
    exact ⟨fun ⟨q, v, us, a, b, c, e⟩ => ⟨q, v, us, a, b, c, repK_g.mp e⟩, fun ⟨q, v, us, a, b, c, e⟩ => ⟨q, v, us, a, b, c, repK_g.mpr e⟩⟩
theorem repT_g : ∀ {kvs : List (D × D)} {ws : List (List Key × V)}, RepT K F kvs ws ↔ RepG K F (fun q => .tup (q.map keyD)) kvs ws
  | [], _ => by unfold RepT RepG; rfl
  | (k, d) :: r, _ => by
    unfold RepT RepG
    exact ⟨fun ⟨q, v, us, a, b, c, e⟩ => ⟨q, v, us, a, b, c, repT_g.mp e⟩, fun ⟨q, v, us, a, b, c, e⟩ => ⟨q, v, us, a, b, c, repT_g.mpr e⟩⟩
section
variable {κ : Type} [DecidableEq κ] {kd : κ → D}
theorem RepG.look (hk : ∀ q r, keq (kd q) (kd r) = decide (q = r)) : ∀ {kvs : List (D × D)} {ws : List (κ × V)} (q : κ), RepG K F kd kvs ws → (lookD kvs (kd q) = none → valV ws q = none) ∧ ∀ d, lookD kvs (kd q) = some d → ∃ v, valV ws q = some v ∧ Rep K F d v
  | [], _, q, h => by unfold RepG at h; subst h; exact ⟨fun _ => rfl, fun d e => by cases e⟩
  | (k, d) :: r, _, q, h => by
    unfold RepG at h
    obtain ⟨p, v, us, rfl, rfl, h1, h2⟩ := h
    have e : keq (kd p) (kd q) = decide (p = q) := hk p q
    unfold lookD
    rw [List.find?_cons]
    by_cases z : p = q
    · rw [decide_eq_true z] at e
      rw [e]
      exact ⟨(fun e => by cases e), fun d e => by cases e; exact ⟨v, valV_pos z, h1⟩⟩
    · rw [decide_eq_false z] at e
      rw [e]
      have w := RepG.look hk q h2
      rw [valV_neg (p := (p, v)) z]
      exact w
theorem RepG.any (hk : ∀ q r, keq (kd q) (kd r) = decide (q = r)) : ∀ {kvs : List (D × D)} {ws : List (κ × V)} (q : κ), RepG K F kd kvs ws → (kvs.any fun p => keq p.1 (kd q)) = ws.any fun p => decide (p.1 = q)
  | [], _, q, h => by unfold RepG at h; subst h; rfl
  | (k, d) :: r, _, q, h => by
    unfold RepG at h
    obtain ⟨p, v, us, rfl, rfl, h1, h2⟩ := h
    rw [List.any_cons, List.any_cons, RepG.any hk q h2, hk p q]
theorem RepG.mapP (hk : ∀ q r, keq (kd q) (kd r) = decide (q = r)) {x : D} {w : V} (rx : Rep K F x w) : ∀ {kvs : List (D × D)} {ws : List (κ × V)} (q : κ), RepG K F kd kvs ws → RepG K F kd (kvs.map fun p => if keq p.1 (kd q) = true then (p.1, x) else p) (ws.map fun p => if p.1 = q then (p.1, w) else p)
  | [], _, q, h => by unfold RepG at h; subst h; unfold List.map RepG; rfl
  | (k, d) :: r, _, q, h => by
    unfold RepG at h
    obtain ⟨p, v, us, rfl, rfl, h1, h2⟩ := h
    have ih := RepG.mapP hk rx q h2
    rw [List.map_cons, List.map_cons]
    by_cases z : p = q
    · rw [if_pos (by rw [hk]; exact decide_eq_true z), if_pos z]
      unfold RepG
      exact ⟨p, w, _, rfl, rfl, rx, ih⟩
    · rw [if_neg (by rw [hk, decide_eq_false z]; exact Bool.false_ne_true), if_neg z]
      unfold RepG
      exact ⟨p, v, _, rfl, rfl, h1, ih⟩
theorem RepG.snoc {x : D} {w : V} (rx : Rep K F x w) (q : κ) : ∀ {kvs : List (D × D)} {ws : List (κ × V)}, RepG K F kd kvs ws → RepG K F kd (kvs ++ [(kd q, x)]) (ws ++ [(q, w)])
  | [], _, h => by
    unfold RepG at h
    subst h
    rw [List.nil_append, List.nil_append]
    unfold RepG
    exact ⟨q, w, [], rfl, rfl, rx, by unfold RepG; rfl⟩
  | (k, d) :: r, _, h => by
    unfold RepG at h
    obtain ⟨p, v, us, rfl, rfl, h1, h2⟩ := h
    rw [List.cons_append, List.cons_append]
    unfold RepG
    exact ⟨p, v, _, rfl, rfl, h1, RepG.snoc rx q h2⟩
theorem RepG.put (hk : ∀ q r, keq (kd q) (kd r) = decide (q = r)) {x : D} {w : V} (rx : Rep K F x w) {kvs : List (D × D)} {ws : List (κ × V)} (q : κ) (h : RepG K F kd kvs ws) : RepG K F kd (putD kvs (kd q) x) (putK ws q w) := by
  unfold putD putK
  rw [RepG.any hk q h]
  split
  · exact RepG.mapP hk rx q h
  · exact RepG.snoc rx q h
theorem RepG.drop (hk : ∀ q r, keq (kd q) (kd r) = decide (q = r)) : ∀ {kvs : List (D × D)} {ws : List (κ × V)} (q : κ), RepG K F kd kvs ws → RepG K F kd (dropD kvs (kd q)) (dropK ws q)
  | [], _, q, h => by unfold RepG at h; subst h; unfold dropD dropK; rw [List.filter_nil, List.filter_nil]; unfold RepG; rfl
  | (k, d) :: r, _, q, h => by
    unfold RepG at h
    obtain ⟨p, v, us, rfl, rfl, h1, h2⟩ := h
    have ih := RepG.drop hk q h2
    unfold dropD dropK at ih ⊢
    rw [List.filter_cons, List.filter_cons]
    dsimp only
    rw [hk]
    by_cases z : p = q
    · subst z; simpa using ih
    · rw [decide_eq_false z, if_pos (show (!false) = true from rfl), if_pos (decide_eq_true z)]
      unfold RepG
      exact ⟨p, v, _, rfl, rfl, h1, ih⟩
theorem RepG.mono {G : Hp} (sf : Same F G) : ∀ {kvs : List (D × D)} {ws : List (κ × V)}, RepG K F kd kvs ws → RepG K G kd kvs ws
  | [], _, h => by unfold RepG at h ⊢; exact h
  | (k, d) :: r, _, h => by
    unfold RepG at h ⊢
    obtain ⟨p, v, us, e1, e2, h1, h2⟩ := h
    exact ⟨p, v, us, e1, e2, Rep.mono sf _ h1, RepG.mono sf h2⟩
theorem RepG.len : ∀ {kvs : List (D × D)} {ws : List (κ × V)}, RepG K F kd kvs ws → ws.length = kvs.length
  | [], _, h => by unfold RepG at h; subst h; rfl
  | (k, d) :: r, _, h => by
    unfold RepG at h
    obtain ⟨p, v, us, rfl, rfl, h1, h2⟩ := h
    simp [RepG.len h2]
end
theorem dget_at {d k : D} {a : Addr} {y : V} {t : Bool} {kvs : List (D × D)} (s : Ok F H) (hd : (t = false ∧ ∃ ws, Rd H a (.dK ws) ∧ RepG K F keyD kvs ws) ∨ (t = true ∧ ∃ ws, Rd H a (.dT ws) ∧ RepG K F (fun q => .tup (q.map keyD)) kvs ws)) (rk : Rep K F k y) (e : isKey t k = true) :
    (lookD kvs k = none → DGet H a y none) ∧ ∀ x, lookD kvs k = some x → ∃ v, DGet H a y (some v) ∧ Rep K F x v := by
  rcases hd with ⟨rfl, ws, h1, r1⟩ | ⟨rfl, ws, h1, r1⟩
  · unfold isKey at e
    obtain ⟨q, eq⟩ := Option.isSome_iff_exists.mp e
    have ek := key?_eq eq
    subst ek
    obtain ⟨l1, l2⟩ := r1.look keq_key q
    exact ⟨fun z => .inl ⟨ws, q, h1, rep_keyV rk, (l1 z).symm⟩, fun x z => let ⟨v, ev, rv⟩ := l2 x z; ⟨v, .inl ⟨ws, q, h1, rep_keyV rk, ev.symm⟩, rv⟩⟩
  · cases k with
    | tup ks =>
      unfold isKey at e
      rw [Bool.and_eq_true] at e
      obtain ⟨qs, eq⟩ := Option.isSome_iff_exists.mp e.2
      have ek := keys?_eq eq
      subst ek
      obtain ⟨l1, l2⟩ := r1.look keq_keyT qs
      unfold Rep at rk
      obtain ⟨b, vs, rfl, hb, _, rv⟩ := rk
      have hb' : H b = some (.tup (qs.map kV)) := by
        rw [← reps_keyV rv]
        rcases hb with hb | hb
        · exact s.sub _ _ hb
        · rw [hb.1] at rv
          have := rv.nilD
          rw [this] at e
          simp at e
      exact ⟨fun z => .inr ⟨ws, qs, b, h1, rfl, hb', (l1 z).symm⟩, fun x z => let ⟨v, ev, rv⟩ := l2 x z; ⟨v, .inr ⟨ws, qs, b, h1, rfl, hb', ev.symm⟩, rv⟩⟩
    | _ => cases e
theorem Rep.dct {t : Bool} {kvs : List (D × D)} {v : V} (r : Rep K F (.dct t kvs) v) (s : Same F H) : ∃ a, v = .ref a ∧ ((t = false ∧ ∃ ws, Rd H a (.dK ws) ∧ RepG K F keyD kvs ws) ∨ (t = true ∧ ∃ ws, Rd H a (.dT ws) ∧ RepG K F (fun q => .tup (q.map keyD)) kvs ws)) := by
  cases t with
  | false =>
    unfold Rep at r
    obtain ⟨a, ws, rfl, h1, h2⟩ := r
    exact ⟨a, rfl, .inl ⟨rfl, ws, rd_up h1 s, repK_g.mp h2⟩⟩
  | true =>
    unfold Rep at r
    obtain ⟨a, ws, rfl, h1, h2⟩ := r
    exact ⟨a, rfl, .inr ⟨rfl, ws, rd_up h1 s, repT_g.mp h2⟩⟩
def Sh.dct : Sh → Option Bool
  | .k .z => some false
  | .t .z => some true
  | _ => none
theorem allK_z {kvs : List (D × D)} {ws : List (Key × V)} {fp : List Addr} (h : AllK (OR K F H .z) kvs ws fp) : fp = [] ∧ RepG K F keyD kvs ws := by
  induction kvs generalizing ws fp with
  | nil => obtain ⟨rfl, rfl⟩ := h; exact ⟨rfl, by unfold RepG; rfl⟩
  | cons p kvs ih =>
    obtain ⟨k, d⟩ := p
    unfold AllK at h
    obtain ⟨q, v, us, f1, f2, rfl, rfl, ek, h1, h2⟩ := h
    unfold OR at h1
    obtain ⟨rfl, r2⟩ := ih h2
    obtain ⟨rfl, r1⟩ := h1
    exact ⟨rfl, by unfold RepG; exact ⟨q, v, us, rfl, ek, r1, r2⟩⟩
theorem allT_z {kvs : List (D × D)} {ws : List (List Key × V)} {fp : List Addr} (h : AllT (OR K F H .z) kvs ws fp) : fp = [] ∧ RepG K F (fun q => .tup (q.map keyD)) kvs ws := by
  induction kvs generalizing ws fp with
  | nil => obtain ⟨rfl, rfl⟩ := h; exact ⟨rfl, by unfold RepG; rfl⟩
  | cons p kvs ih =>
    obtain ⟨k, d⟩ := p
    unfold AllT at h
    obtain ⟨q, v, us, f1, f2, rfl, rfl, ek, h1, h2⟩ := h
    unfold OR at h1
    obtain ⟨rfl, r2⟩ := ih h2
    obtain ⟨rfl, r1⟩ := h1
    exact ⟨rfl, by unfold RepG; exact ⟨q, v, us, rfl, ek, r1, r2⟩⟩
theorem z_allK : ∀ {kvs : List (D × D)} {ws : List (Key × V)}, RepG K F keyD kvs ws → AllK (OR K F H .z) kvs ws []
  | [], _, h => by unfold RepG at h; subst h; exact ⟨rfl, rfl⟩
  | (k, d) :: r, _, h => by
    unfold RepG at h
    obtain ⟨q, v, us, rfl, ek, h1, h2⟩ := h
    unfold AllK
    exact ⟨q, v, us, [], [], rfl, rfl, ek, by unfold OR; exact ⟨rfl, h1⟩, z_allK h2⟩
theorem z_allT : ∀ {kvs : List (D × D)} {ws : List (List Key × V)}, RepG K F (fun q => .tup (q.map keyD)) kvs ws → AllT (OR K F H .z) kvs ws []
  | [], _, h => by unfold RepG at h; subst h; exact ⟨rfl, rfl⟩
  | (k, d) :: r, _, h => by
    unfold RepG at h
    obtain ⟨q, v, us, rfl, ek, h1, h2⟩ := h
    unfold AllT
    exact ⟨q, v, us, [], [], rfl, rfl, ek, by unfold OR; exact ⟨rfl, h1⟩, z_allT h2⟩
theorem OR.dct {s : Sh} {t : Bool} {d : D} {v : V} {fp : List Addr} (o : OR K F H s d v fp) (e : s.dct = some t) : ∃ kvs a, d = .dct t kvs ∧ v = .ref a ∧ fp = [a] ∧
    ((t = false ∧ ∃ ws, H a = some (.dK ws) ∧ RepG K F keyD kvs ws) ∨ (t = true ∧ ∃ ws, H a = some (.dT ws) ∧ RepG K F (fun q => .tup (q.map keyD)) kvs ws)) := by
  unfold Sh.dct at e
  split at e
  · cases e
    unfold OR at o
    obtain ⟨kvs, a, ws, fq, rfl, rfl, rfl, h1, h2⟩ := o
    obtain ⟨rfl, r⟩ := allK_z h2
    exact ⟨kvs, a, rfl, rfl, rfl, .inl ⟨rfl, ws, h1, r⟩⟩
  · cases e
    unfold OR at o
    obtain ⟨kvs, a, ws, fq, rfl, rfl, rfl, h1, h2⟩ := o
    obtain ⟨rfl, r⟩ := allT_z h2
    exact ⟨kvs, a, rfl, rfl, rfl, .inr ⟨rfl, ws, h1, r⟩⟩
  · cases e
theorem OR.ofK {kvs : List (D × D)} {a : Addr} {ws : List (Key × V)} (h : H a = some (.dK ws)) (r : RepG K F keyD kvs ws) : OR K F H (.k .z) (.dct false kvs) (.ref a) [a] := by
  unfold OR
  exact ⟨kvs, a, ws, [], rfl, rfl, rfl, h, z_allK r⟩
theorem OR.ofT {kvs : List (D × D)} {a : Addr} {ws : List (List Key × V)} (h : H a = some (.dT ws)) (r : RepG K F (fun q => .tup (q.map keyD)) kvs ws) : OR K F H (.t .z) (.dct true kvs) (.ref a) [a] := by
  unfold OR
  exact ⟨kvs, a, ws, [], rfl, rfl, rfl, h, z_allT r⟩
end
end TT
namespace TT
open PySem PySem.Spec PyProof.Rows L2
section
variable {K : PySem.W.Frag} {E : L2.St → XK} {XE : XK} {H0 F0 F H B F1 H1 F' H' : Hp} {io : IO} {rm m : Mo} {mio msb ms ms1 ms' : List Mo} {S : List D} {σ : L2.St} {ta tb te t tk tv : TE} {a b : E1} {tt : TT} {x : EB} {i j : Nat} {s s' c : Sh} {α β : Type} {fps f1 : List (List Addr)} {qa qb qk : QX} {ts : TA} {qs : List D → Rz (List D)} {qx : List D → Rz Bool} {pl : PL} {C n : Str}
theorem qgo_k {r : Rz α} {k : α → Rz (β × List D)} {P : β → List D → List (List Addr) → Hp → Hp → Prop} (h : Go K E H0 F0 io ms σ fps F H (r.bind k) P) : QGo K E σ F H r fun p F1 H1 => Go K E H0 F0 io ms σ fps F1 H1 (k p) P := by
  rcases r with p | ⟨c, fs⟩ | _
  · exact fun F' H' g => Go.base (Ev.grow g) h
  · exact fun cls Dd F' H' g x => h cls Dd F' H' (g.wide fun _ z => z.elim) x
  · exact h
theorem qgo_s {En : Ends} {r : Rz α} {k : α → Rz Out} (rl : Rel K H0 F0 io F H ms S σ fps) (h : GoS K E H0 F0 io rm mio ms' msb En F (r.bind k)) : QGo K E σ F H r fun p F1 H1 => GoS K E H0 F0 io rm mio ms' msb En F1 (k p) := by
  rcases r with p | ⟨c, fs⟩ | _
  · exact fun F' H' g => h.base g.same
  · exact fun cls Dd F' H' g x => h σ cls Dd F' H' (rl.evoX (g.wide fun _ z => z.elim)) x
  · exact h
theorem SP.go {k : D × (D → D) → Rz (β × List D)} {P : β → List D → List (List Addr) → Hp → Hp → Prop} {Q : VK} (s : SP K E ms i s' t pl) (r : Rel K H0 F0 io F H ms S σ fps) (h : Go K E H0 F0 io ms σ fps F H ((pl S).bind k) P)
    (q : ∀ p F1 H1 sh d v f v' fp', Grow F H F1 H1 → ownAt ms i sh → S[i]? = some d → σ[i]? = some (some v) → fps[i]? = some f → Foc K F1 H1 sh d v f s' p.1 v' fp' p.2 → Go K E H0 F0 io ms σ fps F1 H1 (k p) P → Q v' H1) : t σ H Q :=
  s σ H Q H0 F0 io F S fps r ((qgo_k h).imp fun p F1 H1 g h sh d v f v' fp' a1 a2 a3 a4 a5 => q p F1 H1 sh d v f v' fp' g a1 a2 a3 a4 a5 h)
theorem QA.go {k : List D → Rz (β × List D)} {P : β → List D → List (List Addr) → Hp → Hp → Prop} {Q : List V → Hp → Prop} (s : QA K E ms ts qs) (r : Rel K H0 F0 io F H ms S σ fps) (h : Go K E H0 F0 io ms σ fps F H ((qs S).bind k) P)
    (q : ∀ d F1 H1 v, Grow F H F1 H1 → Reps K F1 d v → Go K E H0 F0 io ms σ fps F1 H1 (k d) P → Q v H1) : ts σ H Q :=
  s σ H Q H0 F0 io F S fps r ((qgo_k h).imp fun d F1 H1 g h v vr => q d F1 H1 v g vr h)
theorem SP.st {En : Ends} {k : D × (D → D) → Rz Out} {Q : VK} (s : SP K E ms i s' t pl) (r : Rel K H0 F0 io F H ms S σ fps) (h : GoS K E H0 F0 io rm mio ms' msb En F ((pl S).bind k))
    (q : ∀ p F1 H1 sh d v f v' fp', Grow F H F1 H1 → ownAt ms i sh → S[i]? = some d → σ[i]? = some (some v) → fps[i]? = some f → Foc K F1 H1 sh d v f s' p.1 v' fp' p.2 → GoS K E H0 F0 io rm mio ms' msb En F1 (k p) → Q v' H1) : t σ H Q :=
  s σ H Q H0 F0 io F S fps r ((qgo_s r h).imp fun p F1 H1 g h sh d v f v' fp' a1 a2 a3 a4 a5 => q p F1 H1 sh d v f v' fp' g a1 a2 a3 a4 a5 h)
theorem AllO.snoc {P : D → V → List Addr → Prop} {y : D} {w : V} {f : List Addr} (hp : P y w f) : ∀ {ds : List D} {vs : List V} {fp : List Addr}, AllO P ds vs fp → AllO P (ds ++ [y]) (vs ++ [w]) (fp ++ f)
  | [], _, _, h => by
    unfold AllO at h
    obtain ⟨rfl, rfl⟩ := h
    exact ⟨w, [], f, [], rfl, by simp, hp, rfl, rfl⟩
  | d :: ds, _, _, h => by
    unfold AllO at h
    obtain ⟨v, ws, f1, f2, rfl, rfl, h1, h2⟩ := h
    exact ⟨v, ws ++ [w], f1, f2 ++ f, rfl, by rw [List.append_assoc], h1, AllO.snoc hp h2⟩
theorem OR.lst {d : D} {v : V} {fp : List Addr} (o : OR K F H (.l c) d v fp) : ∃ ds p vs fq, d = .lst ds ∧ v = .ref p ∧ fp = p :: fq ∧ H p = some (.lst vs) ∧ vs.length ≤ sizeLine ∧ AllO (OR K F H c) ds vs fq := by
  unfold OR at o; exact o
def aAppP (i : Nat) (pl : PL) (a : QX) : E1 := fun S => (pl S).bind fun p => (a S).bind fun y => match p.1 with
  | .lst l => if l.length < sizeLine then .ok (.non, S.set i (p.2 (.lst (l ++ [y])))) else .no
  | _ => .no
theorem Rel.noF (r : Rel K H0 F0 io F H ms S σ fps) (h : ownAt ms i s) {f : List Addr} {p : Addr} (e : fps[i]? = some f) (m : p ∈ f) : F p = none := by
  obtain ⟨_, _, f0, _, _, g3, _, _, q0⟩ := r.slot h
  rw [e] at g3; cases g3
  exact (q0 p m).1
def aPopP (i : Nat) (pl : PL) : E1 := fun S => (pl S).bind fun p => match p.1 with
  | .lst l => (oR l[l.length - 1]? S).bind fun y => .ok (y.1, S.set i (p.2 (.lst l.dropLast)))
  | _ => .no
def aExtP (i : Nat) (pl : PL) (a : QX) : E1 := fun S => (pl S).bind fun p => (a S).bind fun y => match p.1, y with
  | .lst l, .lst l2 => if l.length + l2.length ≤ sizeLine then .ok (.non, S.set i (p.2 (.lst (l ++ l2)))) else .no
  | _, _ => .no
def aSetP (i : Nat) (pl : PL) (v : E1) (a : QX) : S1 := fun S => (v S).bind fun w => (pl w.2).bind fun p => (a w.2).bind fun k => (oR k.int? w.2).bind fun k => match p.1 with
  | .lst l => (oR (ixN l.length k.1) w.2).bind fun j => .ok (.nx (w.2.set i (p.2 (.lst (l.set j.1 w.1)))))
  | _ => .no
def aAugP (i : Nat) (pl : PL) (a : QX) (f : D → D → Option D) (v : QX) : S1 := fun S => (pl S).bind fun p => (a S).bind fun k => (oR k.int? S).bind fun k => match p.1 with
  | .lst l => (oR (ixN l.length k.1) S).bind fun j => (oR l[j.1]? S).bind fun x => (v S).bind fun y => (oR (f x.1 y) S).bind fun z => .ok (.nx (S.set i (p.2 (.lst (l.set j.1 z.1)))))
  | _ => .no
end
end TT
namespace TT
open PySem PySem.Spec PyProof.Rows L2
section
variable {K : PySem.W.Frag} {E : L2.St → XK} {XE : XK} {H0 F0 F H B F1 H1 F' H' : Hp} {io : IO} {rm m : Mo} {mio msb ms ms1 ms' : List Mo} {S : List D} {σ : L2.St} {ta tb te t tk tv td : TE} {a b : E1} {tt : TT} {x : EB} {i j : Nat} {s s' c : Sh} {α β : Type} {fps f1 : List (List Addr)} {qa qb qk : QX} {ts : TA} {qs : List D → Rz (List D)} {qx : List D → Rz Bool} {pl : PL} {C n : Str}
theorem dct_is {d : D} {f : D → D → Option α} {k : D} {y : α} (hf : ∀ d k, (∀ t kvs, d ≠ .dct t kvs) → f d k = none) (e : f d k = some y) : ∃ t kvs, d = .dct t kvs := by
  cases d with
  | dct t kvs => exact ⟨t, kvs, rfl⟩
  | _ => rw [hf _ _ (fun _ _ z => by cases z)] at e; cases e
theorem dGet_dct {t : Bool} {kvs : List (D × D)} {k y : D} (e : dGet (.dct t kvs) k = some y) : isKey t k = true ∧ lookD kvs k = some y := by
  unfold dGet at e
  dsimp only at e
  split at e
  · exact ⟨by assumption, e⟩
  · cases e
theorem se_dget (hd : SE K E ms .z td a) (hk : SE K E ms .z tk b) : SE K E ms .z (tDGet td tk) (aBin dGet a b) := fun σ H Q H0 F0 io F S fps rl g =>
  hd.use rl g fun d F1 f1 F1 H1 v r1 e1 v1 g => hk.use r1 g fun k S2 f2 F2 H2 w r2 e2 v2 g => by
    obtain ⟨y, ey, g'⟩ := g.opt0
    clear g
    obtain ⟨t, kvs, rfl⟩ := dct_is (fun d k z => by cases d <;> first | rfl | exact (z _ _ rfl).elim) ey
    obtain ⟨ek, el⟩ := dGet_dct ey
    obtain ⟨a, rfl, hh⟩ := (Rep.mono e2.evo.same _ (show Rep K _ (.dct t kvs) v from v1)).dct r2.sub
    obtain ⟨u, hu, ru⟩ := (dget_at (d := .non) r2.ok hh v2 ek).2 y el
    exact ⟨a, u, rfl, hu, g'.done r2 u ru⟩
def D.isDct : D → Bool
  | .dct _ _ => true
  | _ => false
def aDGetD (a b c : E1) : E1 := fun S => (a S).bind fun p => if p.1.isDct = true then (b p.2).bind fun q => (c q.2).bind fun r => oR (dGetD p.1 q.1 r.1) r.2 else .no
def qDGet (pl : PL) (k : QX) : QX := fun S => (pl S).bind fun p => (k S).bind fun q => (oR (dGet p.1 q) S).bind fun y => .ok y.1
def qDIn (ng : Bool) (k : QX) (pl : PL) : QX := fun S => (k S).bind fun q => (pl S).bind fun p => (oR (dHas p.1 q) S).bind fun y => .ok (.bl (ng != y.1))
def qDGetD (pl : PL) (k x : QX) : QX := fun S => (pl S).bind fun p => (k S).bind fun q => (x S).bind fun r => (oR (dGetD p.1 q r) S).bind fun y => .ok y.1
def dPut : D → D → D → Option D
  | .dct t kvs, k, x => if isKey t k = true ∧ kvs.length < sizeLine then some (.dct t (putD kvs k x)) else none
  | _, _, _ => none
def dDel : D → D → Option D
  | .dct false kvs, k => if isKey false k = true ∧ (lookD kvs k).isSome = true then some (.dct false (dropD kvs k)) else none
  | _, _ => none
theorem nodup1 {p : Addr} : [p].Nodup := List.nodup_cons.mpr ⟨by simp, List.nodup_nil⟩
def aDPut (i : Nat) (v : E1) (pl : PL) (k : QX) : S1 := fun S => (v S).bind fun w => (pl w.2).bind fun p => (k w.2).bind fun q => (oR (dPut p.1 q w.1) w.2).bind fun z => .ok (.nx (w.2.set i (p.2 z.1)))
def aDDel (i : Nat) (pl : PL) (k : QX) : S1 := fun S => (pl S).bind fun p => (k S).bind fun q => (oR (dDel p.1 q) S).bind fun z => .ok (.nx (S.set i (p.2 z.1)))
def aSetd (i : Nat) (pl : PL) (k x : QX) : E1 := fun S => (pl S).bind fun p => (k S).bind fun q => (x S).bind fun y => match p.1 with
  | .dct false kvs => if isKey false q = true ∧ kvs.length < sizeLine then match lookD kvs q with
    | some u => .ok (u, S)
    | none => .ok (y, S.set i (p.2 (.dct false (putD kvs q y)))) else .no
  | _ => .no
def aDNew (t : Bool) : E1 := fun S => .ok (.dct t [], S)
def qPl (pl : PL) : QX := fun S => (pl S).bind fun p => .ok p.1
end
end TT
namespace TT
open PySem PySem.Spec PyProof.Rows L2
section
variable {K : PySem.W.Frag} {E : L2.St → XK} {XE : XK} {H0 F0 F H B F1 H1 F' H' : Hp} {io : IO} {rm m : Mo} {mio msb ms ms1 ms' : List Mo} {S : List D} {σ : L2.St} {ta tb te t tk tv td : TE} {a b : E1} {tt : TT} {x : EB} {i j : Nat} {s s' c : Sh} {α β : Type} {fps f1 : List (List Addr)} {qa qb qk : QX} {ts : TA} {as : EA} {qs : List D → Rz (List D)} {qx : List D → Rz Bool} {pl : PL} {C n : Str}
def aRaise0 (C : Str) : S1 := fun _ => .ex C []
theorem ss_raise0 : SS K (fun _ => XE) rm mio msb ms ms' (tRaise (fun cls d _ H => XE cls d H) (tR0 (He.ga K C))) (aRaise0 C) := fun σ H En H0 F0 io F S fps r g => g σ (.ref (He.ga K C)) none F H r.evo ⟨rfl, .inl ⟨rfl, rfl⟩⟩
theorem upd_del {o o' u w : HO} {a d : Addr} {H : Hp} (ha : H a = none) (ne : d ≠ a) : upd (del (upd (upd (upd H a o) d u) a o') a) d w = upd H d w := by
  funext b
  by_cases z : b = d
  · subst z; rw [upd_same, upd_same]
  · rw [upd_ne z, upd_ne z]
    unfold del
    by_cases y : b = a
    · subst y; rw [if_pos rfl, ha]
    · rw [if_neg y, upd_ne y, upd_ne z, upd_ne y]
theorem oex1 {C : Addr} {f : Str} {v : V} {H : Hp} {Q : XK} (q : ∀ d, H d = none → Q (.ref C) (some d) (upd H d (.xd [(f, v)]))) : rOex C (spI1 C f) [v] H Q := by
  refine ⟨by show 1 ≤ 1000; decide, fun a ha => ⟨a, v, rfl, upd_same, fun dx hd ne => ⟨rfl, dx, [(f, v)], upd_same, by rw [upd_ne ne, upd_same], ?_, ?_⟩⟩⟩
  · rw [upd_ne ne] at hd
    exact hd
  · rw [upd_ne ne] at hd
    rw [upd_del ha ne]
    exact q dx hd
def aRaise1 (C f : Str) (as : EA) : S1 := fun S => (as S).bind fun p => match p.1 with
  | [d] => if d.imm = true then .ex C [(f, d)] else .no
  | _ => .no
def aRaise2 (C f g : Str) (as : EA) : S1 := fun S => (as S).bind fun p => match p.1 with
  | [d, e] => if d.imm = true ∧ e.imm = true then .ex C [(f, d), (g, e)] else .no
  | _ => .no
theorem nt_xd {xs : List (Str × V)} : NoTup (.xd xs) := fun ys => ⟨(by intro z; cases z), fun q z => by cases z⟩
theorem SA.stm {k : List D × List D → Rz Out} {En : Ends} {Q : List V → Hp → Prop} (ha : SA K E ms ts as) (r : Rel K H0 F0 io F H ms S σ fps) (h : GoS K E H0 F0 io rm mio ms' msb En F ((as S).bind k))
    (q : ∀ d S1 f1 F1 H1 v, Rel K H0 F0 io F1 H1 ms S1 σ f1 → Ev fps f1 F H F1 H1 → Reps K F1 d v → GoS K E H0 F0 io rm mio ms' msb En F1 (k (d, S1)) → Q v H1) : ts σ H Q := by
  refine ha σ H Q H0 F0 io F S fps r ?_
  generalize as S = z at h ⊢
  rcases z with ⟨d, S'⟩ | ⟨c, fs⟩ | _
  · exact fun F' H' f' r' e' v vr => q d S' f' F' H' v r' e' vr (h.base e'.evo.same)
  · exact fun cls Dd F' H' e' x => h σ cls Dd F' H' (r.evoX e') x
  · exact h
theorem repf1 {f : Str} {d : D} {v : V} {G : Hp} (r : Rep K G d v) : RepF K G [(f, d)] [(f, v)] := by
  unfold RepF
  exact ⟨⟨v, by simp [List.lookup], r⟩, by unfold RepF; trivial⟩
theorem ss_raise1 (hs : SA K (fun _ => XE) ms ts as) : SS K (fun _ => XE) rm mio msb ms ms' (tRaise (fun cls d _ H => XE cls d H) (tOex (He.ga K C) (spI1 (He.ga K C) n) ts)) (aRaise1 C n as) := fun σ H En H0 F0 io F S fps r g =>
  hs.stm r g fun ds S1 f1 F1 H1 vs r1 e1 v1 g => by
    dsimp only at g
    split at g
    · rename_i d
      obtain ⟨v, rfl, rv⟩ := v1.one
      split at g
      · rename_i im
        refine oex1 fun dd hd => ?_
        have gr : Grow F1 H1 F1 (upd H1 dd (.xd [(n, v)])) := Grow.own r1.ok hd nt_xd
        exact g σ _ _ F1 _ ((r1.grow gr).evo) ⟨rfl, .inr ⟨dd, _, rfl, upd_same, repf1 (Rep.mono (fun a o e => by
          have := tups_sub a o e
          refine (show tups (upd H1 dd (.xd [(n, v)])) a = some o from ?_)
          have e1 := r1.sub a o this
          have ne : a ≠ dd := fun z => by rw [z, hd] at e1; cases e1
          have e2 : tups H1 a = some o := by
            unfold tups at e ⊢
            rw [this] at e
            rw [e1]
            exact e
          unfold tups at e2 ⊢
          rw [upd_ne ne]
          exact e2) _ (Rep.imm d rv im))⟩⟩
      · exact g.elim
    · exact g.elim
def aFldP (i : Nat) (f : Str) (v : E1) (c : Str) (pl : PL) : S1 := fun S => (v S).bind fun w => (pl w.2).bind fun p => match p.1 with
  | .obj c' gs => if c' = c ∧ gs.length < 1000 then .ok (.nx (w.2.set i (p.2 (.obj c (setFD gs f w.1))))) else .no
  | _ => .no
def shM (s : Option Sh) : Mo := match s with
  | some s => .o s
  | none => .z
theorem setFD_nodup : ∀ (gs : List (Str × D)) (f : Str) (x : D), (gs.map (·.1)).Nodup → ((setFD gs f x).map (·.1)).Nodup ∧ (setFD gs f x).length ≤ gs.length + 1 ∧ ∀ g ∈ (setFD gs f x).map (·.1), g = f ∨ g ∈ gs.map (·.1)
  | [], f, x, _ => by unfold setFD; simp
  | (g, y) :: r, f, x, nd => by
    unfold setFD
    by_cases z : g = f
    · rw [if_pos z]
      exact ⟨by simpa using nd, by simp, fun h m => .inr (by simpa using m)⟩
    · rw [if_neg z]
      rw [List.map_cons, List.nodup_cons] at nd
      obtain ⟨h1, h2, h3⟩ := setFD_nodup r f x nd.2
      refine ⟨?_, by simp; omega, fun h m => ?_⟩
      · rw [List.map_cons, List.nodup_cons]
        exact ⟨fun m => (h3 g m).elim z nd.1, h1⟩
      · rw [List.map_cons, List.mem_cons] at m ⊢
        rcases m with m | m
        · exact .inr (.inl m)
        · exact (h3 h m).imp id .inr
theorem setFD_lenV : ∀ (gs : List (Str × D)) (ws : List (Str × V)) (f : Str) (x : D) (v : V), ws.length ≤ gs.length → (gs.lookup f = none → ws.lookup f = none) → (∀ y, gs.lookup f = some y → ∃ u, ws.lookup f = some u) → (putF f v ws).length ≤ (setFD gs f x).length := by
  intro gs ws f x v l h1 h2
  have p1 : ∀ ws : List (Str × V), (putF f v ws).length = if (ws.lookup f).isSome then ws.length else ws.length + 1 := fun ws => by
    induction ws with
    | nil => rfl
    | cons p r ih =>
      obtain ⟨g, y⟩ := p
      unfold putF
      rw [List.lookup_cons]
      by_cases z : g = f
      · subst z; simp
      · have : (f == g) = false := by simpa using fun q => z q.symm
        rw [if_neg z, this, List.length_cons, ih]
        dsimp only
        split <;> simp
  have p2 : ∀ gs : List (Str × D), (setFD gs f x).length = if (gs.lookup f).isSome then gs.length else gs.length + 1 := fun gs => by
    induction gs with
    | nil => rfl
    | cons p r ih =>
      obtain ⟨g, y⟩ := p
      unfold setFD
      rw [List.lookup_cons]
      by_cases z : g = f
      · subst z; simp
      · have : (f == g) = false := by simpa using fun q => z q.symm
        rw [if_neg z, this, List.length_cons, ih]
        dsimp only
        split <;> simp
  rw [p1, p2]
  cases e : gs.lookup f with
  | none => rw [h1 e]; simp; exact l
  | some y =>
    obtain ⟨u, eu⟩ := h2 y e
    rw [eu]; simp; exact l
theorem ORf.set : ∀ (fs : List (Str × Sh)) {gs : List (Str × D)} {ws : List (Str × V)} {fp g : List Addr} {f : Str} {x : D} {v : V}, (fs.map (·.1)).Nodup → ORf K F H fs gs ws fp → fp.Nodup → (∀ s, fs.lookup f = some s → OR K F H s x v g) → (fs.lookup f = none → g = []) → g.Nodup → (∀ a ∈ g, a ∉ fp) →
    ∃ h, ORf K F H fs (setFD gs f x) (putF f v ws) h ∧ h.Nodup ∧ ∀ a ∈ h, a ∈ g ∨ a ∈ fp
  | [], _, _, fp, _, _, _, _, _, h, _, _, _, _, _ => ⟨[], by unfold ORf; rfl, List.nodup_nil, fun _ z => by cases z⟩
  | (g0, s0) :: r, gs, ws, fp, g, f, x, v, nf, h, nd, ho, hn, ng, dg => by
    unfold ORf at h
    obtain ⟨f1, f2, e1, h1, h2⟩ := h
    subst e1
    obtain ⟨nd1, nd2, dj⟩ := List.nodup_append.mp nd
    rw [List.map_cons, List.nodup_cons] at nf
    by_cases z : f = g0
    · subst z
      have e : ((f, s0) :: r).lookup f = some s0 := by simp [List.lookup]
      refine ⟨g ++ f2, ?_, List.nodup_append.mpr ⟨ng, nd2, fun b mb c mc y => dg b mb (List.mem_append_right _ (y ▸ mc))⟩, fun b m => (List.mem_append.mp m).imp id (List.mem_append_right _)⟩
      unfold ORf
      refine ⟨g, f2, rfl, .inr ⟨x, v, by rw [setFD_look, if_pos rfl], by rw [lookup_putF, if_pos rfl], ho s0 e⟩, ORf.other r h2 fun f' m => ?_⟩
      have ne : f' ≠ f := fun y => nf.1 (y ▸ m)
      rw [setFD_look, if_neg ne, lookup_putF, if_neg ne]
      exact ⟨rfl, rfl⟩
    · have b : (f == g0) = false := by simpa using z
      have e : ((g0, s0) :: r).lookup f = r.lookup f := by rw [List.lookup_cons, b]
      rw [e] at ho hn
      obtain ⟨h3, o3, n3, q3⟩ := ORf.set r nf.2 h2 nd2 ho hn ng fun a m y => dg a m (List.mem_append_right _ y)
      refine ⟨f1 ++ h3, ?_, List.nodup_append.mpr ⟨nd1, n3, fun b mb c mc y => ?_⟩, fun b m => ?_⟩
      · unfold ORf
        refine ⟨f1, h3, rfl, ?_, o3⟩
        rw [setFD_look, if_neg (fun y => z y.symm), lookup_putF, if_neg (fun y => z y.symm)]
        exact h1
      · subst y
        rcases q3 b mc with y | y
        · exact dg b y (List.mem_append_left _ mb)
        · exact dj b mb b y rfl
      · rcases List.mem_append.mp m with m | m
        · exact .inr (List.mem_append_left _ m)
        · exact (q3 b m).imp id (List.mem_append_right _)
theorem ORf.look : ∀ (fs : List (Str × Sh)) {gs : List (Str × D)} {ws : List (Str × V)} {fp : List Addr} {f : Str} {s : Sh} {d : D}, ORf K F H fs gs ws fp → fs.lookup f = some s → gs.lookup f = some d → ∃ v, ws.lookup f = some v
  | [], _, _, _, _, _, _, _, e, _ => by cases e
  | (g0, s0) :: r, gs, ws, fp, f, s, d, h, e, ed => by
    unfold ORf at h
    obtain ⟨f1, f2, e1, h1, h2⟩ := h
    rw [List.lookup_cons] at e
    split at e
    · rename_i z
      have : f = g0 := by simpa using z
      subst this
      rcases h1 with ⟨n, _⟩ | ⟨d', v', g1, g2, q⟩
      · rw [n] at ed; cases ed
      · exact ⟨v', g2⟩
    · exact ORf.look r h2 e ed
theorem Rel.own2 {A : Addr → Prop} {sh : Sh} {d' : D} {v : V} {f g : List Addr} (r : Rel K H0 F0 io F H ms S σ fps) (h : ownAt ms i sh) (ev : σ[i]? = some (some v)) (ef : fps[i]? = some f) (e : Evo A F H F' H') (hA : ∀ a, A a → a ∈ f) (o : OR K F' H' sh d' v g) (nd : g.Nodup)
    (hg : ∀ a ∈ g, a ∈ f ∨ (¬ Mine fps a ∧ H0 a = none)) (fn : ∀ a ∈ g, F' a = none) : Rel K H0 F0 io F' H' ms (S.set i d') σ (fps.set i g) := by
  have eA : Evo (Mine fps) F H F' H' := e.wide fun a z => mine_at ef (hA a z)
  refine ⟨r.evoX eA, by simp [r.lS], r.lσ, by simp [r.lf], fun k n hk => ?_, fun k l f1 f2 a h1 h2 m1 m2 => ?_⟩
  · obtain ⟨d, v', f', e1, e2, e3, sr, nd', q, q2⟩ := r.at_ k n hk
    by_cases z : i = k
    · subst z
      rw [ev] at e2
      cases e2
      rw [ef] at e3
      cases e3
      have w : ∀ a ∈ g, F' a = none ∧ (H0 a = none ∨ io.a a) := fun a z => ⟨fn a z, (hg a z).elim (fun z => (q a z).2) fun z => .inl z.2⟩
      rcases h with h | h
      · rw [h] at hk
        cases hk
        exact ⟨d', some v, g, getset_eq e1, ev, getset_eq ef, ⟨v, rfl, o⟩, nd, w, (fun s es a z => (hg a z).elim (q2.1 s es a) fun z => z.2), q2.2⟩
      · rw [h] at hk
        cases hk
        exact ⟨d', some v, g, getset_eq e1, ev, getset_eq ef, ⟨v, rfl, o⟩, nd, w, (fun s es => by cases es), q2.2⟩
    · have nf : ∀ a ∈ f', ¬ A a := fun a m y => z (r.dis i k f f' a ef e3 (hA a y) m)
      refine ⟨d, v', f', by rw [getset_ne z]; exact e1, e2, by rw [getset_ne z]; exact e3, sr.mono e.same fun a o ea y => e.frm a o ea ?_, nd', fun a m => ⟨?_, (q a m).2⟩, q2⟩
      · rcases y with y | y
        · exact nf a y
        · intro x
          exact r.notup ea y (mine_at ef (hA a x))
      · exact Classical.byContradiction fun y => (e.new a y).elim (fun y => y (q a m).1) fun y => y.elim (fun y => r.ne (mine_at e3 m) y) (nf a m)
  · by_cases z1 : i = k
    · subst z1
      rw [getset_eq ef] at h1
      cases h1
      by_cases z2 : i = l
      · exact z2
      · rw [getset_ne z2] at h2
        rcases hg a m1 with y | y
        · exact absurd (r.dis i l f f2 a ef h2 y m2) z2
        · exact absurd (mine_at h2 m2) y.1
    · rw [getset_ne z1] at h1
      by_cases z2 : i = l
      · subst z2
        rw [getset_eq ef] at h2
        cases h2
        rcases hg a m2 with y | y
        · exact absurd (r.dis k i f1 f a h1 ef m1 y) (Ne.symm z1)
        · exact absurd (mine_at h1 m1) y.1
      · rw [getset_ne z2] at h2
        exact r.dis k l f1 f2 a h1 h2 m1 m2
theorem Rel.foc2 {A : Addr → Prop} {d d' d2 : D} {v v' : V} {f f' g : List Addr} {up : D → D} (r : Rel K H0 F0 io F H ms S σ fps) (h : ownAt ms i s) (e1 : S[i]? = some d) (e2 : σ[i]? = some (some v)) (e3 : fps[i]? = some f) (fo : Foc K F H s d v f s' d' v' f' up)
    (e : Evo A F H F' H') (hA : ∀ a, A a → a ∈ f') (o : OR K F' H' s' d2 v' g) (nd : g.Nodup) (hg : ∀ a ∈ g, a ∈ f' ∨ (¬ Mine fps a ∧ H0 a = none)) (fn : ∀ a ∈ g, F' a = none) :
    ∃ fps', Rel K H0 F0 io F' H' ms (S.set i (up d2)) σ fps' := by
  obtain ⟨d0, v0, f0, g1, g2, g3, o0, nd0, q0⟩ := r.slot h
  rw [e3] at g3
  cases g3
  have lv : ∀ a ∈ f, LiveN H a := fun a z => r.live (mine_at e3 z)
  obtain ⟨g', o', n', q'⟩ := fo.put F' H' d2 g e.same (fun a w ea z => e.frm a w ea fun y => by
    rcases z with z | z
    · exact z.2 (hA a y)
    · obtain ⟨w', ew, nw⟩ := lv a (fo.sub a (hA a y))
      rw [ea] at ew; cases ew
      exact z nw) o nd (fun a z => (hg a z).imp id fun z y => z.1 (mine_at e3 y))
  exact ⟨_, r.own2 h e2 e3 e (fun a z => fo.sub a (hA a z)) o' n' (fun a z => (q' a z).elim (fun z => (hg a z).imp (fo.sub a) id) fun z => .inl z.1) (fun a z => (q' a z).elim (fn a) fun z => by
    refine Classical.byContradiction fun y => (e.new a y).elim (fun y => y (q0 a z.1).1) fun y => y.elim (fun y => ?_) fun y => z.2 (hA a y)
    obtain ⟨w', ew, _⟩ := lv a z.1
    rw [y] at ew; cases ew)⟩
theorem ss_fldP {fs : List (Str × Sh)} (cl : Cls K (He.ga K C)) (na : NoAttr K (He.ga K C) n) (nf : (fs.map (·.1)).Nodup) (hE : Flat E) (hv : SE K E ms (shM (fs.lookup n)) tv a) (hp : SP K E ms i (.i fs) t pl) : SS K E rm mio msb ms ms (sFld K t tv n) (aFldP i n a C pl) := fun σ H En H0 F0 io F S fps r g =>
  hv.stm hE r g fun d0 S1 f1 F1 H1 v0 r1 e1 v1 g => by
    refine hp σ H1 _ H0 F0 io F1 S1 f1 r1 ?_
    have g' := g
    generalize pl S1 = z at g' ⊢
    rcases z with ⟨dd, up⟩ | ⟨c, fs⟩ | _
    · intro F2 H2 gr sh d v f v' fp' a1 a2 a3 a4 fo
      have o := fo.or
      have fo0 := fo
      unfold OR at o
      obtain ⟨c, gs, p, dx, ws, fq, rfl, rfl, rfl, h1, h2, h3, h4, h5⟩ := o
      have g2 : GoS K E H0 F0 io rm mio ms msb En F1 (if c = C ∧ gs.length < 1000 then .ok (.nx (S1.set i (up (.obj C (setFD gs n d0))))) else .no) := g'
      split at g2
      · rename_i cc
        obtain ⟨ec, gl⟩ := cc
        replace ec := ec.symm
        subst ec
        refine ⟨p, _, dx, ws, rfl, h1, cl, na, by omega, ?_⟩
        have r2 := r1.grow gr
        have fn : F2 p = none := r2.noF a1 a4 (fo.sub p (List.mem_cons_self ..))
        have nd := List.nodup_cons.mp fo.nd
        have key : ∃ gy, (∀ s, fs.lookup n = some s → OR K F2 H2 s d0 v0 gy) ∧ (fs.lookup n = none → gy = [] ∧ Rep K F2 d0 v0) ∧ gy.Nodup ∧ ∀ a ∈ gy, F2 a = none ∧ H a = none ∧ ¬ Mine f1 a ∧ LiveN H2 a := by
          cases e : fs.lookup n with
          | none =>
            rw [e] at v1
            exact ⟨[], (fun s z => by cases z), (fun _ => ⟨rfl, Rep.mono gr.same _ v1⟩), List.nodup_nil, fun _ z => by cases z⟩
          | some s =>
            rw [e] at v1
            obtain ⟨gy, oy, ny, qy⟩ := v1
            have oy2 : OR K F2 H2 s d0 v0 gy := oy.mono _ gr.same fun b o e _ => gr.frm b o e id
            refine ⟨gy, (fun s' z => by cases z; exact oy2), (fun z => by cases z), ny, fun a z => ⟨Classical.byContradiction fun y => (gr.new a y).elim (fun y => y (qy a z).1) fun y => y.elim (fun y => ?_) id, (qy a z).2.1, (qy a z).2.2, oy2.live _ a z⟩⟩
            obtain ⟨w, e, _⟩ := oy.live _ a z
            rw [y] at e; cases e
        obtain ⟨gy, ky, kz, ny, qy⟩ := key
        have sub1 : ∀ a ∈ (p :: fq), Mine f1 a := fun a z => mine_at a4 (fo.sub a z)
        have pg : p ∉ gy := fun z => (qy p z).2.2.1 (sub1 p (List.mem_cons_self ..))
        have k1 : ∀ b o, H2 b = some o → b ≠ p → upd H2 p (.ins (He.ga K C) dx (putF n v0 ws)) b = some o := fun b o e z => by rw [upd_ne z]; exact e
        have nt : ∀ b o, H2 b = some o → ¬ NoTup o → b ≠ p := fun b o e z y => by
          rw [y, h1] at e; cases e
          exact z nt_ins
        have h5' : ORf K F2 (upd H2 p (.ins (He.ga K C) dx (putF n v0 ws))) fs gs ws fq := ORf.mono fs h5 (Same.refl _) fun b o e z => k1 b o e (z.elim (fun z y => nd.1 (y ▸ z)) (nt b o e))
        obtain ⟨h6, o6, n6, q6⟩ := ORf.set fs (g := gy) (x := d0) (v := v0) nf h5' nd.2 (fun s e => (ky s e).mono _ (Same.refl _) fun b o e z => k1 b o e (z.elim (fun z y => pg (y ▸ z)) (nt b o e))) (fun e => (kz e).1) ny fun a z y => (qy a z).2.2.1 (sub1 a (List.mem_cons_of_mem _ y))
        have ph : p ∉ h6 := fun z => (q6 p z).elim pg nd.1
        obtain ⟨sn, sl, _⟩ := setFD_nodup gs n d0 h3.2
        have o2 : OR K F2 (upd H2 p (.ins (He.ga K C) dx (putF n v0 ws))) (.i fs) (.obj C (setFD gs n d0)) (.ref p) (p :: h6) := by
          unfold OR
          refine ⟨C, _, p, dx, _, h6, rfl, rfl, rfl, upd_same, fun f e => ?_, ⟨?_, sn⟩, fun f x e en => ?_, o6⟩
          · rw [setFD_look] at e
            split at e
            · cases e
            · rename_i ne
              rw [lookup_putF, if_neg ne]
              exact h2 f e
          · refine setFD_lenV gs ws n d0 v0 h3.1 (h2 n) fun y ey => ?_
            cases e : fs.lookup n with
            | none =>
              obtain ⟨u, eu, _⟩ := h4 n y ey e
              exact ⟨u, eu⟩
            | some s => exact ORf.look fs h5 e ey
          · rw [setFD_look] at e
            rw [lookup_putF]
            split at e
            · rename_i ne
              cases e
              rw [if_pos ne]
              rw [ne] at en
              exact ⟨v0, rfl, (kz en).2⟩
            · rename_i ne
              rw [if_neg ne]
              exact h4 f x e en
        have ev : Evo (fun a => a = p) F2 H2 F2 (upd H2 p (.ins (He.ga K C) dx (putF n v0 ws))) := Evo.upd r2.ok h1 nt_ins nt_ins fn
        obtain ⟨fps', r3⟩ := r2.foc2 a1 a2 a3 a4 fo0 ev (fun a z => by rw [z]; exact List.mem_cons_self ..) o2 (List.nodup_cons.mpr ⟨ph, n6⟩) (fun a z => by
          rcases List.mem_cons.mp z with z | z
          · rw [z]; exact .inl (List.mem_cons_self ..)
          · rcases q6 a z with z | z
            · exact .inr ⟨(qy a z).2.2.1, Classical.byContradiction fun y => r.evo.liv a y (qy a z).2.1⟩
            · exact .inl (List.mem_cons_of_mem _ z)) (fun a z => by
          rcases List.mem_cons.mp z with z | z
          · rw [z]; exact fn
          · rcases q6 a z with z | z
            · exact (qy a z).1
            · exact r2.noF a1 a4 (fo0.sub a (List.mem_cons_of_mem _ z)))
        exact g2 σ F2 _ fps' gr.same r3
      · exact g2.elim
    · exact fun cls Dd F' H' g x => g' σ cls Dd F' H' (r1.evoX (g.wide fun _ z => z.elim)) x
    · exact g'
end
end TT
namespace TT
open PySem PySem.Spec PyProof.Rows L2
section
variable {K : PySem.W.Frag} {E : L2.St → XK} {XE : XK} {H0 F0 F H B F1 H1 F' H' : Hp} {io : IO} {rm m : Mo} {mio msb ms ms1 ms' : List Mo} {S : List D} {σ : L2.St} {ta tb te t tk tv td : TE} {a b : E1} {tt : TT} {x : EB} {i j : Nat} {s s' c : Sh} {α β : Type} {fps f1 : List (List Addr)} {qa qb qk : QX} {ts : TA} {as : EA} {qs : List D → Rz (List D)} {qx : List D → Rz Bool} {pl : PL} {C n : Str}
def aMethP (c m : Str) (φ : List D → Rz (D × D)) (i : Nat) (pl : PL) (as : List D → Rz (List D)) : E1 := fun S => (pl S).bind fun p => if p.1.isObj c m = true then (as S).bind fun vs => (φ (p.1 :: vs)).bind fun r => .ok (r.1, S.set i (p.2 r.2)) else .no
open Classical in
theorem Grow.any (k : Ok F H) (s : Same H H') : ∃ F', Grow F H F' H' ∧ ∀ a, F a = none → tups H' a = none → F' a = none := by
  refine ⟨fun a => if tups H' a = none then F a else tups H' a, ⟨fun a o e => ?_, fun a z => ?_, fun a o e _ => s a o e, fun a z => ?_, fun a o e => ?_, fun a o e => ?_⟩, fun a n z => (if_pos z).trans n⟩
  · split
    · exact e
    · rename_i n
      cases q : tups H' a with
      | none => exact (n q).elim
      | some w =>
        have h1 := tups_sub a w q
        have h2 := s a o (k.sub a o e)
        rw [h1] at h2
        exact h2
  · split at z
    · exact .inl z
    · rename_i n
      by_cases y : H a = none
      · exact .inr (.inl y)
      · refine .inl fun f => n ?_
        cases e : H a with
        | none => exact (y e).elim
        | some o =>
          have h2 := s a o e
          cases q : tups H' a with
          | none => rfl
          | some w =>
            have h1 := tups_sub a w q
            rw [h2] at h1
            cases h1
            have : tups H a = some o := by
              unfold tups at q ⊢
              rw [h2] at q
              rw [e]
              exact q
            rw [k.tup a o this] at f
            cases f
  · cases e : H a with
    | none => exact (z e).elim
    | some o => rw [s a o e]; simp
  · split at e
    · exact s a o (k.sub a o e)
    · exact tups_sub a o e
  · rw [e]
    simp
def qItems (pl : PL) : QX := fun S => (pl S).bind fun p => match p.1 with
  | .dct false kvs => if kvs.length ≤ sizeLine then .ok (.lst (kvs.map fun q => .tup [q.1, q.2])) else .no
  | _ => .no
end
end TT
namespace TT
open PySem PySem.Spec PyProof.Rows L2
abbrev S2 := List D → Rz (List D)
def SSt (K : PySem.W.Frag) (E : L2.St → XK) (ms ms' : List Mo) (t : TS) (s : S2) : Prop :=
  ∀ (σ : L2.St) (H : Hp) (En : Ends) (H0 F0 : Hp) (io : IO) (F : Hp) (S : List D) (fps : List (List Addr)), Rel K H0 F0 io F H ms S σ fps → (match s S with
    | .ok S' => ∀ σ' F' H' f', σ'.length = σ.length → Same F F' → Rel K H0 F0 io F' H' ms' S' σ' f' → En.nx σ' H'
    | .ex c fs => ∀ σ' cls Dd F' H', σ'.length = σ.length → Same F F' → Evo io.a F0 H0 F' H' → XR K H' c fs cls Dd → E σ' cls Dd H'
    | .no => False) → t En σ H
def bSet (i : Nat) (a : E1) : S2 := fun S => (a S).bind fun p => .ok (p.2.set i p.1)
def bSeq (s t : S2) : S2 := fun S => (s S).bind t
def bIf (c : EB) (s t : S2) : S2 := fun S => (c S).bind fun p => if p.1 = true then s p.2 else t p.2
def bDrop (ms : List Mo) (s : S2) : S2 := fun S => (s S).bind fun S' => .ok (maskD ms S')
inductive HP where
  | s (x : Str) | f (n : Str) | is (d : Str) (b : Bool)
structure Hd where
  c : Str
  i : Nat
  j : Nat
  ps : List HP
def hTA (K : PySem.W.Frag) (a : Addr) (cls : Value) (d : Option Addr) (C : Str) (i : Nat) : List HP → TA
  | [] => tNil
  | .s x :: r => tCons (tC (.str x)) (hTA K a cls d C i r)
  | .f n :: r => tCons (tXf a cls d (He.ga K C) n (tVar i)) (hTA K a cls d C i r)
  | .is e _ :: r => tCons (tCB (rIsX K cls d a) (tCons (tVar i) (tCons (tC (.ref (He.ga K e))) tNil))) (hTA K a cls d C i r)
def Hd.mk' (K : PySem.W.Frag) (h : Hd) : Value × Nat × (Addr → Value → Option Addr → TS) := (.ref (He.ga K h.c), h.i, fun a cls d => tAsg (tTup (hTA K a cls d h.c h.i h.ps)) (gName h.j))
def hpD (fs : List (Str × D)) : List HP → Option (List D)
  | [] => some []
  | .s x :: r => (hpD fs r).map fun l => .str x :: l
  | .f n :: r => match fs.lookup n, hpD fs r with | some d, some l => some (d :: l) | _, _ => none
  | .is _ b :: r => (hpD fs r).map fun l => .bl b :: l
structure HdOk (K : PySem.W.Frag) (h : Hd) : Prop where
  er : Err K (He.ga K h.c)
  ki : ∀ e b, HP.is e b ∈ h.ps → PySem.W.kitOne K (.ref (He.ga K h.c)) (.ref (He.ga K e)) = some b
def findH (hs : List Hd) (c : Str) : Option Hd := hs.find? fun h => decide (h.c = c)
def aTry (n : Nat) (cs : List Str) (hs : List Hd) (b : S2) : S1 := fun S => match b S with
  | .ok S' => .ok (.nx S')
  | .ex c fs => if c ∈ cs then match findH hs c with
    | some h => match hpD fs h.ps with
      | some l => if l.length ≤ sizeLine ∧ h.i < n ∧ h.j < n ∧ h.i ≠ h.j then .ok (.nx ((List.replicate n .non).set h.j (.tup l))) else .no
      | none => .no
    | none => .ex c fs else .no
  | .no => .no
section
variable {K : PySem.W.Frag} {E : L2.St → XK} {XE : XK} {H0 F0 F H B F1 H1 F' H' : Hp} {io : IO} {rm m : Mo} {mio msb ms ms1 ms2 ms' : List Mo} {S : List D} {σ : L2.St} {ta tb te t tk tv td : TE} {a b : E1} {tt : TT} {x : EB} {i j n : Nat} {s s' : Sh} {α β : Type} {fps f1 : List (List Addr)} {u w : TS} {b1 b2 : S2}
theorem sst_set (hi : i < ms.length) (ha : SE K E ms m ta a) : SSt K E ms (ms.set i m) (tAsg ta (gName i)) (bSet i a) := fun σ H En H0 F0 io F S fps r g => by
  refine ha σ H _ H0 F0 io F S fps r ?_
  unfold bSet at g
  generalize a S = z at g ⊢
  rcases z with ⟨d, S'⟩ | ⟨c, fs⟩ | _
  · intro F' H' f' r' e' v vr
    obtain ⟨gg, r2, _⟩ := r.store r' hi vr
    exact g _ F' H' _ (by simp) e'.evo.same r2
  · exact fun cls Dd F' H' e' x => g σ cls Dd F' H' rfl e'.same (r.evoX e') x
  · exact g
theorem sst_seq (h1 : SSt K E ms ms1 u b1) (h2 : SSt K E ms1 ms2 w b2) : SSt K E ms ms2 (tSeq u w) (bSeq b1 b2) := fun σ H En H0 F0 io F S fps r g => by
  refine h1 σ H _ H0 F0 io F S fps r ?_
  unfold bSeq at g
  generalize b1 S = z at g ⊢
  rcases z with S' | ⟨c, fs⟩ | _
  · intro σ' F' H' f' l sf r'
    refine h2 σ' H' En H0 F0 io F' S' f' r' ?_
    have g : match b2 S' with
      | .ok S' => ∀ σ' F' H' f', σ'.length = σ.length → Same F F' → Rel K H0 F0 io F' H' ms2 S' σ' f' → En.nx σ' H'
      | .ex c fs => ∀ σ' cls Dd F' H', σ'.length = σ.length → Same F F' → Evo io.a F0 H0 F' H' → XR K H' c fs cls Dd → E σ' cls Dd H'
      | .no => False := g
    generalize b2 S' = y at g ⊢
    rcases y with S2 | ⟨c, fs⟩ | _
    · exact fun σ2 F2 H2 f2 l2 s2 r2 => g σ2 F2 H2 f2 (l2.trans l) (sf.trans s2) r2
    · exact fun σ2 cls Dd F2 H2 l2 sf2 e x => g σ2 cls Dd F2 H2 (l2.trans l) (sf.trans sf2) e x
    · exact g
  · exact g
  · exact g
theorem sst_drop {ns : List Mo} (wk' : wk ms1 ns = true) (h1 : SSt K E ms ms1 u b1) : SSt K E ms ns u (bDrop ns b1) := fun σ H En H0 F0 io F S fps r g => by
  refine h1 σ H En H0 F0 io F S fps r ?_
  unfold bDrop at g
  generalize b1 S = z at g ⊢
  rcases z with S' | ⟨c, fs⟩ | _
  · exact fun σ' F' H' f' l sf r' => g σ' F' H' _ l sf (r'.weak wk')
  · exact g
  · exact g
theorem rel_none (e : Evo io.a F0 H0 F H) (l : σ.length = n) : Rel K H0 F0 io F H (us n) (List.replicate n .non) σ (List.replicate n []) where
  evo := e
  lS := by unfold us; simp
  lσ := by unfold us; simp [l]
  lf := by unfold us; simp
  at_ := fun i m h => by
    have hi : i < n := by have := (List.getElem?_eq_some_iff.mp h).1; unfold us at this; simpa using this
    unfold us at h
    rw [List.getElem?_replicate, if_pos hi] at h
    cases h
    have hs : i < σ.length := by omega
    exact ⟨.non, σ[i], [], by rw [List.getElem?_replicate, if_pos hi], List.getElem?_eq_getElem hs, by rw [List.getElem?_replicate, if_pos hi], ⟨rfl, rfl⟩, List.nodup_nil, (fun _ z => by cases z), (fun _ _ _ z => by cases z), fun _ e => by cases e⟩
  dis := fun i j f g a h1 h2 m1 m2 => (empty_mine (mine_at h1 m1)).elim
theorem Rel.unset {v : Option V} (r : Rel K H0 F0 io F H ms S σ fps) (h : ms[i]? = some .u) : Rel K H0 F0 io F H ms S (σ.set i v) fps where
  evo := r.evo
  lS := r.lS
  lσ := by simp [r.lσ]
  lf := r.lf
  at_ := fun k m hk => by
    obtain ⟨d, v', f, e1, e2, e3, sr, w⟩ := r.at_ k m hk
    by_cases z : i = k
    · subst z
      rw [h] at hk
      cases hk
      exact ⟨d, v, f, e1, getset_eq e2, e3, sr, w.1, w.2.1, (fun _ z => by cases z), fun _ z => by cases z⟩
    · exact ⟨d, v', f, e1, by rw [getset_ne z]; exact e2, e3, sr, w⟩
  dis := r.dis
theorem hp_ok {c : Str} {fs : List (Str × D)} {cls : Value} {Dd : Option Addr} {a : Addr} (k : Ok F H) (xr : XR K H c fs cls Dd) (er : Err K (He.ga K c)) (he : σ[i]? = some (some (.ref a))) : ∀ (ps : List HP) {l : List D} {Q : List V → Hp → Prop}, (∀ e b, HP.is e b ∈ ps → PySem.W.kitOne K (.ref (He.ga K c)) (.ref (He.ga K e)) = some b) → hpD fs ps = some l →
    (∀ vs, Reps K F l vs → Q vs H) → hTA K a cls Dd c i ps σ H Q
  | [], _, _, _, e, q => by
    cases e
    exact q [] .nil
  | .s x :: r, _, Q, hk, e, q => by
    unfold hpD at e
    obtain ⟨l, el, rfl⟩ := Option.map_eq_some_iff.mp e
    exact hp_ok k xr er he r (fun e b m => hk e b (List.mem_cons_of_mem _ m)) el fun vs rv => q _ (.cons (by unfold Rep; rfl) rv)
  | .f n :: r, _, Q, hk, e, q => by
    unfold hpD at e
    split at e
    · rename_i d l e1 e2
      cases e
      obtain ⟨ec, hx⟩ := xr
      rcases hx with ⟨rfl, _⟩ | ⟨b, ws, rfl, hb, rf⟩
      · cases e1
      · obtain ⟨v, ev, rv⟩ := rf.get e1
        refine ⟨.ref a, he, rfl, ec, b, ws, v, rfl, hb, ev, ?_⟩
        exact hp_ok k ⟨ec, .inr ⟨b, ws, rfl, hb, rf⟩⟩ er he r (fun e b m => hk e b (List.mem_cons_of_mem _ m)) e2 fun vs rv' => q _ (.cons (Rep.mono k.tup _ rv) rv')
    · cases e
  | .is e' b :: r, _, Q, hk, e, q => by
    unfold hpD at e
    obtain ⟨l, el, rfl⟩ := Option.map_eq_some_iff.mp e
    refine ⟨.ref a, he, ?_⟩
    obtain ⟨ec, hx⟩ := xr
    refine ⟨He.ga K c, .ref (He.ga K e'), .ref (He.ga K e'), b, ec, er, rfl, (fun dd z => ?_), (fun _ z => z), hk e' b (List.mem_cons_self ..), ?_⟩
    · rcases hx with ⟨_, h0⟩ | ⟨b', ws, h0, hb, _⟩
      · rw [h0] at z; cases z
      · rw [h0] at z; cases z; exact ⟨ws, hb⟩
    · exact hp_ok k ⟨ec, hx⟩ er he r (fun e b m => hk e b (List.mem_cons_of_mem _ m)) el fun vs rv => q _ (.cons (by unfold Rep; rfl) rv)
theorem ss_try {tb : WX → TS} {cs : List Str} {hs : List Hd} (hn : ms.length = n) (ok : ∀ h ∈ hs, HdOk K h) (xm : ∀ c ∈ cs, ∀ h ∈ hs, PySem.W.exmOne K (.ref (He.ga K c)) (.ref (He.ga K h.c)) = some (decide (h.c = c)))
    (hj : ∀ h ∈ hs, (us n).set h.j .z = ms1) (hb : ∀ W : WX, SSt K (WE W) ms ms1 (tb W) b1) : SS K (fun _ => XE) rm mio msb ms ms1 (tTry K (fun cls d _ H => XE cls d H) (hs.map (Hd.mk' K)) tb) (aTry n cs hs b1) := fun σ H En H0 F0 io F S fps r g => by
  refine hb _ σ H En H0 F0 io F S fps r ?_
  unfold aTry at g
  generalize b1 S = z at g ⊢
  rcases z with S' | ⟨c, fs⟩ | _
  · exact fun σ' F' H' f' _ sf r' => g σ' F' H' f' sf r'
  · intro σ' cls Dd F' H' l sf e xr
    dsimp only at g
    split at g
    · rename_i mc
      have lσ : σ'.length = n := l.trans (r.lσ.trans hn)
      have go : ∀ hs' : List Hd, (∀ h ∈ hs', h ∈ hs) → GoS K (fun _ => XE) H0 F0 io rm mio ms1 msb En F (match findH hs' c with
          | some h => match hpD fs h.ps with
            | some l => if l.length ≤ sizeLine ∧ h.i < n ∧ h.j < n ∧ h.i ≠ h.j then .ok (.nx ((List.replicate n .non).set h.j (.tup l))) else .no
            | none => .no
          | none => .ex c fs) → wN K (fun cls d _ H => XE cls d H) En (hs'.map (Hd.mk' K)) cls Dd σ' H' := by
        intro hs'
        induction hs' with
        | nil =>
          intro _ g
          exact g σ' cls Dd F' H' e xr
        | cons h hs' ih =>
          intro sub g
          have hm := sub h (List.mem_cons_self ..)
          have ex := xm c mc h hm
          have ec : cls = .ref (He.ga K c) := xr.1
          by_cases z : h.c = c
          · have ef : findH (h :: hs') c = some h := by
              unfold findH
              rw [List.find?_cons, decide_eq_true z]
            rw [ef] at g
            dsimp only at g
            rw [decide_eq_true z, ← ec] at ex
            refine a_catch ex fun a ha => ?_
            split at g
            · rename_i l el
              split at g
              · rename_i cc
                have hok := ok h hm
                have r0 := rel_none (K := K) e lσ
                have hu : (us n)[h.i]? = some .u := by unfold us; rw [List.getElem?_replicate, if_pos cc.2.1]
                have r1 := r0.unset (v := some (.ref a)) hu
                have hi : (σ'.set h.i (some (.ref a)))[h.i]? = some (some (.ref a)) := by rw [List.getElem?_set, if_pos rfl, if_pos (by omega)]
                show tTup (hTA K a cls Dd h.c h.i h.ps) _ H' _
                rw [z]
                refine hp_ok e.ok xr (z ▸ hok.er) hi h.ps (fun e b m => z ▸ hok.ki e b m) el fun vs rv => ⟨by rw [rv.len]; exact cc.1, fun p np => ?_⟩
                have gr := Grow.put (o := .tup vs) e.ok np
                have r2 := r1.grow gr
                have rp : Rep K (upd F' p (.tup vs)) (.tup l) (.ref p) := by
                  unfold Rep
                  exact ⟨p, vs, rfl, .inl upd_same, by rw [rv.len]; exact cc.1, Reps.mono gr.same l rv⟩
                have r3 := r2.storeG (i := h.j) (m := .z) (g := []) (by unfold us; simp; exact cc.2.2.1) ⟨rfl, _, rfl, rp⟩ List.nodup_nil (fun _ z => by cases z) (fun _ _ _ z => by cases z) (fun _ z => by cases z) (fun _ z => by cases z)
                have r4 := r3.unset (v := none) (i := h.i) (by rw [getset_ne (Ne.symm cc.2.2.2)]; exact hu)
                rw [hj h hm] at r4
                exact g _ _ _ _ (sf.trans gr.same) r4
              · exact g.elim
            · exact g.elim
          · have ef : findH (h :: hs') c = findH hs' c := by
              unfold findH
              rw [List.find?_cons, decide_eq_false z]
            rw [ef] at g
            rw [decide_eq_false z, ← ec] at ex
            exact a_skip ex (ih (fun h m => sub h (List.mem_cons_of_mem _ m)) g)
      exact go hs (fun _ z => z) g
    · exact g.elim
  · exact g
end
end TT
namespace TT
open PySem PySem.Spec PyProof.Rows L2
theorem r65 {k : Nat} {A : Around} (r : Room k A) : A.units + 65 < cLine := by have := r.un; omega
@[irreducible] def FUEL : Nat := 1000000000
def aUnp (p : Pat) (a : E1) : S1 := fun S => (a S).bind fun q => match bindP p q.1 q.2 with
  | some S' => .ok (.nx S')
  | none => .no
def signs (z : Str) : List D := z.cps.toList.map fun c => .str ⟨#[c]⟩
def aItS (a : E1) : EA := fun S => (a S).bind fun p => match p.1 with
  | .str z => if z.cps.size ≤ sizeLine then .ok (signs z, p.2) else .no
  | _ => .no
section
variable {K : PySem.W.Frag} {E : L2.St → XK} {H0 F0 F H B F1 H1 F' H' : Hp} {io : IO} {rm m : Mo} {mio msb ms ms1 ms' : List Mo} {S : List D} {σ : L2.St} {ta tb te t : TE} {a b : E1} {i j : Nat} {fps f1 : List (List Addr)} {p : Pat} {g : TG}
theorem si_str (ha : SE K E ms .z ta a) : SI K E ms (iStr ta) (aItS a) := fun σ H Q H0 F0 io F S fps rl h => ha.use rl h fun d S1 f1 F1 H1 v r1 e1 v1 h => by
  cases d with
  | str z =>
    obtain ⟨c, h⟩ := Go.iteB (show Go K E H0 F0 io ms σ f1 F1 H1 (if z.cps.size ≤ sizeLine then _ else .no) _ from h)
    have v2 : v = .str z := by have : Rep K F1 (.str z) v := v1; unfold Rep at this; exact this
    refine ⟨z, v2, h.done r1 _ (by unfold signs; simpa using c) fun F2 H2 s1 s2 => ?_⟩
    have w := walk_str (z := z)
    have ln : (signs z).length = z.cps.size := by unfold signs; simp
    refine ⟨fun i hi => w.goes i H2 (by omega) True.intro, by have := w.stops H2 True.intro; rw [ln]; exact this, fun i x H3 d e y => ?_⟩
    have hi : i < z.cps.size := by have := (List.getElem?_eq_some_iff.mp e).1; omega
    obtain ⟨rfl, c, ec, rfl⟩ := w.yields i H2 x H3 hi True.intro y
    unfold signs at e
    rw [List.getElem?_map, Array.getElem?_toList, ec] at e
    cases e
    exact ⟨F2, Evo.refl s2, by unfold Rep; rfl⟩
  | _ => exact (show False from h).elim
end
end TT
namespace TT
open PySem PySem.Spec PyProof.Rows L2
def dcGo (p : Pat) (vs : List Nat) (c : EB) (tk tv : E1) : List D → List D → List (D × D) → Rz (List (D × D) × List D)
  | [], S, acc => .ok (acc, S)
  | d :: ds, S, acc => match bindP p d S with
    | none => .no
    | some S1 => match c S1 with
      | .ok (b, S2) => if b = true then (match tk S2 with
          | .ok (k, S3) => (match tv S3 with
            | .ok (x, S4) => if isKey false k = true ∧ acc.length < sizeLine then dcGo p vs c tk tv ds (unD vs S4) (putD acc k x) else .no
            | _ => .no)
          | _ => .no) else dcGo p vs c tk tv ds (unD vs S2) acc
      | _ => .no
def aDc (p : Pat) (vs : List Nat) (it : EA) (c : EB) (tk tv : E1) : E1 := fun S => (it S).bind fun q => (dcGo p vs c tk tv q.1 (unD vs q.2) []).bind fun r => .ok (.dct false r.1, reD vs q.2 r.2)
section
variable {K : PySem.W.Frag} {E : L2.St → XK} {H0 F0 F H B : Hp} {io : IO} {rm m : Mo} {ms : List Mo} {S : List D} {σ σ' : L2.St} {wi : TI} {it : EA} {g : TG} {p : Pat} {tt : TT} {c : EB} {tk tv : TE} {ka va : E1} {vs : List Nat} {β : Type} {fps : List (List Addr)}
theorem se_dc (hi : SI K E ms wi it) (hg : SG K p g) (hp : ∀ i ∈ patI p, i ∈ vs) (no : noOwn vs ms = true) (hc : ST K (fun _ => E0) (patM p (unM vs ms)) tt c) (hk : SE K (fun _ => E0) (patM p (unM vs ms)) .z tk ka) (he : SE K (fun _ => E0) (patM p (unM vs ms)) .z tv va) :
    SE K E ms (.o (.k .z)) (tDc wi g tt tk tv vs) (aDc p vs it c ka va) := fun σ H Q H0 F0 io F S fps rl h => hi.use rl h fun ds S1 f1 F1 H1 J r1 e1 ln wd h => by
  intro Dl hD
  have F1D : F1 Dl = none := fnone r1.sub hD
  have H0D : H0 Dl = none := Classical.byContradiction fun z => r1.evo.liv Dl z hD
  have mD : ¬ Mine f1 Dl := fun z => r1.ne z hD
  have hvl : ∀ i ∈ patI p, i < ms.length := fun i z => by
    obtain ⟨m, e, _⟩ := noOwn_at no i (hp i z)
    exact (List.getElem?_eq_some_iff.mp e).1
  have uf := r1.unF_eq no
  have g0 : Grow F1 H1 F1 (upd H1 Dl (.dK [])) := Grow.own r1.ok hD nt_dK
  have rw1 := r1.unv vs
  rw [uf] at rw1
  obtain ⟨R0, eR⟩ : ∃ R0, R0 = dcGo p vs c ka va ds (unD vs S1) [] := ⟨_, rfl⟩
  replace h : Go K E H0 F0 io ms σ f1 F1 H1 (R0.bind fun r => .ok (.dct false r.1, reD vs S1 r.2)) (PV K H (.o (.k .z)) Q) := by rw [eR]; exact h
  refine ⟨fun i n H' => n = ds.length - i ∧ i ≤ ds.length ∧ ∃ F' S' acc accV f', Rel K H0 F0 io F' H' (unM vs ms) S' (wipe σ vs) f' ∧ Ev f1 f' F1 H1 F' H' ∧ (H' Dl = some (.dK accV) ∧ F' Dl = none ∧ ¬ Mine f' Dl) ∧ RepG K F' keyD acc accV ∧ dcGo p vs c ka va (ds.drop i) S' acc = R0,
    ⟨ds.length, by simp, Nat.zero_le _, F1, unD vs S1, [], [], f1, rw1.grow g0, Ev.grow g0, ⟨upd_same, F1D, mD⟩, by unfold RepG; rfl, eR.symm⟩, ?_⟩
  rintro i n H' ⟨rfl, hil, F', S', acc, accV, f', r', ev, tD, ra, eg⟩
  obtain ⟨w1, w2, w3⟩ := wd F' H' ev.evo.same r'.ok
  rw [← eg] at h
  by_cases hlt : i < ds.length
  · refine .inr ⟨w1 i hlt, fun H2 => ds.length - (i + 1) = ds.length - (i + 1) ∧ i + 1 ≤ ds.length ∧ ∃ F2 S2 acc2 accV2 f2, Rel K H0 F0 io F2 H2 (unM vs ms) S2 (wipe σ vs) f2 ∧ Ev f1 f2 F1 H1 F2 H2 ∧ (H2 Dl = some (.dK accV2) ∧ F2 Dl = none ∧ ¬ Mine f2 Dl) ∧ RepG K F2 keyD acc2 accV2 ∧ dcGo p vs c ka va (ds.drop (i + 1)) S2 acc2 = R0,
      fun H2 q => ⟨ds.length - (i + 1), by omega, q⟩, fun x H2 y => ?_⟩
    obtain ⟨F2, gr, rx⟩ := w3 i x H2 ds[i] (List.getElem?_eq_getElem hlt) y
    have r2 := r'.grow gr
    have tD2 := stayD tD.1 tD.2.1 tD.2.2 (Ev.grow (fps := f') gr)
    have ev2 := ev.trans (Ev.grow (fps := f') gr)
    rw [List.drop_eq_getElem_cons hlt] at h eg
    unfold dcGo at h eg
    cases eb : bindP p ds[i] S' with
    | none => rw [eb] at h; exact h.elim
    | some S3 =>
      rw [eb] at h eg
      refine hg (unM vs ms) _ H2 H0 F0 io F2 S' f' ds[i] x _ S3 r2 rx (fun j z => by rw [(un_len vs).1]; exact hvl j z) eb fun σ3 r3 b3 => ⟨wipe_but b3 hp, ?_⟩
      have tD3 : H2 Dl = some (.dK accV) ∧ F2 Dl = none ∧ ¬ Mine (patF p f') Dl := ⟨tD2.1, tD2.2.1, fun z => tD2.2.2 (patF_mine p z)⟩
      have ev3 : Ev f1 (patF p f') F1 H1 F2 H2 := ⟨ev2.evo, fun a z => ev2.mine a (patF_mine p z)⟩
      dsimp only at h eg
      have back : ∀ {Fa Ha Sa fa}, Rel K H0 F0 io Fa Ha (patM p (unM vs ms)) Sa σ3 fa → Rel K H0 F0 io Fa Ha (unM vs ms) (unD vs Sa) (wipe σ vs) (unF vs fa) := fun {Fa Ha Sa fa} r => by
        have := r.unv vs
        rw [unM_pat hp, wipe_but b3 hp] at this
        exact this
      cases ec : c S3 with
      | no => rw [ec] at h; exact h.elim
      | ex cc fs => rw [ec] at h; exact h.elim
      | ok bS =>
        obtain ⟨b, S4⟩ := bS
        rw [ec] at h eg
        dsimp only at h eg
        refine hc σ3 H2 _ H0 F0 io F2 S3 _ r3 ?_
        rw [ec]
        intro F4 H4 f4 r4 e4
        have tD4 := stayD tD3.1 tD3.2.1 tD3.2.2 e4
        have ev4 := ev3.trans e4
        cases b with
        | false =>
          rw [if_neg Bool.false_ne_true] at h eg ⊢
          exact ⟨rfl, hlt, F4, _, acc, accV, _, back r4, ⟨ev4.evo, fun a z => ev4.mine a (unF_mine vs z)⟩, ⟨tD4.1, tD4.2.1, fun z => tD4.2.2 (unF_mine vs z)⟩, ra.mono (gr.same.trans e4.evo.same), eg⟩
        | true =>
          rw [if_pos rfl] at h eg ⊢
          cases et : ka S4 with
          | no => rw [et] at h; exact h.elim
          | ex cc fs => rw [et] at h; exact h.elim
          | ok xS =>
            obtain ⟨k, S5⟩ := xS
            rw [et] at h eg
            dsimp only at h eg
            refine hk σ3 H4 _ H0 F0 io F4 S4 f4 r4 ?_
            rw [et]
            intro F5 H5 f5 r5 e5 y rk
            have tD5 := stayD tD4.1 tD4.2.1 tD4.2.2 e5
            have ev5 := ev4.trans e5
            cases ew : va S5 with
            | no => rw [ew] at h; exact h.elim
            | ex cc fs => rw [ew] at h; exact h.elim
            | ok xS =>
              obtain ⟨d, S6⟩ := xS
              rw [ew] at h eg
              dsimp only at h eg
              refine he σ3 H5 _ H0 F0 io F5 S5 f5 r5 ?_
              rw [ew]
              intro F6 H6 f6 r6 e6 v rv
              have tD6 := stayD tD5.1 tD5.2.1 tD5.2.2 e6
              have ev6 := ev5.trans e6
              split at h
              · rename_i cc
                rw [if_pos cc] at eg
                obtain ⟨q, eq⟩ := Option.isSome_iff_exists.mp (show (k.key?).isSome = true from cc.1)
                have ek := key?_eq eq
                subst ek
                have ra6 : RepG K F6 keyD acc accV := ra.mono (((gr.same.trans e4.evo.same).trans e5.evo.same).trans e6.evo.same)
                have e7 : Evo (fun a => a = Dl) F6 H6 F6 (upd H6 Dl (.dK (putK accV q v))) := Evo.upd r6.ok tD6.1 nt_dK nt_dK tD6.2.1
                have r7 := (back r6).go e7 (fun a z q => tD6.2.2 (unF_mine vs (by rw [← q]; exact z))) (fun a o z q => by rw [q, tD6.1] at z; cases z; exact nt_dK) fun a z => .inl (by rw [z]; exact H0D)
                refine ⟨accV, q, rep_keyV (Rep.mono e6.evo.same _ rk), tD6.1, by rw [ra6.len]; exact cc.2, rfl, hlt, F6, _, putD acc (keyD q) d, putK accV q v, _, r7, ⟨ev6.evo.trans e7 fun a z => .inr (by rw [z]; exact hD), fun a z => ev6.mine a (unF_mine vs z)⟩, ⟨upd_same, tD6.2.1, fun z => tD6.2.2 (unF_mine vs z)⟩, ra6.put keq_key rv q, eg⟩
              · exact h.elim
  · have e : i = ds.length := by omega
    subst e
    rw [List.drop_length] at h
    unfold dcGo at h
    refine .inl ⟨w2, ?_⟩
    have h : Go K E H0 F0 io ms σ f1 F1 H1 (.ok (.dct false acc, reD vs S1 S')) (PV K H (.o (.k .z)) Q) := h
    refine h F' H' f' (r1.rev no r' ev.evo.same) ev (.ref Dl) ⟨[Dl], OR.ofK tD.1 ra, nodup1, fun a z => ?_⟩
    rw [List.mem_singleton.mp z]
    exact ⟨tD.2.1, Classical.byContradiction fun z => e1.evo.liv Dl z hD, tD.2.2⟩
end
def D.str? : D → Option Str
  | .str s => some s
  | _ => none
def aM1 (f : D → D → Option D) (a b : E1) : E1 := fun S => (a S).bind fun p => (oR p.1.str? p.2).bind fun z => (b z.2).bind fun q => oR (f (.str z.1) q.1) q.2
section
variable {K : PySem.W.Frag} {E : L2.St → XK} {H0 F0 F H B : Hp} {io : IO} {m : Mo} {ms : List Mo} {S : List D} {σ : L2.St} {ta tb : TE} {a b : E1} {fps : List (List Addr)}
end
end TT
namespace TT
open PySem PySem.Spec PyProof.Rows L2
theorem all_nil {α : Type} {P : α → Prop} : ∀ h ∈ ([] : List α), P h := fun _ z => by cases z
theorem all_cons {α : Type} {P : α → Prop} {a : α} {l : List α} (h1 : P a) (h2 : ∀ h ∈ l, P h) : ∀ h ∈ a :: l, P h := fun h z => (List.mem_cons.mp z).elim (fun e => e ▸ h1) (h2 h)
theorem ki_nil {K : PySem.W.Frag} {c : Str} : ∀ e b, HP.is e b ∈ ([] : List HP) → PySem.W.kitOne K (.ref (He.ga K c)) (.ref (He.ga K e)) = some b := fun _ _ z => by cases z
theorem ki_s {K : PySem.W.Frag} {c x : Str} {l : List HP} (h : ∀ e b, HP.is e b ∈ l → PySem.W.kitOne K (.ref (He.ga K c)) (.ref (He.ga K e)) = some b) : ∀ e b, HP.is e b ∈ HP.s x :: l → PySem.W.kitOne K (.ref (He.ga K c)) (.ref (He.ga K e)) = some b := fun e b z => (List.mem_cons.mp z).elim (fun q => by cases q) (h e b)
theorem ki_f {K : PySem.W.Frag} {c x : Str} {l : List HP} (h : ∀ e b, HP.is e b ∈ l → PySem.W.kitOne K (.ref (He.ga K c)) (.ref (He.ga K e)) = some b) : ∀ e b, HP.is e b ∈ HP.f x :: l → PySem.W.kitOne K (.ref (He.ga K c)) (.ref (He.ga K e)) = some b := fun e b z => (List.mem_cons.mp z).elim (fun q => by cases q) (h e b)
theorem ki_is {K : PySem.W.Frag} {c d : Str} {b0 : Bool} {l : List HP} (h0 : PySem.W.kitOne K (.ref (He.ga K c)) (.ref (He.ga K d)) = some b0) (h : ∀ e b, HP.is e b ∈ l → PySem.W.kitOne K (.ref (He.ga K c)) (.ref (He.ga K e)) = some b) : ∀ e b, HP.is e b ∈ HP.is d b0 :: l → PySem.W.kitOne K (.ref (He.ga K c)) (.ref (He.ga K e)) = some b := fun e b z => (List.mem_cons.mp z).elim (fun q => by cases q; exact h0) (h e b)
theorem xm_of {x : Option Bool} {b : Bool} {p : Prop} [Decidable p] (h : x = some b) (e : decide p = b) : x = some (decide p) := by rw [e]; exact h
section
variable {K : PySem.W.Frag} {E : L2.St → XK} {ms : List Mo} {ts : TA} {as : EA} {C : Str}
end
end TT
namespace TT
open PySem PySem.Spec PyProof.Rows L2
@[simp] theorem bool?_bl (b : Bool) : (D.bl b).bool? = some b := rfl
@[simp] theorem int?_int (b : Int) : (D.int b).int? = some b := rfl
@[simp] theorem lst?_lst (b : List D) : (D.lst b).lst? = some b := rfl
@[simp] theorem str?_str (b : Str) : (D.str b).str? = some b := rfl
@[simp] theorem seq?_lst (b : List D) : (D.lst b).seq? = some b := rfl
@[simp] theorem seq?_tup (b : List D) : (D.tup b).seq? = some b := rfl
@[simp] theorem seq?_scr (b : List Int) : (D.scr b).seq? = some (b.map .int) := rfl
@[simp] theorem tr_bl (b : Bool) : dTruB (.bl b) = some b := rfl
@[simp] theorem tr_lst (b : List D) : dTruB (.lst b) = some (!b.isEmpty) := rfl
@[simp] theorem tr_non : dTruB .non = some false := rfl
@[simp] theorem tr_int (i : Int) : dTruB (.int i) = some (i != 0) := rfl
@[simp] theorem lt_int (p : Int → Int → Bool) (i j : Int) : dCmp p (.int i) (.int j) = some (.bl (p i j)) := rfl
@[simp] theorem len_lst (b : List D) : dLen [.lst b] = some (.int b.length) := rfl
@[simp] theorem len_tup (b : List D) : dLen [.tup b] = some (.int b.length) := rfl
@[simp] theorem len_scr (b : List Int) : dLen [.scr b] = some (.int b.length) := rfl
@[simp] theorem add_int (i j : Int) : dAdd (.int i) (.int j) = some (.int (i + j)) := rfl
@[simp] theorem sub_int (i j : Int) : dSub (.int i) (.int j) = some (.int (i - j)) := rfl
@[simp] theorem int_int (i : Int) : dInt [.int i] = some (.int i) := rfl
@[simp] theorem int_bl (b : Bool) : dInt [.bl b] = some (.int (if b then 1 else 0)) := rfl
@[simp] theorem eq_int (i j : Int) : dEq (.int i) (.int j) = some (.bl (decide (i = j))) := rfl
@[simp] theorem ne_int (i j : Int) : dNe (.int i) (.int j) = some (.bl (!decide (i = j))) := rfl
@[simp] theorem eq_str (i j : Str) : dEq (.str i) (.str j) = some (.bl (decide (i = j))) := rfl
@[simp] theorem ne_str (i j : Str) : dNe (.str i) (.str j) = some (.bl (!decide (i = j))) := rfl
theorem mod_int {i j : Int} (h : j ≠ 0) : dMod (.int i) (.int j) = some (.int (i.fmod j)) := if_pos h
theorem div_int {i j : Int} (h : j ≠ 0) (h2 : j.natAbs.log2 < 9000) : dDiv (.int i) (.int j) = some (.int (i.fdiv j)) := by unfold dDiv; exact if_pos ⟨h, h2⟩
theorem mul_int {i j : Int} (h : (-(2 ^ 64) < i ∧ i < 2 ^ 64) ∨ (-(2 ^ 64) < j ∧ j < 2 ^ 64)) : dMulI (.int i) (.int j) = some (.int (i * j)) := by unfold dMulI; exact if_pos (.inl h)
theorem pow_int {i j : Int} (h : 0 ≤ j ∧ j ≤ 1000000 ∧ i.natAbs < 2 ^ 64) : dPow (.int i) (.int j) = some (.int (i ^ j.toNat)) := by unfold dPow; exact if_pos h
theorem ix_lst (ds : List D) (i : Int) : dIx (.lst ds) (.int i) = atI ds i := rfl
theorem ix_tup (ds : List D) (i : Int) : dIx (.tup ds) (.int i) = atI ds i := rfl
theorem okL_ok {n : Nat} {d : D} (h : n ≤ sizeLine) : okL n d = some d := if_pos h
@[simp] theorem okL_0 (d : D) : okL 0 d = some d := rfl
@[simp] theorem okL_1 (d : D) : okL 1 d = some d := rfl
@[simp] theorem okL_2 (d : D) : okL 2 d = some d := rfl
@[simp] theorem okL_3 (d : D) : okL 3 d = some d := rfl
@[simp] theorem okL_4 (d : D) : okL 4 d = some d := rfl
@[simp] theorem okL_5 (d : D) : okL 5 d = some d := rfl
@[simp] theorem okL_6 (d : D) : okL 6 d = some d := rfl
theorem len_str {z : Str} (h : z.length ≤ sizeLine) : dLen [.str z] = some (.int z.length) := if_pos h
@[simp] theorem non_non : D.non.isNon = true := rfl
theorem lcGo_pure {i : Nat} {c : EB} {te : E1} {f : D → Bool} {g : D → D} {S : List D} : ∀ {ds : List D} {acc : List D}, (∀ d ∈ ds, c (S.set i d) = .ok (f d, S.set i d)) → (∀ d ∈ ds, f d = true → te (S.set i d) = .ok (g d, S.set i d)) →
    lcGo (.s i) [i] c te ds (S.set i .non) acc = .ok (acc ++ (ds.filter f).map g, S.set i .non)
  | [], acc, _, _ => by unfold lcGo; simp
  | d :: ds, acc, hc, ht => by
    unfold lcGo
    have ih := fun acc => lcGo_pure (ds := ds) (acc := acc) (fun d m => hc d (List.mem_cons_of_mem _ m)) (fun d m => ht d (List.mem_cons_of_mem _ m))
    simp only [bindP, List.set_set, hc d (List.mem_cons_self ..)]
    by_cases z : f d = true
    · rw [if_pos z, ht d (List.mem_cons_self ..) z]
      simp only [unD, List.set_set]
      rw [ih, List.filter_cons_of_pos z]
      simp
    · rw [if_neg z]
      simp only [unD, List.set_set]
      rw [ih, List.filter_cons_of_neg z]
theorem set_getD {i : Nat} {S : List D} : (S.set i .non).set i (S.getD i .non) = S := by
  rw [List.set_set]
  refine List.ext_getElem? fun j => ?_
  rw [List.getElem?_set]
  split
  · rename_i e
    subst e
    split
    · rename_i h
      rw [List.getD_eq_getElem?_getD, List.getElem?_eq_getElem h]; rfl
    · rename_i h
      rw [List.getElem?_eq_none (by omega)]
  · rfl
theorem aLc_pure {i : Nat} {it : EA} {c : EB} {te : E1} {S : List D} {ds : List D} (f : D → Bool) (g : D → D) (hi : it S = .ok (ds, S)) (hc : ∀ d ∈ ds, c (S.set i d) = .ok (f d, S.set i d)) (ht : ∀ d ∈ ds, f d = true → te (S.set i d) = .ok (g d, S.set i d)) :
    aLc (.s i) [i] it c te S = .ok (.lst ((ds.filter f).map g), S) := by
  unfold aLc
  rw [hi]
  simp only [Rz.bind_ok, unD, reD]
  rw [lcGo_pure hc ht]
  simp only [Rz.bind_ok, List.nil_append]
  rw [set_getD]
theorem forGo_nil {p : Pat} {ms : List Mo} {b : S1} {S : List D} : forGo p ms b [] S = .ok (.nx S) := by unfold forGo; rfl
theorem forGo_s {i : Nat} {ms : List Mo} {b : S1} {d : D} {ds S : List D} : forGo (.s i) ms b (d :: ds) S = (b (S.set i d)).bind (loopK ms (forGo (.s i) ms b ds)) := by
  conv => lhs; unfold forGo
  rfl
local macro_rules | `(tactic| walk_at "av") => `(tactic| simp (config := { decide := true }) only [aFun, aFunR, aFunIo, aFunIoR, aSeq, aSet, aNext, aDrop, aIfS, aExpr, aRet, aRetN, aRetO, aPar, aAug, aVar, aC, aBin, aUn, aTest, aTr, aNotB, aOrB, aAndB, aIf, aAndV, aOrV, aNotV, aChain, aNil, aCons, aLst, aTup, aFn, aSl, aSlL, aPart, aNoP, aCall, aCallIo,
  aMeth, aMake, aBr, aBrB, aFor, aIt, aItR, aItR2, aItE, aItS, aYes, aUnp, aM1, aApp, aIxO, aSetIx, aIns, aPop, slotL, aRaise0, aRaise1, aRaise2, aFldP, plV, plF, aTry, bSet, bSeq, bDrop, bIf, findH, hpD, oR_some, oR_none, Rz.bind_ok, Rz.bind_ex, Rz.bind_no, bool?_bl, int?_int, lst?_lst, str?_str, seq?_lst, seq?_tup, seq?_scr, tr_bl, tr_lst, tr_non, tr_int, lt_int, len_lst, len_tup, len_scr, non_non, id_eq, add_int, sub_int, int_int, int_bl, eq_int, ne_int, eq_str, ne_str, ix_lst, ix_tup, okL_0, okL_1, okL_2, okL_3, okL_4, okL_5, okL_6, Nat.zero_add, Nat.reduceAdd, List.length_cons, List.length_nil,
  List.length_append, List.length_replicate, List.replicate_succ, List.replicate_zero, List.nil_append, List.cons_append, List.append_nil, List.getElem?_cons_zero, List.getElem?_cons_succ, List.getElem?_nil, List.set_cons_zero, List.set_cons_succ, Option.bind_some, Option.bind_none, Option.map_some, Option.map_none, if_true, if_false, ite_true, ite_false,
  maskD, Mo.isU, loopK, endO, endR, endIo, endIoR, forGo_nil, forGo_s, dIsN, dNotN, reduceCtorEq, Bool.false_eq_true, Bool.not_true, Bool.not_false, List.headD_cons])
structure Cl (n : Nat) (d : D) : Prop where
  lay : d.py.canLay0 = true
  dep : d.py.depth ≤ n
theorem Cl.int {n : Nat} (i : Int) : Cl n (.int i) := ⟨by unfold D.py PyData.canLay0; rfl, by unfold D.py PyData.depth; omega⟩
theorem Cl.bl {n : Nat} (i : Bool) : Cl n (.bl i) := ⟨by unfold D.py PyData.canLay0; rfl, by unfold D.py PyData.depth; omega⟩
theorem Cl.non {n : Nat} : Cl n .non := ⟨by unfold D.py PyData.canLay0; rfl, by unfold D.py PyData.depth; omega⟩
theorem Cl.str {n : Nat} {s : Str} (h : PyData.strOk s = true) : Cl n (.str s) := ⟨by unfold D.py PyData.canLay0; exact h, by unfold D.py PyData.depth; omega⟩
theorem cl_all {n : Nat} : ∀ {ds : List D}, (∀ d ∈ ds, Cl n d) → PyData.canLayAll0 (D.pys ds) = true ∧ PyData.depthAll (D.pys ds) ≤ n
  | [], _ => ⟨by unfold D.pys PyData.canLayAll0; rfl, by unfold D.pys PyData.depthAll; omega⟩
  | d :: ds, h => by
    obtain ⟨h1, h2⟩ := cl_all (ds := ds) fun d m => h d (List.mem_cons_of_mem _ m)
    have h0 := h d (List.mem_cons_self ..)
    unfold D.pys PyData.canLayAll0 PyData.depthAll
    exact ⟨by rw [h0.lay, h1]; rfl, Nat.max_le.mpr ⟨h0.dep, h2⟩⟩
theorem Cl.lst {n : Nat} {ds : List D} (h : ∀ d ∈ ds, Cl n d) : Cl (n + 1) (.lst ds) := by
  obtain ⟨h1, h2⟩ := cl_all h
  exact ⟨by unfold D.py PyData.canLay0; exact h1, by unfold D.py PyData.depth; omega⟩
theorem Cl.tup {n : Nat} {ds : List D} (h : ∀ d ∈ ds, Cl n d) : Cl (n + 1) (.tup ds) := by
  obtain ⟨h1, h2⟩ := cl_all h
  exact ⟨by unfold D.py PyData.canLay0; exact h1, by unfold D.py PyData.depth; omega⟩
theorem Cl.shaped {n : Nat} {d : D} (h : Cl n d) (hn : n ≤ 64) : SeqAt.shaped d.py = true := by
  unfold SeqAt.shaped
  rw [h.lay, decide_eq_true (Nat.le_trans h.dep hn)]
  rfl
theorem eqB_of {x y : D} (hx : SeqAt.shaped x.py = true) (hy : SeqAt.shaped y.py = true) : dEqB x y = some (PyData.eqv x.py y.py) := by
  unfold dEqB
  split
  · rfl
  · rfl
  · unfold D.py PyData.eqv; rfl
  · rfl
  · rw [hx, hy]; rfl
theorem eq_self {n : Nat} {x : D} (h : Cl n x) (hn : n ≤ 64) : dEq x x = some (.bl true) := by
  unfold dEq
  rw [eqB_of (h.shaped hn) (h.shaped hn), SeqAt.eqv_refl _ h.lay]
  rfl
theorem ne_self {n : Nat} {x : D} (h : Cl n x) (hn : n ≤ 64) : dNe x x = some (.bl false) := by
  unfold dNe
  rw [eqB_of (h.shaped hn) (h.shaped hn), SeqAt.eqv_refl _ h.lay]
  rfl
theorem eqB_nil {n : Nat} {ds : List D} (h : ∀ d ∈ ds, Cl n d) (hn : n < 64) : dEqB (.lst ds) (.lst []) = some ds.isEmpty := by
  rw [eqB_of ((Cl.lst h).shaped (by omega)) ((Cl.lst (n := 0) (ds := []) fun _ z => by cases z).shaped (by omega))]
  cases ds with
  | nil => rfl
  | cons d ds => unfold D.py D.pys PyData.eqv PyData.eqvAll; rfl
theorem eq_nil {n : Nat} {ds : List D} (h : ∀ d ∈ ds, Cl n d) (hn : n < 64) : dEq (.lst ds) (.lst []) = some (.bl ds.isEmpty) := by unfold dEq; rw [eqB_nil h hn]; rfl
theorem ne_nil {n : Nat} {ds : List D} (h : ∀ d ∈ ds, Cl n d) (hn : n < 64) : dNe (.lst ds) (.lst []) = some (.bl (!ds.isEmpty)) := by unfold dNe; rw [eqB_nil h hn]; rfl
theorem cut_from {α : Type} (xs : List α) (k : Nat) : cutD xs (some (k : Int)) none = xs.drop k := by
  unfold cutD
  rw [HT.sIx_none, HT.sIx_nat]
  refine List.ext_getElem? fun j => ?_
  rw [List.getElem?_take, List.getElem?_drop, List.getElem?_drop]
  by_cases h : k ≤ xs.length
  · rw [Nat.min_eq_left h]
    split
    · rfl
    · rw [List.getElem?_eq_none (by omega)]
  · rw [Nat.min_eq_right (by omega), if_neg (by omega), List.getElem?_eq_none (by omega)]
theorem cut_to {α : Type} (xs : List α) (k : Nat) : cutD xs none (some (k : Int)) = xs.take k := by
  unfold cutD
  rw [HT.sIx_none, HT.sIx_nat, List.drop_zero, Nat.sub_zero]
  refine List.ext_getElem? fun j => ?_
  rw [List.getElem?_take, List.getElem?_take]
  by_cases h : k ≤ xs.length
  · rw [Nat.min_eq_left h]
  · rw [Nat.min_eq_right (by omega)]
    by_cases h2 : j < xs.length
    · rw [if_pos h2, if_pos (by omega)]
    · rw [if_neg h2, List.getElem?_eq_none (by omega)]
      split <;> rfl
section
open PySem PySem.Spec PyProof.Rows L2 TL
end
section
open PySem PySem.Spec PyProof.Rows L2
def tyD : D → Option (Sum String Str)
  | .non => some (.inl "NoneType")
  | .bl _ => some (.inl "bool")
  | .int _ => some (.inl "int")
  | .str _ => some (.inl "str")
  | .tup _ => some (.inl "tuple")
  | .lst _ => some (.inl "list")
  | .dct _ _ => some (.inl "dict")
  | .obj c _ => some (.inr c)
  | .scr _ => none
def tyV (K : PySem.W.Frag) : Sum String Str → Value
  | .inl n => .type n
  | .inr c => .ref (He.ga K c)
structure KiOk (K : PySem.W.Frag) (u : Value) (cs : List (Sum String Str × Bool)) : Prop where
  ki : ∀ t b, (t, b) ∈ cs → PySem.W.kitOne K (tyV K t) u = some b
  ow : ∀ c b, (.inr c, b) ∈ cs → Own K (He.ga K c)
def aIsi (cs : List (Sum String Str × Bool)) (a : E1) : E1 := fun S => (a S).bind fun p => oR ((tyD p.1).bind fun t => (cs.find? fun q => decide (q.1 = t)).map fun q => .bl q.2) p.2
section
variable {K : PySem.W.Frag} {E : L2.St → XK} {XE : XK} {H0 F0 F H B : Hp} {io : IO} {rm m : Mo} {mio msb ms ms1 ms' : List Mo} {S : List D} {σ : L2.St} {ta tb te : TE} {a b c : E1} {ts : TA} {as : EA} {i j : Nat} {sh : Sh} {α β : Type} {C n : Str} {fps f1 : List (List Addr)}
theorem ty_rd {p : Addr} {xs : List V} (h : Rd H p (.lst xs)) : TyX K H (.ref p) (.type "list") := h.elim (fun h => .base (.lst h)) fun ⟨o, h⟩ => .base (.frz h)
theorem tyD_ok {d : D} {v : V} {t : Sum String Str} (r : Rep K F d v) (s : Same F H) (e : tyD d = some t) (ow : ∀ c, t = .inr c → Own K (He.ga K c)) (nf : t ≠ .inl "dict") : TyX K H v (tyV K t) := by
  cases d with
  | non => cases e; unfold Rep at r; subst r; exact .base .non
  | bl x => cases e; unfold Rep at r; subst r; exact .base (.bl x)
  | int x => cases e; unfold Rep at r; subst r; exact .base (.int x)
  | str x => cases e; unfold Rep at r; subst r; exact .base (.str x)
  | tup ds =>
    cases e
    obtain ⟨p, vs, rfl, h1, _, _⟩ := r.sqt
    exact ty_t (same_t s h1)
  | lst ds =>
    cases e
    obtain ⟨p, vs, rfl, h1, _, _⟩ := r.rd
    exact ty_rd (rd_up h1 s)
  | dct t' ds => cases e; exact (nf rfl).elim
  | obj c fs =>
    cases e
    unfold Rep at r
    obtain ⟨p, dx, ws, rfl, h1, _⟩ := r
    exact (ow c rfl).ty (s _ _ h1)
  | scr ns => cases e
theorem tyDct_ok {t : Bool} {kvs : List (D × D)} {v : V} (r : Rep K F (.dct t kvs) v) (s : Same F H) (nz : t = false ∨ ∃ p ws, v = .ref p ∧ H p = some (.dT ws)) : TyX K H v (.type "dict") := by
  rcases nz with rfl | ⟨p, ws, rfl, h⟩
  · unfold Rep at r
    obtain ⟨p, ws, rfl, h, _⟩ := r
    exact (rd_up h s).elim (fun h => .base (.dK h)) fun ⟨o, h⟩ => .fDict h
  · exact .base (.dT h)
def D.noT : D → Bool
  | .dct true _ => false
  | _ => true
theorem se_isi {cv : V} {cu : Value} {cs : List (Sum String Str × Bool)} (hc : ClsV cv cu) (ok : KiOk K cu cs) (ha : SE K E ms .z ta a) : SE K E ms .z (tCB (rIsi K) (tCons ta (tCons (tC cv) tNil))) (aIsi cs fun S => (a S).bind fun p => if p.1.noT = true then .ok p else .no) := fun σ H Q H0 F0 io F S fps rl h => by
  have h : Go K E H0 F0 io ms σ fps F H ((a S).bind fun p => (if p.1.noT = true then Rz.ok p else .no).bind fun p => oR ((tyD p.1).bind fun t => (cs.find? fun q => decide (q.1 = t)).map fun q => D.bl q.2) p.2) (PV K H .z Q) := by
    have e : (((a S).bind fun p => if p.1.noT = true then Rz.ok p else .no).bind fun p => oR ((tyD p.1).bind fun t => (cs.find? fun q => decide (q.1 = t)).map fun q => D.bl q.2) p.2) = ((a S).bind fun p => (if p.1.noT = true then Rz.ok p else .no).bind fun p => oR ((tyD p.1).bind fun t => (cs.find? fun q => decide (q.1 = t)).map fun q => D.bl q.2) p.2) := by
      cases a S <;> rfl
    rw [← e]
    exact h
  exact ha.use rl h fun d S1 f1 F1 H1 v r1 e1 v1 h => by
    have nt : d.noT = true ∧ Go K E H0 F0 io ms σ f1 F1 H1 (oR ((tyD d).bind fun t => (cs.find? fun q => decide (q.1 = t)).map fun q => D.bl q.2) S1) (PV K H .z Q) := by
      by_cases z : d.noT = true
      · exact ⟨z, by rw [if_pos z] at h; exact h⟩
      · rw [if_neg z] at h; exact h.elim
    obtain ⟨nt, h⟩ := nt
    obtain ⟨x, ex, h⟩ := h.opt0
    cases et : tyD d with
    | none => rw [et] at ex; cases ex
    | some t =>
      rw [et] at ex
      cases ef : cs.find? fun q => decide (q.1 = t) with
      | none => rw [show ((some t).bind fun t => (cs.find? fun q => decide (q.1 = t)).map fun q => D.bl q.2) = none from by show (cs.find? fun q => decide (q.1 = t)).map _ = none; rw [ef]; rfl] at ex; cases ex
      | some q =>
        rw [show ((some t).bind fun t => (cs.find? fun q => decide (q.1 = t)).map fun q => D.bl q.2) = some (.bl q.2) from by show (cs.find? fun q => decide (q.1 = t)).map _ = _; rw [ef]; rfl] at ex
        cases ex
        have mq := List.mem_of_find?_eq_some ef
        have eq : q.1 = t := by simpa using List.find?_some ef
        have ki := ok.ki q.1 q.2 mq
        rw [eq] at ki
        have ow : ∀ c, t = .inr c → Own K (He.ga K c) := fun c e => ok.ow c q.2 (by rw [← e, ← eq]; exact mq)
        have tx : TyX K H1 v (tyV K t) := by
          by_cases z : t = .inl "dict"
          · cases d with
            | dct t' kvs =>
              cases t' with
              | false => rw [z]; exact tyDct_ok (show Rep K F1 (.dct false kvs) v from v1) r1.sub (.inl rfl)
              | true => cases nt
            | _ => rw [z] at et; simp [tyD] at et
          · exact tyD_ok v1 r1.sub et ow z
        exact ⟨v, cv, tyV K t, cu, q.2, rfl, hc, tx, ki, h.done r1 _ (by unfold VR Rep; rfl)⟩
def D.isO (C : Str) : D → Bool
  | .obj c _ => decide (c = C)
  | _ => false
theorem isO_at {d : D} {v : V} (h : d.isO C = true) (r : Rep K F d v) (s : Same F H) : ∃ p dx ws, v = .ref p ∧ H p = some (.ins (He.ga K C) dx ws) := by
  cases d with
  | obj c fs =>
    have e : c = C := of_decide_eq_true h
    subst e
    unfold Rep at r
    obtain ⟨p, dx, ws, rfl, h1, _⟩ := r
    exact ⟨p, dx, ws, rfl, s _ _ h1⟩
  | _ => cases h
def aOwnB (C : Str) (φ : List D → Rz D) (a b : E1) : E1 := fun S => (a S).bind fun p => (b p.2).bind fun q => if (p.1.isO C && q.1.isO C) = true then (φ [p.1, q.1]).bind fun r => .ok (r, q.2) else .no
theorem se_eqO {φ : List D → Rz D} (hE : ∀ σ, E σ = XE) (ow : Own K (He.ga K C)) (nf : PySem.W.notFirst K (He.ga K C) (.ref (He.ga K C)) = true) (ha : SE K E ms .z ta a) (hb : SE K E ms .z tb b) : SE K E ms rm (tOp (rOwnC K (He.ga K C) (spA K rm φ) XE) ta tb) (aOwnB C φ a b) := fun σ H Q H0 F0 io F S fps rl h =>
  ha.use rl h fun d S1 f1 F1 H1 v r1 e1 v1 h => hb.use r1 h fun e S2 f2 F2 H2 w r2 e2 v2 h => by
    obtain ⟨z, h⟩ := h.iteB
    rw [Bool.and_eq_true] at z
    have v1' := Rep.mono e2.evo.same _ v1
    obtain ⟨p, dx, ws, rfl, g1⟩ := isO_at z.1 v1' r2.sub
    obtain ⟨q, dy, us, rfl, g2⟩ := isO_at z.2 v2 r2.sub
    exact ⟨p, dx, ws, _, rfl, g1, ow.ty g2, nf, sp_call (hE σ) r2 (.cons v1' (.cons v2 .nil)) h (e2.lv (e1.lv live0))⟩
def aOwnU (C : Str) (φ : List D → Rz D) (a : E1) : E1 := fun S => (a S).bind fun p => if p.1.isO C = true then (φ [p.1]).bind fun r => .ok (r, p.2) else .no
end
end
section
open PySem PySem.Spec PyProof.Rows L2
def aOwnIn (C : Str) (φ : List D → Rz D) (a b : E1) : E1 := fun S => (a S).bind fun p => (b p.2).bind fun q => if q.1.isO C = true then (φ [q.1, p.1]).bind fun r => (match r with | .bl b => .ok (.bl b, q.2) | _ => .no) else .no
theorem kiok_nil {K : PySem.W.Frag} {u : Value} : KiOk K u [] := ⟨(fun _ _ m => by cases m), (fun _ _ m => by cases m)⟩
theorem kiok_own {K : PySem.W.Frag} {u : Value} {n : Str} {b : Bool} {cs : List (Sum String Str × Bool)} (o : Own K (He.ga K n)) (h : PySem.W.kitOne K (.ref (He.ga K n)) u = some b) (r : KiOk K u cs) : KiOk K u ((.inr n, b) :: cs) :=
  ⟨fun t c m => (List.mem_cons.mp m).elim (fun e => by cases e; exact h) (r.ki t c), fun t c m => (List.mem_cons.mp m).elim (fun e => by cases e; exact o) (r.ow t c)⟩
section
variable {K : PySem.W.Frag} {E : L2.St → XK} {XE : XK} {H0 F0 F H B : Hp} {io : IO} {rm m : Mo} {mio msb ms ms1 ms' : List Mo} {S : List D} {σ : L2.St} {ta tb te : TE} {a b c : E1} {ts : TA} {as : EA} {i j : Nat} {sh : Sh} {α β : Type} {C n : Str} {fps f1 : List (List Addr)}
end
end
section
open PySem PySem.Spec PyProof.Rows L2
section
variable {K : PySem.W.Frag} {m : Mo}
end
end
section
open PySem PySem.Spec PyProof.Rows L2
end
section
open PySem PySem.Spec PyProof.Rows L2
section
variable {K : PySem.W.Frag} {E : L2.St → XK} {m : Mo} {ms : List Mo} {ts : TA} {as : EA}
end
end
section
open PySem PySem.Spec PyProof.Rows L2
def aLM (f : D → D → Option D) (a b : E1) : E1 := fun S => (a S).bind fun p => (oR p.1.lst? p.2).bind fun z => (b z.2).bind fun q => oR (f (.lst z.1) q.1) q.2
abbrev aNoT (a : E1) : E1 := fun S => (a S).bind fun p => if p.1.noT = true then .ok p else .no
section
variable {K : PySem.W.Frag} {E : L2.St → XK} {H0 F0 F H B : Hp} {io : IO} {m : Mo} {ms : List Mo} {S : List D} {σ : L2.St} {ta tb : TE} {a b : E1} {fps : List (List Addr)}
theorem lst?_eq {d : D} {l : List D} (h : d.lst? = some l) : d = .lst l := by
  cases d <;> first | (cases h; rfl) | cases h
end
end
section
open PySem PySem.Spec PyProof.Rows L2
section
variable {X : Cx} {K : PySem.W.Frag}
end
end
section
open PySem PySem.Spec PyProof.Rows L2
section
variable {X : Cx} {pins : List (Addr × Obj)} {σ : L2.St} {H : Hp} {s : Shared} {a b : Addr} {r : Value} {d : V} {k : List Key} {A : Around} {E : Value → Shared → Prop}
end
section
variable {X : Cx} {o e f : Expr} {td ty tx : TE} {apos cpos : Pos}
end
section
variable {K : PySem.W.Frag} {E : L2.St → XK} {H0 F0 F H B : Hp} {io : IO} {rm m : Mo} {mio msb ms : List Mo} {S : List D} {σ : L2.St} {ta tb t tk tv : TE} {pl : PL} {qk : QX} {i : Nat} {s s' : Sh}
end
end
section
open PySem PySem.Spec PyProof.Rows L2
section
variable {K : PySem.W.Frag} {F F' : Hp}
end
end
section
open PySem PySem.Spec PyProof.Rows L2
end
section
open PySem PySem.Spec PyProof.Rows L2
section
variable {K : PySem.W.Frag} {E : L2.St → XK} {H0 F0 F H B F1 H1 : Hp} {io : IO} {rm m : Mo} {ms : List Mo} {S S1 : List D} {σ σ' : L2.St} {wi : TI} {it : EA} {g : TG} {p : Pat} {tt : TT} {c : EB} {te td : TE} {ta : E1} {vs : List Nat} {β : Type} {fps f1 : List (List Addr)} {J : It} {ds : List D} {Q : VK}
end
section
variable {X : Cx}
end
section
variable {K : PySem.W.Frag} {vs : List V} {H : Hp} {Q : VK} {E : XK}
end
end
section
open PySem PySem.Spec PyProof.Rows L2
section
variable {K : PySem.W.Frag} {E : L2.St → XK} {H0 F0 F H B F1 H1 : Hp} {io : IO} {rm m : Mo} {mio msb ms : List Mo} {S S1 : List D} {σ σ' : L2.St} {i j : Nat} {t ta td : TE} {a x : E1} {pl : PL} {fps f1 : List (List Addr)}
end
end
section
open PySem PySem.Spec PyProof.Rows L2
def aRetU1 (mio : List Mo) (a : E1) (i : Nat) : S1 := fun S => (a S).bind fun p => (oR p.2[i]? p.2).bind fun q => .ok (.rt (.tup [p.1, q.1]) (maskD mio p.2))
def aRetU2 (mio : List Mo) (a b : E1) (i : Nat) : S1 := fun S => (a S).bind fun p => (b p.2).bind fun p2 => (oR p2.2[i]? p2.2).bind fun q => .ok (.rt (.tup [p.1, p2.1, q.1]) (maskD mio p2.2))
section
variable {K : PySem.W.Frag} {E : L2.St → XK} {H0 F0 F H B : Hp} {io : IO} {rm m : Mo} {mio msb ms ms' : List Mo} {S : List D} {σ : L2.St} {ta tb : TE} {a b : E1} {i : Nat} {fps : List (List Addr)} {sh : Sh}
end
def aPar3 (i j l : Nat) (a b c : E1) : S1 := fun S => (a S).bind fun p => (b p.2).bind fun q => (c q.2).bind fun r => .ok (.nx (((r.2.set i p.1).set j q.1).set l r.1))
section
variable {K : PySem.W.Frag} {E : L2.St → XK} {H0 F0 F H B : Hp} {io : IO} {rm m : Mo} {mio msb ms ms' : List Mo} {S : List D} {σ : L2.St} {ta tb tc : TE} {a b c : E1} {i j l : Nat} {fps : List (List Addr)} {sh : Sh}
end
section
variable {K : PySem.W.Frag} {vs : List V} {H : Hp} {Q : VK} {E : XK}
end
section
variable {K : PySem.W.Frag}
end
section
variable {P : Program} {w : World} {K : PySem.W.Frag} {mg : Str → Option Value} {base : Heap} {f : Addr} {fd : FuncData}
end
end
section
open PySem PySem.Spec PyProof.Rows L2
section
variable {X : Cx}
end
section
variable {K : PySem.W.Frag}
end
end
section
open PySem PySem.Spec PyProof.Rows L2
section
variable {P : Program} {w : World} {K : PySem.W.Frag} {mg : Str → Option Value} {base : Heap} {x q m : Str} {st : Stmt} {f C : Addr} {fd : FuncData} {k : Nat} {sp : Sp} {ks : List (Str × V)}
end
section
variable {X : Cx} {C : Addr} {m : Str} {k j : Nat} {sp : Sp} {e : Expr} {ta : TE} {pos : Pos}
end
section
variable {K : PySem.W.Frag} {E : L2.St → XK} {XE : XK} {H0 F0 F H B : Hp} {io : IO} {rm m : Mo} {ms ms1 ms' : List Mo} {S : List D} {σ : L2.St} {ta tb te : TE} {a b c : E1} {C : Str}
end
end
section
open PySem PySem.Spec PyProof.Rows L2
section
variable {K : PySem.W.Frag} {m : Mo}
end
end
section
open PySem PySem.Spec PyProof.Rows L2
section
variable {K : PySem.W.Frag} {E : L2.St → XK} {H0 F0 F H : Hp} {io : IO} {ms : List Mo} {S : List D} {σ : L2.St} {ta tb : TE} {a b : E1} {α β : Type} {fps : List (List Addr)}
end
end
section
open PySem PySem.Spec PyProof.Rows L2
section
variable {K : PySem.W.Frag} {E : L2.St → XK} {XE : XK} {H0 F0 F H B : Hp} {io : IO} {rm m : Mo} {ms ms1 ms' : List Mo} {S : List D} {σ : L2.St} {ta tb te : TE} {a b c : E1} {C : Str}
end
end
section
open PySem PySem.Spec PyProof.Rows L2
section
variable {K : PySem.W.Frag} {F : Hp}
end
section
variable {K : PySem.W.Frag} {E : L2.St → XK} {H0 F0 F H F' H' G : Hp} {io : IO} {ms : List Mo} {S : List D} {σ : L2.St} {m : Mo} {ta : TE} {tt : TT} {a : E1} {x : EB} {fps : List (List Addr)}
end
end
section
open PySem PySem.Spec PyProof.Rows L2
section
variable {K : PySem.W.Frag} {E : L2.St → XK} {XE : XK} {H0 F0 F H B F1 H1 F' H' : Hp} {io : IO} {rm m : Mo} {mio msb ms ms1 ms' : List Mo} {S : List D} {σ : L2.St} {ta tb te t tk tv td : TE} {a b : E1} {tt : TT} {x : EB} {i j : Nat} {s s' c : Sh} {α β : Type} {fps f1 : List (List Addr)} {qa qb qk : QX} {ts : TA} {as : EA} {qs : List D → Rz (List D)} {qx : List D → Rz Bool} {pl : PL} {C n : Str}
end
end
section
open PySem PySem.Spec PyProof.Rows L2
section
variable {K : PySem.W.Frag} {E : L2.St → XK} {XE : XK} {H0 F0 F H B F1 H1 F' H' : Hp} {io : IO} {rm m : Mo} {mio msb ms ms1 ms2 ms' : List Mo} {S : List D} {σ : L2.St} {ta tb te t tk tv td : TE} {a b : E1} {tt : TT} {x : EB} {i j k n : Nat} {s s' c sh : Sh} {α β : Type} {fps f1 : List (List Addr)} {qa qb qk : QX} {ts : TA} {as : EA} {qs : List D → Rz (List D)} {qx : List D → Rz Bool} {pl : PL} {C : Str} {vs : List V} {Q : VK} {body : S1}
end
end
section
open PySem PySem.Spec PyProof.Rows L2
section
variable {K : PySem.W.Frag} {E : L2.St → XK} {XE : XK} {H0 F0 F H B F1 H1 F' H' : Hp} {io : IO} {rm m : Mo} {mio msb ms ms1 ms2 ms' : List Mo} {S : List D} {σ : L2.St} {ta tb te t tk tv td : TE} {a b : E1} {tt : TT} {x : EB} {i j k n : Nat} {s s' c sh : Sh} {α β : Type} {fps f1 : List (List Addr)} {ts : TA} {as : EA} {Q : VK}
end
end
section
open PySem PySem.Spec PyProof.Rows L2
section
variable {K : PySem.W.Frag} {F H F' H' : Hp} {s s1 s2 : Sh} {d d1 d2 : D} {v v1 v2 : V} {fp f1 f2 : List Addr} {up up1 : D → D}
theorem AllK.snoc {P : D → V → List Addr → Prop} {q : Key} {y : D} {w : V} {f : List Addr} (hp : P y w f) : ∀ {ds : List (D × D)} {vs : List (Key × V)} {fp : List Addr}, AllK P ds vs fp → AllK P (ds ++ [(keyD q, y)]) (vs ++ [(q, w)]) (fp ++ f)
  | [], _, _, h => by
    unfold AllK at h
    obtain ⟨rfl, rfl⟩ := h
    exact ⟨q, w, [], f, [], rfl, by simp, rfl, hp, rfl, rfl⟩
  | (k, d) :: ds, _, _, h => by
    unfold AllK at h
    obtain ⟨p, v, us, f1, f2, rfl, rfl, rfl, h1, h2⟩ := h
    exact ⟨p, v, us ++ [(q, w)], f1, f2 ++ f, rfl, by simp, rfl, h1, AllK.snoc hp h2⟩
theorem AllK.any {P : D → V → List Addr → Prop} {q : Key} : ∀ {ds : List (D × D)} {vs : List (Key × V)} {fp : List Addr}, AllK P ds vs fp → (vs.any fun kv => decide (kv.1 = q)) = (ds.any fun p => keq p.1 (keyD q)) ∧ vs.length = ds.length
  | [], _, _, h => by
    unfold AllK at h
    obtain ⟨rfl, rfl⟩ := h
    exact ⟨rfl, rfl⟩
  | (k, d) :: ds, _, _, h => by
    unfold AllK at h
    obtain ⟨p, v, us, f1, f2, rfl, rfl, rfl, h1, h2⟩ := h
    obtain ⟨i1, i2⟩ := AllK.any (q := q) h2
    refine ⟨?_, by simp [i2]⟩
    rw [List.any_cons, List.any_cons, i1]
    dsimp only
    rw [keq_key p q]
end
section
variable {K : PySem.W.Frag} {E : L2.St → XK} {H0 F0 F H B F1 H1 F2 H2 : Hp} {io : IO} {rm m : Mo} {ms : List Mo} {S : List D} {σ σ' : L2.St} {wi : TI} {it : EA} {g : TG} {p : Pat} {tt : TT} {c : EB} {t tk tv : TE} {ka va : E1} {vs : List Nat} {β : Type} {fps fa fb : List (List Addr)} {i : Nat} {s' : Sh} {pl : PL} {qk : QX}
end
end
section
open PySem PySem.Spec PyProof.Rows L2
section
variable {K : PySem.W.Frag} {E : L2.St → XK} {H0 F0 F H B F1 H1 : Hp} {io : IO} {rm m : Mo} {ms : List Mo} {S S1 : List D} {σ σ' : L2.St} {wi : TI} {it : EA} {g : TG} {p : Pat} {tt : TT} {c : EB} {tk tv td : TE} {ka va : E1} {vs : List Nat} {β : Type} {fps f1 : List (List Addr)} {J : It} {ds : List D} {Q : VK}
end
section
variable {X : Cx}
end
end
section
open PySem PySem.Spec PyProof.Rows L2
def lcIn (p : Pat) (vs : List Nat) (c : EB) (te : E1) : List D → List D → List D → Rz (List D × List D)
  | [], S, acc => .ok (acc, S)
  | d :: ds, S, acc => match bindP p d S with
    | none => .no
    | some S1 => match c S1 with
      | .ok (b, S2) => if b = true then (match te S2 with
          | .ok (x, S3) => if acc.length < sizeLine then lcIn p vs c te ds (unD vs S3) (acc ++ [x]) else .no
          | _ => .no) else lcIn p vs c te ds (unD vs S2) acc
      | _ => .no
def lc2Go (p : Pat) (vs : List Nat) (c : EB) (p1 : Pat) (vs1 : List Nat) (it1 : EA) (c1 : EB) (te : E1) : List D → List D → List D → Rz (List D × List D)
  | [], S, acc => .ok (acc, S)
  | d :: ds, S, acc => match bindP p d S with
    | none => .no
    | some S1 => match c S1 with
      | .ok (b, S2) => if b = true then (match it1 S2 with
          | .ok (es, S3) => (match lcIn p1 vs1 c1 te es (unD vs1 S3) acc with
            | .ok (acc', S4) => lc2Go p vs c p1 vs1 it1 c1 te ds (unD vs S4) acc'
            | _ => .no)
          | _ => .no) else lc2Go p vs c p1 vs1 it1 c1 te ds (unD vs S2) acc
      | _ => .no
def aLc2 (p : Pat) (vs : List Nat) (it : EA) (c : EB) (p1 : Pat) (vs1 : List Nat) (it1 : EA) (c1 : EB) (te : E1) : E1 := fun S => (it S).bind fun q => (lc2Go p vs c p1 vs1 it1 c1 te q.1 (unD vs q.2) []).bind fun r => .ok (.lst r.1, reD vs q.2 r.2)
section
variable {K : PySem.W.Frag} {E : L2.St → XK} {H0 F0 F H B F1 H1 Fb Hb : Hp} {io : IO} {rm m : Mo} {ms ms2 : List Mo} {S S1 S' : List D} {σ σ' : L2.St} {wi wi1 : TI} {it it1 : EA} {g g1 : TG} {p p1 : Pat} {tt tt1 : TT} {c c1 : EB} {te td : TE} {ta : E1} {vs vs1 : List Nat} {β : Type} {fps f1 fb : List (List Addr)} {J : It} {ds acc acc' : List D} {accV : List V} {Q : VK} {Dl : Addr}
theorem wipe_sub (h : ∀ i ∈ vs1, i ∈ vs) : wipe (wipe σ vs1) vs = wipe σ vs := by
  refine List.ext_getElem? fun j => ?_
  by_cases z : j ∈ vs
  · by_cases hj : j < σ.length
    · rw [(un_in z).2.2.2 σ hj, (un_in z).2.2.2 (wipe σ vs1) (by rw [wipe_length]; exact hj)]
    · rw [List.getElem?_eq_none (by rw [wipe_length, wipe_length]; omega), List.getElem?_eq_none (by rw [wipe_length]; omega)]
  · rw [(un_out z).2.2.2, (un_out z).2.2.2, (un_out fun y => z (h j y)).2.2.2]
theorem unM_sub (h : ∀ i ∈ vs1, i ∈ vs) : unM vs (unM vs1 ms) = unM vs ms := by
  refine List.ext_getElem? fun j => ?_
  by_cases z : j ∈ vs
  · by_cases hj : j < ms.length
    · rw [(un_in z).1 ms hj, (un_in z).1 (unM vs1 ms) (by rw [(un_len vs1).1]; exact hj)]
    · rw [List.getElem?_eq_none (by rw [(un_len vs).1, (un_len vs1).1]; omega), List.getElem?_eq_none (by rw [(un_len vs).1]; omega)]
  · rw [(un_out z).1, (un_out z).1, (un_out fun y => z (h j y)).1]
theorem lc_in (hg : SG K p g) (hp : ∀ i ∈ patI p, i ∈ vs) (hl : ∀ i ∈ patI p, i < ms.length) (hc : ST K (fun _ => E0) (patM p (unM vs ms)) tt c) (he : SE K (fun _ => E0) (patM p (unM vs ms)) .z te ta)
    (r1 : Rel K H0 F0 io F1 H1 ms S1 σ f1) (ev0 : Ev fb f1 Fb Hb F1 H1) (hD : Hb Dl = none) (H0D : H0 Dl = none) (wd : WalkD K F1 J ds) (tD : H1 Dl = some (.lst accV) ∧ F1 Dl = none ∧ ¬ Mine f1 Dl) (ra : Reps K F1 acc accV)
    (e : lcIn p vs c ta ds (unD vs S1) acc = .ok (acc', S')) (Nx : Hp → Prop)
    (hN : ∀ F' H' f' aV, Rel K H0 F0 io F' H' (unM vs ms) S' (wipe σ vs) f' → Ev fb f' Fb Hb F' H' → Same F1 F' → (H' Dl = some (.lst aV) ∧ F' Dl = none ∧ ¬ Mine f' Dl) → Reps K F' acc' aV → Nx H') :
    ∃ W1 : Nat → Nat → Hp → Prop, (∃ m, W1 0 m H1) ∧ ∀ j k H, W1 j k H → (J.stop j H ∧ Nx H) ∨ (J.go j H ∧ ∃ Nx1 : Hp → Prop, (∀ H', Nx1 H' → ∃ k', k' < k ∧ W1 (j + 1) k' H') ∧ ∀ x H', J.yld j H x H' → g x (wipe σ vs) H' fun σ3 H5 => wipe σ3 vs = wipe σ vs ∧ tt σ3 H5 fun b H6 =>
      if b = true then te σ3 H6 fun y H7 => ∃ acc, H7 Dl = some (.lst acc) ∧ acc.length < sizeLine ∧ Nx1 (upd H7 Dl (.lst (acc ++ [y]))) else Nx1 H6) := by
  have rw1 := r1.unv vs
  have mu : ∀ {f : List (List Addr)} {a}, Mine (unF vs f) a → Mine f a := fun z => unF_mine vs z
  refine ⟨fun i n H' => n = ds.length - i ∧ i ≤ ds.length ∧ ∃ F' Sx ac aV f', Rel K H0 F0 io F' H' (unM vs ms) Sx (wipe σ vs) f' ∧ Ev fb f' Fb Hb F' H' ∧ Same F1 F' ∧ (H' Dl = some (.lst aV) ∧ F' Dl = none ∧ ¬ Mine f' Dl) ∧ Reps K F' ac aV ∧ lcIn p vs c ta (ds.drop i) Sx ac = .ok (acc', S'),
    ⟨ds.length, by simp, Nat.zero_le _, F1, unD vs S1, acc, accV, _, rw1, ⟨ev0.evo, fun a z => ev0.mine a (mu z)⟩, Same.refl _, ⟨tD.1, tD.2.1, fun z => tD.2.2 (mu z)⟩, ra, e⟩, ?_⟩
  rintro i n H' ⟨rfl, hil, F', Sx, ac, aV, f', r', ev, sm, tD', ra', eg⟩
  obtain ⟨w1, w2, w3⟩ := wd F' H' sm r'.ok
  by_cases hlt : i < ds.length
  · refine .inr ⟨w1 i hlt, fun H2 => ds.length - (i + 1) = ds.length - (i + 1) ∧ i + 1 ≤ ds.length ∧ ∃ F2 S2 ac2 aV2 f2, Rel K H0 F0 io F2 H2 (unM vs ms) S2 (wipe σ vs) f2 ∧ Ev fb f2 Fb Hb F2 H2 ∧ Same F1 F2 ∧ (H2 Dl = some (.lst aV2) ∧ F2 Dl = none ∧ ¬ Mine f2 Dl) ∧ Reps K F2 ac2 aV2 ∧ lcIn p vs c ta (ds.drop (i + 1)) S2 ac2 = .ok (acc', S'),
      fun H2 q => ⟨ds.length - (i + 1), by omega, q⟩, fun x H2 y => ?_⟩
    obtain ⟨F2, gr, rx⟩ := w3 i x H2 ds[i] (List.getElem?_eq_getElem hlt) y
    have r2 := r'.grow gr
    have tD2 := stayD tD'.1 tD'.2.1 tD'.2.2 (Ev.grow (fps := f') gr)
    have ev2 := ev.trans (Ev.grow (fps := f') gr)
    rw [List.drop_eq_getElem_cons hlt] at eg
    unfold lcIn at eg
    cases eb : bindP p ds[i] Sx with
    | none => rw [eb] at eg; cases eg
    | some S3 =>
      rw [eb] at eg
      refine hg (unM vs ms) _ H2 H0 F0 io F2 Sx f' ds[i] x _ S3 r2 rx (fun j z => by rw [(un_len vs).1]; exact hl j z) eb fun σ3 r3 b3 => ⟨wipe_but b3 hp, ?_⟩
      have tD3 : H2 Dl = some (.lst aV) ∧ F2 Dl = none ∧ ¬ Mine (patF p f') Dl := ⟨tD2.1, tD2.2.1, fun z => tD2.2.2 (patF_mine p z)⟩
      have ev3 : Ev fb (patF p f') Fb Hb F2 H2 := ⟨ev2.evo, fun a z => ev2.mine a (patF_mine p z)⟩
      dsimp only at eg
      have back : ∀ {Fa Ha Sa fa}, Rel K H0 F0 io Fa Ha (patM p (unM vs ms)) Sa σ3 fa → Rel K H0 F0 io Fa Ha (unM vs ms) (unD vs Sa) (wipe σ vs) (unF vs fa) := fun {Fa Ha Sa fa} r => by
        have := r.unv vs
        rw [unM_pat hp, wipe_but b3 hp] at this
        exact this
      cases ec : c S3 with
      | no => rw [ec] at eg; cases eg
      | ex cc fs => rw [ec] at eg; cases eg
      | ok bS =>
        obtain ⟨b, S4⟩ := bS
        rw [ec] at eg
        dsimp only at eg
        refine hc σ3 H2 _ H0 F0 io F2 S3 _ r3 ?_
        rw [ec]
        intro F4 H4 f4 r4 e4
        have tD4 := stayD tD3.1 tD3.2.1 tD3.2.2 e4
        have ev4 := ev3.trans e4
        have sm4 := (sm.trans gr.same).trans e4.evo.same
        cases b with
        | false =>
          rw [if_neg Bool.false_ne_true] at eg ⊢
          exact ⟨rfl, hlt, F4, _, ac, aV, _, back r4, ⟨ev4.evo, fun a z => ev4.mine a (mu z)⟩, sm4, ⟨tD4.1, tD4.2.1, fun z => tD4.2.2 (mu z)⟩, Reps.mono (gr.same.trans e4.evo.same) ac ra', eg⟩
        | true =>
          rw [if_pos rfl] at eg ⊢
          cases et : ta S4 with
          | no => rw [et] at eg; cases eg
          | ex cc fs => rw [et] at eg; cases eg
          | ok xS =>
            obtain ⟨d, S5⟩ := xS
            rw [et] at eg
            dsimp only at eg
            refine he σ3 H4 _ H0 F0 io F4 S4 f4 r4 ?_
            rw [et]
            intro F5 H5 f5 r5 e5 v rv
            have tD5 := stayD tD4.1 tD4.2.1 tD4.2.2 e5
            have ev5 := ev4.trans e5
            have ra5 : Reps K F5 ac aV := Reps.mono ((gr.same.trans e4.evo.same).trans e5.evo.same) ac ra'
            split at eg
            · rename_i cl
              have e6 : Evo (fun a => a = Dl) F5 H5 F5 (upd H5 Dl (.lst (aV ++ [v]))) := Evo.upd r5.ok tD5.1 nt_lst nt_lst tD5.2.1
              have r6 := (back r5).go e6 (fun a z q => tD5.2.2 (mu (by rw [← q]; exact z))) (fun a o z q => by rw [q, tD5.1] at z; cases z; exact nt_lst) fun a z => .inl (by rw [z]; exact H0D)
              exact ⟨aV, tD5.1, by rw [ra5.len]; exact cl, rfl, hlt, F5, _, ac ++ [d], aV ++ [v], _, r6, ⟨ev5.evo.trans e6 fun a z => .inr (by rw [z]; exact hD), fun a z => ev5.mine a (mu z)⟩, sm4.trans e5.evo.same, ⟨upd_same, tD5.2.1, fun z => tD5.2.2 (mu z)⟩, ra5.app (.cons rv .nil), eg⟩
            · cases eg
  · have ei : i = ds.length := by omega
    subst ei
    rw [List.drop_length] at eg
    unfold lcIn at eg
    cases eg
    exact .inl ⟨w2, hN F' H' f' aV r' ev sm tD' ra'⟩
theorem lcIn_len : ∀ {ds : List D} {S acc acc' : _} {S' : List D}, lcIn p vs c ta ds S acc = .ok (acc', S') → acc.length ≤ sizeLine → acc'.length ≤ sizeLine
  | [], S, acc, acc', S', e, h => by unfold lcIn at e; cases e; exact h
  | d :: ds, S, acc, acc', S', e, h => by
    unfold lcIn at e
    split at e
    · cases e
    · split at e
      · split at e
        · split at e
          · split at e
            · exact lcIn_len e (by rw [List.length_append]; simp; omega)
            · cases e
          · cases e
        · exact lcIn_len e h
      · cases e
theorem se_lc2 (hi : SI K E ms wi it) (hg : SG K p g) (hp : ∀ i ∈ patI p, i ∈ vs) (no : noOwn vs ms = true) (hc : ST K (fun _ => E0) (patM p (unM vs ms)) tt c) (hi1 : SI K (fun _ => E0) (patM p (unM vs ms)) wi1 it1) (hg1 : SG K p1 g1) (hp1 : ∀ i ∈ patI p1, i ∈ vs1) (hv : ∀ i ∈ vs1, i ∈ vs)
    (hc1 : ST K (fun _ => E0) (patM p1 (unM vs1 (patM p (unM vs ms)))) tt1 c1) (he : SE K (fun _ => E0) (patM p1 (unM vs1 (patM p (unM vs ms)))) .z te ta) :
    SE K E ms (.o (.l .z)) (tLc2 wi g tt wi1 g1 tt1 te vs vs1) (aLc2 p vs it c p1 vs1 it1 c1 ta) := fun σ H Q H0 F0 io F S fps rl h => hi.use rl h fun ds S1 f1 F1 H1 J r1 e1 ln wd h => by
  intro Dl hD
  have F1D : F1 Dl = none := fnone r1.sub hD
  have H0D : H0 Dl = none := Classical.byContradiction fun z => r1.evo.liv Dl z hD
  have mD : ¬ Mine f1 Dl := fun z => r1.ne z hD
  have hvl : ∀ i ∈ vs, i < ms.length := fun i z => by
    obtain ⟨m, e, _⟩ := noOwn_at no i z
    exact (List.getElem?_eq_some_iff.mp e).1
  have uf := r1.unF_eq no
  have g0 : Grow F1 H1 F1 (upd H1 Dl (.lst [])) := Grow.own r1.ok hD nt_lst
  have rw1 := r1.unv vs
  rw [uf] at rw1
  have mu : ∀ {f : List (List Addr)} {a}, Mine (unF vs f) a → Mine f a := fun z => unF_mine vs z
  obtain ⟨R0, eR⟩ : ∃ R0, R0 = lc2Go p vs c p1 vs1 it1 c1 ta ds (unD vs S1) [] := ⟨_, rfl⟩
  replace h : Go K E H0 F0 io ms σ f1 F1 H1 (R0.bind fun r => .ok (.lst r.1, reD vs S1 r.2)) (PV K H (.o (.l .z)) Q) := by rw [eR]; exact h
  refine ⟨fun i n H' => n = ds.length - i ∧ i ≤ ds.length ∧ ∃ F' Sx ac aV f', Rel K H0 F0 io F' H' (unM vs ms) Sx (wipe σ vs) f' ∧ Ev f1 f' F1 H1 F' H' ∧ (H' Dl = some (.lst aV) ∧ F' Dl = none ∧ ¬ Mine f' Dl) ∧ Reps K F' ac aV ∧ ac.length ≤ sizeLine ∧ lc2Go p vs c p1 vs1 it1 c1 ta (ds.drop i) Sx ac = R0,
    ⟨ds.length, by simp, Nat.zero_le _, F1, unD vs S1, [], [], f1, rw1.grow g0, Ev.grow g0, ⟨upd_same, F1D, mD⟩, .nil, Nat.zero_le _, eR.symm⟩, ?_⟩
  rintro i n H' ⟨rfl, hil, F', Sx, ac, aV, f', r', ev, tD', ra', la, eg⟩
  obtain ⟨w1, w2, w3⟩ := wd F' H' ev.evo.same r'.ok
  rw [← eg] at h
  by_cases hlt : i < ds.length
  · refine .inr ⟨w1 i hlt, fun H2 => ds.length - (i + 1) = ds.length - (i + 1) ∧ i + 1 ≤ ds.length ∧ ∃ F2 S2 ac2 aV2 f2, Rel K H0 F0 io F2 H2 (unM vs ms) S2 (wipe σ vs) f2 ∧ Ev f1 f2 F1 H1 F2 H2 ∧ (H2 Dl = some (.lst aV2) ∧ F2 Dl = none ∧ ¬ Mine f2 Dl) ∧ Reps K F2 ac2 aV2 ∧ ac2.length ≤ sizeLine ∧ lc2Go p vs c p1 vs1 it1 c1 ta (ds.drop (i + 1)) S2 ac2 = R0,
      fun H2 q => ⟨ds.length - (i + 1), by omega, q⟩, fun x H2 y => ?_⟩
    obtain ⟨F2, gr, rx⟩ := w3 i x H2 ds[i] (List.getElem?_eq_getElem hlt) y
    have r2 := r'.grow gr
    have tD2 := stayD tD'.1 tD'.2.1 tD'.2.2 (Ev.grow (fps := f') gr)
    have ev2 := ev.trans (Ev.grow (fps := f') gr)
    rw [List.drop_eq_getElem_cons hlt] at h eg
    unfold lc2Go at h eg
    cases eb : bindP p ds[i] Sx with
    | none => rw [eb] at h; exact h.elim
    | some S3 =>
      rw [eb] at h eg
      refine hg (unM vs ms) _ H2 H0 F0 io F2 Sx f' ds[i] x _ S3 r2 rx (fun j z => by rw [(un_len vs).1]; exact hvl j (hp j z)) eb fun σ3 r3 b3 => ⟨wipe_but b3 hp, ?_⟩
      have tD3 : H2 Dl = some (.lst aV) ∧ F2 Dl = none ∧ ¬ Mine (patF p f') Dl := ⟨tD2.1, tD2.2.1, fun z => tD2.2.2 (patF_mine p z)⟩
      have ev3 : Ev f1 (patF p f') F1 H1 F2 H2 := ⟨ev2.evo, fun a z => ev2.mine a (patF_mine p z)⟩
      dsimp only at h eg
      have back : ∀ {Fa Ha Sa fa}, Rel K H0 F0 io Fa Ha (patM p (unM vs ms)) Sa σ3 fa → Rel K H0 F0 io Fa Ha (unM vs ms) (unD vs Sa) (wipe σ vs) (unF vs fa) := fun {Fa Ha Sa fa} r => by
        have := r.unv vs
        rw [unM_pat hp, wipe_but b3 hp] at this
        exact this
      have back1 : ∀ {Fa Ha Sa fa}, Rel K H0 F0 io Fa Ha (unM vs1 (patM p (unM vs ms))) Sa (wipe σ3 vs1) fa → Rel K H0 F0 io Fa Ha (unM vs ms) (unD vs Sa) (wipe σ vs) (unF vs fa) := fun {Fa Ha Sa fa} r => by
        have := r.unv vs
        rw [unM_sub hv, unM_pat hp, wipe_sub hv, wipe_but b3 hp] at this
        exact this
      cases ec : c S3 with
      | no => rw [ec] at h; exact h.elim
      | ex cc fs => rw [ec] at h; exact h.elim
      | ok bS =>
        obtain ⟨b, S4⟩ := bS
        rw [ec] at h eg
        dsimp only at h eg
        refine hc σ3 H2 _ H0 F0 io F2 S3 _ r3 ?_
        rw [ec]
        intro F4 H4 f4 r4 e4
        have tD4 := stayD tD3.1 tD3.2.1 tD3.2.2 e4
        have ev4 := ev3.trans e4
        cases b with
        | false =>
          rw [if_neg Bool.false_ne_true] at h eg ⊢
          exact ⟨rfl, hlt, F4, _, ac, aV, _, back r4, ⟨ev4.evo, fun a z => ev4.mine a (mu z)⟩, ⟨tD4.1, tD4.2.1, fun z => tD4.2.2 (mu z)⟩, Reps.mono (gr.same.trans e4.evo.same) ac ra', la, eg⟩
        | true =>
          rw [if_pos rfl] at h eg ⊢
          cases et : it1 S4 with
          | no => rw [et] at h; exact h.elim
          | ex cc fs => rw [et] at h; exact h.elim
          | ok xS =>
            obtain ⟨es, S5⟩ := xS
            rw [et] at h eg
            dsimp only at h eg
            refine hi1 σ3 H4 _ H0 F0 io F4 S4 f4 r4 ?_
            rw [et]
            intro F5 H5 f5 r5 e5 J1 l1 wd1
            have tD5 := stayD tD4.1 tD4.2.1 tD4.2.2 e5
            have ev5 := ev4.trans e5
            have ra5 : Reps K F5 ac aV := Reps.mono ((gr.same.trans e4.evo.same).trans e5.evo.same) ac ra'
            cases ei : lcIn p1 vs1 c1 ta es (unD vs1 S5) ac with
            | no => rw [ei] at h; exact h.elim
            | ex cc fs => rw [ei] at h; exact h.elim
            | ok rS =>
              obtain ⟨ac', S6⟩ := rS
              rw [ei] at h eg
              dsimp only at h eg
              refine lc_in hg1 hp1 (fun j z => by rw [patM_len, (un_len vs).1]; exact hvl j (hv j (hp1 j z))) hc1 he r5 ev5 hD H0D wd1 tD5 ra5 ei _ fun F6 H6 f6 aV6 r6 ev6 _ tD6 ra6 => ?_
              exact ⟨rfl, hlt, F6, _, ac', aV6, _, back1 r6, ⟨ev6.evo, fun a z => ev6.mine a (mu z)⟩, ⟨tD6.1, tD6.2.1, fun z => tD6.2.2 (mu z)⟩, ra6, lcIn_len ei la, eg⟩
  · have ei : i = ds.length := by omega
    subst ei
    rw [List.drop_length] at h
    unfold lc2Go at h
    refine .inl ⟨w2, ?_⟩
    have h : Go K E H0 F0 io ms σ f1 F1 H1 (.ok (.lst ac, reD vs S1 Sx)) (PV K H (.o (.l .z)) Q) := h
    refine h F' H' f' (r1.rev no r' ev.evo.same) ev (.ref Dl) ⟨[Dl], OR.ofL tD'.1 (by rw [ra'.len]; exact la) ra', nodup1, fun a z => ?_⟩
    rw [List.mem_singleton.mp z]
    exact ⟨tD'.2.1, Classical.byContradiction fun z => e1.evo.liv Dl z hD, tD'.2.2⟩
end
end
section
open PySem PySem.Spec PyProof.Rows L2
abbrev nv : Value → Shared → Prop := fun _ _ => False
theorem wk_E {α : Type} {M : Model} {A : Around} {t : Sem α} {Q Q' : α → Shared → Prop} {E : Value → Shared → Prop} {s : Shared} (h : wpAny M A t Q nv s) (k : ∀ a s, Q a s → Q' a s) : wpAny M A t Q' E s :=
  wpAny_mono h k fun _ _ z => z.elim
abbrev tst (ifs : List Expr) (env : Env) : Sem Bool :=
  forIn ifs true fun c r => if r = true then do
      let ok ← isTrue c env (eval c env)
      pure (ForInStep.yield ok)
    else pure (ForInStep.yield r)
def TurnM (M : Model) (A : Around) (env : Env) (it : Value) (tg : Expr) (ifs : List Expr) (Sto : Shared → Prop) (Bod Els : Shared → Prop) (s : Shared) : Prop :=
  wpAny M A (pyNext it) (fun r s1 => match r with
    | none => Sto s1
    | some v => wpAny M A (letOwnedTupleGo tg it v) (fun _ s2 =>
        wpAny M A (assign tg env v) (fun _ s3 => wpAny M A (tst ifs env) (fun ok s4 => if ok = true then Bod s4 else Els s4) nv s3) nv s2) nv s1) nv s
section
variable {prog : Program} {w : World} {A : Around} {R : Result → Shared → Prop} {s : Shared} {kx vx t0 i0 t1 i1 : Expr} {ifs0 ifs1 : List Expr} {scope : Scope} {pos : Pos} {it : Value} {D : Addr} {env : Env}
abbrev two (kx vx t0 i0 t1 i1 : Expr) (ifs0 ifs1 : List Expr) (scope : Scope) (pos : Pos) : Expr := .DictComp kx vx [⟨t0, i0, ifs0, 0⟩, ⟨t1, i1, ifs1, 0⟩] scope pos
end
def Stands (B : Cx) (pins : List (Addr × Obj)) (fp : List Addr) (tn : Nat → Heap → Prop) (σ0 : L2.St) (W : Nat → Nat → Hp → Prop) (n : Nat) (s : Shared) : Prop :=
  ∃ i H, Inv B pins σ0 H s ∧ tn i s.heap ∧ (∀ b ∈ fp, H b = none) ∧ W i n H
abbrev Knows (σ0 σ1 : L2.St) : Prop := σ0.length = σ1.length ∧ ∀ (j : Nat) v, σ0[j]? = some (some v) → σ1[j]? = some (some v)
theorem knows_wipe {σ0 σ1 : L2.St} {vs : List Nat} (h : wipe σ1 vs = σ0) : Knows σ0 σ1 := by
  subst h
  exact ⟨wipe_length _ _, fun j v e => (wipe_some e).1⟩
theorem one_turn {B : Cx} {pins : List (Addr × Obj)} {fp : List Addr} {it : Addr} {tn : Nat → Heap → Prop} {J : It} {tg : Expr} {ifs : List Expr} {g : TG} {tt : TT} {σ : L2.St} {vs : List Nat} {W : Nat → Nat → Hp → Prop} {n : Nat} {s : Shared} {Stop : Hp → Prop} {N : (Hp → Prop) → L2.St → Hp → Prop} {Sto Bod : Shared → Prop}
    (hc : B.calm = true) (hx : B.xe = nv) (T : Turn B.prog B.w B.K tg J fp it tn) (hf : ∀ {σ' H' s'}, Inv B pins σ' H' s' → (∀ b ∈ fp, H' b = none) → ∀ b ∈ fp, FpOk B pins H' b) (pg : PG B tg g) (pt : PTs B ifs tt)
    (turn : ∀ i m H, W i m H → (J.stop i H ∧ Stop H) ∨ (J.go i H ∧ ∃ Nx : Hp → Prop, (∀ H', Nx H' → ∃ m', m' < m ∧ W (i + 1) m' H') ∧ ∀ x H', J.yld i H x H' → g x (wipe σ vs) H' fun σ2 H2 => wipe σ2 vs = wipe σ vs ∧ tt σ2 H2 fun b H3 => if b = true then N Nx σ2 H3 else Nx H3))
    (h : Stands B pins fp tn (wipe σ vs) W n s) (hS : ∀ s' H', Inv B pins (wipe σ vs) H' s' → Stop H' → Sto s')
    (hB : ∀ s' H' σ2 pn Nx, Inv B pn σ2 H' s' → wipe σ2 vs = wipe σ vs → N Nx σ2 H' → (∀ σ3 s3 H3, Inv B pn σ3 H3 s3 → Knows (wipe σ vs) σ3 → Nx H3 → ∃ m, m < n ∧ Stands B pins fp tn (wipe σ vs) W m s3) → Bod s') :
    TurnM (model B.prog B.w) B.A B.env (.ref it) tg ifs Sto Bod (fun s' => ∃ m, m < n ∧ Stands B pins fp tn (wipe σ vs) W m s') s := by
  obtain ⟨i, H, I, st, fr, w⟩ := h
  unfold TurnM
  rcases turn i n H w with ⟨stop, q⟩ | ⟨go, Nx, hNx, step⟩
  · refine thn (T.done B rfl rfl rfl hc i pins s _ H _ I (hf I fr) st stop) fun r s1 hr => ?_
    obtain ⟨rfl, I1⟩ := hr
    exact hS s1 H I1 q
  · refine thn (T.item B rfl rfl rfl hc i pins s _ H nv I (hf I fr) st go) fun r s1 hr => ?_
    obtain ⟨u, rfl, hr⟩ := hr
    refine thn hr fun _ s2 h2 => ?_
    obtain ⟨x, H2, I2, rx, y, st2, fr2⟩ := h2
    have over : ∀ σ3 s3 H3, Inv B (pins ++ pinsAt fp s2.heap) σ3 H3 s3 → Knows (wipe σ vs) σ3 → Nx H3 → ∃ m, m < n ∧ Stands B pins fp tn (wipe σ vs) W m s3 := fun σ3 s3 H3 I3 kn nx => by
      obtain ⟨m, lt, w3⟩ := hNx H3 nx
      have stay : ∀ b ∈ fp, ∀ o, s2.heap.get? b = some o → s3.heap.get? b = some o ∧ H3 b = none := fun b mb o e => by
        have p := I3.pin (b, o) (List.mem_append_right _ (List.mem_append_right _ (mem_pinsAt mb e)))
        exact ⟨p.1, p.2.1⟩
      refine ⟨m, lt, i + 1, H3, I3.unpinned.weak kn.1 kn.2, T.keep _ _ _ st2 fun b mb o e => (stay b mb o e).1, fun b mb => ?_, w3⟩
      obtain ⟨o, e, _⟩ := T.obj _ _ st2 b mb
      exact (stay b mb o e).2
    have a1 := pg.run _ s2 _ H2 x u _ (I2.pinned (hf I2 fr2) (T.obj _ _ st2)) rx (step x H2 y)
    rw [hx] at a1
    refine thn a1 fun _ s3 h3 => ?_
    obtain ⟨σ3, H3, I3, e3, q3⟩ := h3
    have a2 := pt.run _ s3 σ3 H3 _ I3 q3
    rw [hx] at a2
    refine thn a2 fun b s4 h4 => ?_
    obtain ⟨H4, I4, q4⟩ := h4
    cases b with
    | true => exact hB s4 H4 σ3 _ Nx I4 e3 q4 over
    | false => exact over σ3 s4 H4 I4 (knows_wipe e3) q4
abbrev InB (X : Cx) (scope : Scope) (p : Cx → Prop) : Prop := ∀ (s0 : Shared) (H0 : Hp) (C : Addr) (cl : List (Str × Addr)) (fp : List Addr), p (X.blk s0 H0 scope (compEnvC scope cl C X.env) fp)
theorem comp_open {X : Cx} {pins : List (Addr × Obj)} {s : Shared} {σ : L2.St} {H : Hp} {e tg : Expr} {c0 : Comprehension} {rest : List Comprehension} {scope : Scope} {own : List (Str × Nat)} {pos : Pos} {wi : TI} {use : Option (Value → Sem Unit)} {Qf : Value → Shared → Prop} {o : HO} (oE : o = .dK [] ∨ o = .dT [])
    (hc : X.calm = true) (hN : X.N.Nodup) (I : Inv X pins σ H s) (hcl : clausesOf e = c0 :: rest) (hi : PI X tg c0.iter wi) (ok : BlkOk X.N X.env.scope scope own) (hs : ∀ x, foldedSetIterable c0.iter X.env x = pure x)
    {P : It → Addr → Hp → Prop} {QD : Addr → Hp → Prop} (h : wi σ H fun J H1 => ∀ D, H1 D = none → P J D (upd H1 D o))
    (hL : ∀ (B : Cx) (C : Addr) (cl : List (Str × Addr)) (s3 : Shared) (H3 : Hp) (fp : List Addr) (it : Addr) (tn : Nat → Heap → Prop) (J : It) (D : Addr) (s4 : Shared) (R : Result → Shared → Prop), B = X.blk s3 H3 scope (compEnvC scope cl C X.env) fp → P J D H3 → Turn X.prog X.w X.K tg J fp it tn →
      Inv B [] (wipe σ (own.map (·.2))) H3 s4 → tn 0 s4.heap → (∀ b ∈ fp, H3 b = none) → (∀ {σ' H' s'}, Inv B [] σ' H' s' → (∀ b ∈ fp, H' b = none) → ∀ b ∈ fp, FpOk B [] H' b) → (∀ s' H', Inv B [] (wipe σ (own.map (·.2))) H' s' → QD D H' → R (.ok .next) s') →
      codeAny (model X.prog X.w) X.A (.compStart e 0 (.ref it) (.ref D) B.env) R s4)
    (hRR : ∀ D C s' m H', Inv X pins σ H' s' → QD D H' → s'.heap.Ns C m → FpOk X pins H' C → compPost (model X.prog X.w) X.A X.xe use Qf (.ref D) C (.ok .next) s') :
    wpAny (model X.prog X.w) X.A (comprehension e scope X.env pos newDict false (eval c0.iter X.env) use) Qf X.xe s := by
  refine wpAny_comprehension_free (use := use) hcl hs (closure_ok fun y m z => (ok.free y m z).elim (fun k => I.ok.has _ (.inl k)) fun k => I.ok.has _ (.inr k)) ok.kind (fun y m z => z ▸ ok.uniq y m) ?_
  refine thn (hi.run pins s σ H _ I h) fun xv s1 h1 => thn h1 fun itv s2 h2 => ?_
  obtain ⟨it, fp, tn, J, H2, rfl, I2, T, st2, f2, q⟩ := h2
  refine wpAny_newObj_type (h := newEnv_comp ?_)
  have dn : H2 s2.heap.objs.size = none := I2.hok.fresh (Nat.le_refl _)
  have I3 : Inv X pins σ (upd H2 s2.heap.objs.size o) { s2 with heap := s2.heap.push { cls := .type "dict", data := .dict #[] } } :=
    I2.laid (t' := s2.toks) (fun _ _ z => Heap.get?_push_of_some _ z) (Nat.le_refl _) (oE.elim (fun z => z ▸ dk_empty s2.heap I2.big) fun z => z ▸ dt_empty s2.heap I2.big)
  have lt : ∀ b ∈ fp, b < s2.heap.objs.size := fun b m => let ⟨_, z, _⟩ := T.obj _ _ st2 b m; Heap.lt_size z
  have f3 : ∀ b ∈ fp, FpOk X pins (upd H2 s2.heap.objs.size o) b ∧ b < (s2.heap.push { cls := .type "dict", data := .dict #[] }).objs.size := fun b m =>
    ⟨⟨(upd_ne (Nat.ne_of_lt (lt b m))).trans (f2 b m).1, (f2 b m).2⟩, by rw [Heap.size_push]; exact Nat.lt_succ_of_lt (lt b m)⟩
  have inside := block_start I3 ok hN f3
  have st4 : tn 0 (pushCells ((s2.heap.push { cls := .type "dict", data := .dict #[] }).push { cls := .type "dict", data := .dict #[] }) scope.names) :=
    T.keep _ _ _ st2 fun b _ x z => pushCells_keeps _ _ _ _ (Heap.get?_push_of_some _ (Heap.get?_push_of_some _ z))
  refine hL _ _ _ _ _ fp it tn J _ _ _ rfl (q _ dn) T inside st4 (fun b m => (f3 b m).1.1) (fun {σ' H' s'} I' fr b m => ⟨fr b m, (I'.ok.exf b m).1, I'.ok.exfs b m, .inl m, fun x c z => (I'.ok.exf b m).2 x c z, fun p hp => absurd (show p ∈ ([] : List (Addr × Obj)) ++ [] from hp) (by simp)⟩) fun s' H' I' qd => ?_
  have I7 : Inv X pins σ H' s' := I3.call' (ch := fp) I'.os I'.base I'.hok I'.bare fun b m => let f := (f3 b m).1; ⟨f.2.2.2.1, f.2.1, f.2.2.2.2.1, f.2.2.2.2.2⟩
  obtain ⟨m, hn, _⟩ := I'.loc
  exact hRR _ _ s' m H' I7 qd hn (I3.fpOk (Nat.le_refl _) I'.free)
theorem put_d {X : Cx} {pins : List (Addr × Obj)} {σ : L2.St} {H H' : Hp} {s : Shared} {D : Addr} {y z : V} {u r : Value} {E : Value → Shared → Prop} {Q : Unit → Shared → Prop} (hu : X.A.units + 1 < cLine) (I : Inv X pins σ H s) (g : DPut H D y z H') (ry : RelV y u) (rz : RelV z r) (q : ∀ s', Inv X pins σ H' s' → Q () s') :
    wpAny (model X.prog X.w) X.A (dictSet D u r) Q E s := by
  rcases g with ⟨kvs, k, e, rfl, l, rfl⟩ | ⟨kvs, k, b, e, rfl, eb, l, rfl⟩
  · exact d_dictSet I e l ry rz q
  · have ub : u = Value.ref b := ry
    rw [ub]
    obtain ⟨sz, nsys, xs, kt, dh⟩ := dt_of I.hok e
    have lx := Paired.length kt
    refine wpAny_dictSet_heap (hsz := by omega) (by show X.A.units < cLine; omega) (key_of I.hok eb) dh fun h2 d2 sb => q _ ?_
    obtain ⟨ob, es, ep, hq, r1, r2, r3, _, r4⟩ := d2
    have kt2 := (kt.put k eb rz).keeps (H' := upd H D (.dT (putK kvs k z))) fun c ys ec => (upd_ne (ne_of ec e fun n => nomatch n)).trans ec
    exact d_write I (by rw [e]; trivial) sb ⟨ob, hq⟩ ⟨Nat.le_trans (length_putK kvs k z) l, nsys, _, kt2, ob, es, ep, hq, r1, r2, r3, r4⟩
section
variable {prog : Program} {w : World} {A : Around} {R : Result → Shared → Prop} {s : Shared} {kx vx t0 i0 : Expr} {ifs0 : List Expr} {scope : Scope} {pos : Pos} {it : Value} {D : Addr} {env : Env}
theorem loop_c (I : Nat → Shared → Prop)
    (turn : ∀ n s, I n s → TurnM (model prog w) A env it t0 ifs0 (R (.ok .next))
      (fun s4 => wpAny (model prog w) A (eval kx env) (fun k s5 => wpAny (model prog w) A (eval vx env) (fun v s6 => wpAny (model prog w) A (dictSet D k v) (fun _ s7 => ∃ m, m < n ∧ I m s7) nv s6) nv s5) nv s4)
      (fun s4 => ∃ m, m < n ∧ I m s4) s) (n : Nat) (h : I n s) :
    codeAny (model prog w) A (.compLoop (.DictComp kx vx [⟨t0, i0, ifs0, 0⟩] scope pos) 0 it (.ref D) env) R s := by
  refine codeAny_loop (hq := rfl) (n := n) I (fun n s hI => ?_) h
  refine wpAny_noted (m := compTurn (.DictComp kx vx [⟨t0, i0, ifs0, 0⟩] scope pos) 0 it (.ref D) env) ?_
  show wpAny _ A (standAt i0.pos >>= _) _ _ s
  refine wpAny_bind (wpAny_standAt (wpAny_bind (wk_E (turn n s hI) fun r s1 h1 => ?_)))
  cases r with
  | none => exact wpAny_pure h1
  | some v =>
    refine wpAny_bind (wk_E h1 fun _ s2 h2 => wpAny_bind (wk_E h2 fun _ s3 h3 => wpAny_bind (wk_E h3 fun ok s4 h4 => ?_)))
    cases ok with
    | false => exact wpAny_pure ⟨rfl, h4⟩
    | true =>
      refine wpAny_bind (wpAny_bind (wk_E h4 fun k s5 h5 => wpAny_bind (wpAny_holding (wk_E h5 fun v s6 h6 => ?_))))
      exact wpAny_bind (wpAny_standAt (wpAny_holding (wk_E h6 fun _ s7 h7 => wpAny_pure ⟨rfl, h7⟩)))
end
abbrev tPutP (tk tv : TE) (D : Addr) (Nx : Hp → Prop) (σ : L2.St) (H : Hp) : Prop := tk σ H fun y H4 => tv σ H4 fun z H5 => ∃ H6, DPut H5 D y z H6 ∧ Nx H6
def Walks (J : It) (g : TG) (tt : TT) (σ : L2.St) (vs : List Nat) (H1 : Hp) (Stop : Hp → Prop) (N : (Hp → Prop) → L2.St → Hp → Prop) : Prop := ∃ W : Nat → Nat → Hp → Prop, (∃ m, W 0 m H1) ∧ ∀ i m H, W i m H →
  (J.stop i H ∧ Stop H) ∨ (J.go i H ∧ ∃ Nx : Hp → Prop, (∀ H', Nx H' → ∃ m', m' < m ∧ W (i + 1) m' H') ∧ ∀ x H', J.yld i H x H' → g x (wipe σ vs) H' fun σ2 H2 => wipe σ2 vs = wipe σ vs ∧ tt σ2 H2 fun b H3 => if b = true then N Nx σ2 H3 else Nx H3)
def tDcT (wi : TI) (g : TG) (tt : TT) (tk tv : TE) (vs : List Nat) : TE := fun σ H Q => wi σ H fun J H1 => ∀ D, H1 D = none → Walks J g tt σ vs (upd H1 D (.dT [])) (fun H => Q (.ref D) H) (tPutP tk tv D)
def Core (X : Cx) (e : Expr) (scope : Scope) (iter : Expr) (t : TE) : Prop := ∀ (pins : List (Addr × Obj)) (s : Shared) (σ : L2.St) (H : Hp) (Q : VK) (at_ : Pos) (use : Option (Value → Sem Unit)) (Qf : Value → Shared → Prop), Inv X pins σ H s → t σ H Q →
  (∀ D C s' m H', Inv X pins σ H' s' → Q (.ref D) H' → s'.heap.Ns C m → FpOk X pins H' C → compPost (model X.prog X.w) X.A X.xe use Qf (.ref D) C (.ok .next) s') →
  wpAny (model X.prog X.w) X.A (comprehension e scope X.env at_ newDict false (eval iter X.env) use) Qf X.xe s
theorem ps_core {X : Cx} {kx vx tg iter : Expr} {ifs : List Expr} {rest : List Comprehension} {scope : Scope} {pos spos py : Pos} {t : TE} {i : Nat} {y : Str} (hN : X.N.Nodup) (hy : X.N[i]? = some y) (hl : X.env.scope.names.lookup y = some .local)
    (hk : X.env.scope.kind = .function) (hp : (py.line == pos.line) = true) (ha : (scope.names.any fun (n, k) => n == y && (k == .local || k == .cell)) = false)
    (c : Core X (.DictComp kx vx (⟨tg, iter, ifs, 0⟩ :: rest) scope pos) scope iter t) : PS X (.Assign [.Name y py] (.DictComp kx vx (⟨tg, iter, ifs, 0⟩ :: rest) scope pos) spos) (tAsg t (gName i)) := by
  have sw : swapsWith (.DictComp kx vx (⟨tg, iter, ifs, 0⟩ :: rest) scope pos) (some (.Name y py)) spos.line X.env = pure true := by
    have b : X.env.blockKind = .function := by unfold Env.blockKind; rw [hk]; rfl
    have o : X.env.kindOf y = some .local := hl
    unfold swapsWith
    simp only [b, o, ha, Expr.pos, hp]
    rfl
  refine ⟨fun pins s σ H D I h => ?_⟩
  rw [exec_Assign_Name_used (hs := sw)]
  refine wpAny_bind (wpAny_standAt (wpAny_bind ?_))
  have go := fun (Qf : Value → Shared → Prop) => c pins s σ H (fun x H1 => gName i x σ H1 D.nx) (firstIterPos (⟨tg, iter, ifs, 0⟩ :: rest) pos) (some (assign (.Name y py) X.env)) Qf I h
  refine wpAny_bind (thn (go (fun _ s' => L2.SP X pins D .next s') fun L C s' m H' I' q hn f => ?_) fun _ s' hq => wpAny_pure (wpAny_pure hq))
  refine wpAny_assign_Name (store_ok2 (v := V.ref L) I' hN hy (.inl hl) rfl (fun s2 I2 st => ?_) (.inr hl))
  obtain ⟨a, sb, ea⟩ := st
  obtain ⟨f0, f1, f2, f3, f4, f5⟩ := f
  have ne : C ≠ a := ea.elim (fun z => z ▸ f1) fun z e => f4 y a z e.symm
  exact ⟨m, hn.sameBut sb ne, fun h3 sb3 => ⟨_, H', I2.turned (t' := s2.toks) (fun b x mb z => (sb3.2 b mb).trans z) f0 f1 f3 f4 f5, q⟩⟩
section
variable {X : Cx}
theorem core_dcT {kx vx tg iter : Expr} {ifs : List Expr} {scope : Scope} {own : List (Str × Nat)} {pos : Pos} {wi : TI} {g : TG} {tt : TT} {tk tv : TE} (hu : X.A.units + 1 < cLine) (hc : X.calm = true) (hN : X.N.Nodup) (hi : PI X tg iter wi) (ok : BlkOk X.N X.env.scope scope own)
    (hg : InB X scope fun B => PG B tg g) (ht : InB X scope fun B => PTs B ifs tt)
    (hk : InB X scope fun B => PE B kx tk) (he : InB X scope fun B => PE B vx tv)
    (hs : ∀ x, foldedSetIterable iter X.env x = pure x := by intro _; rfl) :
    Core X (.DictComp kx vx [⟨tg, iter, ifs, 0⟩] scope pos) scope iter (tDcT wi g tt tk tv (own.map (·.2))) := by
  intro pins s σ H Q at_ use Qf I h fin0
  refine comp_open (c0 := ⟨tg, iter, ifs, 0⟩) (rest := []) (o := .dT []) (.inr rfl) hc hN I rfl hi ok hs (own := own) (P := fun J D H1 => Walks J g tt σ (own.map fun x : Str × Nat => x.2) H1 (fun H => Q (.ref D) H) fun Nx σ2 H3 => tPutP tk tv D Nx σ2 H3) h (QD := fun D H' => Q (.ref D) H') (fun B C cl s3 H3 fp it tn J D s4 R eB w T I4 st fr hf fin => ?_) fin0
  · have pg := hg s3 H3 C cl fp
    have pt := ht s3 H3 C cl fp
    have pk := hk s3 H3 C cl fp
    have pv := he s3 H3 C cl fp
    rw [← eB] at pg pt pk pv
    have e1 : B.prog = X.prog := by rw [eB]
    have e2 : B.w = X.w := by rw [eB]
    have e3 : B.A = X.A := by rw [eB]
    have e4 : B.K = X.K := by rw [eB]
    have e5 : B.calm = true := by rw [eB]; exact hc
    have e6 : B.xe = nv := by rw [eB]
    clear eB
    rw [← e1, ← e2, ← e4] at T
    rw [← e1, ← e2, ← e3]
    rw [← e3] at hu
    obtain ⟨W, ⟨m0, w0⟩, turn⟩ := w
    have lp : codeAny (model B.prog B.w) B.A (.compLoop (.DictComp kx vx [⟨tg, iter, ifs, 0⟩] scope pos) 0 (.ref it) (.ref D) B.env) R s4 := by
      refine loop_c (Stands B [] fp tn (wipe σ (own.map (·.2))) W) (fun n s5 st5 => one_turn e5 e6 T hf pg pt turn st5 (fun s6 H6 I6 q => fin s6 H6 I6 q) fun s6 H6 σ6 pn Nx I6 kn q over => ?_) m0 ⟨0, H3, I4, st, fr, w0⟩
      have a1 := pk.run _ s6 σ6 H6 _ I6 q
      rw [e6] at a1
      refine thn a1 fun k s7 h7 => ?_
      obtain ⟨y, H7, I7, ry, q7⟩ := h7
      have a2 := pv.run _ s7 σ6 H7 _ I7 q7
      rw [e6] at a2
      refine thn a2 fun v s8 h8 => ?_
      obtain ⟨z, H8, I8, rz, H9, dp, nx⟩ := h8
      exact put_d hu I8 dp ry rz fun s9 I9 => over σ6 s9 H9 I9 (knows_wipe kn) nx
    exact codeAny_compStart_dict lp (T.self B.A 0 _ _ _ st lp)
end
end
section
open PySem PySem.Spec PyProof.Rows L2
section
variable {K : PySem.W.Frag} {E : L2.St → XK} {H0 F0 F H B F1 H1 Fb Hb : Hp} {io : IO} {rm m : Mo} {ms ms2 : List Mo} {S S1 S' : List D} {σ σ' : L2.St} {wi wi1 : TI} {it it1 : EA} {g g1 : TG} {p p1 : Pat} {tt tt1 : TT} {c c1 : EB} {tk tv td : TE} {ka va : E1} {vs vs1 : List Nat} {β : Type} {fps f1 fb : List (List Addr)} {J : It} {ds : List D} {acc acc' : List (D × D)} {accV : List (Key × V)} {Q : VK} {Dl : Addr}
end
end
section
open PySem PySem.Spec PyProof.Rows L2
section
variable {K : PySem.W.Frag} {E : L2.St → XK} {XE : XK} {H0 F0 F H B F1 H1 F' H' : Hp} {io : IO} {rm m : Mo} {mio msb ms ms1 ms2 ms' : List Mo} {S : List D} {σ : L2.St} {i : Nat} {sh : Sh} {ts : TA} {as : EA} {fps f1 : List (List Addr)} {β : Type} {Q : VK}
end
end
section
open PySem PySem.Spec PyProof.Rows L2
section
variable {K : PySem.W.Frag} {vs : List V} {H : Hp} {Q : VK} {E : XK}
end
section
variable {P : Program} {w : World} {K : PySem.W.Frag} {mg : Str → Option Value} {base : Heap} {x q m : Str} {st : Stmt} {f C : Addr} {fd : FuncData} {ps : List Str} {k : Nat} {sp : Sp} {n : Str} {v : V}
end
end
section
open PySem PySem.Spec PyProof.Rows L2
section
variable {P : Program} {w : World} {K : PySem.W.Frag} {mg : Str → Option Value} {base : Heap} {x q m : Str} {st : Stmt} {f C : Addr} {fd : FuncData} {ps ks : List Str} {k : Nat} {sp : Sp} {kw : List (Str × V)}
end
section
variable {E1 : XK} {X : Cx} {k j n : Nat} {ks : List Str} {sp : Sp} {E : L2.St → XK} {x : Str} {p pos : Pos} {e : Expr} {es : List Expr} {kws : List Keyword} {t tk : TA}
end
section
variable {sp : Sp} {E : L2.St → XK} {a b c d : TE}
end
section
variable {K : PySem.W.Frag} {E : L2.St → XK} {ms : List Mo} {rm : Mo} {φ : List D → Rz D} {as : EA} {n m : Nat} {t tk ts : TA}
end
end
section
open PySem PySem.Spec PyProof.Rows L2 PySem.Froz
section
variable {P : Program} {w : World}
end
section
variable {P : Program} {w : World} {A : Around} {E : Value → Shared → Prop} {s : Shared}
end
section
variable {P : Program} {w : World} {A : Around} {R : Result → Shared → Prop} {I : Addr} {fp wr : List Addr} {G : Array GenState → Array GenState → Prop} {n : Nat} {Pv : Nat → Value → Prop} {St : Nat → Shared → Prop}
end
end
section
open PySem PySem.Spec PyProof.Rows L2 PySem.Froz
section
variable {P : Program} {w : World} {A : Around} {E : Value → Shared → Prop} {s : Shared}
end
end
section
open PySem PySem.Spec PyProof.Rows L2 PySem.Froz
section
variable {X : Cx}
end
section
variable {K : PySem.W.Frag} {P : Program} {w : World} {E : L2.St → XK} {m : Mo} {ms : List Mo} {ts : TA} {as : EA}
end
end
section
open PySem PySem.Spec PyProof.Rows L2 PySem.Froz
section
variable {K : PySem.W.Frag} {m : Mo}
end
end
section
open PySem PySem.Spec PyProof.Rows L2
section
variable {K : PySem.W.Frag} {E : L2.St → XK} {rm : Mo} {mio msb ms : List Mo} {ta : TE} {a : E1} {ps : List Pat} {gs : TGs} {n : Nat}
end
end
section
open PySem PySem.Spec PyProof.Rows L2
section
variable {K : PySem.W.Frag} {E : L2.St → XK} {ms : List Mo} {ta tb : TE} {a b : E1}
end
end
section
open PySem PySem.Spec PyProof.Rows L2
section
variable {K : PySem.W.Frag} {E : L2.St → XK} {ms : List Mo} {rm : Mo} {as : EA} {ts : TA}
end
end
section
open PySem PySem.Spec PyProof.Rows L2
section
variable {K : PySem.W.Frag} {ps : List Pat} {gs : TGs} {n : Nat}
end
end
section
open PySem PySem.Spec PyProof.Rows L2
section
variable {K : PySem.W.Frag} {E : L2.St → XK} {H0 F0 F H : Hp} {io : IO} {rm : Mo} {mio msb ms ms' : List Mo} {S : List D} {σ : L2.St} {ta : TE} {qx : QX} {i j : Nat} {fps : List (List Addr)}
end
section
variable {K : PySem.W.Frag} {E : L2.St → XK} {H0 F0 F H : Hp} {io : IO} {ms : List Mo} {S : List D} {σ : L2.St} {wi : TI} {it : EA} {g : TG} {p : Pat} {tt : TT} {c : EB} {te : TE} {ta : E1} {vs : List Nat} {fps : List (List Addr)}
end
end
section
open PySem PySem.Spec PyProof.Rows L2
section
variable {K : PySem.W.Frag} {F : Hp}
end
section
variable {K : PySem.W.Frag} {E : L2.St → XK} {H0 F0 F H : Hp} {io : IO} {ms : List Mo} {S : List D} {σ : L2.St} {ta : TE} {a : E1} {fps : List (List Addr)}
end
end
section
open PySem PySem.Spec PyProof.Rows L2
section
variable {K : PySem.W.Frag} {E : L2.St → XK} {H0 F0 F H : Hp} {io : IO} {rm : Mo} {mio msb ms ms2 msB : List Mo} {S : List D} {σ : L2.St} {td : TE} {a : E1} {g : TG} {p : Pat} {tb : TS} {body : S1} {fps : List (List Addr)}
end
section
variable {K : PySem.W.Frag} {E : L2.St → XK} {H0 F0 F H F1 H1 : Hp} {io : IO} {rm : Mo} {mio msb ms ms2 msB : List Mo} {S Sa : List D} {σ : L2.St} {td : TE} {a : E1} {g : TG} {p : Pat} {tb : TS} {body : S1} {fps f1 : List (List Addr)} {J : It} {ds : List D}
end
end
section
open PySem PySem.Spec PyProof.Rows L2 HT
section
variable {K : PySem.W.Frag} {E : L2.St → XK} {H0 F0 F H : Hp} {io : IO} {ms : List Mo} {S : List D} {σ : L2.St} {ta : TE} {a : E1} {fps : List (List Addr)}
end
end
section
open PySem PySem.Spec PyProof.Rows L2
section
variable {X : Cx} {pins : List (Addr × Obj)} {σ : L2.St} {H : Hp} {s : Shared} {a : Addr} {xs ys : List V} {b : Bool}
end
section
variable {K : PySem.W.Frag} {E : L2.St → XK} {H0 F0 F H : Hp} {io : IO} {ms : List Mo} {S : List D} {σ : L2.St} {ts : TA} {as : EA} {fps : List (List Addr)}
end
end
section
open PySem PySem.Spec PyProof.Rows L2
section
variable {K : PySem.W.Frag} {E : L2.St → XK} {H0 F0 F H B : Hp} {io : IO} {rm m : Mo} {mio msb ms0 ms ms1 ms2 msB ms' : List Mo} {S : List D} {σ : L2.St} {wi : TI} {it : EA} {g : TG} {p : Pat} {tb : TS} {body : S1} {En : Ends} {fps f1 : List (List Addr)}
end
end
section
open PySem PySem.Spec PyProof.Rows L2
section
variable {K : PySem.W.Frag} {F H : Hp}
end
end
section
open PySem PySem.Spec PyProof.Rows L2
section
variable {K : PySem.W.Frag} {E : L2.St → XK} {H0 F0 F H B F1 H1 F2 H2 F3 H3 : Hp} {io : IO} {rm m m2 m3 : Mo} {mio msb ms ms' : List Mo} {S : List D} {σ : L2.St} {ta tb tc : TE} {a b c : E1} {i j l : Nat} {fps f1 f2 f3 : List (List Addr)} {d : D} {v : V}
end
end
section
open PySem PySem.Spec PyProof.Rows L2
section
variable {K : PySem.W.Frag} {E : L2.St → XK} {ms : List Mo} {ta tb : TE} {a b : E1}
end
end
section
end
section
open PySem PySem.Spec PyProof.Rows L2
abbrev kdT (q : List Key) : D := .tup (q.map keyD)
def dcGoT (p : Pat) (vs : List Nat) (c : EB) (tk tv : E1) : List D → List D → List (D × D) → Rz (List (D × D) × List D)
  | [], S, acc => .ok (acc, S)
  | d :: ds, S, acc => match bindP p d S with
    | none => .no
    | some S1 => match c S1 with
      | .ok (b, S2) => if b = true then (match tk S2 with
          | .ok (k, S3) => (match tv S3 with
            | .ok (x, S4) => if isKey true k = true ∧ acc.length < sizeLine then dcGoT p vs c tk tv ds (unD vs S4) (putD acc k x) else .no
            | _ => .no)
          | _ => .no) else dcGoT p vs c tk tv ds (unD vs S2) acc
      | _ => .no
def aDcT (p : Pat) (vs : List Nat) (it : EA) (c : EB) (tk tv : E1) : E1 := fun S => (it S).bind fun q => (dcGoT p vs c tk tv q.1 (unD vs q.2) []).bind fun r => .ok (.dct true r.1, reD vs q.2 r.2)
section
variable {K : PySem.W.Frag} {E : L2.St → XK} {H0 F0 F H B : Hp} {io : IO} {rm m : Mo} {ms : List Mo} {S : List D} {σ σ' : L2.St} {wi : TI} {it : EA} {g : TG} {p : Pat} {tt : TT} {c : EB} {tk tv : TE} {ka va : E1} {vs : List Nat} {β : Type} {fps : List (List Addr)}
theorem se_dcT (hi : SI K E ms wi it) (hg : SG K p g) (hp : ∀ i ∈ patI p, i ∈ vs) (no : noOwn vs ms = true) (hc : ST K (fun _ => E0) (patM p (unM vs ms)) tt c) (hk : SE K (fun _ => E0) (patM p (unM vs ms)) .z tk ka) (he : SE K (fun _ => E0) (patM p (unM vs ms)) .z tv va) :
    SE K E ms (.o (.t .z)) (tDcT wi g tt tk tv vs) (aDcT p vs it c ka va) := fun σ H Q H0 F0 io F S fps rl h => hi.use rl h fun ds S1 f1 F1 H1 J r1 e1 ln wd h => by
  intro Dl hD
  have F1D : F1 Dl = none := fnone r1.sub hD
  have H0D : H0 Dl = none := Classical.byContradiction fun z => r1.evo.liv Dl z hD
  have mD : ¬ Mine f1 Dl := fun z => r1.ne z hD
  have hvl : ∀ i ∈ patI p, i < ms.length := fun i z => by
    obtain ⟨m, e, _⟩ := noOwn_at no i (hp i z)
    exact (List.getElem?_eq_some_iff.mp e).1
  have uf := r1.unF_eq no
  have g0 : Grow F1 H1 F1 (upd H1 Dl (.dT [])) := Grow.own r1.ok hD nt_dT
  have rw1 := r1.unv vs
  rw [uf] at rw1
  obtain ⟨R0, eR⟩ : ∃ R0, R0 = dcGoT p vs c ka va ds (unD vs S1) [] := ⟨_, rfl⟩
  replace h : Go K E H0 F0 io ms σ f1 F1 H1 (R0.bind fun r => .ok (.dct true r.1, reD vs S1 r.2)) (PV K H (.o (.t .z)) Q) := by rw [eR]; exact h
  refine ⟨fun i n H' => n = ds.length - i ∧ i ≤ ds.length ∧ ∃ F' S' acc accV f', Rel K H0 F0 io F' H' (unM vs ms) S' (wipe σ vs) f' ∧ Ev f1 f' F1 H1 F' H' ∧ (H' Dl = some (.dT accV) ∧ F' Dl = none ∧ ¬ Mine f' Dl) ∧ RepG K F' kdT acc accV ∧ dcGoT p vs c ka va (ds.drop i) S' acc = R0,
    ⟨ds.length, by simp, Nat.zero_le _, F1, unD vs S1, [], [], f1, rw1.grow g0, Ev.grow g0, ⟨upd_same, F1D, mD⟩, by unfold RepG; rfl, eR.symm⟩, ?_⟩
  rintro i n H' ⟨rfl, hil, F', S', acc, accV, f', r', ev, tD, ra, eg⟩
  obtain ⟨w1, w2, w3⟩ := wd F' H' ev.evo.same r'.ok
  rw [← eg] at h
  by_cases hlt : i < ds.length
  · refine .inr ⟨w1 i hlt, fun H2 => ds.length - (i + 1) = ds.length - (i + 1) ∧ i + 1 ≤ ds.length ∧ ∃ F2 S2 acc2 accV2 f2, Rel K H0 F0 io F2 H2 (unM vs ms) S2 (wipe σ vs) f2 ∧ Ev f1 f2 F1 H1 F2 H2 ∧ (H2 Dl = some (.dT accV2) ∧ F2 Dl = none ∧ ¬ Mine f2 Dl) ∧ RepG K F2 kdT acc2 accV2 ∧ dcGoT p vs c ka va (ds.drop (i + 1)) S2 acc2 = R0,
      fun H2 q => ⟨ds.length - (i + 1), by omega, q⟩, fun x H2 y => ?_⟩
    obtain ⟨F2, gr, rx⟩ := w3 i x H2 ds[i] (List.getElem?_eq_getElem hlt) y
    have r2 := r'.grow gr
    have tD2 := stayD tD.1 tD.2.1 tD.2.2 (Ev.grow (fps := f') gr)
    have ev2 := ev.trans (Ev.grow (fps := f') gr)
    rw [List.drop_eq_getElem_cons hlt] at h eg
    unfold dcGoT at h eg
    cases eb : bindP p ds[i] S' with
    | none => rw [eb] at h; exact h.elim
    | some S3 =>
      rw [eb] at h eg
      refine hg (unM vs ms) _ H2 H0 F0 io F2 S' f' ds[i] x _ S3 r2 rx (fun j z => by rw [(un_len vs).1]; exact hvl j z) eb fun σ3 r3 b3 => ⟨wipe_but b3 hp, ?_⟩
      have tD3 : H2 Dl = some (.dT accV) ∧ F2 Dl = none ∧ ¬ Mine (patF p f') Dl := ⟨tD2.1, tD2.2.1, fun z => tD2.2.2 (patF_mine p z)⟩
      have ev3 : Ev f1 (patF p f') F1 H1 F2 H2 := ⟨ev2.evo, fun a z => ev2.mine a (patF_mine p z)⟩
      dsimp only at h eg
      have back : ∀ {Fa Ha Sa fa}, Rel K H0 F0 io Fa Ha (patM p (unM vs ms)) Sa σ3 fa → Rel K H0 F0 io Fa Ha (unM vs ms) (unD vs Sa) (wipe σ vs) (unF vs fa) := fun {Fa Ha Sa fa} r => by
        have := r.unv vs
        rw [unM_pat hp, wipe_but b3 hp] at this
        exact this
      cases ec : c S3 with
      | no => rw [ec] at h; exact h.elim
      | ex cc fs => rw [ec] at h; exact h.elim
      | ok bS =>
        obtain ⟨b, S4⟩ := bS
        rw [ec] at h eg
        dsimp only at h eg
        refine hc σ3 H2 _ H0 F0 io F2 S3 _ r3 ?_
        rw [ec]
        intro F4 H4 f4 r4 e4
        have tD4 := stayD tD3.1 tD3.2.1 tD3.2.2 e4
        have ev4 := ev3.trans e4
        cases b with
        | false =>
          rw [if_neg Bool.false_ne_true] at h eg ⊢
          exact ⟨rfl, hlt, F4, _, acc, accV, _, back r4, ⟨ev4.evo, fun a z => ev4.mine a (unF_mine vs z)⟩, ⟨tD4.1, tD4.2.1, fun z => tD4.2.2 (unF_mine vs z)⟩, ra.mono (gr.same.trans e4.evo.same), eg⟩
        | true =>
          rw [if_pos rfl] at h eg ⊢
          cases et : ka S4 with
          | no => rw [et] at h; exact h.elim
          | ex cc fs => rw [et] at h; exact h.elim
          | ok xS =>
            obtain ⟨k, S5⟩ := xS
            rw [et] at h eg
            dsimp only at h eg
            refine hk σ3 H4 _ H0 F0 io F4 S4 f4 r4 ?_
            rw [et]
            intro F5 H5 f5 r5 e5 y rk
            have tD5 := stayD tD4.1 tD4.2.1 tD4.2.2 e5
            have ev5 := ev4.trans e5
            cases ew : va S5 with
            | no => rw [ew] at h; exact h.elim
            | ex cc fs => rw [ew] at h; exact h.elim
            | ok xS =>
              obtain ⟨d, S6⟩ := xS
              rw [ew] at h eg
              dsimp only at h eg
              refine he σ3 H5 _ H0 F0 io F5 S5 f5 r5 ?_
              rw [ew]
              intro F6 H6 f6 r6 e6 v rv
              have tD6 := stayD tD5.1 tD5.2.1 tD5.2.2 e6
              have ev6 := ev5.trans e6
              split at h
              · rename_i cc
                rw [if_pos cc] at eg
                cases k with
                | tup ks =>
                have c1 := cc.1
                unfold isKey at c1
                rw [Bool.and_eq_true] at c1
                obtain ⟨q, eq⟩ := Option.isSome_iff_exists.mp c1.2
                have ek := keys?_eq eq
                subst ek
                have rk := Rep.mono e6.evo.same _ rk
                unfold Rep at rk
                obtain ⟨kb, vks, rfl, hb, _, rvk⟩ := rk
                have hb' : H6 kb = some (.tup (q.map kV)) := by
                  rw [← reps_keyV rvk]
                  rcases hb with hb | hb
                  · exact r6.sub _ _ hb
                  · rw [hb.1] at rvk
                    have := rvk.nilD
                    rw [this] at c1
                    simp at c1
                have ra6 : RepG K F6 kdT acc accV := ra.mono (((gr.same.trans e4.evo.same).trans e5.evo.same).trans e6.evo.same)
                have e7 : Evo (fun a => a = Dl) F6 H6 F6 (upd H6 Dl (.dT (putK accV q v))) := Evo.upd r6.ok tD6.1 nt_dT nt_dT tD6.2.1
                have r7 := (back r6).go e7 (fun a z q => tD6.2.2 (unF_mine vs (by rw [← q]; exact z))) (fun a o z q => by rw [q, tD6.1] at z; cases z; exact nt_dT) fun a z => .inl (by rw [z]; exact H0D)
                refine ⟨_, .inr ⟨accV, q, kb, tD6.1, rfl, hb', by rw [ra6.len]; exact cc.2, rfl⟩, rfl, hlt, F6, _, putD acc (kdT q) d, putK accV q v, _, r7, ⟨ev6.evo.trans e7 fun a z => .inr (by rw [z]; exact hD), fun a z => ev6.mine a (unF_mine vs z)⟩, ⟨upd_same, tD6.2.1, fun z => tD6.2.2 (unF_mine vs z)⟩, ra6.put keq_keyT rv q, eg⟩
                | _ => exact absurd cc.1 (by unfold isKey; simp)
              · exact h.elim
  · have e : i = ds.length := by omega
    subst e
    rw [List.drop_length] at h
    unfold dcGoT at h
    refine .inl ⟨w2, ?_⟩
    have h : Go K E H0 F0 io ms σ f1 F1 H1 (.ok (.dct true acc, reD vs S1 S')) (PV K H (.o (.t .z)) Q) := h
    refine h F' H' f' (r1.rev no r' ev.evo.same) ev (.ref Dl) ⟨[Dl], OR.ofT tD.1 ra, nodup1, fun a z => ?_⟩
    rw [List.mem_singleton.mp z]
    exact ⟨tD.2.1, Classical.byContradiction fun z => e1.evo.liv Dl z hD, tD.2.2⟩
end
end
set_option maxHeartbeats 2000000
section
open PySem PySem.Spec PyProof.Rows
def zcol (rows : List (List Value)) (i : Nat) : List Value := rows.map fun r => (r[i]?).getD .none
section
variable {prog : Program} {w : World} {A : Around} {E : Value → Shared → Prop} {s : Shared} {b : Nat} {ls : List Nat} {rows : List (List Value)} {i : Nat}
end
section
end
section
variable {prog : Program} {w : World} {A : Around} {s : Shared} {b : Nat} {ls : List Nat} {rows : List (List Value)} {i : Nat}
structure Zc (rows : List (List Value)) (lo : Nat) (h : Heap) (as : List Nat) : Prop where
  rise : as.Pairwise (· < ·)
  above : ∀ a ∈ as, lo < a
  col : ∀ (j a : Nat), as[j]? = some a → h.get? a = some { cls := .type "tuple", data := .seq (zcol rows j).toArray }
theorem Zc.keep {lo : Nat} {h h' : Heap} {as : List Nat} (C : Zc rows lo h as) (k : ∀ (c : Nat) (o : Obj), lo < c → h.get? c = some o → h'.get? c = some o) : Zc rows lo h' as :=
  ⟨C.rise, C.above, fun j a e => k a _ (C.above a (List.mem_of_getElem? e)) (C.col j a e)⟩
end
section
variable {prog : Program} {w : World} {A : Around} {E : Value → Shared → Prop} {s : Shared} {b : Nat} {ls : List Nat} {rows : List (List Value)}
end
end
section
open PySem PySem.Spec PyProof.Rows L2
section
variable {X : Cx} {e : Expr} {te : TE} {p p2 p3 cpos pos : Pos}
end
theorem Grow.frz {F H F' H' : Hp} {p : Addr} {o : HO} (g : Grow F H F' H') (n : H p = none) (h : H' p = some o) (nt : NoTup o) (fn : F' p = none) : Grow F H (upd F' p o) H' where
  same := fun a u q => by
    rw [upd_ne fun z => ?_]
    · exact g.same a u q
    · have := g.same a u q
      rw [z, fn] at this
      cases this
  new := fun a q => by
    by_cases z : a = p
    · subst z; exact .inr (.inl n)
    · rw [upd_ne z] at q; exact g.new a q
  frm := g.frm
  liv := g.liv
  ok := ⟨fun a u q => by
    by_cases z : a = p
    · subst z; rw [upd_same] at q; cases q; exact h
    · rw [upd_ne z] at q; exact g.ok.sub a u q, fun a u q => by
    by_cases z : a = p
    · subst z; rw [tups_no h nt] at q; cases q
    · rw [upd_ne z]; exact g.ok.tup a u q⟩
section
variable {K : PySem.W.Frag} {m : Mo}
end
end
section
open PySem PySem.Spec PyProof.Rows L2
section
variable {K : PySem.W.Frag} {E : L2.St → XK} {ms : List Mo} {ta tb : TE} {a b : E1}
end
theorem units65 {k : Nat} {A : Around} (r : Room k A) : A.units + 65 < cLine := by have := r.un; omega
theorem k_indexD {K : PySem.W.Frag} {X : Cx} (hK : X.K = K) (hu : X.A.units + 65 < cLine) : MtR X "list.index" (rIndexD K) := by subst hK; exact mt_indexD hu
def dIndexD : D → D → Option D
  | .lst ds, y => if SeqAt.shaped y.py && SeqAt.shaped (.list (D.pys ds)) then ((D.pys ds).findIdx? fun z => PyData.eqv z y.py).map fun j => .int (j : Nat) else none
  | _, _ => none
theorem se_indexD {K : PySem.W.Frag} {E : L2.St → XK} {ms : List Mo} {ta tb : TE} {a b : E1} (ha : SE K E ms .z ta a) (hb : SE K E ms .z tb b) : SE K E ms .z (tBM K "list" (rIndexD K) ta (tCons tb tNil)) (aLM dIndexD a b) := fun σ H Q H0 F0 io F S fps rl h =>
  ha.use rl h fun d S1 f1 F1 H1 v r1 e1 v1 h => by
    obtain ⟨ds, ez, h⟩ := h.opt
    have ed := lst?_eq ez
    subst ed
    obtain ⟨p, vs, rfl, h1, h2, h3⟩ := v1.rd
    refine ⟨.inl ⟨rfl, vs, .inl (rd_up h1 r1.ok.sub)⟩, hb.use r1 h fun d2 S2 f2 F2 H2 w r2 e2 v2 h => ?_⟩
    replace h := h.pg r2 (e2.lv (e1.lv live0))
    have h : PGo K F2 H2 (if SeqAt.shaped d2.py && SeqAt.shaped (.list (D.pys ds)) then ((D.pys ds).findIdx? fun z => PyData.eqv z d2.py).map fun j => D.int (j : Nat) else none) .z Q := h
    by_cases c : (SeqAt.shaped d2.py && SeqAt.shaped (.list (D.pys ds))) = true
    case neg => rw [if_neg c] at h; exact h.elim
    rw [if_pos c] at h
    rw [Bool.and_eq_true] at c
    cases e5 : (D.pys ds).findIdx? (fun z => PyData.eqv z d2.py) with
    | none => rw [e5] at h; exact h.elim
    | some j =>
      rw [e5] at h
      obtain ⟨hj, hz, hno⟩ := List.findIdx?_eq_some_iff_getElem.mp e5
      have rl : Rep K F2 (.lst ds) (.ref p) := Rep.mono e2.evo.same _ v1
      have dl : Dp K H2 (.ref p) (.list (D.pys ds)) := by
        have := Rep.dp (.lst ds) (Rep.mono r2.ok.sub _ rl) (by unfold D.py; exact SeqAt.canLay_of_shaped c.2)
        unfold D.py at this
        exact this
      refine ⟨p, w, d2.py, D.pys ds, j, _, rfl, rfl, dl, Rep.dp d2 (Rep.mono r2.ok.sub d2 v2) (SeqAt.canLay_of_shaped c.1), c.2, c.1, List.getElem?_eq_getElem hj, hz, fun k z' hk hz' => ?_, PGo.int h r2.ok⟩
      have := hno k hk
      rw [List.getElem?_eq_getElem (by omega)] at hz'
      cases hz'
      simpa using this
end
set_option maxHeartbeats 4000000
section
open PySem PySem.Spec PyProof.Rows L2
section
variable {K : PySem.W.Frag} {m : Mo}
end
end
section
open PySem PySem.Spec PyProof.Rows L2
structure Txt (K : PySem.W.Frag) (mg : Str → Option Value) : Prop where
  b_ValueError : mg "ValueError" = none
  b_list : mg "list" = none
  b_range : mg "range" = none
  b_all : mg "all" = none
  b_len : mg "len" = none
  b_tuple : mg "tuple" = none
  b_enumerate : mg "enumerate" = none
  b_int : mg "int" = none
  b_max : mg "max" = none
  b_isinstance : mg "isinstance" = none
  b_min : mg "min" = none
  k_LETTERS : ∃ u, mg "LETTERS" = some u ∧ RelV (.str "abcdefghijklmnopqrstuvwxyz") u
  k_MOST_PLACES : ∃ u, mg "MOST_PLACES" = some u ∧ RelV (.int 40) u
  k_MOST_ARROWS : ∃ u, mg "MOST_ARROWS" = some u ∧ RelV (.int 80) u
  g_TriedError : mg "TriedError" = some (.ref (He.ga K "TriedError"))
  g_BadName : mg "BadName" = some (.ref (He.ga K "BadName"))
  g_NoPlace : mg "NoPlace" = some (.ref (He.ga K "NoPlace"))
  g_BadArrow : mg "BadArrow" = some (.ref (He.ga K "BadArrow"))
  g_LoosePlace : mg "LoosePlace" = some (.ref (He.ga K "LoosePlace"))
  g_TooGreat : mg "TooGreat" = some (.ref (He.ga K "TooGreat"))
  g_Chart : mg "Chart" = some (.ref (He.ga K "Chart"))
  o_Chart : Own K (He.ga K "Chart")
  mk_Chart : Mk K (He.ga K "Chart") (He.ma K (He.ga K "Chart") "__init__")
  n_Chart_count : NoAttr K (He.ga K "Chart") "count"
  n_Chart_start : NoAttr K (He.ga K "Chart") "start"
  n_Chart_end : NoAttr K (He.ga K "Chart") "end"
  n_Chart_arrows : NoAttr K (He.ga K "Chart") "arrows"
  m_Chart_check_arrows : Meth K (He.ga K "Chart") "check_arrows" (He.ma K (He.ga K "Chart") "check_arrows")
  m_Chart_check_places : Meth K (He.ga K "Chart") "check_places" (He.ma K (He.ga K "Chart") "check_places")
  m_Chart_parts : Meth K (He.ga K "Chart") "parts" (He.ma K (He.ga K "Chart") "parts")
  m_Chart_eq : Meth K (He.ga K "Chart") "__eq__" (He.ma K (He.ga K "Chart") "__eq__")
  m_Chart_is_run : Meth K (He.ga K "Chart") "is_run" (He.ma K (He.ga K "Chart") "is_run")
  m_Chart_row_of : Meth K (He.ga K "Chart") "row_of" (He.ma K (He.ga K "Chart") "row_of")
  m_Chart_closed : Meth K (He.ga K "Chart") "closed" (He.ma K (He.ga K "Chart") "closed")
  m_Chart_clash : Meth K (He.ga K "Chart") "clash" (He.ma K (He.ga K "Chart") "clash")
  m_Chart_needed : Meth K (He.ga K "Chart") "needed" (He.ma K (He.ga K "Chart") "needed")
  x_BadName : Err K (He.ga K "BadName")
  nx_BadName_name : PySem.W.findIn K (.ref (He.ga K "BadName")) "name" = some none
  xi_BadName : PySem.W.findIn K (.ref (He.ga K "BadName")) "__init__" = some (some (.ref (He.ma K (He.ga K "BadName") "__init__")))
  xt_BadName : PySem.W.typeIn K (.ref (He.ma K (He.ga K "BadName") "__init__")) = some (.type "function")
  x_NoPlace : Err K (He.ga K "NoPlace")
  nx_NoPlace_place : PySem.W.findIn K (.ref (He.ga K "NoPlace")) "place" = some none
  xi_NoPlace : PySem.W.findIn K (.ref (He.ga K "NoPlace")) "__init__" = some (some (.ref (He.ma K (He.ga K "NoPlace") "__init__")))
  xt_NoPlace : PySem.W.typeIn K (.ref (He.ma K (He.ga K "NoPlace") "__init__")) = some (.type "function")
  x_BadArrow : Err K (He.ga K "BadArrow")
  nx_BadArrow_number : PySem.W.findIn K (.ref (He.ga K "BadArrow")) "number" = some none
  xi_BadArrow : PySem.W.findIn K (.ref (He.ga K "BadArrow")) "__init__" = some (some (.ref (He.ma K (He.ga K "BadArrow") "__init__")))
  xt_BadArrow : PySem.W.typeIn K (.ref (He.ma K (He.ga K "BadArrow") "__init__")) = some (.type "function")
  x_LoosePlace : Err K (He.ga K "LoosePlace")
  nx_LoosePlace_place : PySem.W.findIn K (.ref (He.ga K "LoosePlace")) "place" = some none
  xi_LoosePlace : PySem.W.findIn K (.ref (He.ga K "LoosePlace")) "__init__" = some (some (.ref (He.ma K (He.ga K "LoosePlace") "__init__")))
  xt_LoosePlace : PySem.W.typeIn K (.ref (He.ma K (He.ga K "LoosePlace") "__init__")) = some (.type "function")
  x_TooGreat : Err K (He.ga K "TooGreat")
  r_TooGreat : Rai0 K mg "TooGreat" (He.ga K "TooGreat")
  ki_BadName_TriedError : PySem.W.kitOne K (.ref (He.ga K "BadName")) (.ref (He.ga K "TriedError")) = some true
  ki_TooGreat_TriedError : PySem.W.kitOne K (.ref (He.ga K "TooGreat")) (.ref (He.ga K "TriedError")) = some true
  xm_BadName_BadName : PySem.W.exmOne K (.ref (He.ga K "BadName")) (.ref (He.ga K "BadName")) = some true
  xm_BadName_TooGreat : PySem.W.exmOne K (.ref (He.ga K "BadName")) (.ref (He.ga K "TooGreat")) = some false
  xm_NoPlace_BadName : PySem.W.exmOne K (.ref (He.ga K "NoPlace")) (.ref (He.ga K "BadName")) = some false
  xm_NoPlace_TooGreat : PySem.W.exmOne K (.ref (He.ga K "NoPlace")) (.ref (He.ga K "TooGreat")) = some false
  xm_BadArrow_BadName : PySem.W.exmOne K (.ref (He.ga K "BadArrow")) (.ref (He.ga K "BadName")) = some false
  xm_BadArrow_TooGreat : PySem.W.exmOne K (.ref (He.ga K "BadArrow")) (.ref (He.ga K "TooGreat")) = some false
  xm_LoosePlace_BadName : PySem.W.exmOne K (.ref (He.ga K "LoosePlace")) (.ref (He.ga K "BadName")) = some false
  xm_LoosePlace_TooGreat : PySem.W.exmOne K (.ref (He.ga K "LoosePlace")) (.ref (He.ga K "TooGreat")) = some false
  xm_TooGreat_BadName : PySem.W.exmOne K (.ref (He.ga K "TooGreat")) (.ref (He.ga K "BadName")) = some false
  xm_TooGreat_TooGreat : PySem.W.exmOne K (.ref (He.ga K "TooGreat")) (.ref (He.ga K "TooGreat")) = some true
  g_fits_name : mg "fits_name" = some (.ref (He.ga K "fits_name"))
  g_spread : mg "spread" = some (.ref (He.ga K "spread"))
  g_distinct : mg "distinct" = some (.ref (He.ga K "distinct"))
  g_check_thread_names : mg "check_thread_names" = some (.ref (He.ga K "check_thread_names"))
  g_weaving_chart : mg "weaving_chart" = some (.ref (He.ga K "weaving_chart"))
  g__law_state : mg "_law_state" = some (.ref (He.ga K "_law_state"))
  g__law_draw : mg "_law_draw" = some (.ref (He.ga K "_law_draw"))
  g__law_pick : mg "_law_pick" = some (.ref (He.ga K "_law_pick"))
  g__law_cell : mg "_law_cell" = some (.ref (He.ga K "_law_cell"))
  g__law_named : mg "_law_named" = some (.ref (He.ga K "_law_named"))
  g__law_due : mg "_law_due" = some (.ref (He.ga K "_law_due"))
  g__law_caught : mg "_law_caught" = some (.ref (He.ga K "_law_caught"))
  g_law : mg "law" = some (.ref (He.ga K "law"))
  i_Chart_Chart : PySem.W.kitOne K (.ref (He.ga K "Chart")) (.ref (He.ga K "Chart")) = some true
  nl_Chart : PySem.W.notFirst K (He.ga K "Chart") (.type "list") = true
  nf_Chart : PySem.W.notFirst K (He.ga K "Chart") (.ref (He.ga K "Chart")) = true
theorem txt_of {K : PySem.W.Frag} {h : Heap} {mg : Str → Option Value} (X : K.In h) (G : h.Ns mainGlobals mg) (c : FbsOk K) : Txt K mg where
    b_ValueError := He.free_ok X G (c.fact 0)
    b_list := He.free_ok X G (c.fact 1)
    b_range := He.free_ok X G (c.fact 2)
    b_all := He.free_ok X G (c.fact 3)
    b_len := He.free_ok X G (c.fact 4)
    b_tuple := He.free_ok X G (c.fact 5)
    b_enumerate := He.free_ok X G (c.fact 6)
    b_int := He.free_ok X G (c.fact 7)
    b_max := He.free_ok X G (c.fact 8)
    b_isinstance := He.free_ok X G (c.fact 9)
    b_min := He.free_ok X G (c.fact 10)
    k_LETTERS := (let ⟨t, h⟩ := He.str_ok X G (c.fact 11); ⟨_, h, ⟨t, rfl⟩⟩)
    k_MOST_PLACES := (let ⟨t, h⟩ := He.int_ok X G (c.fact 12); ⟨_, h, ⟨t, rfl⟩⟩)
    k_MOST_ARROWS := (let ⟨t, h⟩ := He.int_ok X G (c.fact 13); ⟨_, h, ⟨t, rfl⟩⟩)
    g_TriedError := He.glo_ok X G (c.fact 14)
    g_BadName := He.glo_ok X G (c.fact 15)
    g_NoPlace := He.glo_ok X G (c.fact 16)
    g_BadArrow := He.glo_ok X G (c.fact 17)
    g_LoosePlace := He.glo_ok X G (c.fact 18)
    g_TooGreat := He.glo_ok X G (c.fact 19)
    g_Chart := He.glo_ok X G (c.fact 20)
    o_Chart := ownB_ok (c.fact 21)
    mk_Chart := He.mkr_ok (c.fact 22)
    n_Chart_count := He.noat_ok (c.fact 23)
    n_Chart_start := He.noat_ok (c.fact 24)
    n_Chart_end := He.noat_ok (c.fact 25)
    n_Chart_arrows := He.noat_ok (c.fact 26)
    m_Chart_check_arrows := He.meth_ok (c.fact 27)
    m_Chart_check_places := He.meth_ok (c.fact 28)
    m_Chart_parts := He.meth_ok (c.fact 29)
    m_Chart_eq := He.meth_ok (c.fact 30)
    m_Chart_is_run := He.meth_ok (c.fact 31)
    m_Chart_row_of := He.meth_ok (c.fact 32)
    m_Chart_closed := He.meth_ok (c.fact 33)
    m_Chart_clash := He.meth_ok (c.fact 34)
    m_Chart_needed := He.meth_ok (c.fact 35)
    x_BadName := errB_ok (c.fact 36)
    nx_BadName_name := He.eqO_ok (c.fact 37)
    xi_BadName := He.eqO_ok (c.fact 38)
    xt_BadName := eq_of_beq (c.fact 39)
    x_NoPlace := errB_ok (c.fact 40)
    nx_NoPlace_place := He.eqO_ok (c.fact 41)
    xi_NoPlace := He.eqO_ok (c.fact 42)
    xt_NoPlace := eq_of_beq (c.fact 43)
    x_BadArrow := errB_ok (c.fact 44)
    nx_BadArrow_number := He.eqO_ok (c.fact 45)
    xi_BadArrow := He.eqO_ok (c.fact 46)
    xt_BadArrow := eq_of_beq (c.fact 47)
    x_LoosePlace := errB_ok (c.fact 48)
    nx_LoosePlace_place := He.eqO_ok (c.fact 49)
    xi_LoosePlace := He.eqO_ok (c.fact 50)
    xt_LoosePlace := eq_of_beq (c.fact 51)
    x_TooGreat := errB_ok (c.fact 52)
    r_TooGreat := ⟨He.glo_ok X G (c.fact 19), errB_ok (c.fact 52), (c.fact 53)⟩
    ki_BadName_TriedError := of_decide_eq_true (c.fact 54)
    ki_TooGreat_TriedError := of_decide_eq_true (c.fact 55)
    xm_BadName_BadName := of_decide_eq_true (c.fact 56)
    xm_BadName_TooGreat := of_decide_eq_true (c.fact 57)
    xm_NoPlace_BadName := of_decide_eq_true (c.fact 58)
    xm_NoPlace_TooGreat := of_decide_eq_true (c.fact 59)
    xm_BadArrow_BadName := of_decide_eq_true (c.fact 60)
    xm_BadArrow_TooGreat := of_decide_eq_true (c.fact 61)
    xm_LoosePlace_BadName := of_decide_eq_true (c.fact 62)
    xm_LoosePlace_TooGreat := of_decide_eq_true (c.fact 63)
    xm_TooGreat_BadName := of_decide_eq_true (c.fact 64)
    xm_TooGreat_TooGreat := of_decide_eq_true (c.fact 65)
    g_fits_name := He.glo_ok X G (c.fact 66)
    g_spread := He.glo_ok X G (c.fact 67)
    g_distinct := He.glo_ok X G (c.fact 68)
    g_check_thread_names := He.glo_ok X G (c.fact 69)
    g_weaving_chart := He.glo_ok X G (c.fact 70)
    g__law_state := He.glo_ok X G (c.fact 71)
    g__law_draw := He.glo_ok X G (c.fact 72)
    g__law_pick := He.glo_ok X G (c.fact 73)
    g__law_cell := He.glo_ok X G (c.fact 74)
    g__law_named := He.glo_ok X G (c.fact 75)
    g__law_due := He.glo_ok X G (c.fact 76)
    g__law_caught := He.glo_ok X G (c.fact 77)
    g_law := He.glo_ok X G (c.fact 78)
    i_Chart_Chart := of_decide_eq_true (c.fact 79)
    nl_Chart := (c.fact 80)
    nf_Chart := (c.fact 81)
end
section
open PySem PySem.Spec PyProof.Rows L2
theorem sc_BadArrow_init : FnScope ["self", "number"] ["self", "number"] (defScope s_BadArrow_init) := ⟨rfl, rfl, rfl, by decide +kernel, rfl, by decide +kernel, by decide +kernel⟩
theorem ok_BadArrow {P : Program} {w : World} {K : PySem.W.Frag} {mg : Str → Option Value} {base : Heap} {f : Addr} {fd : FuncData} (F : FX K "__init__" "BadArrow.__init__" s_BadArrow_init [] [] f fd) (T : Txt K mg) : FnOk P w K mg base (L2.CX P w) 1 f fd ["self", "number"] (spI1 (He.ga K "BadArrow") "number") := by
  refine F.ok sc_BadArrow_init (fun vs H Q E h => ?_) (fun cdv A outer s H vs Q E hr h => ?_)
  · obtain ⟨a, v, rfl, _⟩ := h
    rfl
  · obtain ⟨a, v, rfl, ha, k⟩ := h
    refine ⟨_, PSs.nox (pss_one (ps_ost (pv 0) (pv 1))), ?_⟩
    exact ⟨_, rfl, _, rfl, a, He.ga K "BadArrow", rfl, T.x_BadArrow.ox, T.nx_BadArrow_number, .inl ⟨ha, k⟩⟩
theorem sc_LoosePlace_init : FnScope ["self", "place"] ["self", "place"] (defScope s_LoosePlace_init) := ⟨rfl, rfl, rfl, by decide +kernel, rfl, by decide +kernel, by decide +kernel⟩
theorem ok_LoosePlace {P : Program} {w : World} {K : PySem.W.Frag} {mg : Str → Option Value} {base : Heap} {f : Addr} {fd : FuncData} (F : FX K "__init__" "LoosePlace.__init__" s_LoosePlace_init [] [] f fd) (T : Txt K mg) : FnOk P w K mg base (L2.CX P w) 1 f fd ["self", "place"] (spI1 (He.ga K "LoosePlace") "place") := by
  refine F.ok sc_LoosePlace_init (fun vs H Q E h => ?_) (fun cdv A outer s H vs Q E hr h => ?_)
  · obtain ⟨a, v, rfl, _⟩ := h
    rfl
  · obtain ⟨a, v, rfl, ha, k⟩ := h
    refine ⟨_, PSs.nox (pss_one (ps_ost (pv 0) (pv 1))), ?_⟩
    exact ⟨_, rfl, _, rfl, a, He.ga K "LoosePlace", rfl, T.x_LoosePlace.ox, T.nx_LoosePlace_place, .inl ⟨ha, k⟩⟩
theorem sc_NoPlace_init : FnScope ["self", "place"] ["self", "place"] (defScope s_NoPlace_init) := ⟨rfl, rfl, rfl, by decide +kernel, rfl, by decide +kernel, by decide +kernel⟩
theorem ok_NoPlace {P : Program} {w : World} {K : PySem.W.Frag} {mg : Str → Option Value} {base : Heap} {f : Addr} {fd : FuncData} (F : FX K "__init__" "NoPlace.__init__" s_NoPlace_init [] [] f fd) (T : Txt K mg) : FnOk P w K mg base (L2.CX P w) 1 f fd ["self", "place"] (spI1 (He.ga K "NoPlace") "place") := by
  refine F.ok sc_NoPlace_init (fun vs H Q E h => ?_) (fun cdv A outer s H vs Q E hr h => ?_)
  · obtain ⟨a, v, rfl, _⟩ := h
    rfl
  · obtain ⟨a, v, rfl, ha, k⟩ := h
    refine ⟨_, PSs.nox (pss_one (ps_ost (pv 0) (pv 1))), ?_⟩
    exact ⟨_, rfl, _, rfl, a, He.ga K "NoPlace", rfl, T.x_NoPlace.ox, T.nx_NoPlace_place, .inl ⟨ha, k⟩⟩
theorem sc_BadName_init : FnScope ["self", "name"] ["self", "name"] (defScope s_BadName_init) := ⟨rfl, rfl, rfl, by decide +kernel, rfl, by decide +kernel, by decide +kernel⟩
theorem ok_BadName {P : Program} {w : World} {K : PySem.W.Frag} {mg : Str → Option Value} {base : Heap} {f : Addr} {fd : FuncData} (F : FX K "__init__" "BadName.__init__" s_BadName_init [] [] f fd) (T : Txt K mg) : FnOk P w K mg base (L2.CX P w) 1 f fd ["self", "name"] (spI1 (He.ga K "BadName") "name") := by
  refine F.ok sc_BadName_init (fun vs H Q E h => ?_) (fun cdv A outer s H vs Q E hr h => ?_)
  · obtain ⟨a, v, rfl, _⟩ := h
    rfl
  · obtain ⟨a, v, rfl, ha, k⟩ := h
    refine ⟨_, PSs.nox (pss_one (ps_ost (pv 0) (pv 1))), ?_⟩
    exact ⟨_, rfl, _, rfl, a, He.ga K "BadName", rfl, T.x_BadName.ox, T.nx_BadName_name, .inl ⟨ha, k⟩⟩
end
section
open PySem PySem.Spec PyProof.Rows L2
theorem put_e {X : Cx} {pins : List (Addr × Obj)} {σ : L2.St} {H : Hp} {s : Shared} {D b : Addr} {z : V} {u r : Value} {E : Value → Shared → Prop} {Q : Unit → Shared → Prop} (hu : X.A.units + 1 < cLine) (I : Inv X pins σ H s) (e : H D = some (.dT [])) (hb : SqT X.K H b []) (ry : RelV (.ref b) u) (rz : RelV z r)
    (q : ∀ φ s', Inv X pins σ (upd H D (.ext φ)) s' → Q () s') : wpAny (model X.prog X.w) X.A (dictSet D u r) Q E s := by
  have ub : u = Value.ref b := ry
  rw [ub]
  obtain ⟨sz, nsys, xs, kt, dh⟩ := dt_of I.hok e
  have lx := Paired.length kt
  obtain ⟨its, vs, ⟨o, h1, h2, n, h3⟩, _⟩ := I.tuple hb
  obtain rfl : its = [] := by cases vs; rfl
  have key : (tupleKind (mixKind X.prog X.w)).is s.heap [] b := ⟨o, #[], n, h1, h2, h3, by simpa using ItemsAre.nil⟩
  refine wpAny_dictSet_heap (hsz := by rw [← lx]; exact Nat.zero_le _) (by show X.A.units < cLine; omega) key dh fun h2 d2 sb => ?_
  obtain ⟨ob, es, ep, hq, _⟩ := d2
  exact q (fun h => h.get? D = some ob) _ (d_write I (by rw [e]; trivial) sb ⟨ob, hq⟩ ⟨hq, ⟨ob, hq⟩, fun h1 h2 a k => k ob a⟩)
abbrev tPutE (K : PySem.W.Frag) (tk tv : TE) (D : Addr) (Nx : Hp → Prop) (σ : L2.St) (H : Hp) : Prop := tk σ H fun y H4 => tv σ H4 fun z H5 => ∃ b, y = .ref b ∧ SqT K H5 b [] ∧ H5 D = some (.dT []) ∧ ∀ φ, Nx (upd H5 D (.ext φ))
def tDcTE (K : PySem.W.Frag) (wi : TI) (g : TG) (tt : TT) (tk tv : TE) (vs : List Nat) : TE := fun σ H Q => wi σ H fun J H1 => ∀ D, H1 D = none → Walks J g tt σ vs (upd H1 D (.dT [])) (fun H => Q (.ref D) H) (tPutE K tk tv D)
section
variable {X : Cx}
theorem core_dcTE {kx vx tg iter : Expr} {ifs : List Expr} {scope : Scope} {own : List (Str × Nat)} {pos : Pos} {wi : TI} {g : TG} {tt : TT} {tk tv : TE} (hu : X.A.units + 1 < cLine) (hc : X.calm = true) (hN : X.N.Nodup) (hi : PI X tg iter wi) (ok : BlkOk X.N X.env.scope scope own)
    (hg : InB X scope fun B => PG B tg g) (ht : InB X scope fun B => PTs B ifs tt)
    (hk : InB X scope fun B => PE B kx tk) (he : InB X scope fun B => PE B vx tv)
    (hs : ∀ x, foldedSetIterable iter X.env x = pure x := by intro _; rfl) :
    Core X (.DictComp kx vx [⟨tg, iter, ifs, 0⟩] scope pos) scope iter (tDcTE X.K wi g tt tk tv (own.map (·.2))) := by
  intro pins s σ H Q at_ use Qf I h fin0
  refine comp_open (c0 := ⟨tg, iter, ifs, 0⟩) (rest := []) (o := .dT []) (.inr rfl) hc hN I rfl hi ok hs (own := own) (P := fun J D H1 => Walks J g tt σ (own.map fun x : Str × Nat => x.2) H1 (fun H => Q (.ref D) H) fun Nx σ2 H3 => tPutE X.K tk tv D Nx σ2 H3) h (QD := fun D H' => Q (.ref D) H') (fun B C cl s3 H3 fp it tn J D s4 R eB w T I4 st fr hf fin => ?_) fin0
  · have pg := hg s3 H3 C cl fp
    have pt := ht s3 H3 C cl fp
    have pk := hk s3 H3 C cl fp
    have pv := he s3 H3 C cl fp
    rw [← eB] at pg pt pk pv
    have e1 : B.prog = X.prog := by rw [eB]
    have e2 : B.w = X.w := by rw [eB]
    have e3 : B.A = X.A := by rw [eB]
    have e4 : B.K = X.K := by rw [eB]
    have e5 : B.calm = true := by rw [eB]; exact hc
    have e6 : B.xe = nv := by rw [eB]
    clear eB
    rw [← e1, ← e2, ← e4] at T
    rw [← e1, ← e2, ← e3]
    rw [← e3] at hu
    obtain ⟨W, ⟨m0, w0⟩, turn⟩ := w
    have lp : codeAny (model B.prog B.w) B.A (.compLoop (.DictComp kx vx [⟨tg, iter, ifs, 0⟩] scope pos) 0 (.ref it) (.ref D) B.env) R s4 := by
      refine loop_c (Stands B [] fp tn (wipe σ (own.map (·.2))) W) (fun n s5 st5 => one_turn e5 e6 T hf pg pt turn st5 (fun s6 H6 I6 q => fin s6 H6 I6 q) fun s6 H6 σ6 pn Nx I6 kn q over => ?_) m0 ⟨0, H3, I4, st, fr, w0⟩
      have a1 := pk.run _ s6 σ6 H6 _ I6 q
      rw [e6] at a1
      refine thn a1 fun k s7 h7 => ?_
      obtain ⟨y, H7, I7, ry, q7⟩ := h7
      have a2 := pv.run _ s7 σ6 H7 _ I7 q7
      rw [e6] at a2
      refine thn a2 fun v s8 h8 => ?_
      obtain ⟨z, H8, I8, rz, b, rfl, sb, hD, nx⟩ := h8
      rw [← e4] at sb
      exact put_e hu I8 hD sb ry rz fun φ s9 I9 => over σ6 s9 _ I9 (knows_wipe kn) (nx φ)
    exact codeAny_compStart_dict lp (T.self B.A 0 _ _ _ st lp)
end
def dcE (p : Pat) (c : EB) (tk tv : E1) : List D → List D → Rz (List D)
  | [d], S => match bindP p d S with
    | some S1 => (match c S1 with
      | .ok (true, S2) => (match tk S2 with
        | .ok (.tup [], S3) => (match tv S3 with
          | .ok (_, S4) => .ok S4
          | _ => .no)
        | _ => .no)
      | _ => .no)
    | none => .no
  | _, _ => .no
def aDcE (i : Nat) (p : Pat) (vs : List Nat) (it : EA) (c : EB) (tk tv : E1) : S1 := fun S => (it S).bind fun q => (dcE p c tk tv q.1 (unD vs q.2)).bind fun S4 => .ok (.nx ((reD vs q.2 (unD vs S4)).set i .non))
section
variable {K : PySem.W.Frag} {E : L2.St → XK} {H0 F0 F H B : Hp} {io : IO} {rm m : Mo} {mio msb ms : List Mo} {S : List D} {σ σ' : L2.St} {wi : TI} {it : EA} {g : TG} {p : Pat} {tt : TT} {c : EB} {tk tv : TE} {ka va : E1} {vs : List Nat} {i0 : Nat}
theorem ss_dcE (hE : Flat E) (h0 : i0 < ms.length) (hi : SI K E ms wi it) (hg : SG K p g) (hp : ∀ i ∈ patI p, i ∈ vs) (no : noOwn vs ms = true) (hc : ST K (fun _ => E0) (patM p (unM vs ms)) tt c) (hk : SE K (fun _ => E0) (patM p (unM vs ms)) .z tk ka) (he : SE K (fun _ => E0) (patM p (unM vs ms)) .z tv va) :
    SS K E rm mio msb ms (ms.set i0 .u) (tAsg (tDcTE K wi g tt tk tv vs) (gName i0)) (aDcE i0 p vs it c ka va) := fun σ H En H0 F0 io F S fps rl h => hi.stm rl h fun ds S1 f1 F1 H1 J r1 ln wd h => by
  intro Dl hD
  have F1D : F1 Dl = none := fnone r1.sub hD
  have H0D : H0 Dl = none := Classical.byContradiction fun z => r1.evo.liv Dl z hD
  have mD : ¬ Mine f1 Dl := fun z => r1.ne z hD
  have hvl : ∀ i ∈ patI p, i < ms.length := fun i z => by
    obtain ⟨m, e, _⟩ := noOwn_at no i (hp i z)
    exact (List.getElem?_eq_some_iff.mp e).1
  have uf := r1.unF_eq no
  have g0 : Grow F1 H1 F1 (upd H1 Dl (.dT [])) := Grow.own r1.ok hD nt_dT
  have rw1 := r1.unv vs
  rw [uf] at rw1
  obtain ⟨R0, eR⟩ : ∃ R0, R0 = dcE p c ka va ds (unD vs S1) := ⟨_, rfl⟩
  replace h : GoS K E H0 F0 io rm mio (ms.set i0 .u) msb En F1 (R0.bind fun S4 => .ok (.nx ((reD vs S1 (unD vs S4)).set i0 .non))) := by rw [eR]; exact h
  match ds, eR, ln, wd with
  | [], eR, _, _ => rw [eR] at h; exact h.elim
  | _ :: _ :: _, eR, _, _ => rw [eR] at h; exact h.elim
  | [d], eR, ln, wd =>
  unfold dcE at eR
  dsimp only at eR
  cases eb : bindP p d (unD vs S1) with
  | none => rw [eb] at eR; rw [eR] at h; exact h.elim
  | some S3 =>
  rw [eb] at eR
  dsimp only at eR
  refine ⟨fun i n H' => (i = 0 ∧ n = 1 ∧ H' = upd H1 Dl (.dT [])) ∨ (i = 1 ∧ n = 0 ∧ ∃ F' f' S4, R0 = .ok S4 ∧ Rel K H0 F0 io F' H' (unM vs ms) (unD vs S4) (wipe σ vs) f' ∧ Ev f1 f' F1 H1 F' H'), ⟨1, .inl ⟨rfl, rfl, rfl⟩⟩, ?_⟩
  rintro i n H' (⟨rfl, rfl, rfl⟩ | ⟨rfl, rfl, F', f', S4, e4, r', ev⟩)
  · obtain ⟨w1, w2, w3⟩ := wd F1 (upd H1 Dl (.dT [])) (Same.refl _) (rw1.grow g0).ok
    refine .inr ⟨w1 0 (by simp), fun H2 => ∃ F' f' S4, R0 = .ok S4 ∧ Rel K H0 F0 io F' H2 (unM vs ms) (unD vs S4) (wipe σ vs) f' ∧ Ev f1 f' F1 H1 F' H2, fun H2 q => ⟨0, by omega, .inr ⟨rfl, rfl, q⟩⟩, fun x H2 y => ?_⟩
    obtain ⟨F2, gr, rx⟩ := w3 0 x H2 d rfl y
    have r' := rw1.grow g0
    have r2 := r'.grow gr
    have tD : upd H1 Dl (.dT []) Dl = some (.dT []) ∧ F1 Dl = none ∧ ¬ Mine f1 Dl := ⟨upd_same, F1D, mD⟩
    have tD2 := stayD tD.1 tD.2.1 tD.2.2 (Ev.grow (fps := f1) gr)
    have ev2 := (Ev.grow (fps := f1) g0).trans (Ev.grow (fps := f1) gr)
    refine hg (unM vs ms) _ H2 H0 F0 io F2 _ f1 d x _ S3 r2 rx (fun j z => by rw [(un_len vs).1]; exact hvl j z) eb fun σ3 r3 b3 => ⟨wipe_but b3 hp, ?_⟩
    have tD3 : H2 Dl = some (.dT []) ∧ F2 Dl = none ∧ ¬ Mine (patF p f1) Dl := ⟨tD2.1, tD2.2.1, fun z => tD2.2.2 (patF_mine p z)⟩
    have ev3 : Ev f1 (patF p f1) F1 H1 F2 H2 := ⟨ev2.evo, fun a z => ev2.mine a (patF_mine p z)⟩
    have back : ∀ {Fa Ha Sa fa}, Rel K H0 F0 io Fa Ha (patM p (unM vs ms)) Sa σ3 fa → Rel K H0 F0 io Fa Ha (unM vs ms) (unD vs Sa) (wipe σ vs) (unF vs fa) := fun {Fa Ha Sa fa} r => by
      have := r.unv vs
      rw [unM_pat hp, wipe_but b3 hp] at this
      exact this
    cases ec : c S3 with
    | no => rw [ec] at eR; rw [eR] at h; exact h.elim
    | ex cc fs => rw [ec] at eR; rw [eR] at h; exact h.elim
    | ok bS =>
      obtain ⟨b, S4⟩ := bS
      rw [ec] at eR
      cases b with
      | false => rw [eR] at h; exact h.elim
      | true =>
        dsimp only at eR
        refine hc σ3 H2 _ H0 F0 io F2 S3 _ r3 ?_
        rw [ec]
        intro F4 H4 f4 r4 e4
        have tD4 := stayD tD3.1 tD3.2.1 tD3.2.2 e4
        have ev4 := ev3.trans e4
        rw [if_pos rfl]
        cases et : ka S4 with
        | no => rw [et] at eR; rw [eR] at h; exact h.elim
        | ex cc fs => rw [et] at eR; rw [eR] at h; exact h.elim
        | ok xS =>
          obtain ⟨k, S5⟩ := xS
          rw [et] at eR
          cases k with
          | tup ks =>
            cases ks with
            | cons _ _ => rw [eR] at h; exact h.elim
            | nil =>
            dsimp only at eR
            refine hk σ3 H4 _ H0 F0 io F4 S4 f4 r4 ?_
            rw [et]
            intro F5 H5 f5 r5 e5 y rk
            have tD5 := stayD tD4.1 tD4.2.1 tD4.2.2 e5
            have ev5 := ev4.trans e5
            cases ew : va S5 with
            | no => rw [ew] at eR; rw [eR] at h; exact h.elim
            | ex cc fs => rw [ew] at eR; rw [eR] at h; exact h.elim
            | ok xS =>
              obtain ⟨dv, S6⟩ := xS
              rw [ew] at eR
              dsimp only at eR
              refine he σ3 H5 _ H0 F0 io F5 S5 f5 r5 ?_
              rw [ew]
              intro F6 H6 f6 r6 e6 v rv
              have tD6 := stayD tD5.1 tD5.2.1 tD5.2.2 e6
              have ev6 := ev5.trans e6
              have rk := Rep.mono e6.evo.same _ rk
              unfold Rep at rk
              obtain ⟨kb, vks, rfl, hb, _, rvk⟩ := rk
              have hvk : vks = [] := by unfold Reps at rvk; exact rvk
              subst hvk
              have sq : SqT K H6 kb [] := by
                rcases hb with hb | hb
                · exact .inl (.inl (r6.sub _ _ hb))
                · exact same_t r6.sub hb.2
              refine ⟨kb, rfl, sq, tD6.1, fun φ => ?_⟩
              have nx : NoTup (.ext φ) := fun xs => ⟨fun z => (by cases z), fun q z => (by cases z)⟩
              have e7 : Evo (fun a => a = Dl) F6 H6 F6 (upd H6 Dl (.ext φ)) := Evo.upd r6.ok tD6.1 nt_dT nx tD6.2.1
              have r7 := (back r6).go e7 (fun a z q => tD6.2.2 (unF_mine vs (by rw [← q]; exact z))) (fun a o z q => by rw [q, tD6.1] at z; cases z; exact nt_dT) fun a z => .inl (by rw [z]; exact H0D)
              exact ⟨F6, _, S6, eR, r7, ⟨ev6.evo.trans e7 fun a z => .inr (by rw [z]; exact hD), fun a z => ev6.mine a (unF_mine vs z)⟩⟩
          | _ => rw [eR] at h; exact h.elim
  · obtain ⟨w1, w2, w3⟩ := wd F' H' ev.evo.same r'.ok
    refine .inl ⟨w2, ?_⟩
    rw [e4] at h
    have h : ∀ σ' F' H' f', Same F1 F' → Rel K H0 F0 io F' H' (ms.set i0 .u) ((reD vs S1 (unD vs S4)).set i0 .non) σ' f' → En.nx σ' H' := h
    have r8 := r1.rev no r' ev.evo.same
    exact h _ F' H' _ ev.evo.same (r8.storeG h0 ⟨rfl, rfl⟩ List.nodup_nil (fun _ z => by cases z) (fun _ z => by cases z) (fun _ z => by cases z) (fun _ z => by cases z))
def aNev : S1 := fun _ => .no
theorem ss_no {t : TS} {ms' : List Mo} : SS K E rm mio msb ms ms' t aNev := fun σ H En H0 F0 io F S fps rl h => h.elim
end
theorem core_dcTEk {X : Cx} {K : PySem.W.Frag} {kx vx tg iter : Expr} {ifs : List Expr} {scope : Scope} {own : List (Str × Nat)} {pos : Pos} {wi : TI} {g : TG} {tt : TT} {tk tv : TE} (hK : X.K = K) (hu : X.A.units + 1 < cLine) (hc : X.calm = true) (hN : X.N.Nodup) (hi : PI X tg iter wi) (ok : BlkOk X.N X.env.scope scope own)
    (hg : InB X scope fun B => PG B tg g) (ht : InB X scope fun B => PTs B ifs tt)
    (hk : InB X scope fun B => PE B kx tk) (he : InB X scope fun B => PE B vx tv)
    (hs : ∀ x, foldedSetIterable iter X.env x = pure x := by intro _; rfl) :
    Core X (.DictComp kx vx [⟨tg, iter, ifs, 0⟩] scope pos) scope iter (tDcTE K wi g tt tk tv (own.map (·.2))) := by
  subst hK
  exact core_dcTE hu hc hN hi ok hg ht hk he hs
def aTwo (c : List D → Bool) (a b : List D → Rz D) : List D → Rz D := fun ds => if c ds = true then a ds else b ds
theorem spA_two {K : PySem.W.Frag} {rm : Mo} {c : List D → Bool} {a b : List D → Rz D} {vs : List V} {H : Hp} {Q : VK} {E : XK} (h : spA K rm (aTwo c a b) vs H Q E) : spA K rm a vs H Q E ∨ spA K rm b vs H Q E := by
  obtain ⟨F, ds, k, r, h⟩ := h
  unfold aTwo at h
  by_cases e : c ds = true
  · rw [if_pos e] at h; exact .inl ⟨F, ds, k, r, h⟩
  · rw [if_neg e] at h; exact .inr ⟨F, ds, k, r, h⟩
theorem aTwo_len {c : List D → Bool} {a b : List D → Rz D} {n : Nat} (ha : ∀ ds, ds.length ≠ n → a ds = .no) (hb : ∀ ds, ds.length ≠ n → b ds = .no) : ∀ ds, ds.length ≠ n → aTwo c a b ds = .no := fun ds z => by
  unfold aTwo
  split
  · exact ha ds z
  · exact hb ds z
def noSeq : List D → Bool
  | [.lst []] => true
  | [.tup []] => true
  | _ => false
end
section
open PySem PySem.Spec PyProof.Rows L2
abbrev XQ := Str → List (Str × D) → Prop
abbrev noX : XQ := fun _ _ => False
@[irreducible] def Sat {α : Type} (r : Rz α) (Q : α → Prop) (E : XQ) : Prop := match r with
  | .ok a => Q a
  | .ex c fs => E c fs
  | .no => False
@[irreducible] def Sat2 {α β : Type} (r : Rz (α × β)) (Q : α → β → Prop) (E : XQ) : Prop := match r with
  | .ok a => Q a.1 a.2
  | .ex c fs => E c fs
  | .no => False
@[irreducible] def SatS (r : Rz Out) (N : List D → Prop) (R : D → List D → Prop) (E : XQ) : Prop := match r with
  | .ok (.nx S) => N S
  | .ok (.rt d S) => R d S
  | .ok _ => False
  | .ex c fs => E c fs
  | .no => False
def OpS {α : Type} (o : Option α) (Q : α → Prop) : Prop := match o with
  | some d => Q d
  | none => False
def To {α : Type} (S : α) (N : α → Prop) : Prop := N S
theorem to_of {α : Type} {S S2 : α} {N : α → Prop} (h : S = S2) (q : N S2) : To S N := by with_unfolding_all exact (h ▸ q)
section
variable {α β : Type} {r : Rz α} {Q Q' : α → Prop} {E E' : XQ}
theorem Sat.imp (h : Sat r Q E) (q : ∀ a, Q a → Q' a) (e : ∀ c fs, E c fs → E' c fs) : Sat r Q' E' := by
  with_unfolding_all
    cases r with
    | ok a => exact q a h
    | ex c fs => exact e c fs h
    | no => exact h
theorem Sat.use (h : Sat r Q noX) (q : ∀ a, Q a → Q' a) : Sat r Q' E := by with_unfolding_all exact (h.imp q fun _ _ z => z.elim)
theorem Sat.ok {a : α} (h : r = .ok a) (q : Q a) : Sat r Q E := by with_unfolding_all (rw [h]; exact q)
theorem Sat.get (h : Sat r Q noX) : ∃ a, r = .ok a ∧ Q a := by
  with_unfolding_all
    cases r with
    | ok a => exact ⟨a, rfl, h⟩
    | ex c fs => exact h.elim
    | no => exact h.elim
variable {r2 : Rz (α × β)} {P P' : α → β → Prop}
theorem Sat2.imp (h : Sat2 r2 P E) (q : ∀ a b, P a b → P' a b) (e : ∀ c fs, E c fs → E' c fs) : Sat2 r2 P' E' := by
  with_unfolding_all
    cases r2 with
    | ok a => exact q _ _ h
    | ex c fs => exact e c fs h
    | no => exact h
theorem Sat2.use (h : Sat2 r2 P noX) (q : ∀ a b, P a b → P' a b) : Sat2 r2 P' E := by with_unfolding_all exact (h.imp q fun _ _ z => z.elim)
theorem Sat2.ok {a : α} {b : β} (h : r2 = .ok (a, b)) (q : P a b) : Sat2 r2 P E := by with_unfolding_all (rw [h]; exact q)
theorem Sat2.get (h : Sat2 r2 P noX) : ∃ a b, r2 = .ok (a, b) ∧ P a b := by
  with_unfolding_all
    cases r2 with
    | ok a => exact ⟨a.1, a.2, rfl, h⟩
    | ex c fs => exact h.elim
    | no => exact h.elim
theorem SatS.imp {r : Rz Out} {N N' : List D → Prop} {R R' : D → List D → Prop} (h : SatS r N R E) (q : ∀ S, N S → N' S) (q2 : ∀ d S, R d S → R' d S) (e : ∀ c fs, E c fs → E' c fs) : SatS r N' R' E' := by
  with_unfolding_all
    match r, h with
    | .ok (.nx S), h => exact q _ h
    | .ok (.rt d S), h => exact q2 _ _ h
    | .ex c fs, h => exact e _ _ h
    | .ok (.bk _), h => exact h.elim
    | .ok (.ct _), h => exact h.elim
    | .no, h => exact h.elim
theorem bnd {k : α → Rz β} {T : β → Prop} (h : Sat r (fun a => Sat (k a) T E) E) : Sat (r.bind k) T E := by with_unfolding_all (cases r <;> exact h)
theorem bnd2 {γ δ : Type} {k : α → Rz (γ × δ)} {T : γ → δ → Prop} (h : Sat r (fun a => Sat2 (k a) T E) E) : Sat2 (r.bind k) T E := by with_unfolding_all (cases r <;> exact h)
theorem bnd22 {γ δ : Type} {k : α × β → Rz (γ × δ)} {T : γ → δ → Prop} (h : Sat2 r2 (fun a b => Sat2 (k (a, b)) T E) E) : Sat2 (r2.bind k) T E := by with_unfolding_all (cases r2 <;> exact h)
theorem bnd21 {γ : Type} {k : α × β → Rz γ} {T : γ → Prop} (h : Sat2 r2 (fun a b => Sat (k (a, b)) T E) E) : Sat (r2.bind k) T E := by with_unfolding_all (cases r2 <;> exact h)
theorem bndS {k : α → Rz Out} {N : List D → Prop} {R : D → List D → Prop} (h : Sat r (fun a => SatS (k a) N R E) E) : SatS (r.bind k) N R E := by with_unfolding_all (cases r <;> exact h)
theorem bndS2 {k : α × β → Rz Out} {N : List D → Prop} {R : D → List D → Prop} (h : Sat2 r2 (fun a b => SatS (k (a, b)) N R E) E) : SatS (r2.bind k) N R E := by with_unfolding_all (cases r2 <;> exact h)
theorem or2 {o : Option α} {S : List D} {P : α → List D → Prop} (h : OpS o fun d => P d S) : Sat2 (oR o S) P E := by with_unfolding_all (cases o <;> exact h)
theorem OpS.of {o : Option α} {d : α} {Q : α → Prop} (h : o = some d) (q : Q d) : OpS o Q := by with_unfolding_all (rw [h]; exact q)
end
theorem OpS.imp {α : Type} {o : Option α} {P P' : α → Prop} (h : OpS o P) (q : ∀ a, P a → P' a) : OpS o P' := by
  with_unfolding_all
    cases o with
    | none => exact h
    | some a => exact q a h
theorem ops_some {α : Type} {a : α} {P : α → Prop} (h : OpS (some a) P) : P a := by with_unfolding_all exact (h)
theorem endO_of {r : Rz Out} {Q : D → Prop} {E : XQ} (h : SatS r (fun _ => Q .non) (fun d _ => Q d) E) : Sat (r.bind endO) Q E := by
  with_unfolding_all
    match r, h with
    | .ok (.nx S'), h => exact h
    | .ok (.rt d S'), h => exact h
    | .ex c fs, h => exact h
    | .ok (.bk _), h => exact h.elim
    | .ok (.ct _), h => exact h.elim
    | .no, h => exact h.elim
theorem endR_of {r : Rz Out} {Q : D → Prop} {E : XQ} (h : SatS r (fun _ => False) (fun d _ => Q d) E) : Sat (r.bind endR) Q E := by
  with_unfolding_all
    match r, h with
    | .ok (.nx S'), h => exact h.elim
    | .ok (.rt d S'), h => exact h
    | .ex c fs, h => exact h
    | .ok (.bk _), h => exact h.elim
    | .ok (.ct _), h => exact h.elim
    | .no, h => exact h.elim
theorem endIo_of {r : Rz Out} {Q : D → D → Prop} {E : XQ} (h : SatS r (fun S => To (S.headD .non) (Q .non)) (fun d S => To (S.headD .non) (Q d)) E) : Sat2 (r.bind endIo) Q E := by
  with_unfolding_all
    match r, h with
    | .ok (.nx S'), h => exact h
    | .ok (.rt d S'), h => exact h
    | .ex c fs, h => exact h
    | .ok (.bk _), h => exact h.elim
    | .ok (.ct _), h => exact h.elim
    | .no, h => exact h.elim
theorem endIoR_of {r : Rz Out} {Q : D → D → Prop} {E : XQ} (h : SatS r (fun _ => False) (fun d S => To (S.headD .non) (Q d)) E) : Sat2 (r.bind endIoR) Q E := by
  with_unfolding_all
    match r, h with
    | .ok (.nx S'), h => exact h.elim
    | .ok (.rt d S'), h => exact h
    | .ex c fs, h => exact h
    | .ok (.bk _), h => exact h.elim
    | .ok (.ct _), h => exact h.elim
    | .no, h => exact h.elim
section
variable {S : List D} {E : XQ} {a b c : E1} {Q : D → List D → Prop} {B : Bool → List D → Prop} {A : List D → List D → Prop} {as : EA}
theorem s_var {i : Nat} {d : D} (h : S[i]? = some d) (q : Q d S) : Sat2 (aVar i S) Q E := by with_unfolding_all exact (or2 (.of h q))
theorem s_c {d : D} (q : Q d S) : Sat2 (aC d S) Q E := by with_unfolding_all exact (q)
theorem s_bin {f : D → D → Option D} (h : Sat2 (a S) (fun x S1 => Sat2 (b S1) (fun y S2 => OpS (f x y) fun d => Q d S2) E) E) : Sat2 (aBin f a b S) Q E := by with_unfolding_all exact (bnd22 (h.imp (fun _ _ h => bnd22 (h.imp (fun _ _ h => or2 h) fun _ _ h => h)) fun _ _ h => h))
theorem s_un {f : D → Option D} (h : Sat2 (a S) (fun x S1 => OpS (f x) fun d => Q d S1) E) : Sat2 (aUn f a S) Q E := by with_unfolding_all exact (bnd22 (h.imp (fun _ _ h => or2 h) fun _ _ h => h))
theorem s_test (h : Sat2 (a S) (fun x S1 => OpS x.bool? fun d => B d S1) E) : Sat2 (aTest a S) B E := by with_unfolding_all exact (bnd22 (h.imp (fun _ _ h => or2 h) fun _ _ h => h))
theorem s_tr (h : Sat2 (a S) (fun x S1 => OpS (dTruB x) fun d => B d S1) E) : Sat2 (aTr a S) B E := by with_unfolding_all exact (bnd22 (h.imp (fun _ _ h => or2 h) fun _ _ h => h))
theorem s_not {t : EB} (h : Sat2 (t S) (fun x S1 => B (!x) S1) E) : Sat2 (aNotB t S) B E := by with_unfolding_all exact (bnd22 h)
def IfB (b : Bool) (p q : Prop) : Prop := if b = true then p else q
theorem if_t' {p q : Prop} (h : IfB true p q) : p := by with_unfolding_all exact (h)
theorem if_f' {p q : Prop} (h : IfB false p q) : q := by with_unfolding_all exact (h)
theorem if_t {p q : Prop} (h : p) : IfB true p q := by with_unfolding_all exact (h)
theorem if_f {p q : Prop} (h : q) : IfB false p q := by with_unfolding_all exact (h)
theorem if_b {b : Bool} {p q : Prop} (h : b = true → p) (h2 : b = false → q) : IfB b p q := by
  with_unfolding_all
    cases b
    · exact h2 rfl
    · exact h rfl
theorem if_d {c : Prop} [Decidable c] {p q : Prop} (h : c → p) (h2 : ¬ c → q) : IfB (decide c) p q := by with_unfolding_all exact (if_b (fun z => h (of_decide_eq_true z)) fun z => h2 (of_decide_eq_false z))
theorem if_n {b : Bool} {p q : Prop} (h : IfB b q p) : IfB (!b) p q := by with_unfolding_all (cases b <;> exact h)
theorem s_or {t u : EB} (h : Sat2 (t S) (fun x S1 => IfB x (B true S1) (Sat2 (u S1) B E)) E) : Sat2 (aOrB t u S) B E := by with_unfolding_all exact (bnd22 (h.imp (fun x _ h => by cases x <;> exact h) fun _ _ h => h))
theorem s_and {t u : EB} (h : Sat2 (t S) (fun x S1 => IfB x (Sat2 (u S1) B E) (B false S1)) E) : Sat2 (aAndB t u S) B E := by with_unfolding_all exact (bnd22 (h.imp (fun x _ h => by cases x <;> exact h) fun _ _ h => h))
theorem s_if {t : EB} (h : Sat2 (t S) (fun x S1 => IfB x (Sat2 (a S1) Q E) (Sat2 (b S1) Q E)) E) : Sat2 (aIf t a b S) Q E := by with_unfolding_all exact (bnd22 (h.imp (fun x _ h => by cases x <;> exact h) fun _ _ h => h))
theorem s_andV (h : Sat2 (a S) (fun x S1 => OpS x.bool? fun x => IfB x (Sat2 (b S1) Q E) (Q (.bl false) S1)) E) : Sat2 (aAndV a b S) Q E := by with_unfolding_all exact (bnd22 (h.imp (fun x _ h => bnd22 (or2 (h.imp fun z h => by cases z <;> exact h))) fun _ _ h => h))
theorem s_orV (h : Sat2 (a S) (fun x S1 => OpS x.bool? fun x => IfB x (Q (.bl true) S1) (Sat2 (b S1) Q E)) E) : Sat2 (aOrV a b S) Q E := by with_unfolding_all exact (bnd22 (h.imp (fun x _ h => bnd22 (or2 (h.imp fun z h => by cases z <;> exact h))) fun _ _ h => h))
theorem s_notV (h : Sat2 (a S) (fun x S1 => OpS (dTruB x) fun z => Q (.bl (!z)) S1) E) : Sat2 (aNotV a S) Q E := by with_unfolding_all exact (bnd22 (h.imp (fun x _ h => or2 (by show OpS ((dTruB x).map _) _; cases e : dTruB x <;> rw [e] at h <;> exact h)) fun _ _ h => h))
theorem s_chain {f g : D → D → Option D} (h : Sat2 (a S) (fun x S1 => Sat2 (b S1) (fun y S2 => OpS (f x y) fun z => OpS z.bool? fun z => IfB z (Sat2 (c S2) (fun w S3 => OpS (g y w) fun d => Q d S3) E) (Q (.bl false) S2)) E) E) : Sat2 (aChain f g a b c S) Q E := by with_unfolding_all exact (bnd22 (h.imp (fun x S1 h => bnd22 (h.imp (fun y S2 h => bnd22 (or2 (h.imp fun z h => bnd22 (or2 (h.imp fun w h => by cases w; exact h; exact bnd22 ((if_t' h).imp (fun _ _ h => or2 h) fun _ _ h => h)))))) fun _ _ h => h)) fun _ _ h => h))
theorem s_nil (q : A [] S) : Sat2 (aNil S) A E := by with_unfolding_all exact (q)
theorem s_cons (h : Sat2 (a S) (fun x S1 => Sat2 (as S1) (fun xs S2 => A (x :: xs) S2) E) E) : Sat2 (aCons a as S) A E := by with_unfolding_all exact (bnd22 (h.imp (fun _ _ h => bnd22 h) fun _ _ h => h))
theorem s_lst (h : Sat2 (as S) (fun xs S1 => OpS (okL xs.length (.lst xs)) fun d => Q d S1) E) : Sat2 (aLst as S) Q E := by with_unfolding_all exact (bnd22 (h.imp (fun _ _ h => or2 h) fun _ _ h => h))
theorem s_tup (h : Sat2 (as S) (fun xs S1 => OpS (okL xs.length (.tup xs)) fun d => Q d S1) E) : Sat2 (aTup as S) Q E := by with_unfolding_all exact (bnd22 (h.imp (fun _ _ h => or2 h) fun _ _ h => h))
theorem s_fn {f : List D → Option D} (h : Sat2 (as S) (fun xs S1 => OpS (f xs) fun d => Q d S1) E) : Sat2 (aFn f as S) Q E := by with_unfolding_all exact (bnd22 (h.imp (fun _ _ h => or2 h) fun _ _ h => h))
variable {O : Option Int → List D → Prop} {lo hi : EO}
theorem s_noP (q : O none S) : Sat2 (aNoP S) O E := by with_unfolding_all exact (q)
theorem s_part (h : Sat2 (a S) (fun x S1 => OpS x.int? fun i => O (some i) S1) E) : Sat2 (aPart a S) O E := by with_unfolding_all exact (bnd22 (h.imp (fun x _ h => bnd22 (or2 h)) fun _ _ h => h))
theorem s_sl (h : Sat2 (a S) (fun x S1 => Sat2 (lo S1) (fun l S2 => Sat2 (hi S2) (fun r S3 => OpS (dSl x l r) fun d => Q d S3) E) E) E) : Sat2 (aSl a lo hi S) Q E := by with_unfolding_all exact (bnd22 (h.imp (fun _ _ h => bnd22 (h.imp (fun _ _ h => bnd22 (h.imp (fun _ _ h => or2 h) fun _ _ h => h)) fun _ _ h => h)) fun _ _ h => h))
theorem s_slL (h : Sat2 (a S) (fun x S1 => Sat2 (lo S1) (fun l S2 => Sat2 (hi S2) (fun r S3 => OpS (dSlL x l r) fun d => Q d S3) E) E) E) : Sat2 (aSlL a lo hi S) Q E := by with_unfolding_all exact (bnd22 (h.imp (fun _ _ h => bnd22 (h.imp (fun _ _ h => bnd22 (h.imp (fun _ _ h => or2 h) fun _ _ h => h)) fun _ _ h => h)) fun _ _ h => h))
variable {G : Int × Int → List D → Prop} {rg : List D → Rz ((Int × Int) × List D)}
theorem s_rg1 (h : Sat2 (a S) (fun x S1 => OpS x.int? fun i => G (0, i) S1) E) : Sat2 (aRg1 a S) G E := by with_unfolding_all exact (bnd22 (h.imp (fun x _ h => bnd22 (or2 h)) fun _ _ h => h))
theorem s_rg2 (h : Sat2 (a S) (fun x S1 => Sat2 (b S1) (fun y S2 => OpS x.int? fun i => OpS y.int? fun j => G (i, j) S2) E) E) : Sat2 (aRg2 a b S) G E := by with_unfolding_all exact (bnd22 (h.imp (fun x S1 h => bnd22 (h.imp (fun y S2 h => bnd22 (or2 (h.imp fun i h => bnd22 (or2 (h.imp fun j h => h))))) fun _ _ h => h)) fun _ _ h => h))
theorem s_lrg (h : Sat2 (rg S) (fun p S1 => okRg p.1 p.2 = true ∧ Q (.lst (rangeD p.1 p.2)) S1) E) : Sat2 (aLrg rg S) Q E := by with_unfolding_all exact (bnd22 (h.imp (fun p _ h => or2 (.of (if_pos h.1) h.2)) fun _ _ h => h))
theorem s_trg (h : Sat2 (rg S) (fun p S1 => okRg p.1 p.2 = true ∧ Q (.tup (rangeD p.1 p.2)) S1) E) : Sat2 (aTrg rg S) Q E := by with_unfolding_all exact (bnd22 (h.imp (fun p _ h => or2 (.of (if_pos h.1) h.2)) fun _ _ h => h))
theorem s_br {m : Mo} (h : Sat2 (a S) (fun d _ => clean m d = true ∧ Q d S) E) : Sat2 (aBr m a S) Q E := by with_unfolding_all exact (bnd22 (h.imp (fun p _ h => by show Sat2 (if clean m p = true then _ else _) _ _; rw [if_pos h.1]; exact h.2) fun _ _ h => h))
theorem s_brB {t : EB} (h : Sat2 (t S) (fun d _ => B d S) E) : Sat2 (aBrB t S) B E := by with_unfolding_all exact (bnd22 h)
theorem s_m1 {f : D → D → Option D} (h : Sat2 (a S) (fun x S1 => OpS x.str? fun z => Sat2 (b S1) (fun y S2 => OpS (f (.str z) y) fun d => Q d S2) E) E) : Sat2 (aM1 f a b S) Q E := by with_unfolding_all exact (bnd22 (h.imp (fun x S1 h => bnd22 (or2 (h.imp fun z h => bnd22 (h.imp (fun _ _ h => or2 h) fun _ _ h => h)))) fun _ _ h => h))
theorem s_call {φ : List D → Rz D} (h : Sat2 (as S) (fun xs S1 => Sat (φ xs) (fun d => Q d S1) E) E) : Sat2 (aCall φ as S) Q E := by with_unfolding_all exact (bnd22 (h.imp (fun _ _ h => bnd2 h) fun _ _ h => h))
theorem s_callIo {φ : List D → Rz (D × D)} {i : Nat} (h : Sat2 (as S) (fun xs S1 => OpS S1[i]? fun d => Sat2 (φ (d :: xs)) (fun r o => To (S1.set i o) (Q r)) E) E) : Sat2 (aCallIo φ i as S) Q E := by with_unfolding_all exact (bnd22 (h.imp (fun xs S1 h => bnd22 (or2 (h.imp fun d h => bnd22 h))) fun _ _ h => h))
theorem s_meth {C m : Str} {φ : List D → Rz D} (h : Sat2 (a S) (fun o S1 => o.isObj C m = true ∧ Sat2 (as S1) (fun xs S2 => Sat (φ (o :: xs)) (fun d => Q d S2) E) E) E) : Sat2 (aMeth C m φ a as S) Q E := by with_unfolding_all exact (bnd22 (h.imp (fun o S1 h => by show Sat2 (if o.isObj C m = true then _ else _) _ _; rw [if_pos h.1]; exact bnd22 (h.2.imp (fun _ _ h => bnd2 h) fun _ _ h => h)) fun _ _ h => h))
theorem s_make {C : Str} {φ : List D → Rz (D × D)} (h : Sat2 (as S) (fun xs S1 => Sat2 (φ (.obj C [] :: xs)) (fun r o => r = .non ∧ Q o S1) E) E) : Sat2 (aMake C φ as S) Q E := by with_unfolding_all exact (bnd22 (h.imp (fun _ _ h => bnd22 (h.imp (fun r o h => by obtain ⟨rfl, h⟩ := h; exact h) fun _ _ h => h)) fun _ _ h => h))
theorem s_app {i : Nat} (h : Sat2 (a S) (fun x S1 => OpS (slotL S1 i) fun l => l.length < sizeLine ∧ To (S1.set i (.lst (l ++ [x]))) (Q .non)) E) : Sat2 (aApp i a S) Q E := by with_unfolding_all exact (bnd22 (h.imp (fun x S1 h => bnd22 (or2 (h.imp fun l h => by show Sat2 (if l.length < sizeLine then _ else _) _ _; rw [if_pos h.1]; exact h.2))) fun _ _ h => h))
theorem s_ext {i : Nat} (h : Sat2 (a S) (fun x S1 => OpS x.lst? fun q => OpS (slotL S1 i) fun l => l.length + q.length ≤ sizeLine ∧ To (S1.set i (.lst (l ++ q))) (Q .non)) E) : Sat2 (aExt i a S) Q E := by with_unfolding_all exact (bnd22 (h.imp (fun x S1 h => bnd22 (or2 (h.imp fun q h => bnd22 (or2 (h.imp fun l h => by show Sat2 (if l.length + q.length ≤ sizeLine then _ else _) _ _; rw [if_pos h.1]; exact h.2))))) fun _ _ h => h))
theorem s_popAt {i : Nat} (h : Sat2 (a S) (fun x S1 => OpS x.int? fun k => OpS (slotL S1 i) fun l => OpS (ixN l.length k) fun j => OpS l[j]? fun y => To (S1.set i (.lst (l.eraseIdx j))) (Q y)) E) : Sat2 (aPopAt i a S) Q E := by with_unfolding_all exact (bnd22 (h.imp (fun x S1 h => bnd22 (or2 (h.imp fun k h => bnd22 (or2 (h.imp fun l h => bnd22 (or2 (h.imp fun j h => bnd22 (or2 (h.imp fun y h => h))))))))) fun _ _ h => h))
theorem s_ins {i : Nat} (h : Sat2 (a S) (fun x S1 => Sat2 (b S1) (fun y S2 => OpS x.int? fun k => OpS (slotL S2 i) fun l => (l.length < sizeLine ∧ 0 ≤ k ∧ k < 2 ^ 63) ∧ To (S2.set i (.lst (l.take k.toNat ++ [y] ++ l.drop k.toNat))) (Q .non)) E) E) : Sat2 (aIns i a b S) Q E := by with_unfolding_all exact (bnd22 (h.imp (fun x S1 h => bnd22 (h.imp (fun y S2 h => bnd22 (or2 (h.imp fun k h => bnd22 (or2 (h.imp fun l h => by show Sat2 (if l.length < sizeLine ∧ 0 ≤ k ∧ k < 2 ^ 63 then _ else _) _ _; rw [if_pos h.1]; exact h.2))))) fun _ _ h => h)) fun _ _ h => h))
theorem s_ixO {i : Nat} (h : Sat2 (a S) (fun x S1 => OpS x.int? fun k => OpS (slotL S1 i) fun l => OpS (atI l k) fun d => Q d S1) E) : Sat2 (aIxO i a S) Q E := by with_unfolding_all exact (bnd22 (h.imp (fun x S1 h => bnd22 (or2 (h.imp fun k h => bnd22 (or2 (h.imp fun l h => or2 h))))) fun _ _ h => h))
end
section
variable {S : List D} {E : XQ} {a b : E1} {A : List D → List D → Prop} {as : EA}
theorem s_it (h : Sat2 (a S) (fun x S1 => OpS x.seq? fun l => A l S1) E) : Sat2 (aIt a S) A E := by with_unfolding_all exact (bnd22 (h.imp (fun _ _ h => or2 h) fun _ _ h => h))
theorem s_itR (h : Sat2 (as S) (fun xs S1 => ∃ j : Int, xs = [.int j] ∧ j ≤ 2 ^ 24 ∧ -(2 ^ 62) ≤ j ∧ A (rangeD 0 j) S1) E) : Sat2 (aItR as S) A E := by with_unfolding_all exact (bnd22 (h.imp (fun x S1 h => by
  obtain ⟨j, rfl, h1, h2, h⟩ := h
  show Sat2 (if -(2 ^ 62) ≤ j ∧ j ≤ 2 ^ 24 then _ else _) _ _
  rw [if_pos ⟨h2, h1⟩]
  exact h) fun _ _ h => h))
theorem s_itR2 (h : Sat2 (as S) (fun xs S1 => ∃ i j : Int, xs = [.int i, .int j] ∧ ((-(2 ^ 62) ≤ i ∧ i < 2 ^ 62 ∧ -(2 ^ 62) ≤ j ∧ j < 2 ^ 62) ∧ (j - i).toNat ≤ 2 ^ 24) ∧ A (rangeD i j) S1) E) : Sat2 (aItR2 as S) A E := by with_unfolding_all exact (bnd22 (h.imp (fun x S1 h => by
  obtain ⟨i, j, rfl, h1, h⟩ := h
  show Sat2 (if (-(2 ^ 62) ≤ i ∧ i < 2 ^ 62 ∧ -(2 ^ 62) ≤ j ∧ j < 2 ^ 62) ∧ (j - i).toNat ≤ 2 ^ 24 then _ else _) _ _
  rw [if_pos h1]
  exact h) fun _ _ h => h))
theorem s_itE (h : Sat2 (as S) (fun xs S1 => ∃ d, xs = [d] ∧ OpS d.seq? fun l => A (enumD 0 l) S1) E) : Sat2 (aItE as S) A E := by with_unfolding_all exact (bnd22 (h.imp (fun x S1 h => by
  obtain ⟨d, rfl, h⟩ := h
  show Sat2 (match d.seq? with | some ds => .ok (enumD 0 ds, S1) | none => .no) _ _
  cases e : d.seq? <;> rw [e] at h
  · exact h
  · exact h) fun _ _ h => h))
theorem s_itZ (h : Sat2 (as S) (fun xs S1 => ∃ l r, xs = [.lst l, .lst r] ∧ A ((l.zip r).map fun p => .tup [p.1, p.2]) S1) E) : Sat2 (aItZ as S) A E := by with_unfolding_all exact (bnd22 (h.imp (fun x S1 h => by
  obtain ⟨l, r, rfl, h⟩ := h
  exact h) fun _ _ h => h))
theorem s_itS (h : Sat2 (a S) (fun x S1 => ∃ z, x = .str z ∧ z.cps.size ≤ sizeLine ∧ A (signs z) S1) E) : Sat2 (aItS a S) A E := by with_unfolding_all exact (bnd22 (h.imp (fun x S1 h => by
  obtain ⟨z, rfl, h1, h⟩ := h
  show Sat2 (if z.cps.size ≤ sizeLine then _ else _) _ _
  rw [if_pos h1]
  exact h) fun _ _ h => h))
end
section
variable {S : List D} {E : XQ} {a b : E1} {N : List D → Prop} {R : D → List D → Prop} {as : EA} {s t : S1} {ms : List Mo}
theorem s_next (q : N S) : SatS (aNext S) N R E := by with_unfolding_all exact (q)
theorem s_seq (h : SatS (s S) (fun S1 => SatS (t S1) N R E) R E) : SatS (aSeq s t S) N R E := by
  with_unfolding_all
    unfold aSeq
    match e : s S with
    | .ok (.nx S') => rw [e] at h; exact h
    | .ok (.rt d S') => rw [e] at h; exact h
    | .ok (.bk _) => rw [e] at h; exact h
    | .ok (.ct _) => rw [e] at h; exact h
    | .ex c fs => rw [e] at h; exact h
    | .no => rw [e] at h; exact h
theorem s_drop (h : SatS (s S) (fun S1 => To (maskD ms S1) N) R E) : SatS (aDrop ms s S) N R E := by
  with_unfolding_all
    unfold aDrop
    match e : s S with
    | .ok (.nx S') => rw [e] at h; exact h
    | .ok (.rt d S') => rw [e] at h; exact h
    | .ok (.bk _) => rw [e] at h; exact h
    | .ok (.ct _) => rw [e] at h; exact h
    | .ex c fs => rw [e] at h; exact h
    | .no => rw [e] at h; exact h
theorem s_ifS {c : EB} (h : Sat2 (c S) (fun x S1 => IfB x (SatS (s S1) N R E) (SatS (t S1) N R E)) E) : SatS (aIfS c s t S) N R E := by with_unfolding_all exact (bndS2 (h.imp (fun x _ h => by cases x <;> exact h) fun _ _ h => h))
theorem s_set {i : Nat} (h : Sat2 (a S) (fun x S1 => To (S1.set i x) N) E) : SatS (aSet i a S) N R E := by with_unfolding_all exact (bndS2 h)
theorem s_expr (h : Sat2 (a S) (fun _ S1 => N S1) E) : SatS (aExpr a S) N R E := by with_unfolding_all exact (bndS2 h)
theorem s_ret (h : Sat2 (a S) (fun x S1 => To (maskD ms S1) (R x)) E) : SatS (aRet ms a S) N R E := by with_unfolding_all exact (bndS2 h)
theorem s_retN (q : To (maskD ms S) (R .non)) : SatS (aRetN ms S) N R E := by with_unfolding_all exact (q)
theorem s_retO {i : Nat} {d : D} (h : S[i]? = some d) (q : To (maskD ms S) (R d)) : SatS (aRetO ms i S) N R E := by
  with_unfolding_all
    unfold aRetO
    rw [h]
    exact q
theorem s_par {i j : Nat} (h : Sat2 (a S) (fun x S1 => Sat2 (b S1) (fun y S2 => To ((S2.set i x).set j y) N) E) E) : SatS (aPar i j a b S) N R E := by with_unfolding_all exact (bndS2 (h.imp (fun _ _ h => bndS2 h) fun _ _ h => h))
theorem s_aug {i : Nat} {f : D → D → Option D} {x : D} (hx : S[i]? = some x) (h : Sat2 (a S) (fun y S1 => OpS (f x y) fun d => To (S1.set i d) N) E) : SatS (aAug i f a S) N R E := by
  with_unfolding_all
    unfold aAug
    rw [hx]
    exact bndS2 (show Sat2 (Rz.ok (x, S)) _ E from bndS2 (h.imp (fun y S1 h => bndS2 (or2 (h.imp fun d h => h))) fun _ _ h => h))
theorem s_setIx {i : Nat} (h : Sat2 (a S) (fun x S1 => Sat2 (b S1) (fun y S2 => OpS y.int? fun k => OpS (slotL S2 i) fun l => OpS (ixN l.length k) fun j => To (S2.set i (.lst (l.set j x))) N) E) E) : SatS (aSetIx i a b S) N R E := by with_unfolding_all exact (bndS2 (h.imp (fun x S1 h => bndS2 (h.imp (fun y S2 h => bndS2 (or2 (h.imp fun k h => bndS2 (or2 (h.imp fun l h => bndS2 (or2 (h.imp fun j h => h))))))) fun _ _ h => h)) fun _ _ h => h))
theorem s_raise0 {C : Str} (q : E C []) : SatS (aRaise0 C S) N R E := by with_unfolding_all exact (q)
theorem s_raise1 {C f : Str} (h : Sat2 (as S) (fun xs _ => ∃ d, xs = [d] ∧ d.imm = true ∧ E C [(f, d)]) E) : SatS (aRaise1 C f as S) N R E := by with_unfolding_all exact (bndS2 (h.imp (fun x S1 h => by
  obtain ⟨d, rfl, h1, h⟩ := h
  show SatS (if d.imm = true then _ else _) _ _ _
  rw [if_pos h1]
  exact h) fun _ _ h => h))
theorem s_raise2 {C f g : Str} (h : Sat2 (as S) (fun xs _ => ∃ d e, xs = [d, e] ∧ (d.imm = true ∧ e.imm = true) ∧ E C [(f, d), (g, e)]) E) : SatS (aRaise2 C f g as S) N R E := by with_unfolding_all exact (bndS2 (h.imp (fun x S1 h => by
  obtain ⟨d, e, rfl, h1, h⟩ := h
  show SatS (if d.imm = true ∧ e.imm = true then _ else _) _ _ _
  rw [if_pos h1]
  exact h) fun _ _ h => h))
theorem s_unp {p : Pat} (h : Sat2 (a S) (fun x S1 => OpS (bindP p x S1) fun S2 => To S2 N) E) : SatS (aUnp p a S) N R E := by with_unfolding_all exact (bndS2 (h.imp (fun x S1 h => by
  show SatS (match bindP p x S1 with | some S' => .ok (.nx S') | none => .no) _ _ _
  cases e : bindP p x S1 <;> rw [e] at h <;> exact h) fun _ _ h => h))
theorem s_for {p : Pat} {it : EA} (h : Sat2 (it S) (fun ds S1 => SatS (forGo p ms s ds S1) N R E) E) : SatS (aFor p ms it s S) N R E := by with_unfolding_all exact (bndS2 h)
theorem loop_k {r : Rz Out} {k : List D → Rz Out} (h : SatS r (fun S2 => To (maskD ms S2) fun S3 => SatS (k S3) N R E) R E) : SatS (r.bind (loopK ms k)) N R E := by
  with_unfolding_all
    match r, h with
    | .ok (.nx S'), h => exact h
    | .ok (.rt d S'), h => exact h
    | .ex c fs, h => exact h
    | .ok (.bk _), h => exact h.elim
    | .ok (.ct _), h => exact h.elim
    | .no, h => exact h.elim
theorem s_forP {p : Pat} {σ α : Type} {xs : List α} {e : α → D} (em : σ → List D) (I : List α → σ → Prop) {σ0 : σ} (h0 : I [] σ0)
    (hs : ∀ (pre : List α) (x : α) (post : List α) (st : σ), xs = pre ++ x :: post → I pre st → OpS (bindP p (e x) (em st)) fun S1 => SatS (s S1) (fun S2 => To (maskD ms S2) fun S3 => ∃ st', S3 = em st' ∧ I (pre ++ [x]) st') R E)
    (hq : ∀ st, I xs st → N (em st)) : SatS (forGo p ms s (xs.map e) (em σ0)) N R E := by
  with_unfolding_all
    suffices h : ∀ (post pre : List α) (st : σ), xs = pre ++ post → I pre st → SatS (forGo p ms s (post.map e) (em st)) N R E from h xs [] σ0 rfl h0
    intro post
    induction post with
    | nil =>
      intro pre st e i
      rw [List.append_nil] at e
      subst e
      unfold forGo
      exact hq st i
    | cons x post ih =>
      intro pre st ex i
      have h := hs pre x post st ex i
      rw [List.map_cons]
      unfold forGo
      cases e1 : bindP p (e x) (em st) with
      | none => rw [e1] at h; exact h
      | some S1 =>
        rw [e1] at h
        refine loop_k ((show SatS (s S1) _ R E from h).imp (fun S2 h => ?_) (fun _ _ h => h) fun _ _ h => h)
        obtain ⟨st', e2, i2⟩ := h
        refine to_of e2 ?_
        exact ih (pre ++ [x]) st' (by rw [ex]; simp) i2
theorem s_forN {p : Pat} (h : N S) : SatS (forGo p ms s [] S) N R E := by with_unfolding_all (unfold forGo; exact h)
theorem s_while {c : EB} {σ : Type} {n : Nat} (em : σ → List D) (I : σ → Prop) (μ : σ → Nat) {σ0 : σ} (h0 : I σ0) (hn : μ σ0 < n)
    (hs : ∀ st, I st → Sat2 (c (em st)) (fun b S1 => IfB b (SatS (s S1) (fun S2 => To (maskD ms S2) fun S3 => ∃ st', S3 = em st' ∧ I st' ∧ μ st' < μ st) R E) (N S1)) E) : SatS (aWhile n c ms s (em σ0)) N R E := by
  with_unfolding_all
    unfold aWhile
    induction n generalizing σ0 with
    | zero => omega
    | succ n ih =>
      have h := hs σ0 h0
      unfold whGo
      refine bndS2 (h.imp (fun b S1 h => ?_) fun _ _ h => h)
      cases b
      · exact h
      · refine loop_k ((show SatS (s S1) _ R E from h).imp (fun S2 h => ?_) (fun _ _ h => h) fun _ _ h => h)
        obtain ⟨st', e2, i2, l⟩ := h
        refine to_of e2 ?_
        exact ih i2 (by omega)
theorem s_fun {n k : Nat} {ds : List D} {Q : D → Prop} (hl : ds.length = n) (h : To (ds ++ List.replicate k .non) fun S => SatS (s S) (fun _ => Q .non) (fun d _ => Q d) E) : Sat (aFun n k s ds) Q E := by
  with_unfolding_all
    unfold aFun
    rw [if_pos hl]
    exact endO_of h
theorem s_funR {n k : Nat} {ds : List D} {Q : D → Prop} (hl : ds.length = n) (h : To (ds ++ List.replicate k .non) fun S => SatS (s S) (fun _ => False) (fun d _ => Q d) E) : Sat (aFunR n k s ds) Q E := by
  with_unfolding_all
    unfold aFunR
    rw [if_pos hl]
    exact endR_of h
theorem s_funIo {n k : Nat} {ds : List D} {Q : D → D → Prop} (hl : ds.length = n) (h : To (ds ++ List.replicate k .non) fun S => SatS (s S) (fun S => To (S.headD .non) (Q .non)) (fun d S => To (S.headD .non) (Q d)) E) : Sat2 (aFunIo n k s ds) Q E := by
  with_unfolding_all
    unfold aFunIo
    rw [if_pos hl]
    exact endIo_of h
theorem s_funIoR {n k : Nat} {ds : List D} {Q : D → D → Prop} (hl : ds.length = n) (h : To (ds ++ List.replicate k .non) fun S => SatS (s S) (fun _ => False) (fun d S => To (S.headD .non) (Q d)) E) : Sat2 (aFunIoR n k s ds) Q E := by
  with_unfolding_all
    unfold aFunIoR
    rw [if_pos hl]
    exact endIoR_of h
end
end
section
open PySem PySem.Spec PyProof.Rows L2
section
variable {S : List D} {E : XQ} {pl : PL} {P : D → (D → D) → Prop} {a k x : QX} {Q : D → Prop} {e : E1} {T : D → List D → Prop}
theorem s_plV {i : Nat} {d : D} (h : S[i]? = some d) (q : P d id) : Sat2 (plV i S) P E := by
  with_unfolding_all
    unfold plV
    rw [h]
    exact q
theorem s_plF {c f : Str} (h : Sat2 (pl S) (fun d up => ∃ gs y, d = .obj c gs ∧ gs.lookup f = some y ∧ P y (fun x => up (.obj c (setFD gs f x)))) E) : Sat2 (plF c f pl S) P E := by
  with_unfolding_all
    refine bnd22 (h.imp (fun d up h => ?_) fun _ _ h => h)
    obtain ⟨gs, y, rfl, h1, h⟩ := h
    show Sat2 (if c = c then _ else _) _ _
    rw [if_pos rfl, h1]
    exact h
theorem s_plI (h : Sat2 (pl S) (fun d up => Sat (a S) (fun k => OpS k.int? fun k => ∃ ds, d = .lst ds ∧ OpS (ixN ds.length k) fun j => OpS ds[j]? fun y => P y (fun x => up (.lst (ds.set j x)))) E) E) : Sat2 (plI pl a S) P E := by with_unfolding_all exact (bnd22 (h.imp (fun d up h => bnd2 (h.imp (fun k h => bnd22 (or2 (h.imp fun k h => by
    obtain ⟨ds, rfl, hh⟩ := h
    exact bnd22 (or2 (hh.imp fun j h => bnd22 (or2 (h.imp fun y h => h))))))) fun _ _ h => h)) fun _ _ h => h))
theorem s_q (h : Sat (a S) (fun d => T d S) E) : Sat2 (aQ a S) T E := by with_unfolding_all exact (bnd2 h)
theorem s_hid {ms : List Mo} (h : To (maskD (ms.map Mo.hide) S) fun S1 => Sat2 (e S1) (fun d _ => Q d) E) : Sat (qHid ms e S) Q E := by with_unfolding_all exact (bnd21 h)
theorem s_qBr {m : Mo} (h : Sat2 (e S) (fun d _ => clean m d = true ∧ Q d) E) : Sat (qBr m e S) Q E := by with_unfolding_all exact (bnd21 (h.imp (fun p _ h => by show Sat (if clean m p = true then _ else _) _ _; rw [if_pos h.1]; exact h.2) fun _ _ h => h))
theorem s_qPl (h : Sat2 (pl S) (fun d _ => Q d) E) : Sat (qPl pl S) Q E := by with_unfolding_all exact (bnd21 h)
theorem s_qnil {L : List D → Prop} (q : L []) : Sat ((fun _ => Rz.ok ([] : List D)) S) L E := by with_unfolding_all exact (q)
theorem s_qcons {as : List D → Rz (List D)} {L : List D → Prop} (h : Sat (a S) (fun d => Sat (as S) (fun ds => L (d :: ds)) E) E) : Sat (qCons a as S) L E := by with_unfolding_all exact (bnd (h.imp (fun _ h => bnd h) fun _ _ h => h))
theorem s_qDGet (h : Sat2 (pl S) (fun d _ => Sat (k S) (fun q => OpS (dGet d q) Q) E) E) : Sat (qDGet pl k S) Q E := by with_unfolding_all exact (bnd21 (h.imp (fun d up h => bnd (h.imp (fun q h => bnd21 (or2 h)) fun _ _ h => h)) fun _ _ h => h))
theorem s_qDIn {ng : Bool} (h : Sat (k S) (fun q => Sat2 (pl S) (fun d _ => OpS (dHas d q) fun y => Q (.bl (ng != y))) E) E) : Sat (qDIn ng k pl S) Q E := by with_unfolding_all exact (bnd (h.imp (fun q h => bnd21 (h.imp (fun d _ h => bnd21 (or2 h)) fun _ _ h => h)) fun _ _ h => h))
theorem s_qDGetD (h : Sat2 (pl S) (fun d _ => Sat (k S) (fun q => Sat (x S) (fun r => OpS (dGetD d q r) Q) E) E) E) : Sat (qDGetD pl k x S) Q E := by with_unfolding_all exact (bnd21 (h.imp (fun d up h => bnd (h.imp (fun q h => bnd (h.imp (fun r h => bnd21 (or2 h)) fun _ _ h => h)) fun _ _ h => h)) fun _ _ h => h))
theorem s_aDGetD {a b c : E1} (h : Sat2 (a S) (fun p S1 => p.isDct = true ∧ Sat2 (b S1) (fun q S2 => Sat2 (c S2) (fun r S3 => OpS (dGetD p q r) fun d => T d S3) E) E) E) : Sat2 (aDGetD a b c S) T E := by with_unfolding_all exact (bnd22 (h.imp (fun p S1 h => by show Sat2 (if p.isDct = true then _ else _) _ _; rw [if_pos h.1]; exact bnd22 (h.2.imp (fun q S2 h => bnd22 (h.imp (fun _ _ h => or2 h) fun _ _ h => h)) fun _ _ h => h)) fun _ _ h => h))
theorem s_dnew {t : Bool} (q : T (.dct t []) S) : Sat2 (aDNew t S) T E := by with_unfolding_all exact (q)
variable {N : List D → Prop} {R : D → List D → Prop}
theorem s_dput {i : Nat} (h : Sat2 (e S) (fun w S1 => Sat2 (pl S1) (fun d up => Sat (k S1) (fun q => OpS (dPut d q w) fun z => To (S1.set i (up z)) N) E) E) E) : SatS (aDPut i e pl k S) N R E := by with_unfolding_all exact (bndS2 (h.imp (fun w S1 h => bndS2 (h.imp (fun d up h => bndS (h.imp (fun q h => bndS2 (or2 h)) fun _ _ h => h)) fun _ _ h => h)) fun _ _ h => h))
theorem s_ddel {i : Nat} (h : Sat2 (pl S) (fun d up => Sat (k S) (fun q => OpS (dDel d q) fun z => To (S.set i (up z)) N) E) E) : SatS (aDDel i pl k S) N R E := by with_unfolding_all exact (bndS2 (h.imp (fun d up h => bndS (h.imp (fun q h => bndS2 (or2 h)) fun _ _ h => h)) fun _ _ h => h))
theorem s_setd {i : Nat} (h : Sat2 (pl S) (fun d up => Sat (k S) (fun q => Sat (x S) (fun y => ∃ kvs, d = .dct false kvs ∧ (isKey false q = true ∧ kvs.length < sizeLine) ∧ match lookD kvs q with
    | some u => T u S
    | none => To (S.set i (up (.dct false (putD kvs q y)))) (T y)) E) E) E) : Sat2 (aSetd i pl k x S) T E := by with_unfolding_all exact (bnd22 (h.imp (fun d up h => bnd2 (h.imp (fun q h => bnd2 (h.imp (fun y h => by
    obtain ⟨kvs, rfl, h1, h⟩ := h
    show Sat2 (if isKey false q = true ∧ kvs.length < sizeLine then _ else _) _ _
    rw [if_pos h1]
    show Sat2 (match lookD kvs q with | some u => _ | none => _) _ _
    cases e : lookD kvs q <;> rw [e] at h <;> exact h) fun _ _ h => h)) fun _ _ h => h)) fun _ _ h => h))
theorem s_appP {i : Nat} (h : Sat2 (pl S) (fun d up => Sat (a S) (fun y => ∃ l, d = .lst l ∧ l.length < sizeLine ∧ To (S.set i (up (.lst (l ++ [y])))) (T .non)) E) E) : Sat2 (aAppP i pl a S) T E := by with_unfolding_all exact (bnd22 (h.imp (fun d up h => bnd2 (h.imp (fun y h => by
    obtain ⟨l, rfl, h1, h⟩ := h
    show Sat2 (if l.length < sizeLine then _ else _) _ _
    rw [if_pos h1]
    exact h) fun _ _ h => h)) fun _ _ h => h))
theorem s_extP {i : Nat} (h : Sat2 (pl S) (fun d up => Sat (a S) (fun y => ∃ l l2, d = .lst l ∧ y = .lst l2 ∧ l.length + l2.length ≤ sizeLine ∧ To (S.set i (up (.lst (l ++ l2)))) (T .non)) E) E) : Sat2 (aExtP i pl a S) T E := by with_unfolding_all exact (bnd22 (h.imp (fun d up h => bnd2 (h.imp (fun y h => by
    obtain ⟨l, l2, rfl, rfl, h1, h⟩ := h
    show Sat2 (if l.length + l2.length ≤ sizeLine then _ else _) _ _
    rw [if_pos h1]
    exact h) fun _ _ h => h)) fun _ _ h => h))
theorem s_popP {i : Nat} (h : Sat2 (pl S) (fun d up => ∃ l y, d = .lst l ∧ l[l.length - 1]? = some y ∧ To (S.set i (up (.lst l.dropLast))) (T y)) E) : Sat2 (aPopP i pl S) T E := by with_unfolding_all exact (bnd22 (h.imp (fun d up h => by
    obtain ⟨l, y, rfl, h1, h⟩ := h
    show Sat2 ((oR l[l.length - 1]? S).bind _) _ _
    rw [h1]
    exact h) fun _ _ h => h))
theorem s_setP {i : Nat} (h : Sat2 (e S) (fun w S1 => Sat2 (pl S1) (fun d up => Sat (a S1) (fun k => OpS k.int? fun k => ∃ l, d = .lst l ∧ OpS (ixN l.length k) fun j => To (S1.set i (up (.lst (l.set j w)))) N) E) E) E) : SatS (aSetP i pl e a S) N R E := by with_unfolding_all exact (bndS2 (h.imp (fun w S1 h => bndS2 (h.imp (fun d up h => bndS (h.imp (fun k h => bndS2 (or2 (h.imp fun k h => by
    obtain ⟨l, rfl, hh⟩ := h
    exact bndS2 (or2 hh)))) fun _ _ h => h)) fun _ _ h => h)) fun _ _ h => h))
theorem s_augP {i : Nat} {f : D → D → Option D} (h : Sat2 (pl S) (fun d up => Sat (a S) (fun k => OpS k.int? fun k => ∃ l, d = .lst l ∧ OpS (ixN l.length k) fun j => OpS l[j]? fun x0 => Sat (x S) (fun y => OpS (f x0 y) fun z => To (S.set i (up (.lst (l.set j z)))) N) E) E) E) : SatS (aAugP i pl a f x S) N R E := by with_unfolding_all exact (bndS2 (h.imp (fun d up h => bndS (h.imp (fun k h => bndS2 (or2 (h.imp fun k h => by
    obtain ⟨l, rfl, hh⟩ := h
    exact bndS2 (or2 (hh.imp fun j h => bndS2 (or2 (h.imp fun x0 h => bndS (h.imp (fun y h => bndS2 (or2 h)) fun _ _ h => h)))))))) fun _ _ h => h)) fun _ _ h => h))
theorem s_fldP {i : Nat} {f c : Str} (h : Sat2 (e S) (fun w S1 => Sat2 (pl S1) (fun d up => ∃ gs, d = .obj c gs ∧ gs.length < 1000 ∧ To (S1.set i (up (.obj c (setFD gs f w)))) N) E) E) : SatS (aFldP i f e c pl S) N R E := by with_unfolding_all exact (bndS2 (h.imp (fun w S1 h => bndS2 (h.imp (fun d up h => by
    obtain ⟨gs, rfl, h1, h⟩ := h
    show SatS (if c = c ∧ gs.length < 1000 then _ else _) _ _ _
    rw [if_pos ⟨rfl, h1⟩]
    exact h) fun _ _ h => h)) fun _ _ h => h))
theorem s_methP {i : Nat} {C m : Str} {φ : List D → Rz (D × D)} {as : List D → Rz (List D)} (h : Sat2 (pl S) (fun o up => o.isObj C m = true ∧ Sat (as S) (fun xs => Sat2 (φ (o :: xs)) (fun r o' => To (S.set i (up o')) (T r)) E) E) E) : Sat2 (aMethP C m φ i pl as S) T E := by with_unfolding_all exact (bnd22 (h.imp (fun o up h => by
    show Sat2 (if o.isObj C m = true then _ else _) _ _
    rw [if_pos h.1]
    exact bnd2 (h.2.imp (fun xs h => bnd22 h) fun _ _ h => h)) fun _ _ h => h))
theorem s_items (h : Sat2 (pl S) (fun d _ => ∃ kvs, d = .dct false kvs ∧ kvs.length ≤ sizeLine ∧ Q (.lst (kvs.map fun q => .tup [q.1, q.2]))) E) : Sat (qItems pl S) Q E := by with_unfolding_all exact (bnd21 (h.imp (fun d up h => by
    obtain ⟨kvs, rfl, h1, h⟩ := h
    show Sat (if kvs.length ≤ sizeLine then _ else _) _ _
    rw [if_pos h1]
    exact h) fun _ _ h => h))
end
section
variable {S : List D} {E : XQ} {c : EB} {te tk : E1} {Q : D → List D → Prop} {it : EA} {p : Pat} {vs : List Nat}
theorem s_yes {B : Bool → List D → Prop} (q : B true S) : Sat2 (aYes S) B E := by with_unfolding_all exact (q)
theorem s_lc (h : Sat2 (it S) (fun ds S1 => To (unD vs S1) fun S2 => Sat2 (lcGo p vs c te ds S2 []) (fun l S3 => To (reD vs S1 S3) fun S4 => Q (.lst l) S4) noX) E) : Sat2 (aLc p vs it c te S) Q E := by with_unfolding_all exact (bnd22 (h.imp (fun ds S1 h => bnd22 ((show Sat2 (lcGo p vs c te ds (unD vs S1) []) (fun l S3 => Q (.lst l) (reD vs S1 S3)) noX from h).imp (fun _ _ h => h) fun _ _ h => h.elim)) fun _ _ h => h))
theorem s_dc (h : Sat2 (it S) (fun ds S1 => To (unD vs S1) fun S2 => Sat2 (dcGo p vs c tk te ds S2 []) (fun l S3 => To (reD vs S1 S3) fun S4 => Q (.dct false l) S4) noX) E) : Sat2 (aDc p vs it c tk te S) Q E := by with_unfolding_all exact (bnd22 (h.imp (fun ds S1 h => bnd22 ((show Sat2 (dcGo p vs c tk te ds (unD vs S1) []) (fun l S3 => Q (.dct false l) (reD vs S1 S3)) noX from h).imp (fun _ _ h => h) fun _ _ h => h.elim)) fun _ _ h => h))
theorem s_lcGo {σ α : Type} {xs : List α} {e : α → D} {W : List D → List D → Prop} (em : σ → List D) (I : List α → List D → σ → Prop) {σ0 : σ} {acc0 : List D} (h0 : I [] acc0 σ0)
    (hs : ∀ (pre : List α) (x : α) (post : List α) (acc : List D) (st : σ), xs = pre ++ x :: post → I pre acc st → OpS (bindP p (e x) (em st)) fun S1 => Sat2 (c S1) (fun b S2 => IfB b (Sat2 (te S2) (fun d S3 => To (unD vs S3) fun S4 => ∃ st', S4 = em st' ∧ I (pre ++ [x]) (acc ++ [d]) st') noX) (To (unD vs S2) fun S4 => ∃ st', S4 = em st' ∧ I (pre ++ [x]) acc st')) noX)
    (hq : ∀ acc st, I xs acc st → W acc (em st)) : Sat2 (lcGo p vs c te (xs.map e) (em σ0) acc0) W noX := by
  with_unfolding_all
    suffices h : ∀ (post pre : List α) (acc : List D) (st : σ), xs = pre ++ post → I pre acc st → Sat2 (lcGo p vs c te (post.map e) (em st) acc) W noX from h xs [] acc0 σ0 rfl h0
    intro post
    induction post with
    | nil =>
      intro pre acc st e i
      rw [List.append_nil] at e
      subst e
      unfold lcGo
      exact hq acc st i
    | cons x post ih =>
      intro pre acc st ex i
      have h := hs pre x post acc st ex i
      rw [List.map_cons]
      unfold lcGo
      cases e1 : bindP p (e x) (em st) with
      | none => rw [e1] at h; exact h
      | some S1 =>
        rw [e1] at h
        have h := ops_some h
        obtain ⟨b, S2, e2, h⟩ := h.get
        simp only [e2]
        cases b with
        | true =>
          have h := if_t' h
          obtain ⟨d, S3, e3, h⟩ := h.get
          obtain ⟨st', e4, i'⟩ := h
          rw [if_pos rfl]
          simp only [e3]
          rw [e4]
          exact ih (pre ++ [x]) _ st' (by rw [ex]; simp) i'
        | false =>
          obtain ⟨st', e4, i'⟩ := if_f' h
          rw [if_neg Bool.false_ne_true]
          rw [e4]
          exact ih (pre ++ [x]) _ st' (by rw [ex]; simp) i'
theorem s_lcP {α : Type} {xs : List α} {e : α → D} {W : List D → List D → Prop} (f : α → Bool) (g : α → D)
    (hs : ∀ x ∈ xs, OpS (bindP p (e x) S) fun S1 => Sat2 (c S1) (fun b S2 => b = f x ∧ IfB b (Sat2 (te S2) (fun d S3 => d = g x ∧ unD vs S3 = S) noX) (unD vs S2 = S)) noX)
    (hq : W ((xs.filter f).map g) S) : Sat2 (lcGo p vs c te (xs.map e) S []) W noX := by
  with_unfolding_all
    refine s_lcGo (σ := Unit) (fun _ => S) (fun pre acc _ => acc = (pre.filter f).map g) (σ0 := ()) rfl (fun pre x post acc st ex i => ?_) fun acc st i => by rw [i]; exact hq
    refine (hs x (by rw [ex]; simp)).imp fun S1 h => h.use fun b S2 h => ?_
    obtain ⟨hb, h⟩ := h
    cases b with
    | true =>
      refine if_t ((if_t' h).use fun d S3 h => ⟨(), h.2, ?_⟩)
      rw [i, List.filter_append, List.map_append, List.filter_cons_of_pos hb.symm, h.1]
      rfl
    | false =>
      refine if_f ⟨(), if_f' h, ?_⟩
      rw [i, List.filter_append, List.map_append, List.filter_cons_of_neg (by rw [← hb]; exact Bool.false_ne_true)]
      simp
theorem s_lcT {α : Type} {xs : List α} {e : α → D} {W : List D → List D → Prop} (g : α → D)
    (hs : ∀ x ∈ xs, OpS (bindP p (e x) S) fun S1 => Sat2 (te S1) (fun d S3 => d = g x ∧ To (unD vs S3) fun S4 => S4 = S) noX)
    (hq : W (xs.map g) S) : Sat2 (lcGo p vs aYes te (xs.map e) S []) W noX := by with_unfolding_all exact (s_lcP (fun _ => true) g (fun x m => (hs x m).imp fun S1 h => ⟨rfl, if_t h⟩) (by rw [List.filter_eq_self.mpr fun _ _ => rfl]; exact hq))
theorem s_lcW {σ α : Type} {xs : List α} {e : α → D} {W : List D → List D → Prop} (em : σ → List D) (I : List α → List D → σ → Prop) {σ0 : σ} (h0 : I [] [] σ0)
    (hs : ∀ (pre : List α) (x : α) (post : List α) (acc : List D) (st : σ), xs = pre ++ x :: post → I pre acc st → OpS (bindP p (e x) (em st)) fun S1 => Sat2 (te S1) (fun d S3 => To (unD vs S3) fun S4 => ∃ st', S4 = em st' ∧ I (pre ++ [x]) (acc ++ [d]) st') noX)
    (hq : ∀ acc st, I xs acc st → W acc (em st)) : Sat2 (lcGo p vs aYes te (xs.map e) (em σ0) []) W noX := by with_unfolding_all exact (s_lcGo em I h0 (fun pre x post acc st e i => (hs pre x post acc st e i).imp fun S1 h => if_t h) hq)
theorem s_dcGo {σ α : Type} {xs : List α} {e : α → D} {W : List (D × D) → List D → Prop} (em : σ → List D) (I : List α → List (D × D) → σ → Prop) {σ0 : σ} {acc0 : List (D × D)} (h0 : I [] acc0 σ0)
    (hs : ∀ (pre : List α) (x : α) (post : List α) (acc : List (D × D)) (st : σ), xs = pre ++ x :: post → I pre acc st → OpS (bindP p (e x) (em st)) fun S1 => Sat2 (c S1) (fun b S2 => IfB b (Sat2 (tk S2) (fun k S3 => Sat2 (te S3) (fun d S4 => (isKey false k = true ∧ acc.length < sizeLine) ∧ To (unD vs S4) fun S5 => ∃ st', S5 = em st' ∧ I (pre ++ [x]) (putD acc k d) st') noX) noX)
        (To (unD vs S2) fun S4 => ∃ st', S4 = em st' ∧ I (pre ++ [x]) acc st')) noX)
    (hq : ∀ acc st, I xs acc st → W acc (em st)) : Sat2 (dcGo p vs c tk te (xs.map e) (em σ0) acc0) W noX := by
  with_unfolding_all
    suffices h : ∀ (post pre : List α) (acc : List (D × D)) (st : σ), xs = pre ++ post → I pre acc st → Sat2 (dcGo p vs c tk te (post.map e) (em st) acc) W noX from h xs [] acc0 σ0 rfl h0
    intro post
    induction post with
    | nil =>
      intro pre acc st e i
      rw [List.append_nil] at e
      subst e
      unfold dcGo
      exact hq acc st i
    | cons x post ih =>
      intro pre acc st ex i
      have h := hs pre x post acc st ex i
      rw [List.map_cons]
      unfold dcGo
      cases e1 : bindP p (e x) (em st) with
      | none => rw [e1] at h; exact h
      | some S1 =>
        rw [e1] at h
        have h := ops_some h
        obtain ⟨b, S2, e2, h⟩ := h.get
        simp only [e2]
        cases b with
        | true =>
          have h := if_t' h
          obtain ⟨d, S3, e3, h⟩ := h.get
          obtain ⟨d2, S4, e5, h1, h⟩ := h.get
          obtain ⟨st', e4, i'⟩ := h
          rw [if_pos rfl]
          simp only [e3, e5]
          rw [if_pos h1, e4]
          exact ih (pre ++ [x]) _ st' (by rw [ex]; simp) i'
        | false =>
          obtain ⟨st', e4, i'⟩ := if_f' h
          rw [if_neg Bool.false_ne_true]
          rw [e4]
          exact ih (pre ++ [x]) _ st' (by rw [ex]; simp) i'
end
end
open PySem PySem.Spec PyProof.Rows L2
def hidD : List Mo → List D → List D
  | m :: ms, d :: S => (match m with | .z => d | _ => .non) :: hidD ms S
  | _, _ => []
theorem hidD_eq : ∀ (ms : List Mo) (S : List D), maskD (ms.map Mo.hide) S = hidD ms S
  | [], S => by cases S <;> rfl
  | m :: ms, [] => by cases m <;> rfl
  | m :: ms, d :: S => by
    rw [List.map_cons]
    show (if m.hide.isU = true then D.non else d) :: maskD (ms.map Mo.hide) S = _
    rw [hidD_eq ms S]
    cases m <;> rfl
theorem s_hidD {S : List D} {E : XQ} {Q : D → Prop} {e : E1} {ms : List Mo} (h : To (hidD ms S) fun S1 => Sat2 (e S1) (fun d _ => Q d) E) : Sat (qHid ms e S) Q E := s_hid (by rw [hidD_eq]; exact h)
theorem o_mod {i j : Int} {Q : D → Prop} (h : j ≠ 0) (q : Q (.int (i.fmod j))) : OpS (dMod (.int i) (.int j)) Q := .of (mod_int h) q
theorem o_div {i j : Int} {Q : D → Prop} (h : j ≠ 0) (h2 : j.natAbs.log2 < 9000) (q : Q (.int (i.fdiv j))) : OpS (dDiv (.int i) (.int j)) Q := .of (div_int h h2) q
theorem o_mul {i j : Int} {Q : D → Prop} (h : (-(2 ^ 64) < i ∧ i < 2 ^ 64) ∨ (-(2 ^ 64) < j ∧ j < 2 ^ 64)) (q : Q (.int (i * j))) : OpS (dMulI (.int i) (.int j)) Q := .of (mul_int h) q
theorem o_pow {i j : Int} {Q : D → Prop} (h : 0 ≤ j ∧ j ≤ 1000000 ∧ i.natAbs < 2 ^ 64) (q : Q (.int (i ^ j.toNat))) : OpS (dPow (.int i) (.int j)) Q := .of (pow_int h) q
theorem o_okL {n : Nat} {d : D} {Q : D → Prop} (h : n ≤ sizeLine) (q : Q d) : OpS (okL n d) Q := .of (okL_ok h) q
theorem o_atI {α : Type} {xs : List α} {e : α → D} {i : Int} {Q : D → Prop} (k : Nat) (hi : i = k) (hk : k < xs.length) (q : Q (e xs[k])) : OpS (atI (xs.map e) i) Q := .of (atI_of (j := k) (by rw [hi]) (by simp [hk])) q
theorem o_ixM {α : Type} {xs : List α} {e : α → D} {i : Int} {Q : D → Prop} (k : Nat) (hi : i = k) (hk : k < xs.length) (q : Q (e xs[k])) : OpS (dIx (.lst (xs.map e)) (.int i)) Q := o_atI k hi hk q
theorem o_ixN {n : Nat} {i : Int} {Q : Nat → Prop} (k : Nat) (hi : i = k) (hk : k < n) (q : Q k) : OpS (ixN n i) Q := by
  subst hi
  have e : ixN n (k : Int) = some k := by
    unfold ixN
    rw [if_pos (by omega), if_pos (by omega), Int.toNat_natCast]
  exact .of e q
theorem szL : (16000000 : Nat) ≤ sizeLine := by decide
theorem x_itR {j : Int} {P : Int → Prop} (h : j ≤ 2 ^ 24) (h0 : -(2 ^ 62) ≤ j) (q : P j) : ∃ i : Int, [D.int j] = [D.int i] ∧ i ≤ 2 ^ 24 ∧ -(2 ^ 62) ≤ i ∧ P i := ⟨j, rfl, h, h0, q⟩
theorem x_itR2 {i j : Int} {P : Int → Int → Prop} (h : (-(2 ^ 62) ≤ i ∧ i < 2 ^ 62 ∧ -(2 ^ 62) ≤ j ∧ j < 2 ^ 62) ∧ (j - i).toNat ≤ 2 ^ 24) (q : P i j) : ∃ i' j' : Int, [D.int i, D.int j] = [D.int i', D.int j'] ∧ ((-(2 ^ 62) ≤ i' ∧ i' < 2 ^ 62 ∧ -(2 ^ 62) ≤ j' ∧ j' < 2 ^ 62) ∧ (j' - i').toNat ≤ 2 ^ 24) ∧ P i' j' := ⟨i, j, rfl, h, q⟩
theorem x_itZ {l r : List D} {P : List D → List D → Prop} (q : P l r) : ∃ l' r', [D.lst l, D.lst r] = [D.lst l', D.lst r'] ∧ P l' r' := ⟨l, r, rfl, q⟩
theorem x_itS {z : Str} {P : Str → Prop} (h : z.cps.size ≤ sizeLine) (q : P z) : ∃ z', D.str z = D.str z' ∧ z'.cps.size ≤ sizeLine ∧ P z' := ⟨z, rfl, h, q⟩
theorem x_itE {d : D} {P : D → Prop} (h : P d) : ∃ e, [d] = [e] ∧ P e := ⟨d, rfl, h⟩
theorem x_cl {m : Mo} {d : D} {P : Prop} (h : clean m d = true) (q : P) : clean m d = true ∧ P := ⟨h, q⟩
local macro_rules | `(tactic| walk_at "sd") => `(tactic| first | decide | omega | (simp only [List.length_cons, List.length_nil, List.length_append, List.length_map, List.length_replicate, List.length_take, List.length_drop, List.length_range] <;> omega))
local macro_rules | `(tactic| walk_at "nS") => `(tactic| ((try simp (config := { decide := true }) only [List.cons_append, List.nil_append, List.replicate_succ, List.replicate_zero, List.set_cons_zero, List.set_cons_succ, maskD, hidD, Mo.isU, if_true, if_false, List.headD_cons, setFD, unD, reD, List.getD_cons_zero, List.getD_cons_succ, id_eq, Bool.false_eq_true, reduceIte, Int.reduceToNat]); exact rfl))
local macro_rules | `(tactic| walk_at "wTo") => `(tactic| ((with_reducible apply to_of); walk_at "nS"))
theorem if_isT {d : D} {p q : Prop} (h : d.isNon = true) (k : p) : IfB d.isNon p q := by rw [h]; exact k
theorem if_isF {d : D} {p q : Prop} (h : d.isNon = false) (k : q) : IfB d.isNon p q := by rw [h]; exact k
local macro_rules | `(tactic| walk_at "wone") => `(tactic| first
  | ((with_reducible apply s_var); exact rfl)
  | with_reducible apply s_c
  | with_reducible apply s_bin
  | ((with_reducible apply to_of); walk_at "nS")
  | ((with_reducible apply o_mod); (first | decide | omega))
  | ((with_reducible apply o_mul); (first | decide | omega))
  | ((with_reducible apply o_pow); (first | decide | omega))
  | ((with_reducible apply o_div); (first | decide | omega); (first | decide | omega))
  | ((with_reducible apply o_okL); (first | decide | (have := szL; walk_at "sd")))
  | ((with_reducible apply x_itR); (first | decide | walk_at "sd"); (first | decide | walk_at "sd"))
  | ((with_reducible apply x_itR2); (refine ⟨⟨?_, ?_, ?_, ?_⟩, ?_⟩ <;> (first | decide | walk_at "sd")))
  | with_reducible apply x_itZ
  | ((with_reducible apply x_itS); (first | decide | walk_at "sd"))
  | with_reducible apply x_itE
  | ((with_reducible apply x_cl); exact rfl)
  | ((with_reducible apply OpS.of); exact rfl)
  | with_reducible apply s_seq
  | with_reducible apply s_set
  | with_reducible apply s_ifS
  | with_reducible apply if_t
  | with_reducible apply if_f
  | with_reducible apply if_n
  | ((with_reducible apply if_isT); exact rfl)
  | ((with_reducible apply if_isF); exact rfl)
  | with_reducible apply s_drop
  | with_reducible apply s_next
  | with_reducible apply s_test
  | with_reducible apply s_tr
  | with_reducible apply s_not
  | with_reducible apply s_or
  | with_reducible apply s_and
  | with_reducible apply s_ret
  | with_reducible apply s_nil
  | with_reducible apply s_cons
  | with_reducible apply s_fn
  | with_reducible apply s_call
  | with_reducible apply s_callIo
  | with_reducible apply s_q
  | with_reducible apply s_un
  | with_reducible apply s_tup
  | with_reducible apply s_lst
  | with_reducible apply s_for
  | with_reducible apply s_it
  | with_reducible apply s_lc
  | with_reducible apply s_yes
  | with_reducible apply s_ixO
  | with_reducible apply s_expr
  | with_reducible apply s_app
  | with_reducible apply s_if
  | with_reducible apply s_sl
  | with_reducible apply s_slL
  | with_reducible apply s_noP
  | with_reducible apply s_part
  | with_reducible apply s_hidD
  | with_reducible apply s_qPl
  | ((with_reducible apply s_plV); exact rfl)
  | ((with_reducible apply s_plF); refine ⟨_, _, rfl, rfl, ?_⟩)
  | with_reducible apply s_plI
  | with_reducible apply s_fldP
  | with_reducible apply s_meth
  | with_reducible apply s_methP
  | with_reducible apply s_make
  | with_reducible apply s_qcons
  | with_reducible apply s_qnil
  | with_reducible apply s_itE
  | with_reducible apply s_itR
  | with_reducible apply s_itZ
  | with_reducible apply s_itS
  | with_reducible apply s_itR2
  | with_reducible apply s_par
  | ((with_reducible apply s_aug); exact rfl)
  | with_reducible apply s_setIx
  | with_reducible apply s_unp
  | with_reducible apply s_andV
  | with_reducible apply s_orV
  | with_reducible apply s_notV
  | with_reducible apply s_chain
  | with_reducible apply s_m1
  | with_reducible apply s_br
  | with_reducible apply s_brB
  | with_reducible apply s_ext
  | with_reducible apply s_popAt
  | with_reducible apply s_ins
  | with_reducible apply s_retN
  | ((with_reducible apply s_retO); exact rfl)
  | with_reducible apply s_raise0
  | with_reducible apply s_raise1
  | with_reducible apply s_raise2
  | with_reducible apply s_rg1
  | with_reducible apply s_rg2
  | with_reducible apply s_lrg
  | with_reducible apply s_trg
  | with_reducible apply s_dc
  | with_reducible apply s_dnew
  | with_reducible apply s_qDGet
  | with_reducible apply s_qDIn
  | with_reducible apply s_qDGetD
  | with_reducible apply s_aDGetD
  | with_reducible apply s_dput
  | with_reducible apply s_ddel
  | with_reducible apply s_setd
  | with_reducible apply s_appP
  | with_reducible apply s_extP
  | with_reducible apply s_popP
  | with_reducible apply s_setP
  | with_reducible apply s_augP
  | with_reducible apply s_items
  | with_reducible apply s_qBr
  | ((with_reducible apply s_funR); exact rfl)
  | ((with_reducible apply s_fun); exact rfl)
  | ((with_reducible apply s_funIoR); exact rfl)
  | ((with_reducible apply s_funIo); exact rfl))
theorem isIfSeq {c : EB} {s t u : S1} {S : List D} {N : List D → Prop} {R : D → List D → Prop} {E : XQ} (h : SatS (aSeq (aIfS c s t) u S) N R E) : SatS (aSeq (aIfS c s t) u S) N R E := h
theorem isForSeq {p : Pat} {ms : List Mo} {it : EA} {s u : S1} {S : List D} {N : List D → Prop} {R : D → List D → Prop} {E : XQ} (h : SatS (aSeq (aFor p ms it s) u S) N R E) : SatS (aSeq (aFor p ms it s) u S) N R E := h
theorem s_cut {s t : S1} {S : List D} {N : List D → Prop} {R : D → List D → Prop} {E : XQ} (J : List D → Prop) (h1 : SatS (s S) J R E) (h2 : ∀ S1, J S1 → SatS (t S1) N R E) : SatS (aSeq s t S) N R E := s_seq (h1.imp h2 (fun _ _ h => h) fun _ _ h => h)
local macro_rules | `(tactic| walk_at "ww") => `(tactic| repeat walk_at "wone")
local macro_rules | `(tactic| walk_at "wi") => `(tactic| repeat ((fail_if_success (with_reducible apply isIfSeq)); walk_at "wone"))
local macro_rules | `(tactic| walk_at "wl") => `(tactic| repeat ((fail_if_success (with_reducible apply isIfSeq)); (fail_if_success (with_reducible apply isForSeq)); walk_at "wone"))
local macro_rules | `(tactic| walk_at "wif") => `(tactic| first
  | with_reducible refine if_d (?_) (?_)
  | with_reducible refine if_n (if_d (?_) (?_))
  | with_reducible refine if_n (if_b (?_) (?_))
  | with_reducible refine if_b (?_) (?_))
section
open PySem PySem.Spec PyProof.Rows L2
def A_fits_name : List D → Rz D := aFunR 1 1
  (aRet [.u, .u] (aAndV (aChain dLe dLe (aC (.int 1)) (aFn dLen (aCons (aVar 0) aNil)) (aC (.int 3))) (aFn dAll (aCons (aLc (.s 1) [1] (aItS (aVar 0)) aYes (aBin dIn (aVar 1) (aC (.str "abcdefghijklmnopqrstuvwxyz")))) aNil))))
end
section
open PySem PySem.Spec PyProof.Rows L2
def A_Chart_check_arrows : List D → Rz D := aFun 1 2
  (aFor (.t [(.s 1), (.s 2)]) [.z, .u, .u] (aItE (aCons (aUn (dFld "Chart" "arrows") (aVar 0)) aNil))
   (aIfS (aOrB (aTest (aBin dLt (aFn dMin2 (aCons (aBin dIx (aVar 2) (aC (.int 0))) (aCons (aBin dIx (aVar 2) (aC (.int 1))) aNil))) (aC (.int 0)))) (aOrB (aTest (aBin dGe (aFn dMax2 (aCons (aBin dIx (aVar 2) (aC (.int 0))) (aCons (aBin dIx (aVar 2) (aC (.int 1))) aNil))) (aUn (dFld "Chart" "count") (aVar 0)))) (aNotB (aTr (aCall A_fits_name (aCons (aBin dIx (aVar 2) (aC (.int 2))) aNil))))))
   (aRaise1 "BadArrow" "number" (aCons (aVar 1) aNil))
   aNext))
def A_distinct : List D → Rz D := aFunR 1 1
  (aRet [.u, .u] (aFn dList (aCons (aDc (.s 1) [1] (aIt (aVar 0)) aYes (aVar 1) (aC (.bl true))) aNil)))
def A_spread : List D → Rz D := aFunR 2 3
  (aSeq (aSet 2 (aLst (aCons (aVar 0) aNil)))
  (aSeq (aSet 3 (aC (.int 0)))
  (aSeq (aWhile FUEL (aTest (aBin dLt (aVar 3) (aBr .z (aFn dLen (aCons (aVar 2) aNil))))) [.z, .z, .o (.l .z), .z, .u]
   (aSeq (aExpr (aExt 2 (aLc (.s 4) [4] (aIt (aBin dIx (aVar 1) (aIxO 2 (aVar 3)))) (aTest (aBr .z (aBin dNin (aVar 4) (aVar 2)))) (aVar 4))))
  (aAug 3 (dAugI (· + ·)) (aC (.int 1)))))
  (aRet [.u, .u, .u, .u, .u] (aVar 2)))))
def A_Chart_check_places : List D → Rz D := aFun 1 6
  (aSeq (aSet 1 (aLc (.s 3) [3] (aItR (aCons (aUn (dFld "Chart" "count") (aVar 0)) aNil)) aYes (aCall A_distinct (aCons (aLc (.s 2) [2] (aIt (aUn (dFld "Chart" "arrows") (aVar 0))) (aTest (aBin dEq (aBin dIx (aVar 2) (aC (.int 0))) (aVar 3))) (aBin dIx (aVar 2) (aC (.int 1)))) aNil))))
  (aSeq (aSet 4 (aLc (.s 3) [3] (aItR (aCons (aUn (dFld "Chart" "count") (aVar 0)) aNil)) aYes (aCall A_distinct (aCons (aLc (.s 2) [2] (aIt (aUn (dFld "Chart" "arrows") (aVar 0))) (aTest (aBin dEq (aBin dIx (aVar 2) (aC (.int 1))) (aVar 3))) (aBin dIx (aVar 2) (aC (.int 0)))) aNil))))
  (aSeq (aPar 5 6 (aCall A_spread (aCons (aUn (dFld "Chart" "start") (aVar 0)) (aCons (aVar 1) aNil))) (aCall A_spread (aCons (aUn (dFld "Chart" "end") (aVar 0)) (aCons (aVar 4) aNil))))
  (aFor (.s 3) [.z, .z, .u, .u, .z, .z, .z] (aItR (aCons (aUn (dFld "Chart" "count") (aVar 0)) aNil))
   (aIfS (aOrB (aTest (aBin dNin (aVar 3) (aVar 5))) (aTest (aBin dNin (aVar 3) (aVar 6))))
   (aRaise1 "LoosePlace" "place" (aCons (aVar 3) aNil))
   aNext)))))
def A_Chart_init : List D → Rz (D × D) := aFunIo 5 2
  (aDrop [.p (.i []), .u, .u, .u, .u, .u, .u] (aSeq (aIfS (aOrB (aTest (aBin dGt (aVar 1) (aC (.int 40)))) (aTest (aBin dGt (aFn dLen (aCons (aVar 2) aNil)) (aC (.int 80)))))
   (aRaise0 "TooGreat")
   aNext)
  (aSeq (aFor (.s 5) [.p (.i []), .z, .z, .z, .z, .u, .u] (aIt (aTup (aCons (aVar 3) (aCons (aVar 4) aNil))))
   (aIfS (aOrB (aTest (aBin dLt (aVar 5) (aC (.int 0)))) (aTest (aBin dGe (aVar 5) (aVar 1))))
   (aRaise1 "NoPlace" "place" (aCons (aVar 5) aNil))
   aNext))
  (aSeq (aFldP 0 "count" (aVar 1) "Chart" (plV 0))
  (aSeq (aFldP 0 "start" (aVar 3) "Chart" (plV 0))
  (aSeq (aFldP 0 "end" (aVar 4) "Chart" (plV 0))
  (aSeq (aFldP 0 "arrows" (aFn dTuple (aCons (aLc (.s 6) [6] (aIt (aVar 2)) aYes (aFn dTuple (aCons (aVar 6) aNil))) aNil)) "Chart" (plV 0))
  (aSeq (aExpr (aBr .z (aMeth "Chart" "check_arrows" A_Chart_check_arrows (aVar 0) aNil)))
  (aExpr (aBr .z (aMeth "Chart" "check_places" A_Chart_check_places (aVar 0) aNil)))))))))))
end
section
open PySem PySem.Spec PyProof.Rows L2
end
section
open PySem PySem.Spec PyProof.Rows L2
def A__law_state : List D → Rz D := aFunR 1 0
  (aRet [.u] (aLst (aCons (aFn dInt (aCons (aVar 0) aNil)) (aCons (aFn dInt (aCons (aBin dGe (aVar 0) (aBin dPow (aC (.int 10)) (aC (.int 18)))) aNil)) (aCons (aC (.int 0)) aNil)))))
def A__law_draw_K66 : List D → Rz (D × D) := aFunIoR 2 2
  (aSeq (aSetIx 0 (aBin dAdd (aIxO 0 (aC (.int 2))) (aC (.int 1))) (aC (.int 2)))
  (aSeq (aIfS (aTest (aBin dEq (aIxO 0 (aC (.int 1))) (aC (.int 1))))
   (aSeq (aSet 2 (aBin dMod (aFn dInt (aCons (aIxO 0 (aC (.int 0))) aNil)) (aVar 1)))
  (aSeq (aSetIx 0 (aBin dDiv (aIxO 0 (aC (.int 0))) (aVar 1)) (aC (.int 0)))
  (aRet [.p (.l .z), .u, .u, .u] (aVar 2))))
   aNext)
  (aSeq (aSet 3 (aBin dPow (aFn dInt (aCons (aBin dAdd (aBin dAdd (aBin dMod (aFn dInt (aCons (aIxO 0 (aC (.int 0))) aNil)) (aC (.int 2147483647))) (aBin dMulI (aIxO 0 (aC (.int 2))) (aC (.int 69623)))) (aC (.int 48271))) aNil)) (aC (.int 5))))
  (aRet [.p (.l .z), .u, .u, .u] (aBin dMod (aFn dInt (aCons (aBin dDiv (aBin dMod (aFn dInt (aCons (aVar 3) aNil)) (aC (.int 2305843009213693951))) (aC (.int 4096))) aNil)) (aVar 1))))))
def A__law_pick : List D → Rz (D × D) := aFunIoR 2 0
  (aRet [.p (.l .z), .u] (aBin dIx (aVar 1) (aCallIo A__law_draw_K66 0 (aCons (aFn dLen (aCons (aVar 1) aNil)) aNil))))
def A__law_cell : List D → Rz D := aFunR 2 0
  (aSeq (aIfS (aTest (aBin dLt (aVar 1) (aFn dLen (aCons (aVar 0) aNil))))
   (aRet [.u, .u] (aBin dIx (aVar 0) (aVar 1)))
   aNext)
  (aRet [.u, .u] (aBin dAdd (aC (.int 7)) (aVar 1))))
end
section
open PySem PySem.Spec PyProof.Rows L2
def A__law_named : List D → Rz D := aFunR 1 2
  (aSeq (aSet 1 (aC (.str "abcdefghijklmnopqrstuvwxyz")))
  (aRet [.u, .u, .u] (aAndV (aChain dLe dLe (aC (.int 1)) (aFn dLen (aCons (aVar 0) aNil)) (aC (.int 3))) (aBin dEq (aLc (.s 2) [2] (aItS (aVar 0)) (aTest (aBin dNin (aVar 2) (aVar 1))) (aVar 2)) (aLst aNil)))))
def A__law_due : List D → Rz D := aFunR 1 10
  (aSeq (aFor (.s 1) [.z, .u, .u, .u, .u, .u, .u, .u, .u, .u, .u] (aIt (aVar 0))
   (aFor (.s 2) [.z, .z, .u, .u, .u, .u, .u, .u, .u, .u, .u] (aIt (aVar 1))
   (aIfS (aNotB (aTr (aCall A__law_named (aCons (aVar 2) aNil))))
   (aRet [.u, .u, .u, .u, .u, .u, .u, .u, .u, .u, .u] (aTup (aCons (aC (.str "name")) (aCons (aVar 2) (aCons (aC (.bl true)) aNil)))))
   aNext)))
  (aSeq (aSet 3 (aC (.int 1)))
  (aSeq (aFor (.s 1) [.z, .u, .u, .z, .u, .u, .u, .u, .u, .u, .u] (aIt (aVar 0))
   (aSet 3 (aBin dMulI (aVar 3) (aBin dAdd (aFn dLen (aCons (aVar 1) aNil)) (aC (.int 1))))))
  (aSeq (aIfS (aTest (aBin dGt (aVar 3) (aC (.int 40))))
   (aRet [.u, .u, .u, .u, .u, .u, .u, .u, .u, .u, .u] (aTup (aCons (aC (.str "great")) (aCons (aC (.bl true)) aNil))))
   aNext)
  (aSeq (aSet 4 (aLst aNil))
  (aSeq (aFor (.s 5) [.z, .u, .u, .z, .o (.l .z), .u, .u, .u, .u, .u, .u] (aItR (aCons (aVar 3) aNil))
   (aSeq (aSet 6 (aLst aNil))
  (aSeq (aSet 7 (aVar 5))
  (aSeq (aFor (.s 1) [.z, .u, .u, .z, .o (.l .z), .z, .z, .z, .u, .u, .u] (aIt (aUn dRev (aVar 0)))
   (aSeq (aSet 6 (aBin dCat (aLst (aCons (aBin dMod (aVar 7) (aBin dAdd (aFn dLen (aCons (aVar 1) aNil)) (aC (.int 1)))) aNil)) (aVar 6)))
  (aSet 7 (aBin dDiv (aVar 7) (aBin dAdd (aFn dLen (aCons (aVar 1) aNil)) (aC (.int 1)))))))
  (aExpr (aApp 4 (aVar 6)))))))
  (aSeq (aSet 8 (aLst aNil))
  (aSeq (aFor (.s 5) [.z, .u, .u, .z, .z, .u, .u, .u, .o (.l .z), .u, .u] (aItR (aCons (aVar 3) aNil))
   (aFor (.s 9) [.z, .u, .u, .z, .z, .z, .u, .u, .o (.l .z), .u, .u] (aItR (aCons (aFn dLen (aCons (aVar 0) aNil)) aNil))
   (aIfS (aTest (aBin dLt (aBin dIx (aBin dIx (aVar 4) (aVar 5)) (aVar 9)) (aFn dLen (aCons (aBin dIx (aVar 0) (aVar 9)) aNil))))
   (aDrop [.z, .u, .u, .z, .z, .z, .u, .u, .o (.l .z), .z, .u] (aSeq (aSet 10 (aFn dList (aCons (aBin dIx (aVar 4) (aVar 5)) aNil)))
  (aSeq (aSetIx 10 (aBin dAdd (aIxO 10 (aVar 9)) (aC (.int 1))) (aVar 9))
  (aExpr (aApp 8 (aTup (aCons (aVar 5) (aCons (aLM dIndexD (aVar 4) (aVar 10)) (aCons (aBin dIx (aBin dIx (aVar 0) (aVar 9)) (aBin dIx (aBin dIx (aVar 4) (aVar 5)) (aVar 9))) aNil)))))))))
   aNext)))
  (aRet [.u, .u, .u, .u, .u, .u, .u, .u, .u, .u, .u] (aIf (aTest (aBin dLt (aFn dLen (aCons (aVar 8) aNil)) (aC (.int 81)))) (aTup (aCons (aC (.str "done")) (aCons (aVar 3) (aCons (aFn dTuple (aCons (aVar 8) aNil)) (aCons (aC (.int 0)) (aCons (aBin dSub (aVar 3) (aC (.int 1))) aNil)))))) (aTup (aCons (aC (.str "great")) (aCons (aC (.bl true)) aNil)))))))))))))
def A_check_thread_names : List D → Rz D := aFun 1 2
  (aFor (.s 1) [.z, .u, .u] (aIt (aVar 0))
   (aFor (.s 2) [.z, .z, .u] (aIt (aVar 1))
   (aIfS (aNotB (aTr (aCall A_fits_name (aCons (aVar 2) aNil))))
   (aRaise1 "BadName" "name" (aCons (aVar 2) aNil))
   aNext)))
def A_weaving0 : List D → Rz D := aFunR 1 9
  (aSeq (aExpr (aCall A_check_thread_names (aCons (aVar 0) aNil)))
  (aSeq (aSet 1 (aLst (aCons (aTup aNil) aNil)))
  (aSeq (aFor (.s 2) [.z, .z, .u, .u, .u, .u, .u, .u, .u, .u] (aIt (aVar 0))
   (aSeq (aIfS (aTest (aBin dGt (aBin dMulI (aFn dLen (aCons (aVar 1) aNil)) (aBin dAdd (aFn dLen (aCons (aVar 2) aNil)) (aC (.int 1)))) (aC (.int 40))))
   (aRaise0 "TooGreat")
   aNext)
  (aSet 1 (aLc2 (.s 3) [3, 4] (aIt (aVar 1)) aYes (.s 4) [4] (aItR (aCons (aBin dAdd (aFn dLen (aCons (aVar 2) aNil)) (aC (.int 1))) aNil)) aYes (aBin dAdd (aVar 3) (aTup (aCons (aVar 4) aNil)))))))
  (aSeq (aDcE 5 (.t [(.s 6), (.s 3)]) [6, 3] (aItE (aCons (aVar 1) aNil)) aYes (aVar 3) (aVar 6))
  (aSeq (aSet 7 (aLst aNil))
  (aSeq (aFor (.s 3) [.z, .z, .u, .u, .u, .u, .u, .o (.l .z), .u, .u] (aIt (aVar 1))
   (aFor (.s 8) [.z, .z, .u, .z, .u, .u, .u, .o (.l .z), .u, .u] (aItR (aCons (aFn dLen (aCons (aVar 0) aNil)) aNil))
   aNev))
  (aRet [.u, .u, .u, .u, .u, .u, .u, .u, .u, .u] (aMake "Chart" A_Chart_init (aCons (aFn dLen (aCons (aVar 1) aNil)) (aCons (aVar 7) (aCons (aC (.int 0)) (aCons (aBin dSub (aFn dLen (aCons (aVar 1) aNil)) (aC (.int 1))) aNil))))))))))))
def A_weaving1 : List D → Rz D := aFunR 1 9
  (aSeq (aExpr (aCall A_check_thread_names (aCons (aVar 0) aNil)))
  (aSeq (aSet 1 (aLst (aCons (aTup aNil) aNil)))
  (aSeq (aFor (.s 2) [.z, .z, .u, .u, .u, .u, .u, .u, .u, .u] (aIt (aVar 0))
   (aSeq (aIfS (aTest (aBin dGt (aBin dMulI (aFn dLen (aCons (aVar 1) aNil)) (aBin dAdd (aFn dLen (aCons (aVar 2) aNil)) (aC (.int 1)))) (aC (.int 40))))
   (aRaise0 "TooGreat")
   aNext)
  (aSet 1 (aLc2 (.s 3) [3, 4] (aIt (aVar 1)) aYes (.s 4) [4] (aItR (aCons (aBin dAdd (aFn dLen (aCons (aVar 2) aNil)) (aC (.int 1))) aNil)) aYes (aBin dAdd (aVar 3) (aTup (aCons (aVar 4) aNil)))))))
  (aSeq (aSet 5 (aDcT (.t [(.s 6), (.s 3)]) [6, 3] (aItE (aCons (aVar 1) aNil)) aYes (aVar 3) (aVar 6)))
  (aSeq (aSet 7 (aLst aNil))
  (aSeq (aFor (.s 3) [.z, .z, .u, .u, .u, .z, .u, .o (.l .z), .u, .u] (aIt (aVar 1))
   (aFor (.s 8) [.z, .z, .u, .z, .u, .z, .u, .o (.l .z), .u, .u] (aItR (aCons (aFn dLen (aCons (aVar 0) aNil)) aNil))
   (aIfS (aTest (aBin dLt (aBin dIx (aVar 3) (aVar 8)) (aFn dLen (aCons (aBin dIx (aVar 0) (aVar 8)) aNil))))
   (aDrop [.z, .z, .u, .z, .u, .z, .u, .o (.l .z), .z, .u] (aSeq (aSet 9 (aBin dAdd (aBin dAdd (aSl (aVar 3) aNoP (aPart (aVar 8))) (aTup (aCons (aBin dAdd (aBin dIx (aVar 3) (aVar 8)) (aC (.int 1))) aNil))) (aSl (aVar 3) (aPart (aBin dAdd (aVar 8) (aC (.int 1)))) aNoP)))
  (aExpr (aApp 7 (aTup (aCons (aBin dGet (aVar 5) (aVar 3)) (aCons (aBin dGet (aVar 5) (aVar 9)) (aCons (aBin dIx (aBin dIx (aVar 0) (aVar 8)) (aBin dIx (aVar 3) (aVar 8))) aNil))))))))
   aNext)))
  (aRet [.u, .u, .u, .u, .u, .u, .u, .u, .u, .u] (aMake "Chart" A_Chart_init (aCons (aFn dLen (aCons (aVar 1) aNil)) (aCons (aVar 7) (aCons (aC (.int 0)) (aCons (aBin dSub (aFn dLen (aCons (aVar 1) aNil)) (aC (.int 1))) aNil))))))))))))
def A_weaving_chart : List D → Rz D := aTwo noSeq A_weaving0 A_weaving1
def A__law_caught : List D → Rz D := aFunR 1 3
  (aSeq (aSet 1 (aC .non))
  (aSeq (aTry 4 ["BadName", "NoPlace", "BadArrow", "LoosePlace", "TooGreat"] [{ c := "BadName", i := 3, j := 1, ps := [.s "name", .f "name", .is "TriedError" true] }, { c := "TooGreat", i := 3, j := 1, ps := [.s "great", .is "TriedError" true] }]
   (bDrop [.u, .z, .u, .u] (bSeq (bSet 2 (aCall A_weaving_chart (aCons (aVar 0) aNil)))
  (bSet 1 (aTup (aCons (aC (.str "done")) (aCons (aUn (dFld "Chart" "count") (aVar 2)) (aCons (aUn (dFld "Chart" "arrows") (aVar 2)) (aCons (aUn (dFld "Chart" "start") (aVar 2)) (aCons (aUn (dFld "Chart" "end") (aVar 2)) aNil))))))))))
  (aRet [.u, .u, .u, .u] (aVar 1))))
def A_Chart_parts : List D → Rz D := aFunR 1 0
  (aRet [.u] (aTup (aCons (aUn (dFld "Chart" "count") (aVar 0)) (aCons (aUn (dFld "Chart" "arrows") (aVar 0)) (aCons (aUn (dFld "Chart" "start") (aVar 0)) (aCons (aUn (dFld "Chart" "end") (aVar 0)) aNil))))))
def A_Chart_eq : List D → Rz D := aFunR 2 0
  (aRet [.u, .u] (aAndV (aIsi [(.inr "Chart", true)] (aNoT (aVar 1))) (aBin dEq (aMeth "Chart" "parts" A_Chart_parts (aVar 0) aNil) (aMeth "Chart" "parts" A_Chart_parts (aVar 1) aNil))))
def A_law_K64 : List D → Rz D := aFunR 1 10
  (aSeq (aFor (.s 1) [.z, .u, .u, .u, .u, .u, .u, .u, .u, .u, .u] (aItR (aCons (aFn dMax2 (aCons (aC (.int 1)) (aCons (aFn dMin2 (aCons (aC (.int 5)) (aCons (aFn dLen (aCons (aVar 0) aNil)) aNil))) aNil))) aNil))
   (aSeq (aSet 2 (aCall A__law_state (aCons (aCall A__law_cell (aCons (aVar 0) (aCons (aVar 1) aNil))) aNil)))
  (aSeq (aSet 3 (aLst aNil))
  (aSeq (aFor (.s 4) [.z, .z, .o (.l .z), .o (.l .z), .u, .u, .u, .u, .u, .u, .u] (aItR (aCons (aCallIo A__law_draw_K66 2 (aCons (aC (.int 6)) aNil)) aNil))
   (aExpr (aApp 3 (aLc (.s 5) [5] (aItR (aCons (aCallIo A__law_draw_K66 2 (aCons (aC (.int 4)) aNil)) aNil)) aYes (aCallIo A__law_pick 2 (aCons (aLst (aCons (aC (.str "a")) (aCons (aC (.str "b")) (aCons (aC (.str "cd")) (aCons (aC (.str "xyz")) aNil))))) aNil))))))
  (aSeq (aSet 6 (aCallIo A__law_draw_K66 2 (aCons (aC (.int 6)) aNil)))
  (aSeq (aIfS (aTest (aBin dEq (aVar 6) (aC (.int 0))))
   (aExpr (aApp 3 (aBin dRep (aLst (aCons (aC (.str "a")) aNil)) (aBin dAdd (aC (.int 39)) (aCallIo A__law_draw_K66 2 (aCons (aC (.int 3)) aNil))))))
   (aIfS (aAndB (aTest (aBin dEq (aVar 6) (aC (.int 1)))) (aTest (aBr .z (aBin dNe (aVar 3) (aLst aNil)))))
   (aDrop [.z, .z, .z, .z, .u, .u, .z, .u, .u, .u, .u] (aSeq (aSet 7 (aCallIo A__law_draw_K66 2 (aCons (aBr .z (aFn dLen (aCons (aVar 3) aNil))) aNil)))
  (aSetIx 3 (aBin dCat (aIxO 3 (aVar 7)) (aLst (aCons (aCallIo A__law_pick 2 (aCons (aLst (aCons (aC (.str "")) (aCons (aC (.str "B")) (aCons (aC (.str "abcd")) (aCons (aC (.str "a1")) (aCons (aC (.str " a")) aNil)))))) aNil)) aNil))) (aVar 7))))
   (aIfS (aTest (aBin dEq (aVar 6) (aC (.int 2))))
   (aSet 3 (aBin dCat (aSl (aVar 3) aNoP (aPart (aC (.int 3)))) (aBin dRep (aLst (aCons (aLst (aCons (aC (.str "p")) (aCons (aC (.str "q")) aNil))) aNil)) (aC (.int 2)))))
   aNext)))
  (aSeq (aSet 8 (aCall A__law_due (aCons (aVar 3) aNil)))
  (aSeq (aIfS (aOrB (aTest (aBin dNe (aCall A__law_caught (aCons (aVar 3) aNil)) (aVar 8))) (aTest (aBin dNe (aCall A__law_caught (aCons (aFn dTuple (aCons (aLc (.s 9) [9] (aIt (aVar 3)) aYes (aFn dTuple (aCons (aVar 9) aNil))) aNil)) aNil)) (aVar 8))))
   (aRet [.u, .u, .u, .u, .u, .u, .u, .u, .u, .u, .u] (aC (.bl false)))
   aNext)
  (aIfS (aTest (aBin dEq (aBin dIx (aVar 8) (aC (.int 0))) (aC (.str "done"))))
   (aDrop [.z, .z, .z, .z, .u, .u, .z, .u, .z, .u, .u] (aSeq (aSet 10 (aMake "Chart" A_Chart_init (aCons (aBin dIx (aVar 8) (aC (.int 1))) (aCons (aBin dIx (aVar 8) (aC (.int 2))) (aCons (aBin dIx (aVar 8) (aC (.int 3))) (aCons (aBin dIx (aVar 8) (aC (.int 4))) aNil))))))
  (aIfS (aNotB (aTest (aOwnB "Chart" A_Chart_eq (aCall A_weaving_chart (aCons (aVar 3) aNil)) (aVar 10))))
   (aRet [.u, .u, .u, .u, .u, .u, .u, .u, .u, .u, .u] (aC (.bl false)))
   aNext)))
   aNext)))))))))
  (aRet [.u, .u, .u, .u, .u, .u, .u, .u, .u, .u, .u] (aC (.bl true))))
end
section
open PySem PySem.Spec PyProof.Rows L2
section
variable {P : Program} {w : World} {K : PySem.W.Frag} {mg : Str → Option Value} {base : Heap} {f : Addr} {fd : FuncData}
theorem sc__law_state : FnScope ["_law_cell_here"] ["_law_cell_here"] (defScope s__law_state) := ⟨rfl, rfl, rfl, by decide +kernel, rfl, by decide +kernel, by decide +kernel⟩
theorem av__law_state (F : FX K "_law_state" "_law_state" s__law_state [] [] f fd) (T : Txt K mg)  : FnOk P w K mg base (L2.CX P w) 1 f fd ["_law_cell_here"] (spA K (.o (.l .z)) A__law_state) := by
  refine F.ok sc__law_state (fun vs H Q E h => ?_) (fun cdv A outer s H vs Q E hr h => ?_)
  · exact spA_len (fun _ z => aFunR_len z) h
  · refine ⟨_, ((pss_one (ps_ret (pe_lst (pa_cons (pe_callTy call_int1U (by rfl) T.b_int (by decide +kernel) (pa_cons (pv 0) pa_nil)) (pa_cons (pe_callTy call_int1U (by rfl) T.b_int (by decide +kernel) (pa_cons (pe_cmpR op_ge (pv 0) (pe_op op_pow pe_int pe_int) (nomark _)) pa_nil)) (pa_cons pe_int pa_nil))))))), ?_⟩
    refine fn_bodyR (XE := E) (n := 1) (k := 0) (msb := []) (ms' := []) rfl ?_ h
    exact (ss_ret (fun _ _ => rfl) rfl (se_lst (.inr rfl) (sa_cons (se_fn fn_int (sa_cons (se_var (i := 0) rfl) sa_nil)) (sa_cons (se_fn fn_int (sa_cons (se_op (ok_cmp _) (se_var (i := 0) rfl) (se_op ok_pow (se_int _) (se_int _))) sa_nil)) (sa_cons (se_int _) sa_nil)))))
end
section
variable {P : Program} {w : World} {K : PySem.W.Frag} {mg : Str → Option Value} {base : Heap} {f : Addr} {fd : FuncData}
theorem sc__law_draw : FnScope ["_law_state_here", "_law_many", "_law_drawn", "_law_mixed"] ["_law_state_here", "_law_many"] (defScope s__law_draw) := ⟨rfl, rfl, rfl, by decide +kernel, rfl, by decide +kernel, by decide +kernel⟩
theorem av__law_draw (F : FX K "_law_draw" "_law_draw" s__law_draw [] [] f fd) (T : Txt K mg)  : FnOk P w K mg base (L2.CX P w) 1 f fd ["_law_state_here", "_law_many"] (spIo K (.l .z) .z A__law_draw_K66) := by
  refine F.ok sc__law_draw (fun vs H Q E h => ?_) (fun cdv A outer s H vs Q E hr h => ?_)
  · exact spIo_len (fun _ z => aFunIoR_len z) h
  · refine ⟨_, ((pss_cons (ps_asg (pe_op (k_addA (K := K) rfl) (pe_ix (k_ix (K := K) rfl) (pv 0) pe_int (fun _ _ => rfl)) pe_int) (pg_sub (pv 0) pe_int set_list)) 
      (pss_cons (ps_if (pt_cmpR (k_eq (K := K) rfl hr.units) (pe_ix (k_ix (K := K) rfl) (pv 0) pe_int (fun _ _ => rfl)) pe_int (nomark _)) (pss_cons (ps_set (i := 2) sc__law_draw.nd rfl (Or.inl rfl) (pe_op op_modA (pe_callTy call_int1U (by rfl) T.b_int (by decide +kernel) (pa_cons (pe_ix (k_ix (K := K) rfl) (pv 0) pe_int (fun _ _ => rfl)) pa_nil)) (pv 1))) 
      (pss_cons (ps_asg (pe_op op_fdivA (pe_ix (k_ix (K := K) rfl) (pv 0) pe_int (fun _ _ => rfl)) (pv 1)) (pg_sub (pv 0) pe_int set_list)) (pss_one (ps_ret (pv 2))))) pss_nil) 
      (pss_cons (ps_set (i := 3) sc__law_draw.nd rfl (Or.inl rfl) (pe_op op_pow (pe_callTy call_int1U (by rfl) T.b_int (by decide +kernel) (pa_cons (pe_op (k_addA (K := K) rfl) (pe_op (k_addA (K := K) rfl) (pe_op op_modA (pe_callTy call_int1U (by rfl) T.b_int (by decide +kernel) (pa_cons (pe_ix (k_ix (K := K) rfl) (pv 0) pe_int (fun _ _ => rfl)) pa_nil)) pe_int) (pe_op (k_mulA (K := K) rfl) (pe_ix (k_ix (K := K) rfl) (pv 0) pe_int (fun _ _ => rfl)) pe_int)) pe_int) pa_nil)) pe_int)) (pss_one (ps_ret (pe_op op_modA (pe_callTy call_int1U (by rfl) T.b_int (by decide +kernel) (pa_cons (pe_op op_fdivA (pe_op op_modA (pe_callTy call_int1U (by rfl) T.b_int (by decide +kernel) (pa_cons (pv 3) pa_nil)) pe_int) pe_int) pa_nil)) (pv 1)))))))), ?_⟩
    refine fn_bodyIoR (XE := E) (n := 1) (k := 2) (msb := []) (ms' := []) rfl ?_ h
    exact (ss_seq (ms1 := [.p (.l .z), .z, .u, .u]) (ss_setIx (fun _ _ => rfl) (.inr rfl) (se_op ok_add (se_ixO (.inr rfl) (se_int _)) (se_int _)) (se_int _))
  (ss_seq (ms1 := [.p (.l .z), .z, .u, .u]) (ss_if (fun _ _ => rfl) (st_test (se_op ok_eq (se_ixO (.inr rfl) (se_int _)) (se_int _)))
   (ss_seq (ms1 := [.p (.l .z), .z, .z, .u]) (ss_set (i := 2) (m := .z) (fun _ _ => rfl) (by decide) (se_op ok_mod (se_fn fn_int (sa_cons (se_ixO (.inr rfl) (se_int _)) sa_nil)) (se_var (i := 1) rfl)))
  (ss_seq (ms1 := [.p (.l .z), .z, .z, .u]) (ss_setIx (fun _ _ => rfl) (.inr rfl) (se_op ok_div (se_ixO (.inr rfl) (se_int _)) (se_var (i := 1) rfl)) (se_int _))
  (ss_ret (fun _ _ => rfl) rfl (se_var (i := 2) rfl))))
   ss_next)
  (ss_seq (ms1 := [.p (.l .z), .z, .u, .z]) (ss_set (i := 3) (m := .z) (fun _ _ => rfl) (by decide) (se_op ok_pow (se_fn fn_int (sa_cons (se_op ok_add (se_op ok_add (se_op ok_mod (se_fn fn_int (sa_cons (se_ixO (.inr rfl) (se_int _)) sa_nil)) (se_int _)) (se_op ok_mul (se_ixO (.inr rfl) (se_int _)) (se_int _))) (se_int _)) sa_nil)) (se_int _)))
  (ss_ret (fun _ _ => rfl) rfl (se_op ok_mod (se_fn fn_int (sa_cons (se_op ok_div (se_op ok_mod (se_fn fn_int (sa_cons (se_var (i := 3) rfl) sa_nil)) (se_int _)) (se_int _)) sa_nil)) (se_var (i := 1) rfl))))))
end
section
variable {P : Program} {w : World} {K : PySem.W.Frag} {mg : Str → Option Value} {base : Heap} {f : Addr} {fd : FuncData}
theorem sc__law_named : FnScope ["_law_name", "_law_signs", "_law_sign"] ["_law_name"] (defScope s__law_named) := ⟨rfl, rfl, rfl, by decide +kernel, rfl, by decide +kernel, by decide +kernel⟩
theorem av__law_named (F : FX K "_law_named" "_law_named" s__law_named [] [] f fd) (T : Txt K mg)  : FnOk P w K mg base (L2.CX P w) 1 f fd ["_law_name"] (spA K .z A__law_named) := by
  refine F.ok sc__law_named (fun vs H Q E h => ?_) (fun cdv A outer s H vs Q E hr h => ?_)
  · exact spA_len (fun _ z => aFunR_len z) h
  · refine ⟨_, ((pss_cons (ps_set (i := 1) sc__law_named.nd rfl (Or.inr rfl) pe_str) (pss_one (ps_ret (pe_and (pe_chain op_le op_le pe_int (pe_callB (k_lenA (K := K) rfl) (by rfl) T.b_len PySem.boot_len (pa_cons (pv 0) pa_nil)) pe_int) (pe_one (pe_cmpR (k_eq (K := K) rfl hr.units) (by exact (pe_lc (own := [("_law_sign", 2)]) rfl sc__law_named.nd (pi_str (pv 0)) (blkOk_by (own := [("_law_sign", 2)]) (N := ["_law_name", "_law_signs", "_law_sign"]) (sc := defScope s__law_named) (by decide +kernel)) (fun _ _ _ _ _ => by exact (pg_name (i := 2) sc__law_named.nd rfl (Or.inl rfl))) (fun _ _ _ _ _ => by exact (pts_one (pt_cmpR (k_ninA (K := K) rfl (r65 hr)) (pv 2) (pv 1) rfl))) (fun _ _ _ _ _ => by exact (pv 2)))) (pe_lst pa_nil) (nomark _)))))))), ?_⟩
    refine fn_bodyR (XE := E) (n := 1) (k := 2) (msb := []) (ms' := []) rfl ?_ h
    exact (ss_seq (ms1 := [.z, .z, .u]) (ss_set (i := 1) (m := .z) (fun _ _ => rfl) (by decide) (se_str _))
  (ss_ret (fun _ _ => rfl) rfl (se_andV (se_chain (ok_cmp _) (ok_cmp _) (se_int _) (se_fn fn_len (sa_cons (se_var (i := 0) rfl) sa_nil)) (se_int _)) (se_op ok_eq (se_frz (se_lc (p := (.s 2)) (si_str (se_var (i := 0) rfl)) sg_name (by decide) rfl (st_test (se_op ok_nin (se_var (i := 2) rfl) (se_var (i := 1) rfl))) (se_var (i := 2) rfl))) (se_lst (.inl rfl) sa_nil)))))
end
section
variable {P : Program} {w : World} {K : PySem.W.Frag} {mg : Str → Option Value} {base : Heap} {f : Addr} {fd : FuncData}
theorem sc__law_due : FnScope ["_law_threads", "_law_row", "_law_name", "_law_many", "_law_spots", "_law_number", "_law_spot", "_law_rest", "_law_arrows", "_law_k", "_law_goal"] ["_law_threads"] (defScope s__law_due) := ⟨rfl, rfl, rfl, by decide +kernel, rfl, by decide +kernel, by decide +kernel⟩
theorem av__law_due (F : FX K "_law_due" "_law_due" s__law_due [] [] f fd) (T : Txt K mg) (c__law_named : Cal P w K mg base "_law_named" 1 (spA K .z A__law_named)) : FnOk P w K mg base (L2.CX P w) 2 f fd ["_law_threads"] (spA K .z A__law_due) := by
  refine F.ok sc__law_due (fun vs H Q E h => ?_) (fun cdv A outer s H vs Q E hr h => ?_)
  · exact spA_len (fun _ z => aFunR_len z) h
  · refine ⟨_, ((pss_cons (ps_for (passes_of rfl) rfl (pi_seq (K := K) rfl (pv 0)) (pg_name (i := 1) sc__law_due.nd rfl (Or.inl rfl)) (pss_one (ps_for (passes_of rfl) rfl (pi_seq (K := K) rfl (pv 1)) (pg_name (i := 2) sc__law_due.nd rfl (Or.inl rfl)) (pss_one (ps_if (pt_not (k_tr (K := K) rfl (pe_f c__law_named hr (by decide) rfl (passes_call (E := E) (takes_of rfl rfl rfl rfl) (fun _ _ _ _ h => h)) (pa_cons (pv 2) pa_nil)))) (pss_one (ps_ret (pe_tup (pa_cons pe_str (pa_cons (pv 2) (pa_cons pe_bl pa_nil)))))) pss_nil))))) 
      (pss_cons (ps_set (i := 3) sc__law_due.nd rfl (Or.inl rfl) pe_int) 
      (pss_cons (ps_for (passes_of rfl) rfl (pi_seq (K := K) rfl (pv 0)) (pg_name (i := 1) sc__law_due.nd rfl (Or.inl rfl)) (pss_one (ps_set (i := 3) sc__law_due.nd rfl (Or.inl rfl) (pe_op (k_mulA (K := K) rfl) (pv 3) (pe_op (k_addA (K := K) rfl) (pe_callB (k_lenA (K := K) rfl) (by rfl) T.b_len PySem.boot_len (pa_cons (pv 1) pa_nil)) pe_int))))) 
      (pss_cons (ps_if (pt_cmpR op_gt (pv 3) pe_int (nomark _)) (pss_one (ps_ret (pe_tup (pa_cons pe_str (pa_cons pe_bl pa_nil))))) pss_nil) 
      (pss_cons (ps_set (i := 4) sc__law_due.nd rfl (Or.inl rfl) (pe_lst pa_nil)) 
      (pss_cons (ps_for (passes_of rfl) rfl (pi_range1 (by rfl) T.b_range (pa_cons (pv 3) pa_nil)) (pg_name (i := 5) sc__law_due.nd rfl (Or.inl rfl)) (pss_cons (ps_set (i := 6) sc__law_due.nd rfl (Or.inl rfl) (pe_lst pa_nil)) 
      (pss_cons (ps_set (i := 7) sc__law_due.nd rfl (Or.inl rfl) (pv 5)) 
      (pss_cons (ps_for (passes_of rfl) rfl (pi_seq (K := K) rfl (k_rev (K := K) rfl (pv 0))) (pg_name (i := 1) sc__law_due.nd rfl (Or.inl rfl)) (pss_cons (ps_set (i := 6) sc__law_due.nd rfl (Or.inl rfl) (pe_op (k_addA (K := K) rfl) (pe_lst (pa_cons (pe_op op_modA (pv 7) (pe_op (k_addA (K := K) rfl) (pe_callB (k_lenA (K := K) rfl) (by rfl) T.b_len PySem.boot_len (pa_cons (pv 1) pa_nil)) pe_int)) pa_nil)) (pv 6))) (pss_one (ps_set (i := 7) sc__law_due.nd rfl (Or.inl rfl) (pe_op op_fdivA (pv 7) (pe_op (k_addA (K := K) rfl) (pe_callB (k_lenA (K := K) rfl) (by rfl) T.b_len PySem.boot_len (pa_cons (pv 1) pa_nil)) pe_int)))))) (pss_one (ps_expr (k_bm (K := K) rfl PySem.F.plainAttrs_list PySem.F.slot_list_append PySem.F.type_list_append mt_append (pv 4) (pa_cons (pv 6) pa_nil)))))))) 
      (pss_cons (ps_set (i := 8) sc__law_due.nd rfl (Or.inl rfl) (pe_lst pa_nil)) 
      (pss_cons (ps_for (passes_of rfl) rfl (pi_range1 (by rfl) T.b_range (pa_cons (pv 3) pa_nil)) (pg_name (i := 5) sc__law_due.nd rfl (Or.inl rfl)) (pss_one (ps_for (passes_of rfl) rfl (pi_range1 (by rfl) T.b_range (pa_cons (pe_callB (k_lenA (K := K) rfl) (by rfl) T.b_len PySem.boot_len (pa_cons (pv 0) pa_nil)) pa_nil)) (pg_name (i := 9) sc__law_due.nd rfl (Or.inl rfl)) (pss_one (ps_if (pt_cmpR op_lt (pe_ix (k_ix (K := K) rfl) (pe_ix (k_ix (K := K) rfl) (pv 4) (pv 5) (fun _ _ => rfl)) (pv 9) (fun _ _ => rfl)) (pe_callB (k_lenA (K := K) rfl) (by rfl) T.b_len PySem.boot_len (pa_cons (pe_ix (k_ix (K := K) rfl) (pv 0) (pv 9) (fun _ _ => rfl)) pa_nil)) (nomark _)) (pss_cons (ps_set (i := 10) sc__law_due.nd rfl (Or.inl rfl) (pe_callTy (k_listA (K := K) rfl rfl) (by rfl) T.b_list (by decide +kernel) (pa_cons (pe_ix (k_ix (K := K) rfl) (pv 4) (pv 5) (fun _ _ => rfl)) pa_nil))) 
      (pss_cons (ps_asg (pe_op (k_addA (K := K) rfl) (pe_ix (k_ix (K := K) rfl) (pv 10) (pv 9) (fun _ _ => rfl)) pe_int) (pg_sub (pv 10) (pv 9) set_list)) (pss_one (ps_expr (k_bm (K := K) rfl PySem.F.plainAttrs_list PySem.F.slot_list_append PySem.F.type_list_append mt_append (pv 8) (pa_cons (pe_tup (pa_cons (pv 5) (pa_cons (k_bm (K := K) rfl PySem.F.plainAttrs_list PySem.F.slot_list_index PySem.F.type_list_index (k_indexD (K := K) rfl (units65 hr)) (pv 4) (pa_cons (pv 10) pa_nil)) (pa_cons (pe_ix (k_ix (K := K) rfl) (pe_ix (k_ix (K := K) rfl) (pv 0) (pv 9) (fun _ _ => rfl)) (pe_ix (k_ix (K := K) rfl) (pe_ix (k_ix (K := K) rfl) (pv 4) (pv 5) (fun _ _ => rfl)) (pv 9) (fun _ _ => rfl)) (fun _ _ => rfl)) pa_nil)))) pa_nil)))))) pss_nil))))) (pss_one (ps_ret (pe_ifExp (pt_cmpR op_lt (pe_callB (k_lenA (K := K) rfl) (by rfl) T.b_len PySem.boot_len (pa_cons (pv 8) pa_nil)) pe_int (nomark _)) (pe_tup (pa_cons pe_str (pa_cons (pv 3) (pa_cons (pe_callTy (k_tuple (K := K) rfl) (by rfl) T.b_tuple (by decide +kernel) (pa_cons (pv 8) pa_nil)) (pa_cons pe_int (pa_cons (pe_op op_sub (pv 3) pe_int) pa_nil)))))) (pe_tup (pa_cons pe_str (pa_cons pe_bl pa_nil))))))))))))))), ?_⟩
    refine fn_bodyR (XE := E) (n := 1) (k := 10) (msb := []) (ms' := []) rfl ?_ h
    exact (ss_seq (ms1 := [.z, .u, .u, .u, .u, .u, .u, .u, .u, .u, .u]) (ss_for (p := (.s 1)) (msB := [.z, .u, .u, .u, .u, .u, .u, .u, .u, .u, .u]) (si_seq (se_var (i := 0) rfl)) sg_name (by decide)
   (ss_for (p := (.s 2)) (msB := [.z, .z, .u, .u, .u, .u, .u, .u, .u, .u, .u]) (si_seq (se_var (i := 1) rfl)) sg_name (by decide)
   (ss_if (fun _ _ => rfl) (st_not (st_tr (se_call (fun _ => rfl) (sa_cons (se_var (i := 2) rfl) sa_nil))))
   (ss_ret (fun _ _ => rfl) rfl (se_tup (sa_cons (se_str _) (sa_cons (se_var (i := 2) rfl) (sa_cons (se_bl _) sa_nil)))))
   ss_next) rfl rfl) rfl rfl)
  (ss_seq (ms1 := [.z, .u, .u, .z, .u, .u, .u, .u, .u, .u, .u]) (ss_set (i := 3) (m := .z) (fun _ _ => rfl) (by decide) (se_int _))
  (ss_seq (ms1 := [.z, .u, .u, .z, .u, .u, .u, .u, .u, .u, .u]) (ss_for (p := (.s 1)) (msB := [.z, .u, .u, .z, .u, .u, .u, .u, .u, .u, .u]) (si_seq (se_var (i := 0) rfl)) sg_name (by decide)
   (ss_set (i := 3) (m := .z) (fun _ _ => rfl) (by decide) (se_op ok_mul (se_var (i := 3) rfl) (se_op ok_add (se_fn fn_len (sa_cons (se_var (i := 1) rfl) sa_nil)) (se_int _)))) rfl rfl)
  (ss_seq (ms1 := [.z, .u, .u, .z, .u, .u, .u, .u, .u, .u, .u]) (ss_if (fun _ _ => rfl) (st_test (se_op (ok_cmp _) (se_var (i := 3) rfl) (se_int _)))
   (ss_ret (fun _ _ => rfl) rfl (se_tup (sa_cons (se_str _) (sa_cons (se_bl _) sa_nil))))
   ss_next)
  (ss_seq (ms1 := [.z, .u, .u, .z, .o (.l .z), .u, .u, .u, .u, .u, .u]) (ss_set (i := 4) (m := .o (.l .z)) (fun _ _ => rfl) (by decide) (se_lst (.inr rfl) sa_nil))
  (ss_seq (ms1 := [.z, .u, .u, .z, .o (.l .z), .u, .u, .u, .u, .u, .u]) (ss_for (p := (.s 5)) (msB := [.z, .u, .u, .z, .o (.l .z), .u, .u, .u, .u, .u, .u]) (si_rng (sa_cons (se_var (i := 3) rfl) sa_nil)) sg_name (by decide)
   (ss_seq (ms1 := [.z, .u, .u, .z, .o (.l .z), .z, .z, .u, .u, .u, .u]) (ss_set (i := 6) (m := .z) (fun _ _ => rfl) (by decide) (se_lst (.inl rfl) sa_nil))
  (ss_seq (ms1 := [.z, .u, .u, .z, .o (.l .z), .z, .z, .z, .u, .u, .u]) (ss_set (i := 7) (m := .z) (fun _ _ => rfl) (by decide) (se_var (i := 5) rfl))
  (ss_seq (ms1 := [.z, .u, .u, .z, .o (.l .z), .z, .z, .z, .u, .u, .u]) (ss_for (p := (.s 1)) (msB := [.z, .u, .u, .z, .o (.l .z), .z, .z, .z, .u, .u, .u]) (si_seq (se_rev (se_var (i := 0) rfl))) sg_name (by decide)
   (ss_seq (ms1 := [.z, .z, .u, .z, .o (.l .z), .z, .z, .z, .u, .u, .u]) (ss_set (i := 6) (m := .z) (fun _ _ => rfl) (by decide) (se_op (ok_cat (.inl rfl)) (se_lst (.inl rfl) (sa_cons (se_op ok_mod (se_var (i := 7) rfl) (se_op ok_add (se_fn fn_len (sa_cons (se_var (i := 1) rfl) sa_nil)) (se_int _))) sa_nil)) (se_var (i := 6) rfl)))
  (ss_set (i := 7) (m := .z) (fun _ _ => rfl) (by decide) (se_op ok_div (se_var (i := 7) rfl) (se_op ok_add (se_fn fn_len (sa_cons (se_var (i := 1) rfl) sa_nil)) (se_int _))))) rfl rfl)
  (ss_expr (fun _ _ => rfl) (se_app (.inl rfl) (se_var (i := 6) rfl)))))) rfl rfl)
  (ss_seq (ms1 := [.z, .u, .u, .z, .z, .u, .u, .u, .o (.l .z), .u, .u]) (ss_fz (i := 4) rfl (ss_set (i := 8) (m := .o (.l .z)) (fun _ _ => rfl) (by decide) (se_lst (.inr rfl) sa_nil)))
  (ss_seq (ms1 := [.z, .u, .u, .z, .z, .u, .u, .u, .o (.l .z), .u, .u]) (ss_for (p := (.s 5)) (msB := [.z, .u, .u, .z, .z, .u, .u, .u, .o (.l .z), .u, .u]) (si_rng (sa_cons (se_var (i := 3) rfl) sa_nil)) sg_name (by decide)
   (ss_for (p := (.s 9)) (msB := [.z, .u, .u, .z, .z, .z, .u, .u, .o (.l .z), .u, .u]) (si_rng (sa_cons (se_fn fn_len (sa_cons (se_var (i := 0) rfl) sa_nil)) sa_nil)) sg_name (by decide)
   (ss_if (fun _ _ => rfl) (st_test (se_op (ok_cmp _) (se_op ok_ix (se_op ok_ix (se_var (i := 4) rfl) (se_var (i := 5) rfl)) (se_var (i := 9) rfl)) (se_fn fn_len (sa_cons (se_op ok_ix (se_var (i := 0) rfl) (se_var (i := 9) rfl)) sa_nil))))
   (ss_drop (ns := [.z, .u, .u, .z, .z, .z, .u, .u, .o (.l .z), .z, .u]) rfl (ss_seq (ms1 := [.z, .u, .u, .z, .z, .z, .u, .u, .o (.l .z), .z, .o (.l .z)]) (ss_set (i := 10) (m := .o (.l .z)) (fun _ _ => rfl) (by decide) (se_fn (fn_list (.inr rfl)) (sa_cons (se_op ok_ix (se_var (i := 4) rfl) (se_var (i := 5) rfl)) sa_nil)))
  (ss_seq (ms1 := [.z, .u, .u, .z, .z, .z, .u, .u, .o (.l .z), .z, .o (.l .z)]) (ss_setIx (fun _ _ => rfl) (.inl rfl) (se_op ok_add (se_ixO (.inl rfl) (se_var (i := 9) rfl)) (se_int _)) (se_var (i := 9) rfl))
  (ss_fz (i := 10) rfl (ss_expr (fun _ _ => rfl) (se_app (.inl rfl) (se_tup (sa_cons (se_var (i := 5) rfl) (sa_cons (se_indexD (se_var (i := 4) rfl) (se_var (i := 10) rfl)) (sa_cons (se_op ok_ix (se_op ok_ix (se_var (i := 0) rfl) (se_var (i := 9) rfl)) (se_op ok_ix (se_op ok_ix (se_var (i := 4) rfl) (se_var (i := 5) rfl)) (se_var (i := 9) rfl))) sa_nil))))))))))
   ss_next) rfl rfl) rfl rfl)
  (ss_fz (i := 8) rfl (ss_ret (fun _ _ => rfl) rfl (se_if (st_test (se_op (ok_cmp _) (se_fn fn_len (sa_cons (se_var (i := 8) rfl) sa_nil)) (se_int _))) (se_tup (sa_cons (se_str _) (sa_cons (se_var (i := 3) rfl) (sa_cons (se_fn fn_tuple (sa_cons (se_var (i := 8) rfl) sa_nil)) (sa_cons (se_int _) (sa_cons (se_op ok_sub (se_var (i := 3) rfl) (se_int _)) sa_nil)))))) (se_tup (sa_cons (se_str _) (sa_cons (se_bl _) sa_nil))))))))))))))
end
section
variable {P : Program} {w : World} {K : PySem.W.Frag} {mg : Str → Option Value} {base : Heap} {f : Addr} {fd : FuncData}
theorem sc__law_cell : FnScope ["_law_script", "_law_at"] ["_law_script", "_law_at"] (defScope s__law_cell) := ⟨rfl, rfl, rfl, by decide +kernel, rfl, by decide +kernel, by decide +kernel⟩
theorem av__law_cell (F : FX K "_law_cell" "_law_cell" s__law_cell [] [] f fd) (T : Txt K mg)  : FnOk P w K mg base (L2.CX P w) 1 f fd ["_law_script", "_law_at"] (spA K .z A__law_cell) := by
  refine F.ok sc__law_cell (fun vs H Q E h => ?_) (fun cdv A outer s H vs Q E hr h => ?_)
  · exact spA_len (fun _ z => aFunR_len z) h
  · refine ⟨_, ((pss_cons (ps_if (pt_cmpR op_lt (pv 1) (pe_callB (k_lenA (K := K) rfl) (by rfl) T.b_len PySem.boot_len (pa_cons (pv 0) pa_nil)) (nomark _)) (pss_one (ps_ret (pe_ix (k_ix (K := K) rfl) (pv 0) (pv 1) (fun _ _ => rfl)))) pss_nil) (pss_one (ps_ret (pe_op (k_addA (K := K) rfl) pe_int (pv 1)))))), ?_⟩
    refine fn_bodyR (XE := E) (n := 2) (k := 0) (msb := []) (ms' := []) rfl ?_ h
    exact (ss_seq (ms1 := [.z, .z]) (ss_if (fun _ _ => rfl) (st_test (se_op (ok_cmp _) (se_var (i := 1) rfl) (se_fn fn_len (sa_cons (se_var (i := 0) rfl) sa_nil))))
   (ss_ret (fun _ _ => rfl) rfl (se_op ok_ix (se_var (i := 0) rfl) (se_var (i := 1) rfl)))
   ss_next)
  (ss_ret (fun _ _ => rfl) rfl (se_op ok_add (se_int _) (se_var (i := 1) rfl))))
end
section
variable {P : Program} {w : World} {K : PySem.W.Frag} {mg : Str → Option Value} {base : Heap} {f : Addr} {fd : FuncData}
theorem sc_fits_name : FnScope ["text", "letter"] ["text"] (defScope s_fits_name) := ⟨rfl, rfl, rfl, by decide +kernel, rfl, by decide +kernel, by decide +kernel⟩
theorem av_fits_name (F : FX K "fits_name" "fits_name" s_fits_name [] [] f fd) (T : Txt K mg)  : FnOk P w K mg base (L2.CX P w) 1 f fd ["text"] (spA K .z A_fits_name) := by
  refine F.ok sc_fits_name (fun vs H Q E h => ?_) (fun cdv A outer s H vs Q E hr h => ?_)
  · exact spA_len (fun _ z => aFunR_len z) h
  · refine ⟨_, ((pss_one (ps_ret (pe_and (pe_chain op_le op_le pe_int (pe_callB (k_lenA (K := K) rfl) (by rfl) T.b_len PySem.boot_len (pa_cons (pv 0) pa_nil)) pe_int) (pe_one (pe_callB (k_all (K := K) rfl rfl) (by rfl) T.b_all (by decide +kernel) (pa_cons (by exact (pe_lc (own := [("letter", 1)]) rfl sc_fits_name.nd (pi_str (pv 0)) (blkOk_by (own := [("letter", 1)]) (N := ["text", "letter"]) (sc := defScope s_fits_name) (by decide +kernel)) (fun _ _ _ _ _ => by exact (pg_name (i := 1) sc_fits_name.nd rfl (Or.inl rfl))) (fun _ _ _ _ _ => by exact pts_nil) (fun _ _ _ _ _ => by exact (pe_cmpR (k_inA (K := K) rfl (r65 hr)) (pv 1) (pe_gv rfl T.k_LETTERS) rfl)))) pa_nil))))))), ?_⟩
    refine fn_bodyR (XE := E) (n := 1) (k := 1) (msb := []) (ms' := []) rfl ?_ h
    exact (ss_ret (fun _ _ => rfl) rfl (se_andV (se_chain (ok_cmp _) (ok_cmp _) (se_int _) (se_fn fn_len (sa_cons (se_var (i := 0) rfl) sa_nil)) (se_int _)) (se_fn fn_all (sa_cons (se_frz (se_lc (p := (.s 1)) (si_str (se_var (i := 0) rfl)) sg_name (by decide) rfl st_yes (se_op ok_in (se_var (i := 1) rfl) (se_str _)))) sa_nil))))
end
section
variable {P : Program} {w : World} {K : PySem.W.Frag} {mg : Str → Option Value} {base : Heap} {f : Addr} {fd : FuncData}
theorem sc_Chart_check_arrows : FnScope ["self", "number", "arrow"] ["self"] (defScope s_Chart_check_arrows) := ⟨rfl, rfl, rfl, by decide +kernel, rfl, by decide +kernel, by decide +kernel⟩
theorem av_Chart_check_arrows (F : FX K "check_arrows" "Chart.check_arrows" s_Chart_check_arrows [] [] f fd) (T : Txt K mg) (c_BadArrow : Rai P w K mg base "BadArrow" (He.ga K "BadArrow") 1 (spI1 (He.ga K "BadArrow") "number")) (c_fits_name : Cal P w K mg base "fits_name" 1 (spA K .z A_fits_name)) : FnOk P w K mg base (L2.CX P w) 3 f fd ["self"] (spA K .z A_Chart_check_arrows) := by
  refine F.ok sc_Chart_check_arrows (fun vs H Q E h => ?_) (fun cdv A outer s H vs Q E hr h => ?_)
  · exact spA_len (fun _ z => aFun_len z) h
  · refine ⟨_, ((pss_one (ps_for (passes_of rfl) rfl (k_iEs (K := K) rfl (by rfl) T.b_enumerate (pa_cons (k_fld (K := K) rfl (pv 0)) pa_nil)) (k_gtup (K := K) (n := 2) rfl (by rfl) (pgs_cons (pg_name (i := 1) sc_Chart_check_arrows.nd rfl (Or.inl rfl)) (pgs_cons (pg_name (i := 2) sc_Chart_check_arrows.nd rfl (Or.inl rfl)) pgs_nil))) (pss_one (ps_if (PW.pt (pw_or (pt_cmpR op_lt (pe_callB (call_min2U rfl) (by rfl) T.b_min (by decide +kernel) (pa_cons (pe_ix (k_ix (K := K) rfl) (pv 2) pe_int (fun _ _ => rfl)) (pa_cons (pe_ix (k_ix (K := K) rfl) (pv 2) pe_int (fun _ _ => rfl)) pa_nil))) pe_int (nomark _)) (pw_or (pt_cmpR op_ge (pe_callB (call_max2U rfl) (by rfl) T.b_max (by decide +kernel) (pa_cons (pe_ix (k_ix (K := K) rfl) (pv 2) pe_int (fun _ _ => rfl)) (pa_cons (pe_ix (k_ix (K := K) rfl) (pv 2) pe_int (fun _ _ => rfl)) pa_nil))) (k_fld (K := K) rfl (pv 0)) (nomark _)) (pw_or1 (pt_not (k_tr (K := K) rfl (pe_f c_fits_name hr (by decide) rfl (passes_call (E := E) (takes_of rfl rfl rfl rfl) (fun _ _ _ _ h => h)) (pa_cons (pe_ix (k_ix (K := K) rfl) (pv 2) pe_int (fun _ _ => rfl)) pa_nil)))))))) (pss_one (ps_rs rfl (takes_of rfl rfl rfl rfl) (pmk_r c_BadArrow hr (by decide) rfl (pa_cons (pv 1) pa_nil)))) pss_nil))))), ?_⟩
    refine fn_body (XE := E) (n := 1) (k := 2) (msb := []) (ms' := [.z, .u, .u]) rfl ?_ h
    exact (ss_for (p := (.t [(.s 1), (.s 2)])) (msB := [.z, .u, .u]) (si_enum (sa_cons (se_fld (C := "Chart") T.o_Chart.cl T.n_Chart_arrows (se_var (i := 0) rfl)) sa_nil)) (sg_tup (sgs_cons sg_name (sgs_cons sg_name sgs_nil)) rfl) (by decide)
   (ss_if (fun _ _ => rfl) (st_or (st_test (se_op (ok_cmp _) (se_fn fn_min2 (sa_cons (se_op ok_ix (se_var (i := 2) rfl) (se_int _)) (sa_cons (se_op ok_ix (se_var (i := 2) rfl) (se_int _)) sa_nil))) (se_int _))) (st_or (st_test (se_op (ok_cmp _) (se_fn fn_max2 (sa_cons (se_op ok_ix (se_var (i := 2) rfl) (se_int _)) (sa_cons (se_op ok_ix (se_var (i := 2) rfl) (se_int _)) sa_nil))) (se_fld (C := "Chart") T.o_Chart.cl T.n_Chart_count (se_var (i := 0) rfl)))) (st_not (st_tr (se_call (fun _ => rfl) (sa_cons (se_op ok_ix (se_var (i := 2) rfl) (se_int _)) sa_nil))))))
   (ss_raise1 (sa_cons (se_var (i := 1) rfl) sa_nil))
   ss_next) rfl rfl)
end
section
variable {P : Program} {w : World} {K : PySem.W.Frag} {mg : Str → Option Value} {base : Heap} {f : Addr} {fd : FuncData}
theorem sc_distinct : FnScope ["places", "place"] ["places"] (defScope s_distinct) := ⟨rfl, rfl, rfl, by decide +kernel, rfl, by decide +kernel, by decide +kernel⟩
theorem av_distinct (F : FX K "distinct" "distinct" s_distinct [] [] f fd) (T : Txt K mg)  : FnOk P w K mg base (L2.CX P w) 1 f fd ["places"] (spA K .z A_distinct) := by
  refine F.ok sc_distinct (fun vs H Q E h => ?_) (fun cdv A outer s H vs Q E hr h => ?_)
  · exact spA_len (fun _ z => aFunR_len z) h
  · refine ⟨_, ((pss_one (ps_ret (pe_callTy (k_listA (K := K) rfl rfl) (by rfl) T.b_list (by decide +kernel) (pa_cons (by exact (pe_dc (own := [("place", 1)]) rfl sc_distinct.nd (pi_seq (K := K) rfl (pv 0)) (blkOk_by (own := [("place", 1)]) (N := ["places", "place"]) (sc := defScope s_distinct) (by decide +kernel)) (fun _ _ _ _ _ => by exact (pg_name (i := 1) sc_distinct.nd rfl (Or.inl rfl))) (fun _ _ _ _ _ => by exact pts_nil) (fun _ _ _ _ _ => by exact (pv 1)) (fun _ _ _ _ _ => by exact pe_bl))) pa_nil))))), ?_⟩
    refine fn_bodyR (XE := E) (n := 1) (k := 1) (msb := []) (ms' := []) rfl ?_ h
    exact (ss_ret (fun _ _ => rfl) rfl (se_fn (fn_list (.inl rfl)) (sa_cons (se_frz (se_dc (p := (.s 1)) (si_seq (se_var (i := 0) rfl)) sg_name (by decide) rfl st_yes (se_var (i := 1) rfl) (se_bl _))) sa_nil)))
end
section
variable {P : Program} {w : World} {K : PySem.W.Frag} {mg : Str → Option Value} {base : Heap} {f : Addr} {fd : FuncData}
theorem sc_spread : FnScope ["begun", "ways", "found", "at", "goal"] ["begun", "ways"] (defScope s_spread) := ⟨rfl, rfl, rfl, by decide +kernel, rfl, by decide +kernel, by decide +kernel⟩
theorem av_spread (F : FX K "spread" "spread" s_spread [] [] f fd) (T : Txt K mg)  : FnOk P w K mg base (L2.CX P w) 1 f fd ["begun", "ways"] (spA K .z A_spread) := by
  refine F.ok sc_spread (fun vs H Q E h => ?_) (fun cdv A outer s H vs Q E hr h => ?_)
  · exact spA_len (fun _ z => aFunR_len z) h
  · refine ⟨_, ((pss_cons (ps_set (i := 2) sc_spread.nd rfl (Or.inr rfl) (pe_lst (pa_cons (pv 0) pa_nil))) 
      (pss_cons (ps_set (i := 3) sc_spread.nd rfl (Or.inl rfl) pe_int) 
      (pss_cons (ps_while (passes_of rfl) (pt_cmpR op_lt (pv 3) (pe_callB (k_lenA (K := K) rfl) (by rfl) T.b_len PySem.boot_len (pa_cons (pv 2) pa_nil)) (nomark _)) (pss_cons (ps_expr (k_bm (K := K) rfl PySem.F.plainAttrs_list PySem.F.slot_list_extend PySem.F.type_list_extend mt_extR (pv 2) (pa_cons (by exact (pe_lc (own := [("goal", 4)]) rfl sc_spread.nd (pi_seq (K := K) rfl (pe_ix (k_ix (K := K) rfl) (pv 1) (pe_ix (k_ix (K := K) rfl) (pv 2) (pv 3) (fun _ _ => rfl)) (fun _ _ => rfl))) (blkOk_by (own := [("goal", 4)]) (N := ["begun", "ways", "found", "at", "goal"]) (sc := defScope s_spread) (by decide +kernel)) (fun _ _ _ _ _ => by exact (pg_name (i := 4) sc_spread.nd rfl (Or.inl rfl))) (fun _ _ _ _ _ => by exact (pts_one (pt_cmpR (k_ninA (K := K) rfl (r65 hr)) (pv 4) (pv 2) rfl))) (fun _ _ _ _ _ => by exact (pv 4)))) pa_nil))) (pss_one (ps_aug (i := 3) sc_spread.nd rfl (Or.inl rfl) pe_int ip_add)))) (pss_one (ps_ret (pv 2))))))), ?_⟩
    refine fn_bodyR (XE := E) (n := 2) (k := 3) (msb := []) (ms' := []) rfl ?_ h
    exact (ss_seq (ms1 := [.z, .z, .o (.l .z), .u, .u]) (ss_set (i := 2) (m := .o (.l .z)) (fun _ _ => rfl) (by decide) (se_lst (.inr rfl) (sa_cons (se_var (i := 0) rfl) sa_nil)))
  (ss_seq (ms1 := [.z, .z, .o (.l .z), .z, .u]) (ss_set (i := 3) (m := .z) (fun _ _ => rfl) (by decide) (se_int _))
  (ss_seq (ms1 := [.z, .z, .o (.l .z), .z, .u]) (ss_while (msB := [.z, .z, .o (.l .z), .z, .u]) (fun _ _ => rfl) (st_test (se_op (ok_cmp _) (se_var (i := 3) rfl) (se_br (se_fn fn_len (sa_cons (se_var (i := 2) rfl) sa_nil)))))
   (ss_seq (ms1 := [.z, .z, .o (.l .z), .z, .u]) (ss_expr (fun _ _ => rfl) (se_ext (.inl rfl) (se_frz (se_lc (p := (.s 4)) (si_seq (se_op ok_ix (se_var (i := 1) rfl) (se_ixO (.inl rfl) (se_var (i := 3) rfl)))) sg_name (by decide) rfl (st_test (se_br (se_op ok_nin (se_var (i := 4) rfl) (se_var (i := 2) rfl)))) (se_var (i := 4) rfl)))))
  (ss_aug (fun _ _ => rfl) rfl (ok_augI _) (se_int _))) rfl rfl)
  (ss_fz (i := 2) rfl (ss_ret (fun _ _ => rfl) rfl (se_var (i := 2) rfl))))))
end
section
variable {P : Program} {w : World} {K : PySem.W.Frag} {mg : Str → Option Value} {base : Heap} {f : Addr} {fd : FuncData}
theorem sc_Chart_check_places : FnScope ["self", "ahead", "arrow", "place", "back", "come", "go"] ["self"] (defScope s_Chart_check_places) := ⟨rfl, rfl, rfl, by decide +kernel, rfl, by decide +kernel, by decide +kernel⟩
theorem av_Chart_check_places (F : FX K "check_places" "Chart.check_places" s_Chart_check_places [] [] f fd) (T : Txt K mg) (c_distinct : Cal P w K mg base "distinct" 1 (spA K .z A_distinct)) (c_spread : Cal P w K mg base "spread" 1 (spA K .z A_spread)) (c_LoosePlace : Rai P w K mg base "LoosePlace" (He.ga K "LoosePlace") 1 (spI1 (He.ga K "LoosePlace") "place")) : FnOk P w K mg base (L2.CX P w) 3 f fd ["self"] (spA K .z A_Chart_check_places) := by
  refine F.ok sc_Chart_check_places (fun vs H Q E h => ?_) (fun cdv A outer s H vs Q E hr h => ?_)
  · exact spA_len (fun _ z => aFun_len z) h
  · refine ⟨_, ((pss_cons (ps_setLc (i := 1) (own := [("place", 3)]) rfl sc_Chart_check_places.nd rfl rfl (sw_true rfl rfl rfl (by decide +kernel)) (pi_range1 (by rfl) T.b_range (pa_cons (k_fld (K := K) rfl (pv 0)) pa_nil)) (blkOk_by (own := [("place", 3)]) (N := ["self", "ahead", "arrow", "place", "back", "come", "go"]) (sc := defScope s_Chart_check_places) (by decide +kernel)) (fun _ _ _ _ _ => by exact (pg_name (i := 3) sc_Chart_check_places.nd rfl (Or.inr rfl))) (fun _ _ _ _ _ => by exact pts_nil) (fun _ _ _ _ _ => by exact (pe_f c_distinct hr (by decide) rfl passL (pa_cons (by exact (pe_lc (own := [("arrow", 2)]) rfl sc_Chart_check_places.nd (pi_seq (K := K) rfl (k_fld (K := K) rfl (pv 0))) (blkOk_by (own := [("arrow", 2)]) (by first | rfl | kernel_rfl)) (fun _ _ _ _ _ => by exact (pg_name (i := 2) sc_Chart_check_places.nd rfl (Or.inl rfl))) (fun _ _ _ _ _ => by exact (pts_one (pt_cmpR (k_eq (K := K) rfl hr.units) (pe_ix (k_ix (K := K) rfl) (pv 2) pe_int (fun _ _ => rfl)) (pv 3) (nomark _)))) (fun _ _ _ _ _ => by exact (pe_ix (k_ix (K := K) rfl) (pv 2) pe_int (fun _ _ => rfl))))) pa_nil)))) 
      (pss_cons (ps_setLc (i := 4) (own := [("place", 3)]) rfl sc_Chart_check_places.nd rfl rfl (sw_true rfl rfl rfl (by decide +kernel)) (pi_range1 (by rfl) T.b_range (pa_cons (k_fld (K := K) rfl (pv 0)) pa_nil)) (blkOk_by (own := [("place", 3)]) (N := ["self", "ahead", "arrow", "place", "back", "come", "go"]) (sc := defScope s_Chart_check_places) (by decide +kernel)) (fun _ _ _ _ _ => by exact (pg_name (i := 3) sc_Chart_check_places.nd rfl (Or.inr rfl))) (fun _ _ _ _ _ => by exact pts_nil) (fun _ _ _ _ _ => by exact (pe_f c_distinct hr (by decide) rfl passL (pa_cons (by exact (pe_lc (own := [("arrow", 2)]) rfl sc_Chart_check_places.nd (pi_seq (K := K) rfl (k_fld (K := K) rfl (pv 0))) (blkOk_by (own := [("arrow", 2)]) (by first | rfl | kernel_rfl)) (fun _ _ _ _ _ => by exact (pg_name (i := 2) sc_Chart_check_places.nd rfl (Or.inl rfl))) (fun _ _ _ _ _ => by exact (pts_one (pt_cmpR (k_eq (K := K) rfl hr.units) (pe_ix (k_ix (K := K) rfl) (pv 2) pe_int (fun _ _ => rfl)) (pv 3) (nomark _)))) (fun _ _ _ _ _ => by exact (pe_ix (k_ix (K := K) rfl) (pv 2) pe_int (fun _ _ => rfl))))) pa_nil)))) 
      (pss_cons (ps_par (i := 5) (j := 6) (by rfl) sc_Chart_check_places.nd rfl rfl (by decide) rfl rfl (pa_cons (pe_f c_spread hr (by decide) rfl (passes_call (E := E) (takes_of rfl rfl rfl rfl) (fun _ _ _ _ h => h)) (pa_cons (k_fld (K := K) rfl (pv 0)) (pa_cons (pv 1) pa_nil))) (pa_cons (pe_f c_spread hr (by decide) rfl (passes_call (E := E) (takes_of rfl rfl rfl rfl) (fun _ _ _ _ h => h)) (pa_cons (k_fld (K := K) rfl (pv 0)) (pa_cons (pv 4) pa_nil))) pa_nil)) (by rfl)) (pss_one (ps_for (passes_of rfl) rfl (pi_range1 (by rfl) T.b_range (pa_cons (k_fld (K := K) rfl (pv 0)) pa_nil)) (pg_name (i := 3) sc_Chart_check_places.nd rfl (Or.inl rfl)) (pss_one (ps_if (PW.pt (pw_or (pt_cmpR (k_ninA (K := K) rfl (r65 hr)) (pv 3) (pv 5) rfl) (pw_or1 (pt_cmpR (k_ninA (K := K) rfl (r65 hr)) (pv 3) (pv 6) rfl)))) (pss_one (ps_rs rfl (takes_of rfl rfl rfl rfl) (pmk_r c_LoosePlace hr (by decide) rfl (pa_cons (pv 3) pa_nil)))) pss_nil)))))))), ?_⟩
    refine fn_body (XE := E) (n := 1) (k := 6) (msb := []) (ms' := [.z, .z, .u, .u, .z, .z, .z]) rfl ?_ h
    exact (ss_seq (ms1 := [.z, .z, .u, .u, .u, .u, .u]) (ss_set (i := 1) (m := .z) (fun _ _ => rfl) (by decide) (se_frz (se_lc (p := (.s 3)) (si_rng (sa_cons (se_fld (C := "Chart") T.o_Chart.cl T.n_Chart_count (se_var (i := 0) rfl)) sa_nil)) sg_name (by decide) rfl st_yes (se_call (fun _ => rfl) (sa_cons (se_frz (se_lc (p := (.s 2)) (si_seq (se_fld (C := "Chart") T.o_Chart.cl T.n_Chart_arrows (se_var (i := 0) rfl))) sg_name (by decide) rfl (st_test (se_op ok_eq (se_op ok_ix (se_var (i := 2) rfl) (se_int _)) (se_var (i := 3) rfl))) (se_op ok_ix (se_var (i := 2) rfl) (se_int _)))) sa_nil)))))
  (ss_seq (ms1 := [.z, .z, .u, .u, .z, .u, .u]) (ss_set (i := 4) (m := .z) (fun _ _ => rfl) (by decide) (se_frz (se_lc (p := (.s 3)) (si_rng (sa_cons (se_fld (C := "Chart") T.o_Chart.cl T.n_Chart_count (se_var (i := 0) rfl)) sa_nil)) sg_name (by decide) rfl st_yes (se_call (fun _ => rfl) (sa_cons (se_frz (se_lc (p := (.s 2)) (si_seq (se_fld (C := "Chart") T.o_Chart.cl T.n_Chart_arrows (se_var (i := 0) rfl))) sg_name (by decide) rfl (st_test (se_op ok_eq (se_op ok_ix (se_var (i := 2) rfl) (se_int _)) (se_var (i := 3) rfl))) (se_op ok_ix (se_var (i := 2) rfl) (se_int _)))) sa_nil)))))
  (ss_seq (ms1 := [.z, .z, .u, .u, .z, .z, .z]) (ss_par (i := 5) (j := 6) (m := .z) (m2 := .z) (fun _ _ => rfl) (by decide) (by decide) (se_call (fun _ => rfl) (sa_cons (se_fld (C := "Chart") T.o_Chart.cl T.n_Chart_start (se_var (i := 0) rfl)) (sa_cons (se_var (i := 1) rfl) sa_nil))) (se_call (fun _ => rfl) (sa_cons (se_fld (C := "Chart") T.o_Chart.cl T.n_Chart_end (se_var (i := 0) rfl)) (sa_cons (se_var (i := 4) rfl) sa_nil))))
  (ss_for (p := (.s 3)) (msB := [.z, .z, .u, .u, .z, .z, .z]) (si_rng (sa_cons (se_fld (C := "Chart") T.o_Chart.cl T.n_Chart_count (se_var (i := 0) rfl)) sa_nil)) sg_name (by decide)
   (ss_if (fun _ _ => rfl) (st_or (st_test (se_op ok_nin (se_var (i := 3) rfl) (se_var (i := 5) rfl))) (st_test (se_op ok_nin (se_var (i := 3) rfl) (se_var (i := 6) rfl))))
   (ss_raise1 (sa_cons (se_var (i := 3) rfl) sa_nil))
   ss_next) rfl rfl))))
end
section
variable {P : Program} {w : World} {K : PySem.W.Frag} {mg : Str → Option Value} {base : Heap} {f : Addr} {fd : FuncData}
theorem sc_Chart_init : FnScope ["self", "count", "arrows", "start", "end", "place", "arrow"] ["self", "count", "arrows", "start", "end"] (defScope s_Chart_init) := ⟨rfl, rfl, rfl, by decide +kernel, rfl, by decide +kernel, by decide +kernel⟩
theorem av_Chart_init (F : FX K "__init__" "Chart.__init__" s_Chart_init [] [] f fd) (T : Txt K mg) (c_Chart_check_arrows : Met P w K mg base (He.ga K "Chart") "check_arrows" 3 (spA K .z A_Chart_check_arrows)) (c_Chart_check_places : Met P w K mg base (He.ga K "Chart") "check_places" 3 (spA K .z A_Chart_check_places)) (c_NoPlace : Rai P w K mg base "NoPlace" (He.ga K "NoPlace") 1 (spI1 (He.ga K "NoPlace") "place")) : FnOk P w K mg base (L2.CX P w) 4 f fd ["self", "count", "arrows", "start", "end"] (spIo K (.i []) .z A_Chart_init) := by
  refine F.ok sc_Chart_init (fun vs H Q E h => ?_) (fun cdv A outer s H vs Q E hr h => ?_)
  · exact spIo_len (fun _ z => aFunIo_len z) h
  · refine ⟨_, ((pss_cons (ps_if (PW.pt (pw_or (pt_cmpR op_gt (pv 1) (pe_gv rfl T.k_MOST_PLACES) (nomark _)) (pw_or1 (pt_cmpR op_gt (pe_callB (k_lenA (K := K) rfl) (by rfl) T.b_len PySem.boot_len (pa_cons (pv 2) pa_nil)) (pe_gv rfl T.k_MOST_ARROWS) (nomark _))))) (pss_one (ps_rs rfl (takes_of rfl rfl rfl rfl) (pmk_n T.r_TooGreat rfl))) pss_nil) 
      (pss_cons (ps_for (passes_of rfl) rfl (pi_seq (K := K) rfl (pe_tup (pa_cons (pv 3) (pa_cons (pv 4) pa_nil)))) (pg_name (i := 5) sc_Chart_init.nd rfl (Or.inl rfl)) (pss_one (ps_if (PW.pt (pw_or (pt_cmpR op_lt (pv 5) pe_int (nomark _)) (pw_or1 (pt_cmpR op_ge (pv 5) (pv 1) (nomark _))))) (pss_one (ps_rs rfl (takes_of rfl rfl rfl rfl) (pmk_r c_NoPlace hr (by decide) rfl (pa_cons (pv 5) pa_nil)))) pss_nil))) 
      (pss_cons (k_put (K := K) rfl (pv 0) (pv 1)) 
      (pss_cons (k_put (K := K) rfl (pv 0) (pv 3)) 
      (pss_cons (k_put (K := K) rfl (pv 0) (pv 4)) 
      (pss_cons (k_put (K := K) rfl (pv 0) (pe_callTy (k_tuple (K := K) rfl) (by rfl) T.b_tuple (by decide +kernel) (pa_cons (by exact (pe_lc (own := [("arrow", 6)]) rfl sc_Chart_init.nd (pi_seq (K := K) rfl (pv 2)) (blkOk_by (own := [("arrow", 6)]) (N := ["self", "count", "arrows", "start", "end", "place", "arrow"]) (sc := defScope s_Chart_init) (by decide +kernel)) (fun _ _ _ _ _ => by exact (pg_name (i := 6) sc_Chart_init.nd rfl (Or.inl rfl))) (fun _ _ _ _ _ => by exact pts_nil) (fun _ _ _ _ _ => by exact (pe_callTy (k_tuple (K := K) rfl) (by rfl) T.b_tuple (by decide +kernel) (pa_cons (pv 6) pa_nil))))) pa_nil))) 
      (pss_cons (ps_expr (pe_m0 c_Chart_check_arrows hr (by decide) (passes_call (E := E) (takes_of rfl rfl rfl rfl) (fun _ _ _ _ h => h)) (pv 0))) (pss_one (ps_expr (pe_m0 c_Chart_check_places hr (by decide) (passes_call (E := E) (takes_of rfl rfl rfl rfl) (fun _ _ _ _ h => h)) (pv 0)))))))))))), ?_⟩
    refine fn_bodyIo (XE := E) (n := 4) (k := 2) (msb := [])  rfl ?_ h
    exact (ss_drop (ns := [.p (.i []), .u, .u, .u, .u, .u, .u]) rfl (ss_seq (ms1 := [.p (.i []), .z, .z, .z, .z, .u, .u]) (ss_if (fun _ _ => rfl) (st_or (st_test (se_op (ok_cmp _) (se_var (i := 1) rfl) (se_int _))) (st_test (se_op (ok_cmp _) (se_fn fn_len (sa_cons (se_var (i := 2) rfl) sa_nil)) (se_int _))))
   ss_raise0
   ss_next)
  (ss_seq (ms1 := [.p (.i []), .z, .z, .z, .z, .u, .u]) (ss_for (p := (.s 5)) (msB := [.p (.i []), .z, .z, .z, .z, .u, .u]) (si_seq (se_tup (sa_cons (se_var (i := 3) rfl) (sa_cons (se_var (i := 4) rfl) sa_nil)))) sg_name (by decide)
   (ss_if (fun _ _ => rfl) (st_or (st_test (se_op (ok_cmp _) (se_var (i := 5) rfl) (se_int _))) (st_test (se_op (ok_cmp _) (se_var (i := 5) rfl) (se_var (i := 1) rfl))))
   (ss_raise1 (sa_cons (se_var (i := 5) rfl) sa_nil))
   ss_next) rfl rfl)
  (ss_seq (ms1 := [.p (.i []), .z, .z, .z, .z, .u, .u]) (ss_fldP (C := "Chart") T.o_Chart.cl T.n_Chart_count (by decide) (fun _ _ => rfl) (se_var (i := 1) rfl) (sp_var (.inr rfl)))
  (ss_seq (ms1 := [.p (.i []), .z, .z, .z, .z, .u, .u]) (ss_fldP (C := "Chart") T.o_Chart.cl T.n_Chart_start (by decide) (fun _ _ => rfl) (se_var (i := 3) rfl) (sp_var (.inr rfl)))
  (ss_seq (ms1 := [.p (.i []), .z, .z, .z, .z, .u, .u]) (ss_fldP (C := "Chart") T.o_Chart.cl T.n_Chart_end (by decide) (fun _ _ => rfl) (se_var (i := 4) rfl) (sp_var (.inr rfl)))
  (ss_seq (ms1 := [.p (.i []), .z, .z, .z, .z, .u, .u]) (ss_fldP (C := "Chart") T.o_Chart.cl T.n_Chart_arrows (by decide) (fun _ _ => rfl) (se_fn fn_tuple (sa_cons (se_frz (se_lc (p := (.s 6)) (si_seq (se_var (i := 2) rfl)) sg_name (by decide) rfl st_yes (se_fn fn_tuple (sa_cons (se_var (i := 6) rfl) sa_nil)))) sa_nil)) (sp_var (.inr rfl)))
  (ss_seq (ms1 := [.p (.i []), .z, .z, .z, .z, .u, .u]) (ss_expr (fun _ _ => rfl) (se_br (se_meth (C := "Chart") (fun _ => rfl) (se_var (i := 0) rfl) sa_nil)))
  (ss_expr (fun _ _ => rfl) (se_br (se_meth (C := "Chart") (fun _ => rfl) (se_var (i := 0) rfl) sa_nil)))))))))))
end
section
variable {P : Program} {w : World} {K : PySem.W.Frag} {mg : Str → Option Value} {base : Heap} {f : Addr} {fd : FuncData}
theorem sc_check_thread_names : FnScope ["threads", "row", "name"] ["threads"] (defScope s_check_thread_names) := ⟨rfl, rfl, rfl, by decide +kernel, rfl, by decide +kernel, by decide +kernel⟩
theorem av_check_thread_names (F : FX K "check_thread_names" "check_thread_names" s_check_thread_names [] [] f fd) (T : Txt K mg) (c_fits_name : Cal P w K mg base "fits_name" 1 (spA K .z A_fits_name)) (c_BadName : Rai P w K mg base "BadName" (He.ga K "BadName") 1 (spI1 (He.ga K "BadName") "name")) : FnOk P w K mg base (L2.CX P w) 3 f fd ["threads"] (spA K .z A_check_thread_names) := by
  refine F.ok sc_check_thread_names (fun vs H Q E h => ?_) (fun cdv A outer s H vs Q E hr h => ?_)
  · exact spA_len (fun _ z => aFun_len z) h
  · refine ⟨_, ((pss_one (ps_for (passes_of rfl) rfl (pi_seq (K := K) rfl (pv 0)) (pg_name (i := 1) sc_check_thread_names.nd rfl (Or.inl rfl)) (pss_one (ps_for (passes_of rfl) rfl (pi_seq (K := K) rfl (pv 1)) (pg_name (i := 2) sc_check_thread_names.nd rfl (Or.inl rfl)) (pss_one (ps_if (pt_not (k_tr (K := K) rfl (pe_f c_fits_name hr (by decide) rfl (passes_call (E := E) (takes_of rfl rfl rfl rfl) (fun _ _ _ _ h => h)) (pa_cons (pv 2) pa_nil)))) (pss_one (ps_rs rfl (takes_of rfl rfl rfl rfl) (pmk_r c_BadName hr (by decide) rfl (pa_cons (pv 2) pa_nil)))) pss_nil))))))), ?_⟩
    refine fn_body (XE := E) (n := 1) (k := 2) (msb := []) (ms' := [.z, .u, .u]) rfl ?_ h
    exact (ss_for (p := (.s 1)) (msB := [.z, .u, .u]) (si_seq (se_var (i := 0) rfl)) sg_name (by decide)
   (ss_for (p := (.s 2)) (msB := [.z, .z, .u]) (si_seq (se_var (i := 1) rfl)) sg_name (by decide)
   (ss_if (fun _ _ => rfl) (st_not (st_tr (se_call (fun _ => rfl) (sa_cons (se_var (i := 2) rfl) sa_nil))))
   (ss_raise1 (sa_cons (se_var (i := 2) rfl) sa_nil))
   ss_next) rfl rfl) rfl rfl)
end
section
variable {P : Program} {w : World} {K : PySem.W.Frag} {mg : Str → Option Value} {base : Heap} {f : Addr} {fd : FuncData}
theorem sc_weaving_chart : FnScope ["threads", "spots", "row", "spot", "done", "numbers", "number", "arrows", "at", "later"] ["threads"] (defScope s_weaving_chart) := ⟨rfl, rfl, rfl, by decide +kernel, rfl, by decide +kernel, by decide +kernel⟩
theorem av_weaving_chart (F : FX K "weaving_chart" "weaving_chart" s_weaving_chart [] [] f fd) (T : Txt K mg) (c_check_thread_names : Cal P w K mg base "check_thread_names" 3 (spA K .z A_check_thread_names)) (c_Chart_init : Mak P w K mg base "Chart" (He.ga K "Chart") 4 (spIo K (.i []) .z A_Chart_init)) : FnOk P w K mg base (L2.CX P w) 6 f fd ["threads"] (spA K .z A_weaving_chart) := by
  refine F.ok sc_weaving_chart (fun vs H Q E h => ?_) (fun cdv A outer s H vs Q E hr h => ?_)
  · exact spA_len (aTwo_len (fun _ z => aFunR_len z) fun _ z => aFunR_len z) h
  · rcases spA_two h with h | h
    · refine ⟨_, ((pss_cons (ps_expr (pe_f c_check_thread_names hr (by decide) rfl (passes_call (E := E) (takes_of rfl rfl rfl rfl) (fun _ _ _ _ h => h)) (pa_cons (pv 0) pa_nil))) 
        (pss_cons (ps_set (i := 1) sc_weaving_chart.nd rfl (Or.inl rfl) (pe_lst (pa_cons (pe_tup pa_nil) pa_nil))) 
        (pss_cons (ps_for (passes_of rfl) rfl (pi_seq (K := K) rfl (pv 0)) (pg_name (i := 2) sc_weaving_chart.nd rfl (Or.inr rfl)) (pss_cons (ps_if (pt_cmpR op_gt (pe_op (k_mulA (K := K) rfl) (pe_callB (k_lenA (K := K) rfl) (by rfl) T.b_len PySem.boot_len (pa_cons (pv 1) pa_nil)) (pe_op (k_addA (K := K) rfl) (pe_callB (k_lenA (K := K) rfl) (by rfl) T.b_len PySem.boot_len (pa_cons (pv 2) pa_nil)) pe_int)) (pe_gv rfl T.k_MOST_PLACES) (nomark _)) (pss_one (ps_rs rfl (takes_of rfl rfl rfl rfl) (pmk_n T.r_TooGreat rfl))) pss_nil) (pss_one (ps_setLc2 (i := 1) (own := [("spot", 3), ("done", 4)]) (vs1 := [4]) rfl sc_weaving_chart.nd rfl rfl (sw_true rfl rfl rfl (by decide +kernel)) (pi_seq (K := K) rfl (pv 1)) (blkOk_by (own := [("spot", 3), ("done", 4)]) (N := ["threads", "spots", "row", "spot", "done", "numbers", "number", "arrows", "at", "later"]) (sc := defScope s_weaving_chart) (by decide +kernel)) (by decide) (fun _ _ _ _ _ => by exact (pg_name (i := 3) sc_weaving_chart.nd rfl (Or.inl rfl))) (fun _ _ _ _ _ => by exact pts_nil) (fun _ _ _ _ _ => by exact (pi_range1 (by rfl) T.b_range (pa_cons (pe_op (k_addA (K := K) rfl) (pe_callB (k_lenA (K := K) rfl) (by rfl) T.b_len PySem.boot_len (pa_cons (pv 2) pa_nil)) pe_int) pa_nil))) (fun _ _ _ _ _ => by exact (pg_name (i := 4) sc_weaving_chart.nd rfl (Or.inl rfl))) (fun _ _ _ _ _ => by exact pts_nil) (fun _ _ _ _ _ => by exact (pe_op (k_addA (K := K) rfl) (pv 3) (pe_tup (pa_cons (pv 4) pa_nil)))))))) 
        (pss_cons (ps_core (i := 5) sc_weaving_chart.nd rfl rfl rfl rfl (by decide +kernel) (by exact (core_dcTEk (K := K) rfl (own := [("number", 6), ("spot", 3)]) (hu_of hr) rfl sc_weaving_chart.nd (k_iEs (K := K) rfl (by rfl) T.b_enumerate (pa_cons (pv 1) pa_nil)) (blkOk_by (own := [("number", 6), ("spot", 3)]) (N := ["threads", "spots", "row", "spot", "done", "numbers", "number", "arrows", "at", "later"]) (sc := defScope s_weaving_chart) (by decide +kernel)) (fun _ _ _ _ _ => by exact (k_gtup (K := K) (n := 2) rfl (by rfl) (pgs_cons (pg_name (i := 6) sc_weaving_chart.nd rfl (Or.inl rfl)) (pgs_cons (pg_name (i := 3) sc_weaving_chart.nd rfl (Or.inl rfl)) pgs_nil)))) (fun _ _ _ _ _ => by exact pts_nil) (fun _ _ _ _ _ => by exact (pv 3)) (fun _ _ _ _ _ => by exact (pv 6))))) 
        (pss_cons (ps_set (i := 7) sc_weaving_chart.nd rfl (Or.inl rfl) (pe_lst pa_nil)) 
        (pss_cons (ps_for (passes_of rfl) rfl (pi_seq (K := K) rfl (pv 1)) (pg_name (i := 3) sc_weaving_chart.nd rfl (Or.inl rfl)) (pss_one (ps_for (passes_of rfl) rfl (pi_range1 (by rfl) T.b_range (pa_cons (pe_callB (k_lenA (K := K) rfl) (by rfl) T.b_len PySem.boot_len (pa_cons (pv 0) pa_nil)) pa_nil)) (pg_name (i := 8) sc_weaving_chart.nd rfl (Or.inl rfl)) (pss_one (ps_if (pt_cmpR op_lt (pe_ix (k_ix (K := K) rfl) (pv 3) (pv 8) (fun _ _ => rfl)) (pe_callB (k_lenA (K := K) rfl) (by rfl) T.b_len PySem.boot_len (pa_cons (pe_ix (k_ix (K := K) rfl) (pv 0) (pv 8) (fun _ _ => rfl)) pa_nil)) (nomark _)) (pss_cons (ps_set (i := 9) sc_weaving_chart.nd rfl (Or.inl rfl) (pe_op (k_addA (K := K) rfl) (pe_op (k_addA (K := K) rfl) (pe_slice (k_sl (K := K) rfl) (pv 3) po_none (po_some (pv 8))) (pe_tup (pa_cons (pe_op (k_addA (K := K) rfl) (pe_ix (k_ix (K := K) rfl) (pv 3) (pv 8) (fun _ _ => rfl)) pe_int) pa_nil))) (pe_slice (k_sl (K := K) rfl) (pv 3) (po_some (pe_op (k_addA (K := K) rfl) (pv 8) pe_int)) po_none))) (pss_one (ps_expr (k_bm (K := K) rfl PySem.F.plainAttrs_list PySem.F.slot_list_append PySem.F.type_list_append mt_append (pv 7) (pa_cons (pe_tup (pa_cons (pe_dget (hu_of hr) (pv 5) (pv 3) (fun _ _ => rfl)) (pa_cons (pe_dget (hu_of hr) (pv 5) (pv 9) (fun _ _ => rfl)) (pa_cons (pe_ix (k_ix (K := K) rfl) (pe_ix (k_ix (K := K) rfl) (pv 0) (pv 8) (fun _ _ => rfl)) (pe_ix (k_ix (K := K) rfl) (pv 3) (pv 8) (fun _ _ => rfl)) (fun _ _ => rfl)) pa_nil)))) pa_nil))))) pss_nil))))) (pss_one (ps_ret (pe_k c_Chart_init hr (by decide) rfl (passes_call (E := E) (takes_of rfl rfl rfl rfl) (fun _ _ _ _ h => h)) (pa_cons (pe_callB (k_lenA (K := K) rfl) (by rfl) T.b_len PySem.boot_len (pa_cons (pv 1) pa_nil)) (pa_cons (pv 7) (pa_cons pe_int (pa_cons (pe_op op_sub (pe_callB (k_lenA (K := K) rfl) (by rfl) T.b_len PySem.boot_len (pa_cons (pv 1) pa_nil)) pe_int) pa_nil)))))))))))))), ?_⟩
      refine fn_bodyR (XE := E) (n := 1) (k := 9) (msb := []) (ms' := []) rfl ?_ h
      exact (ss_seq (ms1 := [.z, .u, .u, .u, .u, .u, .u, .u, .u, .u]) (ss_expr (fun _ _ => rfl) (se_call (fun _ => rfl) (sa_cons (se_var (i := 0) rfl) sa_nil)))
    (ss_seq (ms1 := [.z, .z, .u, .u, .u, .u, .u, .u, .u, .u]) (ss_set (i := 1) (m := .z) (fun _ _ => rfl) (by decide) (se_lst (.inl rfl) (sa_cons (se_tup sa_nil) sa_nil)))
    (ss_seq (ms1 := [.z, .z, .u, .u, .u, .u, .u, .u, .u, .u]) (ss_for (p := (.s 2)) (msB := [.z, .z, .u, .u, .u, .u, .u, .u, .u, .u]) (si_seq (se_var (i := 0) rfl)) sg_name (by decide)
     (ss_seq (ms1 := [.z, .z, .z, .u, .u, .u, .u, .u, .u, .u]) (ss_if (fun _ _ => rfl) (st_test (se_op (ok_cmp _) (se_op ok_mul (se_fn fn_len (sa_cons (se_var (i := 1) rfl) sa_nil)) (se_op ok_add (se_fn fn_len (sa_cons (se_var (i := 2) rfl) sa_nil)) (se_int _))) (se_int _)))
     ss_raise0
     ss_next)
    (ss_set (i := 1) (m := .z) (fun _ _ => rfl) (by decide) (se_frz (se_lc2 (p := (.s 3)) (p1 := (.s 4)) (si_seq (se_var (i := 1) rfl)) sg_name (by decide) rfl st_yes (si_rng (sa_cons (se_op ok_add (se_fn fn_len (sa_cons (se_var (i := 2) rfl) sa_nil)) (se_int _)) sa_nil)) sg_name (by decide) (by decide) st_yes (se_op ok_add (se_var (i := 3) rfl) (se_tup (sa_cons (se_var (i := 4) rfl) sa_nil))))))) rfl rfl)
    (ss_seq (ms1 := [.z, .z, .u, .u, .u, .u, .u, .u, .u, .u]) (ss_dcE (i0 := 5) (fun _ _ => rfl) (by decide) (p := (.t [(.s 6), (.s 3)])) (si_enum (sa_cons (se_var (i := 1) rfl) sa_nil)) (sg_tup (sgs_cons sg_name (sgs_cons sg_name sgs_nil)) rfl) (by decide) rfl st_yes (se_var (i := 3) rfl) (se_var (i := 6) rfl))
    (ss_seq (ms1 := [.z, .z, .u, .u, .u, .u, .u, .o (.l .z), .u, .u]) (ss_set (i := 7) (m := .o (.l .z)) (fun _ _ => rfl) (by decide) (se_lst (.inr rfl) sa_nil))
    (ss_seq (ms1 := [.z, .z, .u, .u, .u, .u, .u, .o (.l .z), .u, .u]) (ss_for (p := (.s 3)) (msB := [.z, .z, .u, .u, .u, .u, .u, .o (.l .z), .u, .u]) (si_seq (se_var (i := 1) rfl)) sg_name (by decide)
     (ss_for (p := (.s 8)) (msB := [.z, .z, .u, .z, .u, .u, .u, .o (.l .z), .u, .u]) (si_rng (sa_cons (se_fn fn_len (sa_cons (se_var (i := 0) rfl) sa_nil)) sa_nil)) sg_name (by decide)
     (ss_no (ms' := [.z, .z, .u, .z, .u, .u, .u, .o (.l .z), .z, .u])) rfl rfl) rfl rfl)
    (ss_fz (i := 7) rfl (ss_ret (fun _ _ => rfl) rfl (se_frz (se_make (fun _ => rfl) (sa_cons (se_fn fn_len (sa_cons (se_var (i := 1) rfl) sa_nil)) (sa_cons (se_var (i := 7) rfl) (sa_cons (se_int _) (sa_cons (se_op ok_sub (se_fn fn_len (sa_cons (se_var (i := 1) rfl) sa_nil)) (se_int _)) sa_nil))))))))))))))
    · refine ⟨_, ((pss_cons (ps_expr (pe_f c_check_thread_names hr (by decide) rfl (passes_call (E := E) (takes_of rfl rfl rfl rfl) (fun _ _ _ _ h => h)) (pa_cons (pv 0) pa_nil))) 
        (pss_cons (ps_set (i := 1) sc_weaving_chart.nd rfl (Or.inl rfl) (pe_lst (pa_cons (pe_tup pa_nil) pa_nil))) 
        (pss_cons (ps_for (passes_of rfl) rfl (pi_seq (K := K) rfl (pv 0)) (pg_name (i := 2) sc_weaving_chart.nd rfl (Or.inr rfl)) (pss_cons (ps_if (pt_cmpR op_gt (pe_op (k_mulA (K := K) rfl) (pe_callB (k_lenA (K := K) rfl) (by rfl) T.b_len PySem.boot_len (pa_cons (pv 1) pa_nil)) (pe_op (k_addA (K := K) rfl) (pe_callB (k_lenA (K := K) rfl) (by rfl) T.b_len PySem.boot_len (pa_cons (pv 2) pa_nil)) pe_int)) (pe_gv rfl T.k_MOST_PLACES) (nomark _)) (pss_one (ps_rs rfl (takes_of rfl rfl rfl rfl) (pmk_n T.r_TooGreat rfl))) pss_nil) (pss_one (ps_setLc2 (i := 1) (own := [("spot", 3), ("done", 4)]) (vs1 := [4]) rfl sc_weaving_chart.nd rfl rfl (sw_true rfl rfl rfl (by decide +kernel)) (pi_seq (K := K) rfl (pv 1)) (blkOk_by (own := [("spot", 3), ("done", 4)]) (N := ["threads", "spots", "row", "spot", "done", "numbers", "number", "arrows", "at", "later"]) (sc := defScope s_weaving_chart) (by decide +kernel)) (by decide) (fun _ _ _ _ _ => by exact (pg_name (i := 3) sc_weaving_chart.nd rfl (Or.inl rfl))) (fun _ _ _ _ _ => by exact pts_nil) (fun _ _ _ _ _ => by exact (pi_range1 (by rfl) T.b_range (pa_cons (pe_op (k_addA (K := K) rfl) (pe_callB (k_lenA (K := K) rfl) (by rfl) T.b_len PySem.boot_len (pa_cons (pv 2) pa_nil)) pe_int) pa_nil))) (fun _ _ _ _ _ => by exact (pg_name (i := 4) sc_weaving_chart.nd rfl (Or.inl rfl))) (fun _ _ _ _ _ => by exact pts_nil) (fun _ _ _ _ _ => by exact (pe_op (k_addA (K := K) rfl) (pv 3) (pe_tup (pa_cons (pv 4) pa_nil)))))))) 
        (pss_cons (ps_core (i := 5) sc_weaving_chart.nd rfl rfl rfl rfl (by decide +kernel) (by exact (core_dcT (own := [("number", 6), ("spot", 3)]) (hu_of hr) rfl sc_weaving_chart.nd (k_iEs (K := K) rfl (by rfl) T.b_enumerate (pa_cons (pv 1) pa_nil)) (blkOk_by (own := [("number", 6), ("spot", 3)]) (N := ["threads", "spots", "row", "spot", "done", "numbers", "number", "arrows", "at", "later"]) (sc := defScope s_weaving_chart) (by decide +kernel)) (fun _ _ _ _ _ => by exact (k_gtup (K := K) (n := 2) rfl (by rfl) (pgs_cons (pg_name (i := 6) sc_weaving_chart.nd rfl (Or.inl rfl)) (pgs_cons (pg_name (i := 3) sc_weaving_chart.nd rfl (Or.inl rfl)) pgs_nil)))) (fun _ _ _ _ _ => by exact pts_nil) (fun _ _ _ _ _ => by exact (pv 3)) (fun _ _ _ _ _ => by exact (pv 6))))) 
        (pss_cons (ps_set (i := 7) sc_weaving_chart.nd rfl (Or.inl rfl) (pe_lst pa_nil)) 
        (pss_cons (ps_for (passes_of rfl) rfl (pi_seq (K := K) rfl (pv 1)) (pg_name (i := 3) sc_weaving_chart.nd rfl (Or.inl rfl)) (pss_one (ps_for (passes_of rfl) rfl (pi_range1 (by rfl) T.b_range (pa_cons (pe_callB (k_lenA (K := K) rfl) (by rfl) T.b_len PySem.boot_len (pa_cons (pv 0) pa_nil)) pa_nil)) (pg_name (i := 8) sc_weaving_chart.nd rfl (Or.inl rfl)) (pss_one (ps_if (pt_cmpR op_lt (pe_ix (k_ix (K := K) rfl) (pv 3) (pv 8) (fun _ _ => rfl)) (pe_callB (k_lenA (K := K) rfl) (by rfl) T.b_len PySem.boot_len (pa_cons (pe_ix (k_ix (K := K) rfl) (pv 0) (pv 8) (fun _ _ => rfl)) pa_nil)) (nomark _)) (pss_cons (ps_set (i := 9) sc_weaving_chart.nd rfl (Or.inl rfl) (pe_op (k_addA (K := K) rfl) (pe_op (k_addA (K := K) rfl) (pe_slice (k_sl (K := K) rfl) (pv 3) po_none (po_some (pv 8))) (pe_tup (pa_cons (pe_op (k_addA (K := K) rfl) (pe_ix (k_ix (K := K) rfl) (pv 3) (pv 8) (fun _ _ => rfl)) pe_int) pa_nil))) (pe_slice (k_sl (K := K) rfl) (pv 3) (po_some (pe_op (k_addA (K := K) rfl) (pv 8) pe_int)) po_none))) (pss_one (ps_expr (k_bm (K := K) rfl PySem.F.plainAttrs_list PySem.F.slot_list_append PySem.F.type_list_append mt_append (pv 7) (pa_cons (pe_tup (pa_cons (pe_dget (hu_of hr) (pv 5) (pv 3) (fun _ _ => rfl)) (pa_cons (pe_dget (hu_of hr) (pv 5) (pv 9) (fun _ _ => rfl)) (pa_cons (pe_ix (k_ix (K := K) rfl) (pe_ix (k_ix (K := K) rfl) (pv 0) (pv 8) (fun _ _ => rfl)) (pe_ix (k_ix (K := K) rfl) (pv 3) (pv 8) (fun _ _ => rfl)) (fun _ _ => rfl)) pa_nil)))) pa_nil))))) pss_nil))))) (pss_one (ps_ret (pe_k c_Chart_init hr (by decide) rfl (passes_call (E := E) (takes_of rfl rfl rfl rfl) (fun _ _ _ _ h => h)) (pa_cons (pe_callB (k_lenA (K := K) rfl) (by rfl) T.b_len PySem.boot_len (pa_cons (pv 1) pa_nil)) (pa_cons (pv 7) (pa_cons pe_int (pa_cons (pe_op op_sub (pe_callB (k_lenA (K := K) rfl) (by rfl) T.b_len PySem.boot_len (pa_cons (pv 1) pa_nil)) pe_int) pa_nil)))))))))))))), ?_⟩
      refine fn_bodyR (XE := E) (n := 1) (k := 9) (msb := []) (ms' := []) rfl ?_ h
      exact (ss_seq (ms1 := [.z, .u, .u, .u, .u, .u, .u, .u, .u, .u]) (ss_expr (fun _ _ => rfl) (se_call (fun _ => rfl) (sa_cons (se_var (i := 0) rfl) sa_nil)))
    (ss_seq (ms1 := [.z, .z, .u, .u, .u, .u, .u, .u, .u, .u]) (ss_set (i := 1) (m := .z) (fun _ _ => rfl) (by decide) (se_lst (.inl rfl) (sa_cons (se_tup sa_nil) sa_nil)))
    (ss_seq (ms1 := [.z, .z, .u, .u, .u, .u, .u, .u, .u, .u]) (ss_for (p := (.s 2)) (msB := [.z, .z, .u, .u, .u, .u, .u, .u, .u, .u]) (si_seq (se_var (i := 0) rfl)) sg_name (by decide)
     (ss_seq (ms1 := [.z, .z, .z, .u, .u, .u, .u, .u, .u, .u]) (ss_if (fun _ _ => rfl) (st_test (se_op (ok_cmp _) (se_op ok_mul (se_fn fn_len (sa_cons (se_var (i := 1) rfl) sa_nil)) (se_op ok_add (se_fn fn_len (sa_cons (se_var (i := 2) rfl) sa_nil)) (se_int _))) (se_int _)))
     ss_raise0
     ss_next)
    (ss_set (i := 1) (m := .z) (fun _ _ => rfl) (by decide) (se_frz (se_lc2 (p := (.s 3)) (p1 := (.s 4)) (si_seq (se_var (i := 1) rfl)) sg_name (by decide) rfl st_yes (si_rng (sa_cons (se_op ok_add (se_fn fn_len (sa_cons (se_var (i := 2) rfl) sa_nil)) (se_int _)) sa_nil)) sg_name (by decide) (by decide) st_yes (se_op ok_add (se_var (i := 3) rfl) (se_tup (sa_cons (se_var (i := 4) rfl) sa_nil))))))) rfl rfl)
    (ss_seq (ms1 := [.z, .z, .u, .u, .u, .z, .u, .u, .u, .u]) (ss_set (i := 5) (m := .z) (fun _ _ => rfl) (by decide) (se_frz (se_dcT (p := (.t [(.s 6), (.s 3)])) (si_enum (sa_cons (se_var (i := 1) rfl) sa_nil)) (sg_tup (sgs_cons sg_name (sgs_cons sg_name sgs_nil)) rfl) (by decide) rfl st_yes (se_var (i := 3) rfl) (se_var (i := 6) rfl))))
    (ss_seq (ms1 := [.z, .z, .u, .u, .u, .z, .u, .o (.l .z), .u, .u]) (ss_set (i := 7) (m := .o (.l .z)) (fun _ _ => rfl) (by decide) (se_lst (.inr rfl) sa_nil))
    (ss_seq (ms1 := [.z, .z, .u, .u, .u, .z, .u, .o (.l .z), .u, .u]) (ss_for (p := (.s 3)) (msB := [.z, .z, .u, .u, .u, .z, .u, .o (.l .z), .u, .u]) (si_seq (se_var (i := 1) rfl)) sg_name (by decide)
     (ss_for (p := (.s 8)) (msB := [.z, .z, .u, .z, .u, .z, .u, .o (.l .z), .u, .u]) (si_rng (sa_cons (se_fn fn_len (sa_cons (se_var (i := 0) rfl) sa_nil)) sa_nil)) sg_name (by decide)
     (ss_if (fun _ _ => rfl) (st_test (se_op (ok_cmp _) (se_op ok_ix (se_var (i := 3) rfl) (se_var (i := 8) rfl)) (se_fn fn_len (sa_cons (se_op ok_ix (se_var (i := 0) rfl) (se_var (i := 8) rfl)) sa_nil))))
     (ss_drop (ns := [.z, .z, .u, .z, .u, .z, .u, .o (.l .z), .z, .u]) rfl (ss_seq (ms1 := [.z, .z, .u, .z, .u, .z, .u, .o (.l .z), .z, .z]) (ss_set (i := 9) (m := .z) (fun _ _ => rfl) (by decide) (se_op ok_add (se_op ok_add (se_sl (se_var (i := 3) rfl) so_no (so_part (se_var (i := 8) rfl))) (se_tup (sa_cons (se_op ok_add (se_op ok_ix (se_var (i := 3) rfl) (se_var (i := 8) rfl)) (se_int _)) sa_nil))) (se_sl (se_var (i := 3) rfl) (so_part (se_op ok_add (se_var (i := 8) rfl) (se_int _))) so_no)))
    (ss_expr (fun _ _ => rfl) (se_app (.inl rfl) (se_tup (sa_cons (se_dget (se_var (i := 5) rfl) (se_var (i := 3) rfl)) (sa_cons (se_dget (se_var (i := 5) rfl) (se_var (i := 9) rfl)) (sa_cons (se_op ok_ix (se_op ok_ix (se_var (i := 0) rfl) (se_var (i := 8) rfl)) (se_op ok_ix (se_var (i := 3) rfl) (se_var (i := 8) rfl))) sa_nil))))))))
     ss_next) rfl rfl) rfl rfl)
    (ss_fz (i := 7) rfl (ss_ret (fun _ _ => rfl) rfl (se_frz (se_make (fun _ => rfl) (sa_cons (se_fn fn_len (sa_cons (se_var (i := 1) rfl) sa_nil)) (sa_cons (se_var (i := 7) rfl) (sa_cons (se_int _) (sa_cons (se_op ok_sub (se_fn fn_len (sa_cons (se_var (i := 1) rfl) sa_nil)) (se_int _)) sa_nil))))))))))))))
end
section
variable {P : Program} {w : World} {K : PySem.W.Frag} {mg : Str → Option Value} {base : Heap} {f : Addr} {fd : FuncData}
theorem sc__law_caught : FnScope ["_law_threads", "_law_caught_here", "_law_chart", "e"] ["_law_threads"] (defScope s__law_caught) := ⟨rfl, rfl, rfl, by decide +kernel, rfl, by decide +kernel, by decide +kernel⟩
theorem av__law_caught (F : FX K "_law_caught" "_law_caught" s__law_caught [] [] f fd) (T : Txt K mg) (c_weaving_chart : Cal P w K mg base "weaving_chart" 6 (spA K .z A_weaving_chart)) : FnOk P w K mg base (L2.CX P w) 7 f fd ["_law_threads"] (spA K .z A__law_caught) := by
  refine F.ok sc__law_caught (fun vs H Q E h => ?_) (fun cdv A outer s H vs Q E hr h => ?_)
  · exact spA_len (fun _ z => aFunR_len z) h
  · refine ⟨_, ((pss_cons (ps_set (i := 1) sc__law_caught.nd rfl (Or.inl rfl) pe_non) 
      (pss_cons (ps_tr (K := K) rfl rfl rfl sc__law_caught.nd (takes_of rfl rfl rfl rfl) (fun W pn xe tk po => (pss_cons (ps_set (i := 2) sc__law_caught.nd rfl (Or.inl rfl) (pe_fS c_weaving_chart hr (by decide) rfl (passS tk) (pa_cons (pv 0) pa_nil))) (pss_one (ps_set (i := 1) sc__law_caught.nd rfl (Or.inl rfl) (pe_tup (pa_cons pe_str (pa_cons (k_fld (K := K) rfl (pv 2)) (pa_cons (k_fld (K := K) rfl (pv 2)) (pa_cons (k_fld (K := K) rfl (pv 2)) (pa_cons (k_fld (K := K) rfl (pv 2)) pa_nil)))))))))) (HdsN.cons (i := 3) rfl rfl ⟨rfl, by decide, Or.inl T.g_BadName⟩ (fun a oe cls d pn hz hf => (pss_one (ps_set (i := 1) sc__law_caught.nd rfl (Or.inl rfl) (pe_tup (pa_cons pe_str (pa_cons (k_xf (K := K) rfl T.x_BadName.xf T.nx_BadName_name hz hf (pv 3)) (pa_cons (pe_callB (k_isX (K := K) rfl hz hf) (by rfl) T.b_isinstance (by decide +kernel) (pa_cons (pv 3) (pa_cons (pe_gv (v := .ref (He.ga K "TriedError")) rfl ⟨_, T.g_TriedError, rfl⟩) pa_nil))) pa_nil))))))) (HdsN.cons (i := 3) rfl rfl ⟨rfl, by decide, Or.inl T.g_TooGreat⟩ (fun a oe cls d pn hz hf => (pss_one (ps_set (i := 1) sc__law_caught.nd rfl (Or.inl rfl) (pe_tup (pa_cons pe_str (pa_cons (pe_callB (k_isX (K := K) rfl hz hf) (by rfl) T.b_isinstance (by decide +kernel) (pa_cons (pv 3) (pa_cons (pe_gv (v := .ref (He.ga K "TriedError")) rfl ⟨_, T.g_TriedError, rfl⟩) pa_nil))) pa_nil)))))) HdsN.nil))) (pss_one (ps_ret (pv 1)))))), ?_⟩
    refine fn_bodyR (XE := E) (n := 1) (k := 3) (msb := []) (ms' := []) rfl ?_ h
    exact (ss_seq (ms1 := [.z, .z, .u, .u]) (ss_set (i := 1) (m := .z) (fun _ _ => rfl) (by decide) se_non)
  (ss_seq (ms1 := [.u, .z, .u, .u]) (ss_try (n := 4) (cs := ["BadName", "NoPlace", "BadArrow", "LoosePlace", "TooGreat"]) (hs := [{ c := "BadName", i := 3, j := 1, ps := [.s "name", .f "name", .is "TriedError" true] }, { c := "TooGreat", i := 3, j := 1, ps := [.s "great", .is "TriedError" true] }]) (ms1 := [.u, .z, .u, .u]) rfl (all_cons ⟨T.x_BadName, (ki_s (ki_f (ki_is T.ki_BadName_TriedError ki_nil)))⟩ (all_cons ⟨T.x_TooGreat, (ki_s (ki_is T.ki_TooGreat_TriedError ki_nil))⟩ all_nil)) (all_cons (all_cons (xm_of T.xm_BadName_BadName (by decide)) (all_cons (xm_of T.xm_BadName_TooGreat (by decide)) all_nil)) (all_cons (all_cons (xm_of T.xm_NoPlace_BadName (by decide)) (all_cons (xm_of T.xm_NoPlace_TooGreat (by decide)) all_nil)) (all_cons (all_cons (xm_of T.xm_BadArrow_BadName (by decide)) (all_cons (xm_of T.xm_BadArrow_TooGreat (by decide)) all_nil)) (all_cons (all_cons (xm_of T.xm_LoosePlace_BadName (by decide)) (all_cons (xm_of T.xm_LoosePlace_TooGreat (by decide)) all_nil)) (all_cons (all_cons (xm_of T.xm_TooGreat_BadName (by decide)) (all_cons (xm_of T.xm_TooGreat_TooGreat (by decide)) all_nil)) all_nil))))) (all_cons rfl (all_cons rfl all_nil)) (fun W =>
   (sst_drop (ns := [.u, .z, .u, .u]) rfl (sst_seq (ms1 := [.z, .z, .z, .u]) (sst_set (i := 2) (m := .z) (by decide) (se_callS (sa_cons (se_var (i := 0) rfl) sa_nil)))
  (sst_set (i := 1) (m := .z) (by decide) (se_tup (sa_cons (se_str _) (sa_cons (se_fld (C := "Chart") T.o_Chart.cl T.n_Chart_count (se_var (i := 2) rfl)) (sa_cons (se_fld (C := "Chart") T.o_Chart.cl T.n_Chart_arrows (se_var (i := 2) rfl)) (sa_cons (se_fld (C := "Chart") T.o_Chart.cl T.n_Chart_start (se_var (i := 2) rfl)) (sa_cons (se_fld (C := "Chart") T.o_Chart.cl T.n_Chart_end (se_var (i := 2) rfl)) sa_nil)))))))))))
  (ss_ret (fun _ _ => rfl) rfl (se_var (i := 1) rfl))))
end
section
variable {P : Program} {w : World} {K : PySem.W.Frag} {mg : Str → Option Value} {base : Heap} {f : Addr} {fd : FuncData}
theorem sc_Chart_parts : FnScope ["self"] ["self"] (defScope s_Chart_parts) := ⟨rfl, rfl, rfl, by decide +kernel, rfl, by decide +kernel, by decide +kernel⟩
theorem av_Chart_parts (F : FX K "parts" "Chart.parts" s_Chart_parts [] [] f fd) (T : Txt K mg)  : FnOk P w K mg base (L2.CX P w) 1 f fd ["self"] (spA K .z A_Chart_parts) := by
  refine F.ok sc_Chart_parts (fun vs H Q E h => ?_) (fun cdv A outer s H vs Q E hr h => ?_)
  · exact spA_len (fun _ z => aFunR_len z) h
  · refine ⟨_, ((pss_one (ps_ret (pe_tup (pa_cons (k_fld (K := K) rfl (pv 0)) (pa_cons (k_fld (K := K) rfl (pv 0)) (pa_cons (k_fld (K := K) rfl (pv 0)) (pa_cons (k_fld (K := K) rfl (pv 0)) pa_nil)))))))), ?_⟩
    refine fn_bodyR (XE := E) (n := 1) (k := 0) (msb := []) (ms' := []) rfl ?_ h
    exact (ss_ret (fun _ _ => rfl) rfl (se_tup (sa_cons (se_fld (C := "Chart") T.o_Chart.cl T.n_Chart_count (se_var (i := 0) rfl)) (sa_cons (se_fld (C := "Chart") T.o_Chart.cl T.n_Chart_arrows (se_var (i := 0) rfl)) (sa_cons (se_fld (C := "Chart") T.o_Chart.cl T.n_Chart_start (se_var (i := 0) rfl)) (sa_cons (se_fld (C := "Chart") T.o_Chart.cl T.n_Chart_end (se_var (i := 0) rfl)) sa_nil))))))
end
section
variable {P : Program} {w : World} {K : PySem.W.Frag} {mg : Str → Option Value} {base : Heap} {f : Addr} {fd : FuncData}
theorem sc_Chart_eq : FnScope ["self", "other"] ["self", "other"] (defScope s_Chart_eq) := ⟨rfl, rfl, rfl, by decide +kernel, rfl, by decide +kernel, by decide +kernel⟩
theorem av_Chart_eq (F : FX K "__eq__" "Chart.__eq__" s_Chart_eq [] [] f fd) (T : Txt K mg) (c_Chart_parts : Met P w K mg base (He.ga K "Chart") "parts" 1 (spA K .z A_Chart_parts)) : FnOk P w K mg base (L2.CX P w) 2 f fd ["self", "other"] (spA K .z A_Chart_eq) := by
  refine F.ok sc_Chart_eq (fun vs H Q E h => ?_) (fun cdv A outer s H vs Q E hr h => ?_)
  · exact spA_len (fun _ z => aFunR_len z) h
  · refine ⟨_, ((pss_one (ps_ret (pe_and (pe_callB (k_isi (K := K) rfl) (by rfl) T.b_isinstance (by decide +kernel) (pa_cons (pv 1) (pa_cons (pe_gv (v := .ref (He.ga K "Chart")) rfl ⟨_, T.g_Chart, rfl⟩) pa_nil))) (pe_one (pe_cmpR (k_eq (K := K) rfl hr.units) (pe_m0 c_Chart_parts hr (by decide) (passes_call (E := E) (takes_of rfl rfl rfl rfl) (fun _ _ _ _ h => h)) (pv 0)) (pe_m0 c_Chart_parts hr (by decide) (passes_call (E := E) (takes_of rfl rfl rfl rfl) (fun _ _ _ _ h => h)) (pv 1)) (nomark _))))))), ?_⟩
    refine fn_bodyR (XE := E) (n := 2) (k := 0) (msb := []) (ms' := []) rfl ?_ h
    exact (ss_ret (fun _ _ => rfl) rfl (se_andV (se_isi (cs := [(.inr "Chart", true)]) (.own _) (kiok_own T.o_Chart T.i_Chart_Chart kiok_nil) (se_var (i := 1) rfl)) (se_op ok_eq (se_meth (C := "Chart") (fun _ => rfl) (se_var (i := 0) rfl) sa_nil) (se_meth (C := "Chart") (fun _ => rfl) (se_var (i := 1) rfl) sa_nil))))
end
section
variable {P : Program} {w : World} {K : PySem.W.Frag} {mg : Str → Option Value} {base : Heap} {f : Addr} {fd : FuncData}
theorem sc__law_pick : FnScope ["_law_state_here", "_law_row"] ["_law_state_here", "_law_row"] (defScope s__law_pick) := ⟨rfl, rfl, rfl, by decide +kernel, rfl, by decide +kernel, by decide +kernel⟩
theorem av__law_pick (F : FX K "_law_pick" "_law_pick" s__law_pick [] [] f fd) (T : Txt K mg) (c__law_draw : Cal P w K mg base "_law_draw" 1 (spIo K (.l .z) .z A__law_draw_K66)) : FnOk P w K mg base (L2.CX P w) 2 f fd ["_law_state_here", "_law_row"] (spIo K (.l .z) .z A__law_pick) := by
  refine F.ok sc__law_pick (fun vs H Q E h => ?_) (fun cdv A outer s H vs Q E hr h => ?_)
  · exact spIo_len (fun _ z => aFunIoR_len z) h
  · refine ⟨_, ((pss_one (ps_ret (pe_ix (k_ix (K := K) rfl) (pv 1) (pe_f c__law_draw hr (by decide) rfl (passes_call (E := E) (takes_of rfl rfl rfl rfl) (fun _ _ _ _ h => h)) (pa_cons (pv 0) (pa_cons (pe_callB (k_lenA (K := K) rfl) (by rfl) T.b_len PySem.boot_len (pa_cons (pv 1) pa_nil)) pa_nil))) (fun _ _ => rfl))))), ?_⟩
    refine fn_bodyIoR (XE := E) (n := 1) (k := 0) (msb := []) (ms' := []) rfl ?_ h
    exact (ss_ret (fun _ _ => rfl) rfl (se_op ok_ix (se_var (i := 1) rfl) (se_callIo (fun _ => rfl) (.inr rfl) (sa_cons (se_fn fn_len (sa_cons (se_var (i := 1) rfl) sa_nil)) sa_nil))))
end
section
variable {P : Program} {w : World} {K : PySem.W.Frag} {mg : Str → Option Value} {base : Heap} {f : Addr} {fd : FuncData}
theorem sc_law : FnScope ["_law_script", "_law_at", "_law_state_here", "_law_threads", "_law_k", "_law_step", "_law_kind", "_law_spot", "_law_due_here", "_law_row", "_law_other"] ["_law_script"] (defScope s_law) := ⟨rfl, rfl, rfl, by decide +kernel, rfl, by decide +kernel, by decide +kernel⟩
theorem av_law (F : FX K "law" "law" s_law [] [] f fd) (T : Txt K mg) (c__law_state : Cal P w K mg base "_law_state" 1 (spA K (.o (.l .z)) A__law_state)) (c__law_draw : Cal P w K mg base "_law_draw" 1 (spIo K (.l .z) .z A__law_draw_K66)) (c__law_due : Cal P w K mg base "_law_due" 2 (spA K .z A__law_due)) (c__law_cell : Cal P w K mg base "_law_cell" 1 (spA K .z A__law_cell)) (c_Chart_init : Mak P w K mg base "Chart" (He.ga K "Chart") 4 (spIo K (.i []) .z A_Chart_init)) (c__law_caught : Cal P w K mg base "_law_caught" 7 (spA K .z A__law_caught)) (c_Chart_eq : Met P w K mg base (He.ga K "Chart") "__eq__" 2 (spA K .z A_Chart_eq)) (c__law_pick : Cal P w K mg base "_law_pick" 2 (spIo K (.l .z) .z A__law_pick)) (c_weaving_chart : Cal P w K mg base "weaving_chart" 6 (spA K .z A_weaving_chart)) : FnOk P w K mg base (L2.CX P w) 8 f fd ["_law_script"] (spA K .z A_law_K64) := by
  refine F.ok sc_law (fun vs H Q E h => ?_) (fun cdv A outer s H vs Q E hr h => ?_)
  · exact spA_len (fun _ z => aFunR_len z) h
  · refine ⟨_, ((pss_cons (ps_for (passes_of rfl) rfl (pi_range1 (by rfl) T.b_range (pa_cons (pe_callB (call_max2U rfl) (by rfl) T.b_max (by decide +kernel) (pa_cons pe_int (pa_cons (pe_callB (call_min2U rfl) (by rfl) T.b_min (by decide +kernel) (pa_cons pe_int (pa_cons (pe_callB (k_lenA (K := K) rfl) (by rfl) T.b_len PySem.boot_len (pa_cons (pv 0) pa_nil)) pa_nil))) pa_nil))) pa_nil)) (pg_name (i := 1) sc_law.nd rfl (Or.inl rfl)) (pss_cons (ps_set (i := 2) sc_law.nd rfl (Or.inr rfl) (pe_f c__law_state hr (by decide) rfl (passes_call (E := E) (takes_of rfl rfl rfl rfl) (fun _ _ _ _ h => h)) (pa_cons (pe_f c__law_cell hr (by decide) rfl (passes_call (E := E) (takes_of rfl rfl rfl rfl) (fun _ _ _ _ h => h)) (pa_cons (pv 0) (pa_cons (pv 1) pa_nil))) pa_nil))) 
      (pss_cons (ps_set (i := 3) sc_law.nd rfl (Or.inl rfl) (pe_lst pa_nil)) 
      (pss_cons (ps_for (passes_of rfl) rfl (pi_range1 (by rfl) T.b_range (pa_cons (pe_f c__law_draw hr (by decide) rfl (passes_call (E := E) (takes_of rfl rfl rfl rfl) (fun _ _ _ _ h => h)) (pa_cons (pv 2) (pa_cons pe_int pa_nil))) pa_nil)) (pg_name (i := 4) sc_law.nd rfl (Or.inl rfl)) (pss_one (ps_expr (k_bm (K := K) rfl PySem.F.plainAttrs_list PySem.F.slot_list_append PySem.F.type_list_append mt_append (pv 3) (pa_cons (by exact (pe_lc (own := [("_law_step", 5)]) rfl sc_law.nd (pi_range1 (by rfl) T.b_range (pa_cons (pe_f c__law_draw hr (by decide) rfl (passes_call (E := E) (takes_of rfl rfl rfl rfl) (fun _ _ _ _ h => h)) (pa_cons (pv 2) (pa_cons pe_int pa_nil))) pa_nil)) (blkOk_by (own := [("_law_step", 5)]) (N := ["_law_script", "_law_at", "_law_state_here", "_law_threads", "_law_k", "_law_step", "_law_kind", "_law_spot", "_law_due_here", "_law_row", "_law_other"]) (sc := defScope s_law) (by decide +kernel)) (fun _ _ _ _ _ => by exact (pg_name (i := 5) sc_law.nd rfl (Or.inl rfl))) (fun _ _ _ _ _ => by exact pts_nil) (fun _ _ _ _ _ => by exact (pe_f c__law_pick hr (by decide) rfl passL (pa_cons (pv 2) (pa_cons (pe_lst (pa_cons pe_str (pa_cons pe_str (pa_cons pe_str (pa_cons pe_str pa_nil))))) pa_nil)))))) pa_nil))))) 
      (pss_cons (ps_set (i := 6) sc_law.nd rfl (Or.inl rfl) (pe_f c__law_draw hr (by decide) rfl (passes_call (E := E) (takes_of rfl rfl rfl rfl) (fun _ _ _ _ h => h)) (pa_cons (pv 2) (pa_cons pe_int pa_nil)))) 
      (pss_cons (ps_if (pt_cmpR (k_eq (K := K) rfl hr.units) (pv 6) pe_int (nomark _)) (pss_one (ps_expr (k_bm (K := K) rfl PySem.F.plainAttrs_list PySem.F.slot_list_append PySem.F.type_list_append mt_append (pv 3) (pa_cons (pe_op (k_mulA (K := K) rfl) (pe_lst (pa_cons pe_str pa_nil)) (pe_op (k_addA (K := K) rfl) pe_int (pe_f c__law_draw hr (by decide) rfl (passes_call (E := E) (takes_of rfl rfl rfl rfl) (fun _ _ _ _ h => h)) (pa_cons (pv 2) (pa_cons pe_int pa_nil))))) pa_nil)))) (pss_one (ps_if (PW.pt (pw_and (pt_cmpR (k_eq (K := K) rfl hr.units) (pv 6) pe_int (nomark _)) (pw_and1 (pt_cmpR (k_ne (K := K) rfl hr.units) (pv 3) (pe_lst pa_nil) (nomark _))))) (pss_cons (ps_set (i := 7) sc_law.nd rfl (Or.inl rfl) (pe_f c__law_draw hr (by decide) rfl (passes_call (E := E) (takes_of rfl rfl rfl rfl) (fun _ _ _ _ h => h)) (pa_cons (pv 2) (pa_cons (pe_callB (k_lenA (K := K) rfl) (by rfl) T.b_len PySem.boot_len (pa_cons (pv 3) pa_nil)) pa_nil)))) (pss_one (ps_asg (pe_op (k_addA (K := K) rfl) (pe_ix (k_ix (K := K) rfl) (pv 3) (pv 7) (fun _ _ => rfl)) (pe_lst (pa_cons (pe_f c__law_pick hr (by decide) rfl (passes_call (E := E) (takes_of rfl rfl rfl rfl) (fun _ _ _ _ h => h)) (pa_cons (pv 2) (pa_cons (pe_lst (pa_cons pe_str (pa_cons pe_str (pa_cons pe_str (pa_cons pe_str (pa_cons pe_str pa_nil)))))) pa_nil))) pa_nil))) (pg_sub (pv 3) (pv 7) set_list)))) (pss_one (ps_if (pt_cmpR (k_eq (K := K) rfl hr.units) (pv 6) pe_int (nomark _)) (pss_one (ps_set (i := 3) sc_law.nd rfl (Or.inl rfl) (pe_op (k_addA (K := K) rfl) (pe_slice (k_sl (K := K) rfl) (pv 3) po_none (po_some pe_int)) (pe_op (k_mulA (K := K) rfl) (pe_lst (pa_cons (pe_lst (pa_cons pe_str (pa_cons pe_str pa_nil))) pa_nil)) pe_int)))) pss_nil))))) 
      (pss_cons (ps_set (i := 8) sc_law.nd rfl (Or.inl rfl) (pe_f c__law_due hr (by decide) rfl (passes_call (E := E) (takes_of rfl rfl rfl rfl) (fun _ _ _ _ h => h)) (pa_cons (pv 3) pa_nil))) 
      (pss_cons (ps_if (PW.pt (pw_or (pt_cmpR (k_ne (K := K) rfl hr.units) (pe_f c__law_caught hr (by decide) rfl (passes_call (E := E) (takes_of rfl rfl rfl rfl) (fun _ _ _ _ h => h)) (pa_cons (pv 3) pa_nil)) (pv 8) (nomark _)) (pw_or1 (pt_cmpR (k_ne (K := K) rfl hr.units) (pe_f c__law_caught hr (by decide) rfl (passes_call (E := E) (takes_of rfl rfl rfl rfl) (fun _ _ _ _ h => h)) (pa_cons (pe_callTy (k_tuple (K := K) rfl) (by rfl) T.b_tuple (by decide +kernel) (pa_cons (by exact (pe_lc (own := [("_law_row", 9)]) rfl sc_law.nd (pi_seq (K := K) rfl (pv 3)) (blkOk_by (own := [("_law_row", 9)]) (N := ["_law_script", "_law_at", "_law_state_here", "_law_threads", "_law_k", "_law_step", "_law_kind", "_law_spot", "_law_due_here", "_law_row", "_law_other"]) (sc := defScope s_law) (by decide +kernel)) (fun _ _ _ _ _ => by exact (pg_name (i := 9) sc_law.nd rfl (Or.inl rfl))) (fun _ _ _ _ _ => by exact pts_nil) (fun _ _ _ _ _ => by exact (pe_callTy (k_tuple (K := K) rfl) (by rfl) T.b_tuple (by decide +kernel) (pa_cons (pv 9) pa_nil))))) pa_nil)) pa_nil)) (pv 8) (nomark _))))) (pss_one (ps_ret pe_bl)) pss_nil) (pss_one (ps_if (pt_cmpR (k_eq (K := K) rfl hr.units) (pe_ix (k_ix (K := K) rfl) (pv 8) pe_int (fun _ _ => rfl)) pe_str (nomark _)) (pss_cons (ps_set (i := 10) sc_law.nd rfl (Or.inl rfl) (pe_k c_Chart_init hr (by decide) rfl (passes_call (E := E) (takes_of rfl rfl rfl rfl) (fun _ _ _ _ h => h)) (pa_cons (pe_ix (k_ix (K := K) rfl) (pv 8) pe_int (fun _ _ => rfl)) (pa_cons (pe_ix (k_ix (K := K) rfl) (pv 8) pe_int (fun _ _ => rfl)) (pa_cons (pe_ix (k_ix (K := K) rfl) (pv 8) pe_int (fun _ _ => rfl)) (pa_cons (pe_ix (k_ix (K := K) rfl) (pv 8) pe_int (fun _ _ => rfl)) pa_nil)))))) (pss_one (ps_if (pt_not (pt_cmpR (op_eqO c_Chart_eq hr (by decide) (passes_call (E := E) (takes_of rfl rfl rfl rfl) (fun _ _ _ _ h => h))) (pe_f c_weaving_chart hr (by decide) rfl (passes_call (E := E) (takes_of rfl rfl rfl rfl) (fun _ _ _ _ h => h)) (pa_cons (pv 3) pa_nil)) (pv 10) (nomark _))) (pss_one (ps_ret pe_bl)) pss_nil))) pss_nil)))))))))) (pss_one (ps_ret pe_bl)))), ?_⟩
    refine fn_bodyR (XE := E) (n := 1) (k := 10) (msb := []) (ms' := []) rfl ?_ h
    exact (ss_seq (ms1 := [.z, .u, .u, .u, .u, .u, .u, .u, .u, .u, .u]) (ss_for (p := (.s 1)) (msB := [.z, .u, .u, .u, .u, .u, .u, .u, .u, .u, .u]) (si_rng (sa_cons (se_fn fn_max2 (sa_cons (se_int _) (sa_cons (se_fn fn_min2 (sa_cons (se_int _) (sa_cons (se_fn fn_len (sa_cons (se_var (i := 0) rfl) sa_nil)) sa_nil))) sa_nil))) sa_nil)) sg_name (by decide)
   (ss_seq (ms1 := [.z, .z, .o (.l .z), .u, .u, .u, .u, .u, .u, .u, .u]) (ss_set (i := 2) (m := .o (.l .z)) (fun _ _ => rfl) (by decide) (se_call (fun _ => rfl) (sa_cons (se_call (fun _ => rfl) (sa_cons (se_var (i := 0) rfl) (sa_cons (se_var (i := 1) rfl) sa_nil))) sa_nil)))
  (ss_seq (ms1 := [.z, .z, .o (.l .z), .o (.l .z), .u, .u, .u, .u, .u, .u, .u]) (ss_set (i := 3) (m := .o (.l .z)) (fun _ _ => rfl) (by decide) (se_lst (.inr rfl) sa_nil))
  (ss_seq (ms1 := [.z, .z, .o (.l .z), .o (.l .z), .u, .u, .u, .u, .u, .u, .u]) (ss_for (p := (.s 4)) (msB := [.z, .z, .o (.l .z), .o (.l .z), .u, .u, .u, .u, .u, .u, .u]) (si_rng (sa_cons (se_callIo (fun _ => rfl) (.inl rfl) (sa_cons (se_int _) sa_nil)) sa_nil)) sg_name (by decide)
   (ss_expr (fun _ _ => rfl) (se_app (.inl rfl) (se_frz (se_lc (p := (.s 5)) (si_rng (sa_cons (se_callIo (fun _ => rfl) (.inl rfl) (sa_cons (se_int _) sa_nil)) sa_nil)) sg_name (by decide) rfl st_yes (se_callIo (fun _ => rfl) (.inl rfl) (sa_cons (se_lst (.inl rfl) (sa_cons (se_str _) (sa_cons (se_str _) (sa_cons (se_str _) (sa_cons (se_str _) sa_nil))))) sa_nil)))))) rfl rfl)
  (ss_seq (ms1 := [.z, .z, .o (.l .z), .o (.l .z), .u, .u, .z, .u, .u, .u, .u]) (ss_set (i := 6) (m := .z) (fun _ _ => rfl) (by decide) (se_callIo (fun _ => rfl) (.inl rfl) (sa_cons (se_int _) sa_nil)))
  (ss_seq (ms1 := [.z, .z, .z, .z, .u, .u, .z, .u, .u, .u, .u]) (ss_if (fun _ _ => rfl) (st_test (se_op ok_eq (se_var (i := 6) rfl) (se_int _)))
   (ss_fzE (i := 3) (ms' := [.z, .z, .z, .o (.l .z), .u, .u, .z, .u, .u, .u, .u]) rfl (ss_fzE (i := 2) (ms' := [.z, .z, .o (.l .z), .o (.l .z), .u, .u, .z, .u, .u, .u, .u]) rfl (ss_expr (fun _ _ => rfl) (se_app (.inl rfl) (se_op (ok_rep (.inl rfl)) (se_lst (.inl rfl) (sa_cons (se_str _) sa_nil)) (se_op ok_add (se_int _) (se_callIo (fun _ => rfl) (.inl rfl) (sa_cons (se_int _) sa_nil))))))))
   (ss_if (fun _ _ => rfl) (st_and (st_test (se_op ok_eq (se_var (i := 6) rfl) (se_int _))) (st_test (se_br (se_op ok_ne (se_var (i := 3) rfl) (se_lst (.inl rfl) sa_nil)))))
   (ss_drop (ns := [.z, .z, .z, .z, .u, .u, .z, .u, .u, .u, .u]) rfl (ss_fzE (i := 3) (ms' := [.z, .z, .z, .o (.l .z), .u, .u, .z, .z, .u, .u, .u]) rfl (ss_fzE (i := 2) (ms' := [.z, .z, .o (.l .z), .o (.l .z), .u, .u, .z, .z, .u, .u, .u]) rfl (ss_seq (ms1 := [.z, .z, .o (.l .z), .o (.l .z), .u, .u, .z, .z, .u, .u, .u]) (ss_set (i := 7) (m := .z) (fun _ _ => rfl) (by decide) (se_callIo (fun _ => rfl) (.inl rfl) (sa_cons (se_br (se_fn fn_len (sa_cons (se_var (i := 3) rfl) sa_nil))) sa_nil)))
  (ss_setIx (fun _ _ => rfl) (.inl rfl) (se_op (ok_cat (.inl rfl)) (se_ixO (.inl rfl) (se_var (i := 7) rfl)) (se_lst (.inl rfl) (sa_cons (se_callIo (fun _ => rfl) (.inl rfl) (sa_cons (se_lst (.inl rfl) (sa_cons (se_str _) (sa_cons (se_str _) (sa_cons (se_str _) (sa_cons (se_str _) (sa_cons (se_str _) sa_nil)))))) sa_nil)) sa_nil))) (se_var (i := 7) rfl))))))
   (ss_fz (i := 2) rfl (ss_fz (i := 3) rfl (ss_if (fun _ _ => rfl) (st_test (se_op ok_eq (se_var (i := 6) rfl) (se_int _)))
   (ss_set (i := 3) (m := .z) (fun _ _ => rfl) (by decide) (se_op (ok_cat (.inl rfl)) (se_sl (se_var (i := 3) rfl) so_no (so_part (se_int _))) (se_op (ok_rep (.inl rfl)) (se_lst (.inl rfl) (sa_cons (se_lst (.inl rfl) (sa_cons (se_str _) (sa_cons (se_str _) sa_nil))) sa_nil)) (se_int _))))
   ss_next)))))
  (ss_seq (ms1 := [.z, .z, .z, .z, .u, .u, .z, .u, .z, .u, .u]) (ss_set (i := 8) (m := .z) (fun _ _ => rfl) (by decide) (se_call (fun _ => rfl) (sa_cons (se_var (i := 3) rfl) sa_nil)))
  (ss_seq (ms1 := [.z, .z, .z, .z, .u, .u, .z, .u, .z, .u, .u]) (ss_if (fun _ _ => rfl) (st_or (st_test (se_op ok_ne (se_call (fun _ => rfl) (sa_cons (se_var (i := 3) rfl) sa_nil)) (se_var (i := 8) rfl))) (st_test (se_op ok_ne (se_call (fun _ => rfl) (sa_cons (se_fn fn_tuple (sa_cons (se_frz (se_lc (p := (.s 9)) (si_seq (se_var (i := 3) rfl)) sg_name (by decide) rfl st_yes (se_fn fn_tuple (sa_cons (se_var (i := 9) rfl) sa_nil)))) sa_nil)) sa_nil)) (se_var (i := 8) rfl))))
   (ss_ret (fun _ _ => rfl) rfl (se_bl _))
   ss_next)
  (ss_if (fun _ _ => rfl) (st_test (se_op ok_eq (se_op ok_ix (se_var (i := 8) rfl) (se_int _)) (se_str _)))
   (ss_drop (ns := [.z, .z, .z, .z, .u, .u, .z, .u, .z, .u, .u]) rfl (ss_seq (ms1 := [.z, .z, .z, .z, .u, .u, .z, .u, .z, .u, .z]) (ss_set (i := 10) (m := .z) (fun _ _ => rfl) (by decide) (se_frz (se_make (fun _ => rfl) (sa_cons (se_op ok_ix (se_var (i := 8) rfl) (se_int _)) (sa_cons (se_op ok_ix (se_var (i := 8) rfl) (se_int _)) (sa_cons (se_op ok_ix (se_var (i := 8) rfl) (se_int _)) (sa_cons (se_op ok_ix (se_var (i := 8) rfl) (se_int _)) sa_nil)))))))
  (ss_if (fun _ _ => rfl) (st_not (st_test (se_eqO (C := "Chart") (fun _ => rfl) T.o_Chart T.nf_Chart (se_call (fun _ => rfl) (sa_cons (se_var (i := 3) rfl) sa_nil)) (se_var (i := 10) rfl))))
   (ss_ret (fun _ _ => rfl) rfl (se_bl _))
   ss_next)))
   ss_next)))))))) rfl rfl)
  (ss_ret (fun _ _ => rfl) rfl (se_bl _)))
end
end
open PySem PySem.Spec PyProof.Rows L2
theorem flats_int : ∀ ns : List Nat, flats (ns.map fun n => .int (n : Nat)) = some (ns.map fun n => .int (n : Nat))
  | [] => rfl
  | n :: ns => by
    show (match some (V.int n), flats (ns.map fun n => .int (n : Nat)) with | some v, some vs => some (v :: vs) | _, _ => none) = _
    rw [flats_int ns]
    rfl
abbrev txs (l : List Str) : List D := l.map .str
abbrev nts (l : List Nat) : List D := l.map fun n => .int (n : Nat)
theorem in_flat {α : Type} [DecidableEq α] {e : α → V} (he : ∀ x y, eqV (e x) (e y) = decide (x = y)) (z : α) (l : List α) : inV (e z) (l.map e) = decide (z ∈ l) := by
  unfold inV
  rw [Bool.eq_iff_iff, decide_eq_true_iff, List.any_eq_true]
  constructor
  · rintro ⟨v, m, q⟩
    obtain ⟨y, my, rfl⟩ := List.mem_map.mp m
    rw [he, decide_eq_true_iff] at q
    exact q ▸ my
  · intro m
    exact ⟨e z, List.mem_map.mpr ⟨z, m, rfl⟩, by rw [he]; simp⟩
theorem in_nt (z : Nat) (l : List Nat) : dIn (.int z) (.lst (nts l)) = some (.bl (decide (z ∈ l))) := by
  have e : dInB (.int z) (.lst (nts l)) = some (inV (.int z) (l.map fun n : Nat => V.int n)) := by
    unfold dInB
    show (match some (V.int z), flats (nts l) with | some v, some vs => some (inV v vs) | _, _ => _) = _
    rw [flats_int]
  unfold dIn
  rw [e, in_flat (e := fun n : Nat => V.int n) (fun x y => by show ((x : Int) == (y : Int)) = _; by_cases h : x = y <;> simp [h] <;> omega)]
  rfl
theorem nin_of {x c : D} {b : Bool} (h : dIn x c = some (.bl b)) : dNin x c = some (.bl (!b)) := by
  unfold dIn at h
  unfold dNin
  cases e : dInB x c with
  | none => rw [e] at h; cases h
  | some b' => rw [e] at h; cases h; rfl
theorem o_ninN {z : Nat} {l : List Nat} {Q : D → Prop} (q : Q (.bl (!decide (z ∈ l)))) : OpS (dNin (.int z) (.lst (nts l))) Q := OpS.of (nin_of (in_nt z l)) q
theorem rng_gen (j : Int) : rangeD 0 j = (List.range j.toNat).map fun (i : Nat) => D.int (i : Int) := by
  unfold rangeD
  rw [Int.sub_zero]
  simp
theorem enum_zip {α : Type} (e : α → D) : ∀ (xs : List α) (k : Nat), enumD k (xs.map e) = (xs.zipIdx k).map fun p => D.tup [.int (p.2 : Nat), e p.1]
  | [], _ => rfl
  | x :: xs, k => by
    rw [List.map_cons, List.zipIdx_cons, List.map_cons, ← enum_zip e xs (k + 1)]
    rfl
theorem zip_split {α : Type} : ∀ {xs : List α} {k : Nat} {pre post : List (α × Nat)} {p : α × Nat}, xs.zipIdx k = pre ++ p :: post → xs = pre.map (·.1) ++ p.1 :: post.map (·.1) ∧ p.2 = k + pre.length
  | [], k, pre, post, p, h => by
    have := congrArg List.length h
    simp at this
  | x :: xs, k, [], post, p, h => by
    rw [List.zipIdx_cons, List.nil_append] at h
    injection h with h1 h2
    subst h1
    refine ⟨?_, rfl⟩
    rw [← h2]
    show _ = [] ++ x :: _
    rw [List.zipIdx_map_fst]
    rfl
  | x :: xs, k, q :: pre, post, p, h => by
    rw [List.zipIdx_cons, List.cons_append] at h
    injection h with h1 h2
    obtain ⟨h3, h4⟩ := zip_split h2
    subst h1
    refine ⟨?_, ?_⟩
    · rw [List.map_cons, List.cons_append, ← h3]
    · rw [h4, List.length_cons]; omega
def Gn (z : Str) : Prop := z.length ≤ 1000 ∧ PyData.strOk z = true
theorem gn_sz {z : Str} (h : Gn z) : z.length ≤ sizeLine := by have := szL; have := h.1; omega
theorem len_txs (ns : List Str) : (txs ns).length = ns.length := List.length_map _
theorem range_split {n k : Nat} {pre post : List Nat} (h : List.range n = pre ++ k :: post) : k = pre.length ∧ k < n := by
  have hn : n = (pre ++ k :: post).length := by rw [← h, List.length_range]
  have h1 : pre.length < n := by rw [hn]; simp
  have e : (List.range n)[pre.length]? = some k := by rw [h]; simp
  rw [List.getElem?_range h1] at e
  cases e
  exact ⟨rfl, h1⟩
theorem bools_ok {α : Type} (f : α → Bool) : ∀ l : List α, boolsD (l.map fun c => .bl (f c)) = some (l.map f)
  | [] => rfl
  | c :: l => by rw [List.map_cons]; unfold boolsD; rw [bools_ok f l]; rfl
theorem all_ok {α : Type} (f : α → Bool) (l : List α) : dAll [.lst (l.map fun c => .bl (f c))] = some (.bl (l.all f)) := by
  show (boolsD (l.map fun c => .bl (f c))).map (fun bs => D.bl (bs.all id)) = _
  rw [bools_ok]
  show some (D.bl ((l.map f).all id)) = _
  rw [List.all_map]
  rfl
abbrev dk (l : List Nat) : List (D × D) := l.map fun n => (.int (n : Nat), .bl true)
theorem keq_n (a b : Nat) : keq (.int (a : Nat)) (.int (b : Nat)) = decide (a = b) := by
  have h := keq_key (.inl (a : Int)) (.inl (b : Int))
  refine Eq.trans h ?_
  rw [decide_eq_decide]
  constructor
  · intro h; injection h with h; exact Int.ofNat.inj h
  · intro h; rw [h]
theorem any_dk (l : List Nat) (n : Nat) : ((dk l).any fun p => keq p.1 (.int (n : Nat))) = decide (n ∈ l) := by
  rw [List.any_map, Bool.eq_iff_iff, List.any_eq_true, decide_eq_true_iff]
  constructor
  · rintro ⟨x, m, q⟩
    have q : keq (.int (x : Nat)) (.int (n : Nat)) = true := q
    rw [keq_n, decide_eq_true_iff] at q
    exact q ▸ m
  · exact fun m => ⟨n, m, by show keq (.int (n : Nat)) (.int (n : Nat)) = true; rw [keq_n]; simp⟩
def addN (l : List Nat) (n : Nat) : List Nat := if n ∈ l then l else l ++ [n]
theorem put_dk (l : List Nat) (n : Nat) : putD (dk l) (.int (n : Nat)) (.bl true) = dk (addN l n) := by
  unfold putD addN
  rw [any_dk]
  by_cases h : n ∈ l
  · rw [if_pos (decide_eq_true h), if_pos h]
    conv => rhs; rw [← List.map_id (dk l)]
    refine List.map_congr_left fun p m => ?_
    obtain ⟨x, _, rfl⟩ := List.mem_map.mp m
    dsimp only
    rw [keq_n]
    by_cases c : x = n
    · rw [if_pos (decide_eq_true c)]; rfl
    · rw [if_neg (by simp [c])]; rfl
  · rw [if_neg (by simp [h]), if_neg h]
    show _ = List.map _ (l ++ [n])
    rw [List.map_append]
    rfl
theorem s_retU1 {S : List D} {E : XQ} {N : List D → Prop} {R : D → List D → Prop} {mio : List Mo} {a : E1} {i : Nat} (h : Sat2 (a S) (fun d S1 => OpS S1[i]? fun x => To (maskD mio S1) (R (.tup [d, x]))) E) : SatS (aRetU1 mio a i S) N R E := by with_unfolding_all exact (bndS2 (h.imp (fun d S1 h => bndS2 (or2 h)) fun _ _ h => h))
theorem s_retU2 {S : List D} {E : XQ} {N : List D → Prop} {R : D → List D → Prop} {mio : List Mo} {a b : E1} {i : Nat} (h : Sat2 (a S) (fun d S1 => Sat2 (b S1) (fun d2 S2 => OpS S2[i]? fun x => To (maskD mio S2) (R (.tup [d, d2, x]))) E) E) : SatS (aRetU2 mio a b i S) N R E := by with_unfolding_all exact (bndS2 (h.imp (fun d S1 h => bndS2 (h.imp (fun d2 S2 h => bndS2 (or2 h)) fun _ _ h => h)) fun _ _ h => h))
theorem s_par3 {S : List D} {E : XQ} {N : List D → Prop} {R : D → List D → Prop} {a b c : E1} {i j l : Nat} (h : Sat2 (a S) (fun d S1 => Sat2 (b S1) (fun d2 S2 => Sat2 (c S2) (fun d3 S3 => To (((S3.set i d).set j d2).set l d3) N) E) E) E) : SatS (aPar3 i j l a b c S) N R E := by with_unfolding_all exact (bndS2 (h.imp (fun d S1 h => bndS2 (h.imp (fun d2 S2 h => bndS2 h) fun _ _ h => h)) fun _ _ h => h))
theorem s_okn {E : XQ} {L : List D → Prop} (q : L []) : Sat (Rz.ok ([] : List D)) L E := by with_unfolding_all exact (q)
theorem x_obj {C m : Str} {o : D} {P : Prop} (h : o.isObj C m = true) (q : P) : o.isObj C m = true ∧ P := ⟨h, q⟩
local macro_rules | `(tactic| walk_at "wx") => `(tactic| repeat (first
  | with_reducible apply s_okn
  | walk_at "wone"
  | ((with_reducible apply x_obj); exact rfl)
  | with_reducible apply s_retU1
  | with_reducible apply s_retU2
  | with_reducible apply s_par3))
local macro_rules | `(tactic| walk_at "wy") => `(tactic| repeat ((fail_if_success (with_reducible apply isIfSeq)); (fail_if_success (with_reducible apply isForSeq)); (first
  | with_reducible apply s_okn
  | walk_at "wone"
  | ((with_reducible apply x_obj); exact rfl)
  | with_reducible apply s_retU1
  | with_reducible apply s_retU2
  | with_reducible apply s_par3)))
local macro_rules | `(tactic| walk_at "wz") => `(tactic| repeat ((fail_if_success (with_reducible apply isIfSeq)); (first
  | with_reducible apply s_okn
  | walk_at "wone"
  | ((with_reducible apply x_obj); exact rfl)
  | with_reducible apply s_retU1
  | with_reducible apply s_retU2
  | with_reducible apply s_par3)))
section
open PySem PySem.Spec PyProof.Rows L2
abbrev Fac := Nat × Int
abbrev Wg := List Fac
abbrev Edg := Str × Nat × Wg
structure FS where
  src : Nat
  ln : List Wg
  lv : List (List Edg)
  ar : List (List Edg)
  mn : List Nat
  mv : List (Nat × Nat × Wg)
abbrev Stp := Str × Int
def look {α : Type} (l : List (Str × α)) (n : Str) : Option α := (l.find? fun p => decide (p.1 = n)).map (·.2)
def del {α : Type} (l : List (Str × α)) (n : Str) : List (Str × α) := l.filter fun p => !decide (p.1 = n)
def lookN {α : Type} (l : List (Nat × α)) (n : Nat) : Option α := (l.find? fun p => decide (p.1 = n)).map (·.2)
end
section
open PySem PySem.Spec PyProof.Rows L2
end
section
open PySem PySem.Spec PyProof.Rows L2
abbrev At (l : List (List Edg)) (p : Nat) : List Edg := l.getD p []
end
section
open PySem PySem.Spec PyProof.Rows L2
inductive Std (mv : List (Nat × Nat × Wg)) : Nat → Nat → Nat → Wg → Prop
  | stop {p : Nat} : lookN mv p = none → Std mv 0 p p []
  | go {k p q r : Nat} {w f : Wg} : lookN mv p = some (q, w) → Std mv k q r f → Std mv (k + 1) p r (w ++ f)
end
section
open PySem PySem.Spec PyProof.Rows L2
def out1 (st : FS) (p : Nat) (s : Stp) : Option (Nat × Wg) := if s.2 = 1 then look (At st.lv p) s.1 else look (At st.ar p) s.1
end
section
open PySem PySem.Spec PyProof.Rows L2
abbrev Tri := Nat × Nat × Wg
end
section
open PySem PySem.Spec PyProof.Rows L2
end
section
open PySem PySem.Spec PyProof.Rows L2
theorem look_cons {α : Type} (x : Str × α) (l : List (Str × α)) (n : Str) : look (x :: l) n = if x.1 = n then some x.2 else look l n := by
  unfold look
  rw [List.find?_cons]
  by_cases h : x.1 = n
  · rw [decide_eq_true h, if_pos h]; rfl
  · rw [decide_eq_false h, if_neg h]
theorem look_mem {α : Type} {l : List (Str × α)} {n : Str} {x : α} (h : look l n = some x) : (n, x) ∈ l := by
  induction l with
  | nil => cases h
  | cons y l ih =>
    rw [look_cons] at h
    by_cases d : y.1 = n
    · rw [if_pos d] at h
      cases h
      rw [← d]
      exact List.mem_cons_self ..
    · rw [if_neg d] at h
      exact List.mem_cons_of_mem _ (ih h)
def out (st : FS) (p : Nat) (n : Str) : Option (Nat × Wg) := look (At st.lv p) n
def inn (st : FS) (p : Nat) (n : Str) : Option (Nat × Wg) := look (At st.ar p) n
def Tb (c : Nat) (nm : List Str) (l : List Edg) : Prop := (l.map (·.1)).Nodup ∧ ∀ e ∈ l, e.1 ∈ nm ∧ e.2.2.length ≤ c
theorem Tb.len {c : Nat} {nm : List Str} {l : List Edg} (h : Tb c nm l) : l.length ≤ nm.length := by
  have := List.Nodup.length_le_of_subset h.1 (l₂ := nm) fun x m => by
    obtain ⟨e, me, rfl⟩ := List.mem_map.mp m
    exact (h.2 e me).1
  simpa using this
theorem Tb.nil {c : Nat} {nm : List Str} : Tb c nm [] := ⟨List.nodup_nil, fun _ z => by cases z⟩
theorem Tb.w {c : Nat} {nm : List Str} {l : List Edg} (h : Tb c nm l) {n : Str} {q : Nat} {w : Wg} (e : look l n = some (q, w)) : w.length ≤ c ∧ n ∈ nm := ⟨(h.2 _ (look_mem e)).2, (h.2 _ (look_mem e)).1⟩
end
section
open PySem PySem.Spec PyProof.Rows L2
structure Fo (c : Nat) (nm : List Str) (st : FS) : Prop where
  la : st.ar.length = st.lv.length
  lm : st.mn.length = st.lv.length
  tl : ∀ p, Tb c nm (At st.lv p)
  ta : ∀ p, Tb c nm (At st.ar p)
abbrev ES := Nat → Str → Nat → Wg → Prop
structure Gr (st : FS) (vo vi : Nat → Str → Prop) : Prop where
  fo : ∀ p n q w, vo p n → out st p n = some (q, w) → vi q n ∧ inn st q n = some (p, w)
  fi : ∀ q n p w, vi q n → inn st q n = some (p, w) → vo p n ∧ out st p n = some (q, w)
theorem at_out {l : List (List Edg)} {p : Nat} (h : ¬ p < l.length) : At l p = [] := by
  unfold At
  rw [List.getD_eq_getElem?_getD, List.getElem?_eq_none (by omega)]
  rfl
theorem out_lt {st : FS} {p : Nat} {n : Str} {x : Nat × Wg} (h : out st p n = some x) : p < st.lv.length := Classical.byContradiction fun z => by
  unfold out at h
  rw [at_out z] at h
  cases h
theorem inn_lt {st : FS} {p : Nat} {n : Str} {x : Nat × Wg} (h : inn st p n = some x) : p < st.ar.length := Classical.byContradiction fun z => by
  unfold inn at h
  rw [at_out z] at h
  cases h
abbrev SM := ES → List Tri → List Wg → Prop
section
variable {c : Nat} {nm : List Str} {A : Nat → Prop} {kept lost : Nat} {w : Wg} {Sem : SM} {wt : List Tri} {N src : Nat} {mn : List Nat} {mv : List (Nat × Nat × Wg)} {items : List Edg} {T L : Nat} {s : FS × List Tri} {post : List Edg} {x : Edg}
end
end
section
open PySem PySem.Spec PyProof.Rows L2
def vA (A : Nat → Prop) : Nat → Str → Prop := fun p _ => A p
section
variable {c : Nat} {nm : List Str} {A : Nat → Prop} {kept lost : Nat} {w : Wg} {Sem : SM} {wt : List Tri} {N src : Nat} {mn : List Nat} {mv : List (Nat × Nat × Wg)} {items : List Edg} {T L : Nat} {s : FS × List Tri} {post : List Edg} {x : Edg}
end
end
section
open PySem PySem.Spec PyProof.Rows L2
end
section
open PySem PySem.Spec PyProof.Rows L2
abbrev MV := List (Nat × Nat × Wg)
inductive MvOk (N c : Nat) : MV → Prop
  | nil : MvOk N c []
  | snoc {mv : MV} {l k : Nat} {w : Wg} : MvOk N c mv → lookN mv l = none → lookN mv k = none → l ≠ k → l ≠ 0 → l < N → k < N → w.length ≤ c → MvOk N c (mv ++ [(l, k, w)])
theorem lookN_app {α : Type} (l : List (Nat × α)) (k : Nat) (x : α) (n : Nat) : lookN (l ++ [(k, x)]) n = (lookN l n).or (if n = k then some x else none) := by
  unfold lookN
  rw [List.find?_append]
  cases e : l.find? fun p => decide (p.1 = n) with
  | some y => rfl
  | none =>
    show ((List.find? (fun p => decide (p.1 = n)) [(k, x)])).map _ = _
    rw [List.find?_cons]
    by_cases c : k = n
    · subst c; simp
    · rw [show decide ((k, x).1 = n) = false from decide_eq_false c, if_neg (fun z => c z.symm)]
      rfl
theorem lookN_mem {α : Type} {l : List (Nat × α)} {n : Nat} {x : α} (h : lookN l n = some x) : (n, x) ∈ l := by
  unfold lookN at h
  obtain ⟨y, e, rfl⟩ := Option.map_eq_some_iff.mp h
  have := List.find?_some e
  have m := List.mem_of_find?_eq_some e
  have : y.1 = n := of_decide_eq_true this
  rw [← this]
  exact m
theorem lookN_none {α : Type} {l : List (Nat × α)} {n : Nat} (h : lookN l n = none) : ∀ x ∈ l, x.1 ≠ n := by
  unfold lookN at h
  rw [Option.map_eq_none_iff, List.find?_eq_none] at h
  intro x m z
  exact h x m (decide_eq_true z)
section
variable {N c : Nat} {mv : MV}
theorem MvOk.keys (h : MvOk N c mv) : (mv.map (·.1)).Nodup ∧ ∀ x ∈ mv, x.1 ≠ 0 ∧ x.1 < N := by
  induction h with
  | nil => exact ⟨List.nodup_nil, fun x z => by cases z⟩
  | snoc h a b d e f g _ ih =>
    refine ⟨?_, fun x m => ?_⟩
    · rw [List.map_append]
      refine List.nodup_append.mpr ⟨ih.1, by simp, fun x mx y my z => ?_⟩
      rw [List.map_singleton, List.mem_singleton] at my
      obtain ⟨u, mu, rfl⟩ := List.mem_map.mp mx
      exact lookN_none a u mu (z.trans my)
    · rcases List.mem_append.mp m with m | m
      · exact ih.2 x m
      · rw [List.mem_singleton] at m
        subst m
        exact ⟨e, f⟩
theorem MvOk.len (h : MvOk N c mv) (h0 : 0 < N) : mv.length < N := by
  have k := h.keys
  have : (0 :: mv.map (·.1)).length ≤ (List.range N).length := List.Nodup.length_le_of_subset (List.nodup_cons.mpr ⟨fun m => by
    obtain ⟨x, mx, e⟩ := List.mem_map.mp m
    exact (k.2 x mx).1 e, k.1⟩) fun x m => by
    rcases List.mem_cons.mp m with rfl | m
    · exact List.mem_range.mpr h0
    · obtain ⟨y, my, rfl⟩ := List.mem_map.mp m
      exact List.mem_range.mpr (k.2 y my).2
  rw [List.length_range, List.length_cons, List.length_map] at this
  omega
theorem Std.mono {k p r : Nat} {f : Wg} (h : Std mv k p r f) {l q : Nat} {w : Wg} (hl : lookN mv l = none) (hq : lookN mv q = none) (ne : l ≠ q) : ∃ j, j ≤ k + 1 ∧ (r ≠ l → Std (mv ++ [(l, q, w)]) k p r f) ∧ (r = l → Std (mv ++ [(l, q, w)]) (k + 1) p q (f ++ w)) := by
  refine ⟨k, by omega, ?_, ?_⟩
  · intro hr
    induction h with
    | stop e => exact .stop (by rw [lookN_app, e, if_neg hr]; rfl)
    | go e h ih => exact .go (by rw [lookN_app, e]; rfl) (ih hr)
  · intro hr
    induction h with
    | stop e =>
      subst hr
      have := Std.go (mv := mv ++ [(_, q, w)]) (by rw [lookN_app, e, if_pos rfl]; rfl) (Std.stop (by rw [lookN_app, hq, if_neg (fun z => ne z.symm)]; rfl))
      rw [List.append_nil] at this
      rw [List.nil_append]
      exact this
    | go e h ih =>
      rw [List.append_assoc]
      exact .go (by rw [lookN_app, e]; rfl) (ih hr)
theorem MvOk.std (h : MvOk N c mv) (p : Nat) : ∃ k r f, k ≤ mv.length ∧ f.length ≤ c * k ∧ Std mv k p r f ∧ lookN mv r = none ∧ (p < N → r < N) := by
  induction h with
  | nil => exact ⟨0, p, [], Nat.le_refl _, Nat.zero_le _, .stop rfl, rfl, id⟩
  | @snoc mv l q w h a b d e f1 g hw ih =>
    obtain ⟨k, r, f, h1, h2, h3, h4, h5⟩ := ih
    obtain ⟨_, _, m1, m2⟩ := h3.mono (w := w) a b d
    by_cases z : r = l
    · refine ⟨k + 1, q, f ++ w, by rw [List.length_append]; simpa using h1, ?_, m2 z, by rw [lookN_app, b, if_neg (fun z => d z.symm)]; rfl, fun _ => g⟩
      rw [List.length_append, Nat.mul_succ]
      omega
    · exact ⟨k, r, f, by rw [List.length_append]; omega, h2, m1 z, by rw [lookN_app, h4, if_neg z]; rfl, h5⟩
end
theorem Std.det2 {mv : MV} {j k p r q : Nat} {f g : Wg} (h : Std mv j p r f) (h2 : Std mv k p q g) : r = q ∧ j = k := by
  induction h generalizing k g with
  | stop e =>
    cases h2 with
    | stop _ => exact ⟨rfl, rfl⟩
    | go e2 _ => rw [e] at e2; cases e2
  | go e _ ih =>
    cases h2 with
    | stop e2 => rw [e] at e2; cases e2
    | go e2 h2 => rw [e] at e2; cases e2; exact ⟨(ih h2).1, by rw [(ih h2).2]⟩
def stc (mv : MV) (mn : List Nat) (p : Nat) : Nat := if lookN mv p = none then mn.getD p 0 else 0
theorem sum_one {f : Nat → Nat} {i : Nat} : ∀ n, i < n → f i ≤ ((List.range n).map f).sum
  | 0, z => by omega
  | n + 1, z => by
    rw [List.range_succ, List.map_append, List.sum_append]
    show _ ≤ _ + (f n + 0)
    by_cases c : i = n
    · subst c; omega
    · have := sum_one (f := f) n (show i < n by omega)
      omega
structure Sz (N : Nat) (mv : MV) (mn : List Nat) : Prop where
  sum : ((List.range N).map (stc mv mn)).sum = N
  dep : ∀ k p r f, p < N → Std mv k p r f → r ≠ 0 → 2 ^ k ≤ mn.getD r 0
  dp0 : ∀ k p f, p < N → Std mv k p 0 f → k ≤ 14
theorem Sz.le {N : Nat} {mv : MV} {mn : List Nat} (h : Sz N mv mn) {p : Nat} (hp : p < N) (a : lookN mv p = none) : mn.getD p 0 ≤ N := by
  have := sum_one (f := stc mv mn) N hp
  rw [h.sum] at this
  unfold stc at this
  rw [if_pos a] at this
  exact this
theorem Sz.fresh {N c : Nat} {mv : MV} {mn : List Nat} (h : Sz N mv mn) (mok : MvOk N c mv) (lm : mn.length = N) : Sz (N + 1) mv (mn ++ [1]) := by
  have out : ∀ p, N ≤ p → lookN mv p = none := fun p hp => by
    cases e : lookN mv p with
    | none => rfl
    | some x => have := (mok.keys.2 _ (lookN_mem e)).2; dsimp only at this; omega
  have gs : ∀ p, p < N → (mn ++ [1]).getD p 0 = mn.getD p 0 := fun p hp => by rw [List.getD_eq_getElem?_getD, List.getElem?_append_left (by omega), List.getD_eq_getElem?_getD]
  have gN : (mn ++ [1]).getD N 0 = 1 := by rw [List.getD_eq_getElem?_getD, List.getElem?_append_right (by omega), lm]; simp
  refine ⟨?_, fun k p r f hp s z => ?_, fun k p f hp s => ?_⟩
  · rw [List.range_succ, List.map_append, List.sum_append]
    have e1 : (List.range N).map (stc mv (mn ++ [1])) = (List.range N).map (stc mv mn) := List.map_congr_left fun p m => by
      unfold stc
      rw [gs p (List.mem_range.mp m)]
    rw [e1, h.sum]
    show N + (stc mv (mn ++ [1]) N + 0) = N + 1
    unfold stc
    rw [if_pos (out N (Nat.le_refl _)), gN]
  · by_cases c : p < N
    · obtain ⟨_, r2, _, _, _, s2, _, l⟩ := mok.std p
      obtain ⟨e, _⟩ := s.det2 s2
      subst e
      rw [gs r (l c)]
      exact h.dep k p r f c s z
    · have : p = N := by omega
      subst this
      obtain ⟨e1, e2⟩ := s.det2 (Std.stop (out p (Nat.le_refl _)))
      subst e1
      subst e2
      rw [gN]
      exact Nat.le_refl _
  · by_cases c : p < N
    · exact h.dp0 k p f c s
    · obtain ⟨_, e2⟩ := s.det2 (Std.stop (out p (by omega)))
      omega
abbrev SM4 := MV → SM
def Al (mv : MV) : Nat → Prop := fun p => lookN mv p = none
end
section
open PySem PySem.Spec PyProof.Rows L2
section
variable {c : Nat} {nm : List Str} {src N K B : Nat} {Sem : SM4}
end
end
section
open PySem PySem.Spec PyProof.Rows L2
section
variable {c : Nat} {nm : List Str} {src N K B : Nat} {Sem : SM4}
end
end
section
open PySem PySem.Spec PyProof.Rows L2
end
section
open PySem PySem.Spec PyProof.Rows L2
def turnS (xs : List Stp) : List Stp := xs.reverse.map fun s => (s.1, -s.2)
structure PS where
  st : FS
  b : Nat
  e : Nat
  bf : Wg
  bh : Wg
  mid : List Stp
end
section
open PySem PySem.Spec PyProof.Rows L2
structure Bs (c : Nat) (nm : List Str) (src : Nat) (st : FS) : Prop where
  fo : Fo c nm st
  src : st.src = src
  mok : MvOk st.lv.length c st.mv
  gr : Gr st (vA (Al st.mv)) (vA (Al st.mv))
  sz : Sz st.lv.length st.mv st.mn
  n0 : 0 < st.lv.length
def Sg (s : Stp) : Prop := s.2 = 1 ∨ s.2 = -1
def sinv (s : Stp) : Stp := (s.1, -s.2)
theorem sinv_sinv (s : Stp) : sinv (sinv s) = s := Prod.ext rfl (Int.neg_neg _)
theorem Sg.inv {s : Stp} (h : Sg s) : Sg (sinv s) := h.elim (fun z => .inr (by show -s.2 = _; rw [z])) fun z => .inl (by show -s.2 = _; rw [z]; rfl)
theorem turn_eq (xs : List Stp) : turnS xs = xs.reverse.map sinv := rfl
def Rs (st : FS) (p : Nat) (s : Stp) (q : Nat) : Prop := Al st.mv p ∧ ∃ w, out1 st p s = some (q, w)
inductive Rd {α : Type} (R : α → Stp → α → Prop) : α → List Stp → α → Prop
  | nil {p : α} : Rd R p [] p
  | cons {p q r : α} {s : Stp} {xs : List Stp} : R p s q → Rd R q xs r → Rd R p (s :: xs) r
theorem Rd.app {α : Type} {R : α → Stp → α → Prop} {p q r : α} {xs ys : List Stp} (h : Rd R p xs q) (h2 : Rd R q ys r) : Rd R p (xs ++ ys) r := by
  induction h with
  | nil => exact h2
  | cons a _ ih => exact .cons a (ih h2)
theorem Rd.mono {α : Type} {R R' : α → Stp → α → Prop} (k : ∀ p s q, R p s q → R' p s q) {p q : α} {xs : List Stp} (h : Rd R p xs q) : Rd R' p xs q := by
  induction h with
  | nil => exact .nil
  | cons a _ ih => exact .cons (k _ _ _ a) ih
theorem Rd.map {α β : Type} {R : α → Stp → α → Prop} {R' : β → Stp → β → Prop} {ρ : α → β} (k : ∀ p s q, R p s q → R' (ρ p) s (ρ q)) {p q : α} {xs : List Stp} (h : Rd R p xs q) : Rd R' (ρ p) xs (ρ q) := by
  induction h with
  | nil => exact .nil
  | cons a _ ih => exact .cons (k _ _ _ a) ih
theorem Rd.turn {α : Type} {R : α → Stp → α → Prop} (k : ∀ p s q, R p s q → R q (sinv s) p) {p q : α} {xs : List Stp} (h : Rd R p xs q) : Rd R q (turnS xs) p := by
  induction h with
  | nil => exact .nil
  | @cons p q r s xs a _ ih =>
    have : turnS (s :: xs) = turnS xs ++ [sinv s] := by rw [turn_eq, turn_eq, List.reverse_cons, List.map_append]; rfl
    rw [this]
    exact ih.app (.cons (k _ _ _ a) .nil)
theorem turn_turn (xs : List Stp) : turnS (turnS xs) = xs := by
  rw [turn_eq, turn_eq, ← List.map_reverse, List.reverse_reverse, List.map_map]
  conv => rhs; rw [← List.map_id xs]
  exact List.map_congr_left fun s _ => sinv_sinv s
section
variable {c : Nat} {nm : List Str} {src : Nat} {st : FS}
theorem Bs.rd (h : Bs c nm src st) (hc : c ≤ 1) : ∀ p s q w, Al st.mv p → out1 st p s = some (q, w) → q < st.lv.length ∧ w.length ≤ c ∧ Al st.mv q := fun p s q w ha ho => by
  unfold out1 at ho
  split at ho
  · obtain ⟨a1, a2⟩ := h.gr.fo _ _ _ _ ha ho
    exact ⟨by have := inn_lt a2; rw [h.fo.la] at this; exact this, ((h.fo.tl p).w ho).1, a1⟩
  · obtain ⟨a1, a2⟩ := h.gr.fi _ _ _ _ ha ho
    exact ⟨out_lt a2, ((h.fo.ta p).w ho).1, a1⟩
theorem Rs.turn (h : Bs c nm src st) {p q : Nat} {s : Stp} (hs : Sg s) (r : Rs st p s q) : Rs st q (sinv s) p := by
  obtain ⟨n, g⟩ := s
  obtain ⟨a, w, e⟩ := r
  rcases hs with z | z
  · have z : g = 1 := z
    subst z
    obtain ⟨b1, b2⟩ := h.gr.fo _ _ _ _ a e
    exact ⟨b1, w, b2⟩
  · have z : g = -1 := z
    subst z
    obtain ⟨b1, b2⟩ := h.gr.fi _ _ _ _ a e
    exact ⟨b1, w, b2⟩
theorem Rd.lt (h : Bs c nm src st) (hc : c ≤ 1) {p q : Nat} {xs : List Stp} (r : Rd (Rs st) p xs q) : p < st.lv.length → q < st.lv.length := by
  induction r with
  | nil => exact id
  | cons a _ ih => exact fun _ => ih (h.rd hc _ _ _ _ a.1 a.2.choose_spec).1
end
def Fs {V : Type} (F : V → Str → V → Prop) (x : V) (s : Stp) (y : V) : Prop := if s.2 = 1 then F x s.1 y else F y s.1 x
theorem Fs.inv {V : Type} {F : V → Str → V → Prop} {x y : V} {s : Stp} (hs : Sg s) (h : Fs F x s y) : Fs F y (sinv s) x := by
  obtain ⟨n, g⟩ := s
  rcases hs with z | z
  · have z : g = 1 := z
    subst z
    exact h
  · have z : g = -1 := z
    subst z
    exact h
end
section
open PySem PySem.Spec PyProof.Rows L2
theorem MvOk.wide {N N' c : Nat} {mv : MV} (h : MvOk N c mv) (l : N ≤ N') : MvOk N' c mv := by
  induction h with
  | nil => exact .nil
  | snoc _ a b d e f g w ih => exact .snoc ih a b d e (by omega) (by omega) w
section
variable {c : Nat} {nm : List Str} {src : Nat} {st : FS}
end
end
section
open PySem PySem.Spec PyProof.Rows L2
section
variable {c : Nat} {nm : List Str} {src : Nat} {st0 : FS} {xs : List Stp} {L0 : Nat} {sw : Wg}
end
end
section
open PySem PySem.Spec PyProof.Rows L2
theorem RdF.turn {V : Type} {F : V → Str → V → Prop} {p q : V} {xs : List Stp} (hs : ∀ s ∈ xs, Sg s) (h : Rd (Fs F) p xs q) : Rd (Fs F) q (turnS xs) p := by
  induction h with
  | nil => exact .nil
  | @cons p q r s xs a _ ih =>
    have : turnS (s :: xs) = turnS xs ++ [sinv s] := by rw [turn_eq, turn_eq, List.reverse_cons, List.map_append]; rfl
    rw [this]
    exact (ih fun s m => hs s (List.mem_cons_of_mem _ m)).app (.cons (a.inv (hs s (List.mem_cons_self ..))) .nil)
theorem Rd.one {α : Type} {R : α → Stp → α → Prop} {p q r : α} {xs : List Stp} {s : Stp} (h : Rd R p xs q) (k : R q s r) : Rd R p (xs ++ [s]) r := h.app (.cons k .nil)
section
variable {c : Nat} {nm : List Str} {src : Nat} {st0 : FS} {xs : List Stp} {L0 : Nat} {sw : Wg}
end
end
section
open PySem PySem.Spec PyProof.Rows L2
section
variable {N c : Nat} {mv : MV}
end
section
variable {c : Nat} {nm : List Str} {src : Nat} {st : FS} {xs : List Stp} {sw : Wg} {L1 : Nat}
end
end
section
open PySem PySem.Spec PyProof.Rows L2
end
section
open PySem PySem.Spec PyProof.Rows L2
end
section
open PySem PySem.Spec PyProof.Rows L2
end
section
open PySem PySem.Spec PyProof.Rows L2
section
variable {c : Nat} {nm : List Str} {src : Nat} {st : FS}
end
end
section
open PySem PySem.Spec PyProof.Rows L2
end
section
open PySem PySem.Spec PyProof.Rows L2
abbrev Arw := Nat × Str × Nat
end
section
open PySem PySem.Spec PyProof.Rows L2
end
section
open PySem PySem.Spec PyProof.Rows L2
def nameS (n : Nat) : Str := if n < 26 then ⟨#[97 + n]⟩ else if n < 702 then ⟨#[97 + (n / 26 - 1), 97 + n % 26]⟩ else ⟨#[97 + (n - 702) / 676, 97 + (n - 702) / 26 % 26, 97 + (n - 702) % 26]⟩
theorem signs_str (z : Str) : ∀ d ∈ signs z, ∃ c, d = .str ⟨#[c]⟩ := fun d m => by
  unfold signs at m
  obtain ⟨c, _, rfl⟩ := List.mem_map.mp m
  exact ⟨c, rfl⟩
def sgn : D → Nat
  | .str z => z.cps.getD 0 0
  | _ => 0
theorem in_sign (c : Nat) (z : Str) : dIn (.str ⟨#[c]⟩) (.str z) = some (.bl (decide (c ∈ z.cps.toList))) := rfl
theorem nin_sign (c : Nat) (z : Str) : dNin (.str ⟨#[c]⟩) (.str z) = some (.bl (!decide (c ∈ z.cps.toList))) := rfl
theorem aItS_ok {a : E1} {S : List D} {z : Str} (h : a S = .ok (.str z, S)) (hz : z.length ≤ sizeLine) : aItS a S = .ok (signs z, S) := by
  unfold aItS
  rw [h]
  exact if_pos hz
theorem fits_ok (z : Str) (h : z.length ≤ sizeLine) : A_fits_name [.str z] = .ok (.bl (fitsN z)) := by
  have hf : fitsN z = (decide (1 ≤ z.length) && decide (z.length ≤ 3) && z.cps.toList.all fun c => decide (c ∈ ("abcdefghijklmnopqrstuvwxyz" : Str).cps.toList)) := rfl
  rw [hf]
  unfold A_fits_name
  walk_at "av"
  rw [len_str h]
  walk_at "av"
  by_cases h1 : 1 ≤ z.length
  · have e1 : decide ((1 : Int) ≤ (z.length : Int)) = true := by simp; omega
    rw [e1]
    walk_at "av"
    by_cases h2 : z.length ≤ 3
    · have e2 : decide ((z.length : Int) ≤ 3) = true := by simp; omega
      rw [e2]
      walk_at "av"
      rw [aLc_pure (ds := signs z) (fun _ => true) (fun d => .bl (decide (sgn d ∈ ("abcdefghijklmnopqrstuvwxyz" : Str).cps.toList))) (aItS_ok rfl h) (fun d m => rfl) (fun d m _ => by
        obtain ⟨c, rfl⟩ := signs_str z d m
        walk_at "av"
        rw [in_sign]
        rfl)]
      walk_at "av"
      have e3 : (List.filter (fun _ => true) (signs z)).map (fun d => D.bl (decide (sgn d ∈ ("abcdefghijklmnopqrstuvwxyz" : Str).cps.toList))) = z.cps.toList.map fun c => D.bl (decide (c ∈ ("abcdefghijklmnopqrstuvwxyz" : Str).cps.toList)) := by
        unfold signs
        rw [List.filter_eq_self.mpr (fun _ _ => rfl), List.map_map]
        rfl
      rw [e3, all_ok]
      walk_at "av"
      rw [decide_eq_true h1, decide_eq_true h2]
      rfl
    · have e2 : decide ((z.length : Int) ≤ 3) = false := by simp; omega
      rw [e2]
      walk_at "av"
      rw [decide_eq_false h2]
      simp
  · have e1 : decide ((1 : Int) ≤ (z.length : Int)) = false := by simp; omega
    rw [e1]
    walk_at "av"
    rw [decide_eq_false h1]
    simp
theorem strOk_at {z : Str} (h : PyData.strOk z = true) {c : Nat} (m : c ∈ z.cps.toList) : PyData.strOk ⟨#[c]⟩ = true := by
  unfold PyData.strOk at h ⊢
  rw [Array.all_eq_true'] at h
  have := h c (by simpa using m)
  simpa using this
theorem fits_name {n : Nat} (h : n < 18278) : fitsN (nameS n) = true := by
  have key0 : ∀ k, k < 26 → decide (97 + k ∈ ("abcdefghijklmnopqrstuvwxyz" : Str).cps.toList) = true := by decide +kernel
  have key : ∀ k, k < 26 → 97 + k ∈ ("abcdefghijklmnopqrstuvwxyz" : Str).cps := fun k h => by simpa using key0 k h
  unfold fitsN nameS
  by_cases h1 : n < 26
  · rw [if_pos h1]
    simp [key n h1]
  · rw [if_neg h1]
    by_cases h2 : n < 702
    · rw [if_pos h2]
      have a := key (n / 26 - 1) (by omega)
      have b := key (n % 26) (by omega)
      simp [a, b]
    · rw [if_neg h2]
      have a := key ((n - 702) / 676) (by omega)
      have b := key ((n - 702) / 26 % 26) (by omega)
      have c := key ((n - 702) % 26) (by omega)
      simp [a, b, c]
theorem fits_len {z : Str} (h : fitsN z = true) : 1 ≤ z.length ∧ z.length ≤ 3 := by
  unfold fitsN at h
  simp only [Bool.and_eq_true, decide_eq_true_eq] at h
  exact h.1
theorem fits_strOk {z : Str} (h : fitsN z = true) : PyData.strOk z = true := by
  unfold fitsN at h
  simp only [Bool.and_eq_true] at h
  have h := h.2
  unfold PyData.strOk
  rw [Array.all_eq_true']
  intro c m
  rw [List.all_eq_true] at h
  have := of_decide_eq_true (h c (by simpa using m))
  have key : ∀ c ∈ ("abcdefghijklmnopqrstuvwxyz" : Str).cps.toList, c < 200 := by decide +kernel
  have := key c this
  simp
  omega
theorem fits_gn {z : Str} (h : fitsN z = true) : Gn z := ⟨by have := (fits_len h).2; omega, fits_strOk h⟩
end
section
open PySem PySem.Spec PyProof.Rows L2
theorem snoc_cases {α : Type} (l : List α) : l = [] ∨ ∃ a t, l = a ++ [t] := by
  rcases List.eq_nil_or_concat l with h | ⟨a, t, h⟩
  · exact .inl h
  · exact .inr ⟨a, t, by rw [h, List.concat_eq_append]⟩
theorem snoc_ind {α : Type} {P : List α → Prop} (h0 : P []) (h1 : ∀ xs x, P xs → P (xs ++ [x])) (xs : List α) : P xs := by
  have : ∀ l : List α, P l.reverse := fun l => by
    induction l with
    | nil => exact h0
    | cons x l ih => rw [List.reverse_cons]; exact h1 _ _ ih
  have := this xs.reverse
  rwa [List.reverse_reverse] at this
def redS (a : List Stp) (s : Stp) : List Stp := if a.getLast? = some (sinv s) then a.dropLast else a ++ [s]
def redL (xs : List Stp) : List Stp := xs.foldl redS []
theorem sred_snoc (xs : List Stp) (s : Stp) : redL (xs ++ [s]) = redS (redL xs) s := by unfold redL; rw [List.foldl_append]; rfl
theorem redS_mem {a : List Stp} {s t : Stp} (m : t ∈ redS a s) : t ∈ a ∨ t = s := by
  unfold redS at m
  split at m
  · exact .inl (List.dropLast_subset _ m)
  · rw [List.mem_append, List.mem_singleton] at m; exact m
theorem sred_sub : ∀ xs : List Stp, (∀ t ∈ redL xs, t ∈ xs) ∧ (redL xs).length ≤ xs.length := by
  refine snoc_ind ?_ ?_
  · exact ⟨fun t m => m, Nat.le_refl _⟩
  · intro xs s ih
    rw [sred_snoc]
    refine ⟨fun t m => ?_, ?_⟩
    · rcases redS_mem m with m | m
      · exact List.mem_append_left _ (ih.1 t m)
      · rw [m]; simp
    · unfold redS
      have := ih.2
      split
      · rw [List.length_dropLast, List.length_append]; omega
      · rw [List.length_append, List.length_append]; simp; exact this
def Rdd (xs : List Stp) : Prop := ∀ l x y r, xs = l ++ x :: y :: r → y ≠ sinv x
theorem rdd_snoc {a : List Stp} {s : Stp} (h : Rdd a) (k : a.getLast? ≠ some (sinv s)) : Rdd (a ++ [s]) := by
  intro l x y r e z
  rcases snoc_cases r with rfl | ⟨r', t, rfl⟩
  · have e2 : a ++ [s] = (l ++ [x]) ++ [y] := by rw [e]; simp
    obtain ⟨rfl, e3⟩ := List.append_inj' e2 rfl
    injection e3 with e3
    subst e3
    apply k
    rw [List.getLast?_concat, z, sinv_sinv]
  · have e2 : a ++ [s] = (l ++ x :: y :: r') ++ [t] := by rw [e]; simp
    obtain ⟨e3, _⟩ := List.append_inj' e2 rfl
    exact h l x y r' e3 z
theorem rdd_drop {a : List Stp} (h : Rdd a) : Rdd a.dropLast := by
  intro l x y r e
  rcases snoc_cases a with rfl | ⟨a', t, rfl⟩
  · simp at e
  · simp at e
    exact h l x y (r ++ [t]) (by rw [e]; simp)
theorem red_rdd : ∀ xs : List Stp, Rdd (redL xs) := by
  refine snoc_ind ?_ ?_
  · intro l x y r e
    have e : ([] : List Stp) = l ++ x :: y :: r := e
    have := congrArg List.length e
    simp at this
  · intro xs s ih
    rw [sred_snoc]
    unfold redS
    split
    · exact rdd_drop ih
    · rename_i c; exact rdd_snoc ih c
theorem sred_of : ∀ {xs : List Stp}, Rdd xs → redL xs = xs := by
  refine fun {xs} => snoc_ind (P := fun xs => Rdd xs → redL xs = xs) (fun _ => rfl) ?_ xs
  · intro xs s ih h
    rw [sred_snoc, ih (by have := rdd_drop h; rwa [List.dropLast_concat] at this)]
    unfold redS
    rw [if_neg]
    intro c
    rcases snoc_cases xs with rfl | ⟨a', t, rfl⟩
    · cases c
    · rw [List.getLast?_concat] at c
      injection c with c
      exact h a' t s [] (by simp) (by rw [c, sinv_sinv])
theorem sred_red (xs : List Stp) : redL (redL xs) = redL xs := sred_of (red_rdd xs)
end
section
open PySem PySem.Spec PyProof.Rows L2
end
section
open PySem PySem.Spec PyProof.Rows L2
theorem pys_map {α : Type} (e : α → D) : ∀ l : List α, D.pys (l.map e) = l.map fun x => (e x).py
  | [] => by unfold D.pys; rfl
  | x :: l => by rw [List.map_cons]; unfold D.pys; rw [pys_map e l]; rfl
end
section
open PySem PySem.Spec PyProof.Rows L2
end
section
open PySem PySem.Spec PyProof.Rows L2
end
open PySem PySem.Spec PyProof.Rows L2
section
variable {S : List D} {E : XQ} {a b : E1} {Q : D → List D → Prop}
theorem s_ownIn {C : Str} {φ : List D → Rz D} (h : Sat2 (a S) (fun x S1 => Sat2 (b S1) (fun y S2 => y.isO C = true ∧ Sat (φ [y, x]) (fun d => ∃ t : Bool, d = .bl t ∧ Q d S2) E) E) E) : Sat2 (aOwnIn C φ a b S) Q E := by with_unfolding_all exact (bnd22 (h.imp (fun x S1 h => bnd22 (h.imp (fun y S2 h => by
    show Sat2 (if y.isO C = true then _ else _) _ _
    rw [if_pos h.1]
    exact bnd2 (h.2.imp (fun d h => by obtain ⟨t, rfl, h⟩ := h; exact h) fun _ _ h => h)) fun _ _ h => h)) fun _ _ h => h))
theorem s_ownU {C : Str} {φ : List D → Rz D} (h : Sat2 (a S) (fun x S1 => x.isO C = true ∧ Sat (φ [x]) (fun d => Q d S1) E) E) : Sat2 (aOwnU C φ a S) Q E := by with_unfolding_all exact (bnd22 (h.imp (fun x S1 h => by
    show Sat2 (if x.isO C = true then (φ [x]).bind fun r => Rz.ok (r, S1) else .no) _ _
    rw [if_pos h.1]
    exact bnd2 h.2) fun _ _ h => h))
theorem s_ownB {C : Str} {φ : List D → Rz D} (h : Sat2 (a S) (fun x S1 => Sat2 (b S1) (fun y S2 => (x.isO C && y.isO C) = true ∧ Sat (φ [x, y]) (fun d => Q d S2) E) E) E) : Sat2 (aOwnB C φ a b S) Q E := by with_unfolding_all exact (bnd22 (h.imp (fun x S1 h => bnd22 (h.imp (fun y S2 h => by
    show Sat2 (if (x.isO C && y.isO C) = true then (φ [x, y]).bind fun r => Rz.ok (r, S2) else .no) _ _
    rw [if_pos h.1]
    exact bnd2 h.2) fun _ _ h => h)) fun _ _ h => h))
theorem x_o {C : Str} {o : D} {P : Prop} (h : o.isO C = true) (q : P) : o.isO C = true ∧ P := ⟨h, q⟩
theorem o_cat {a b : List D} {Q : D → Prop} (h : a.length + b.length ≤ sizeLine) (q : Q (.lst (a ++ b))) : OpS (dCat (.lst a) (.lst b)) Q := o_okL h q
theorem x_oo {C : Str} {o o2 : D} {P : Prop} (h : (o.isO C && o2.isO C) = true) (q : P) : (o.isO C && o2.isO C) = true ∧ P := ⟨h, q⟩
end
local macro_rules | `(tactic| walk_at "wv") => `(tactic| repeat ((fail_if_success (with_reducible apply isIfSeq)); (first
  | with_reducible apply s_okn
  | ((with_reducible apply o_cat); (have := szL; walk_at "sd"))
  | walk_at "wone"
  | ((with_reducible apply x_obj); exact rfl)
  | with_reducible apply s_retU1
  | with_reducible apply s_retU2
  | with_reducible apply s_par3
  | with_reducible apply s_ownIn
  | with_reducible apply s_ownU
  | with_reducible apply s_ownB
  | ((with_reducible apply x_o); exact rfl)
  | ((with_reducible apply x_oo); exact rfl))))
section
open PySem PySem.Spec PyProof.Rows L2
theorem s_lm {S : List D} {E : XQ} {a b : E1} {Q : D → List D → Prop} {f : D → D → Option D} (h : Sat2 (a S) (fun x S1 => ∃ l, x = .lst l ∧ Sat2 (b S1) (fun y S2 => OpS (f (.lst l) y) fun d => Q d S2) E) E) : Sat2 (aLM f a b S) Q E := by
  with_unfolding_all
    exact bnd22 (h.imp (fun x S1 h => by
      obtain ⟨l, rfl, h⟩ := h
      exact bnd22 (show Sat2 (oR (some l) S1) _ _ from bnd22 (h.imp (fun _ _ h => or2 h) fun _ _ h => h))) fun _ _ h => h)
end
section
open PySem PySem.Spec PyProof.Rows L2
section
variable {as : EA} {S : List D} {A : List D → List D → Prop} {E : XQ}
end
end
section
open PySem PySem.Spec PyProof.Rows L2
theorem s_try {n : Nat} {cs : List Str} {hs : List Hd} {b : S2} {S : List D} {N : List D → Prop} {R : D → List D → Prop} {E : XQ} (h : Sat (b S) N (fun c fs => c ∈ cs ∧ match findH hs c with
    | some h => ∃ l, hpD fs h.ps = some l ∧ (l.length ≤ sizeLine ∧ h.i < n ∧ h.j < n ∧ h.i ≠ h.j) ∧ To ((List.replicate n .non).set h.j (.tup l)) N
    | none => E c fs)) : SatS (aTry n cs hs b S) N R E := by
  with_unfolding_all
    unfold aTry
    cases e : b S with
    | ok S' => rw [e] at h; exact h
    | no => rw [e] at h; exact h
    | ex c fs =>
      rw [e] at h
      obtain ⟨h1, h⟩ := (show c ∈ cs ∧ (match findH hs c with
        | some h => ∃ l, hpD fs h.ps = some l ∧ (l.length ≤ sizeLine ∧ h.i < n ∧ h.j < n ∧ h.i ≠ h.j) ∧ To ((List.replicate n .non).set h.j (.tup l)) N
        | none => E c fs) from h)
      show SatS (if c ∈ cs then _ else _) _ _ _
      rw [if_pos h1]
      cases e2 : findH hs c with
      | none => rw [e2] at h; exact h
      | some hd =>
        rw [e2] at h
        obtain ⟨l, e3, h4, h⟩ := h
        dsimp only
        rw [e3]
        dsimp only
        rw [if_pos h4]
        exact h
theorem sb_seq {s t : S2} {S : List D} {N : List D → Prop} {E : XQ} (h : Sat (s S) (fun S1 => Sat (t S1) N E) E) : Sat (bSeq s t S) N E := bnd h
theorem sb_set {i : Nat} {a : E1} {S : List D} {N : List D → Prop} {E : XQ} (h : Sat2 (a S) (fun d S1 => To (S1.set i d) N) E) : Sat (bSet i a S) N E := by with_unfolding_all exact (bnd21 h)
theorem sb_drop {ms : List Mo} {s : S2} {S : List D} {N : List D → Prop} {E : XQ} (h : Sat (s S) (fun S1 => To (maskD ms S1) N) E) : Sat (bDrop ms s S) N E := by with_unfolding_all exact (bnd h)
end
section
open PySem PySem.Spec PyProof.Rows L2
theorem getD_eq {α : Type} {l : List α} {d : α} {i : Nat} (h : i < l.length) : l.getD i d = l[i] := by rw [List.getD_eq_getElem?_getD, List.getElem?_eq_getElem h]; rfl
abbrev aD (a : Nat × Nat × Str) : D := .tup [.int (a.1 : Nat), .int (a.2.1 : Nat), .str a.2.2]
def ddp (l : List Nat) : List Nat := l.foldl addN []
theorem mem_add {l : List Nat} {n x : Nat} : x ∈ addN l n ↔ x ∈ l ∨ x = n := by
  unfold addN
  by_cases h : n ∈ l
  · rw [if_pos h]
    exact ⟨.inl, fun q => q.elim id fun q => q ▸ h⟩
  · rw [if_neg h, List.mem_append, List.mem_singleton]
theorem nd_add {l : List Nat} {n : Nat} (h : l.Nodup) : (addN l n).Nodup := by
  unfold addN
  by_cases c : n ∈ l
  · rw [if_pos c]; exact h
  · rw [if_neg c]
    refine List.nodup_append.mpr ⟨h, by simp, fun a ma b mb q => ?_⟩
    rw [List.mem_singleton] at mb
    exact c (by rw [← mb, ← q]; exact ma)
theorem mem_fold {x : Nat} : ∀ {l a : List Nat}, x ∈ l.foldl addN a ↔ x ∈ a ∨ x ∈ l
  | [], a => by simp
  | n :: l, a => by rw [List.foldl_cons, mem_fold, mem_add, List.mem_cons, or_assoc]
theorem nd_fold : ∀ {l a : List Nat}, a.Nodup → (l.foldl addN a).Nodup
  | [], a, h => h
  | n :: l, a, h => by rw [List.foldl_cons]; exact nd_fold (nd_add h)
theorem mem_ddp {x : Nat} {l : List Nat} : x ∈ ddp l ↔ x ∈ l := by unfold ddp; rw [mem_fold]; simp
theorem nd_ddp (l : List Nat) : (ddp l).Nodup := nd_fold List.nodup_nil
theorem ddp_snoc (l : List Nat) (x : Nat) : ddp (l ++ [x]) = addN (ddp l) x := by unfold ddp; rw [List.foldl_append]; rfl
theorem len_ddp (l : List Nat) : (ddp l).length ≤ l.length := List.Nodup.length_le_of_subset (nd_ddp l) fun x m => mem_ddp.mp m
theorem w_distinct {l : List Nat} (hl : l.length ≤ 1000000) : Sat (A_distinct [.lst (nts l)]) (fun d => d = .lst (nts (ddp l))) noX := by
  have hs := szL
  unfold A_distinct
  walk_at "wx"
  refine s_dcGo (e := fun n : Nat => .int (n : Nat)) (σ := Unit) (fun _ => [.lst (nts l), .non]) (fun pre acc _ => acc = dk (ddp pre)) (σ0 := ()) rfl (fun pre x post acc _ ex i => ?_) fun acc _ i => ?_
  · walk_at "wx"
    have l1 := len_ddp pre
    have l2 := congrArg List.length ex
    rw [List.length_append, List.length_cons] at l2
    refine ⟨⟨rfl, by rw [i, List.length_map]; omega⟩, ?_⟩
    walk_at "wone"
    exact ⟨(), rfl, by rw [i, put_dk, ddp_snoc]⟩
  · subst i
    walk_at "wx"
    have l1 := len_ddp l
    have e : dList [.dct false (dk (ddp l))] = some (.lst (nts (ddp l))) := by
      show okL (dk (ddp l)).length _ = _
      rw [okL_ok (by rw [List.length_map]; omega), List.map_map]
      rfl
    refine OpS.of e ?_
    walk_at "wx"
    rfl
abbrev wD (w : List Nat) : D := .lst (nts w)
structure SpQ (b : Nat) (ways : List (List Nat)) (st : List Nat × Nat) : Prop where
  nd : st.1.Nodup
  lt : ∀ x ∈ st.1, x < ways.length
  b : b ∈ st.1
  le : st.2 ≤ st.1.length
  cl : ∀ (i : Nat) (h : i < st.1.length), i < st.2 → ∀ y ∈ ways.getD st.1[i] [], y ∈ st.1
theorem spq_len {b : Nat} {ways : List (List Nat)} {st : List Nat × Nat} (h : SpQ b ways st) : st.1.length ≤ ways.length := by
  have := List.Nodup.length_le_of_subset h.nd (l₂ := List.range ways.length) fun x m => List.mem_range.mpr (h.lt x m)
  rw [List.length_range] at this
  exact this
theorem spq_step {b : Nat} {ways : List (List Nat)} {fo : List Nat} {a : Nat} (hw : ∀ w ∈ ways, w.Nodup ∧ ∀ y ∈ w, y < ways.length) (h : SpQ b ways (fo, a)) (ha : a < fo.length) : SpQ b ways (fo ++ (ways.getD fo[a] []).filter (fun y => !decide (y ∈ fo)), a + 1) := by
  have hx : fo[a] < ways.length := h.lt _ (List.getElem_mem ha)
  have gw : ways.getD fo[a] [] = ways[fo[a]] := getD_eq hx
  have hw := hw _ (List.getElem_mem hx)
  rw [← gw] at hw
  refine ⟨?_, fun x m => ?_, List.mem_append_left _ h.b, ?_, fun i hi hia y my => ?_⟩
  · refine List.nodup_append.mpr ⟨h.nd, hw.1.filter _, fun x mx y my e => ?_⟩
    have := (List.mem_filter.mp my).2
    rw [Bool.not_eq_true', decide_eq_false_iff_not] at this
    exact this (by rw [← e]; exact mx)
  · rcases List.mem_append.mp m with m | m
    · exact h.lt x m
    · exact hw.2 x (List.mem_filter.mp m).1
  · show a + 1 ≤ _
    rw [List.length_append]
    omega
  · dsimp only at hi hia my
    have hi2 : i < fo.length := by have : a < fo.length := ha; omega
    rw [List.getElem_append_left hi2] at my
    by_cases c : i = a
    · subst c
      by_cases c2 : y ∈ fo
      · exact List.mem_append_left _ c2
      · exact List.mem_append_right _ (List.mem_filter.mpr ⟨my, by simp [c2]⟩)
    · exact List.mem_append_left _ (h.cl i hi2 (by show i < a; omega) y my)
theorem w_spread {b : Nat} {ways : List (List Nat)} (hw : ∀ w ∈ ways, w.Nodup ∧ ∀ y ∈ w, y < ways.length) (hb : b < ways.length) (hl : ways.length ≤ 1000) : Sat (A_spread [.int (b : Nat), .lst (ways.map wD)]) (fun d => ∃ r : List Nat, d = .lst (nts r) ∧ r.length ≤ ways.length ∧ b ∈ r ∧ ∀ x ∈ r, ∀ y ∈ ways.getD x [], y ∈ r) noX := by
  have hsz := szL
  unfold A_spread
  walk_at "wy"
  refine s_while (σ := List Nat × Nat) (fun st => [.int (b : Nat), .lst (ways.map wD), .lst (nts st.1), .int (st.2 : Nat), .non]) (SpQ b ways) (fun st => ways.length - st.2) (σ0 := ([b], 0)) ⟨by simp, fun x m => by rw [List.mem_singleton] at m; rw [m]; exact hb, by simp, Nat.zero_le _, fun i _ h => by omega⟩ (by unfold FUEL; show ways.length - 0 < _; omega) ?_
  rintro ⟨fo, a⟩ h
  have hlen := spq_len h
  have hle := h.le
  dsimp only at hlen hle ⊢
  walk_at "wx"
  rw [List.length_map]
  dsimp only
  (walk_at "wif" <;> intro c)
  · have ha : a < fo.length := by omega
    have hx : fo[a] < ways.length := h.lt _ (List.getElem_mem ha)
    have gw : ways.getD fo[a] [] = ways[fo[a]] := getD_eq hx
    have st := spq_step hw h ha
    have ln := spq_len st
    dsimp only at ln
    rw [List.length_append] at ln
    walk_at "wx"
    refine o_atI (xs := fo) (e := fun n : Nat => .int (n : Nat)) a rfl ha ?_
    refine o_ixM (xs := ways) (e := wD) fo[a] rfl hx ?_
    walk_at "wx"
    rw [← gw]
    refine s_lcP (e := fun n : Nat => .int (n : Nat)) (fun y => !decide (y ∈ fo)) (fun n : Nat => .int (n : Nat)) (fun y my => ?_) ?_
    · walk_at "wx"
      refine o_ninN ?_
      walk_at "wx"
      refine ⟨rfl, ?_⟩
      refine if_n (if_b (fun c2 => ?_) fun c2 => ?_)
      · rfl
      · walk_at "wx"
        exact ⟨rfl, rfl⟩
    walk_at "wx"
    refine ⟨by rw [List.length_map, List.length_map]; omega, ?_⟩
    walk_at "wx"
    refine ⟨(fo ++ List.filter (fun y => !decide (y ∈ fo)) (ways.getD fo[a] []), a + 1), ?_, st, by show ways.length - (a + 1) < _; omega⟩
    rw [show nts (fo ++ List.filter (fun y => !decide (y ∈ fo)) (ways.getD fo[a] [])) = nts fo ++ List.map (fun n : Nat => D.int (n : Nat)) (List.filter (fun y => !decide (y ∈ fo)) (ways.getD fo[a] [])) from List.map_append]
    rfl
  · walk_at "wx"
    refine ⟨fo, rfl, hlen, h.b, fun x m y my => ?_⟩
    obtain ⟨i, hi, rfl⟩ := List.getElem_of_mem m
    exact h.cl i hi (by show i < a; omega) y my
abbrev Arr := Nat × Nat × Str
def chartD (n : Nat) (as : List Arr) (s e : Nat) : D := .obj "Chart" [(("count" : Str), .int (n : Nat)), (("start" : Str), .int (s : Nat)), (("end" : Str), .int (e : Nat)), (("arrows" : Str), .tup (as.map aD))]
def aheadN (n : Nat) (as : List Arr) : List (List Nat) := (List.range n).map fun p => ddp ((as.filter fun a => decide (a.1 = p)).map fun a => a.2.1)
def backN (n : Nat) (as : List Arr) : List (List Nat) := (List.range n).map fun p => ddp ((as.filter fun a => decide (a.2.1 = p)).map fun a => a.1)
structure ChOk (n : Nat) (as : List Arr) (s e : Nat) : Prop where
  hn : n ≤ 40
  hs : s < n
  he : e < n
  lt : ∀ a ∈ as, a.1 < n ∧ a.2.1 < n
  fit : ∀ a ∈ as, fitsN a.2.2 = true ∧ Gn a.2.2
  fw : ∀ P : Nat → Prop, P s → (∀ a ∈ as, P a.1 → P a.2.1) → ∀ p, p < n → P p
  bw : ∀ P : Nat → Prop, P e → (∀ a ∈ as, P a.2.1 → P a.1) → ∀ p, p < n → P p
theorem s_carrows {n s e : Nat} {as : List Arr} (h : ChOk n as s e) : Sat (A_Chart_check_arrows [chartD n as s e]) (fun d => d = .non) noX := by
  have hsz := szL
  unfold A_Chart_check_arrows
  walk_at "wx"
  rw [enum_zip]
  refine s_forP (σ := Unit) (fun _ => [chartD n as s e, .non, .non]) (fun _ _ => True) (σ0 := ()) trivial ?_ ?_
  · rintro pre ⟨a, k⟩ post _ ex _
    obtain ⟨z1, _⟩ := zip_split ex
    have ma : a ∈ as := by rw [z1]; simp
    obtain ⟨l1, l2⟩ := h.lt a ma
    obtain ⟨f1, f2⟩ := h.fit a ma
    dsimp only
    walk_at "wx"
    dsimp only
    refine if_d (fun c => ?_) fun c => ?_
    · exfalso
      revert c
      split <;> omega
    walk_at "wx"
    dsimp only
    refine if_d (fun c => ?_) fun c => ?_
    · exfalso
      revert c
      split <;> omega
    walk_at "wx"
    refine Sat.ok (fits_ok _ (gn_sz f2)) ?_
    rw [f1]
    walk_at "wx"
    exact ⟨(), rfl, trivial⟩
  · intro _ _
    rfl
theorem len_filt {α β : Type} (f : α → Bool) (g : α → β) (l : List α) : ((l.filter f).map g).length ≤ l.length := by rw [List.length_map]; exact List.length_filter_le _ _
theorem ways_ok {n : Nat} {as : List Arr} (f : Arr → Nat) (g : Arr → Nat) (hg : ∀ a ∈ as, g a < n) : ∀ w ∈ ((List.range n).map fun p => ddp ((as.filter fun a => decide (f a = p)).map g)), w.Nodup ∧ ∀ y ∈ w, y < ((List.range n).map fun p => ddp ((as.filter fun a => decide (f a = p)).map g)).length := fun w m => by
  obtain ⟨p, _, rfl⟩ := List.mem_map.mp m
  refine ⟨nd_ddp _, fun y my => ?_⟩
  rw [List.length_map, List.length_range]
  obtain ⟨a, ma, rfl⟩ := List.mem_map.mp (mem_ddp.mp my)
  exact hg a (List.mem_filter.mp ma).1
theorem ways_get {n : Nat} {as : List Arr} (f : Arr → Nat) (g : Arr → Nat) {a : Arr} (ma : a ∈ as) (hf : f a < n) : g a ∈ ((List.range n).map fun p => ddp ((as.filter fun a => decide (f a = p)).map g)).getD (f a) [] := by
  rw [getD_eq (by rw [List.length_map, List.length_range]; exact hf), List.getElem_map, List.getElem_range, mem_ddp]
  exact List.mem_map.mpr ⟨a, List.mem_filter.mpr ⟨ma, by simp⟩, rfl⟩
theorem s_cplaces {n s e : Nat} {as : List Arr} (h : ChOk n as s e) (hl : as.length ≤ 1000) : Sat (A_Chart_check_places [chartD n as s e]) (fun d => d = .non) noX := by
  have hsz := szL
  have hn := h.hn
  unfold A_Chart_check_places
  walk_at "wy"
  rw [rng_gen, Int.toNat_natCast]
  refine s_lcT (e := fun i : Nat => .int (i : Nat)) (fun p => wD (ddp ((as.filter fun a => decide (a.1 = p)).map fun a => a.2.1))) (fun p mp => ?_) ?_
  · walk_at "wx"
    refine s_lcP (e := aD) (fun a => decide (a.1 = p)) (fun a => .int (a.2.1 : Nat)) (fun a ma => ?_) ?_
    · walk_at "wx"
      refine ⟨decide_eq_decide.mpr Int.ofNat_inj, ?_⟩
      refine if_b (fun c2 => ?_) fun c2 => ?_
      · walk_at "wx"
        exact ⟨rfl, rfl⟩
      · rfl
    walk_at "wx"
    rw [show List.map (fun a : Arr => D.int (a.2.1 : Nat)) (as.filter fun a => decide (a.1 = p)) = nts ((as.filter fun a => decide (a.1 = p)).map fun a => a.2.1) from by rw [nts, List.map_map]; rfl]
    refine (w_distinct (Nat.le_trans (len_filt _ _ _) (by omega))).use fun d ed => ?_
    subst ed
    walk_at "wx"
    exact ⟨rfl, rfl⟩
  rw [show List.map (fun p => wD (ddp ((as.filter fun a => decide (a.1 = p)).map fun a => a.2.1))) (List.range n) = (aheadN n as).map wD from by unfold aheadN; rw [List.map_map]; rfl]
  walk_at "wy"
  rw [rng_gen, Int.toNat_natCast]
  refine s_lcT (e := fun i : Nat => .int (i : Nat)) (fun p => wD (ddp ((as.filter fun a => decide (a.2.1 = p)).map fun a => a.1))) (fun p mp => ?_) ?_
  · walk_at "wx"
    refine s_lcP (e := aD) (fun a => decide (a.2.1 = p)) (fun a => .int (a.1 : Nat)) (fun a ma => ?_) ?_
    · walk_at "wx"
      refine ⟨decide_eq_decide.mpr Int.ofNat_inj, ?_⟩
      refine if_b (fun c2 => ?_) fun c2 => ?_
      · walk_at "wx"
        exact ⟨rfl, rfl⟩
      · rfl
    walk_at "wx"
    rw [show List.map (fun a : Arr => D.int (a.1 : Nat)) (as.filter fun a => decide (a.2.1 = p)) = nts ((as.filter fun a => decide (a.2.1 = p)).map fun a => a.1) from by rw [nts, List.map_map]; rfl]
    refine (w_distinct (Nat.le_trans (len_filt _ _ _) (by omega))).use fun d ed => ?_
    subst ed
    walk_at "wx"
    exact ⟨rfl, rfl⟩
  rw [show List.map (fun p => wD (ddp ((as.filter fun a => decide (a.2.1 = p)).map fun a => a.1))) (List.range n) = (backN n as).map wD from by unfold backN; rw [List.map_map]; rfl]
  have la : (aheadN n as).length = n := by unfold aheadN; rw [List.length_map, List.length_range]
  have lb : (backN n as).length = n := by unfold backN; rw [List.length_map, List.length_range]
  walk_at "wy"
  refine (w_spread (b := s) (ways := aheadN n as) (ways_ok (fun a => a.1) (fun a => a.2.1) fun a m => (h.lt a m).2) (by rw [la]; exact h.hs) (by omega)).use fun d hd => ?_
  obtain ⟨co, rfl, _, cb, cc⟩ := hd
  walk_at "wy"
  refine (w_spread (b := e) (ways := backN n as) (ways_ok (fun a => a.2.1) (fun a => a.1) fun a m => (h.lt a m).1) (by rw [lb]; exact h.he) (by omega)).use fun d hd => ?_
  obtain ⟨go, rfl, _, gb, gc⟩ := hd
  have c1 : ∀ p, p < n → p ∈ co := h.fw (fun p => p ∈ co) cb fun a ma m => cc _ m _ (ways_get (n := n) (fun a => a.1) (fun a => a.2.1) ma (h.lt a ma).1)
  have c2 : ∀ p, p < n → p ∈ go := h.bw (fun p => p ∈ go) gb fun a ma m => gc _ m _ (ways_get (n := n) (fun a => a.2.1) (fun a => a.1) ma (h.lt a ma).2)
  walk_at "wx"
  rw [rng_gen, Int.toNat_natCast]
  refine s_forP (σ := Unit) (fun _ => [chartD n as s e, .lst (List.map wD (aheadN n as)), .non, .non, .lst (List.map wD (backN n as)), .lst (nts co), .lst (nts go)]) (fun _ _ => True) (σ0 := ()) trivial ?_ ?_
  · intro pre p post _ ex _
    obtain ⟨_, hp⟩ := range_split ex
    walk_at "wx"
    refine o_ninN ?_
    walk_at "wx"
    rw [decide_eq_true (c1 p hp)]
    walk_at "wx"
    refine o_ninN ?_
    rw [decide_eq_true (c2 p hp)]
    walk_at "wx"
    exact ⟨(), rfl, trivial⟩
  · intro _ _
    rfl
theorem s_chart {n s e : Nat} {as : List Arr} {A : D} {Q : D → D → Prop} {E : XQ} (hA : A.seq? = some (as.map aD)) (hA2 : dLen [A] = some (.int (as.length : Nat))) (hn : n ≤ 40) (hg : 80 < as.length → E ("TooGreat" : Str) []) (ok : as.length ≤ 80 → ChOk n as s e ∧ Q .non (chartD n as s e)) : Sat2 (A_Chart_init [.obj "Chart" [], .int (n : Nat), A, .int (s : Nat), .int (e : Nat)]) Q E := by
  have hsz := szL
  unfold A_Chart_init
  walk_at "wx"
  dsimp only
  refine if_d (fun c => ?_) fun c => ?_
  · omega
  walk_at "wx"
  refine OpS.of hA2 ?_
  walk_at "wx"
  dsimp only
  refine if_d (fun c80 => ?_) fun c80 => ?_
  · walk_at "wx"
    exact hg (by omega)
  obtain ⟨ok, q⟩ := ok (by omega)
  walk_at "wy"
  refine s_cut (fun S => S = [.obj "Chart" [], .int (n : Nat), A, .int (s : Nat), .int (e : Nat), .non, .non]) ?_ ?_
  · walk_at "wx"
    refine s_forP (xs := [s, e]) (e := fun n : Nat => .int (n : Nat)) (σ := Unit) (fun _ => [.obj "Chart" [], .int (n : Nat), A, .int (s : Nat), .int (e : Nat), .non, .non]) (fun _ _ => True) (σ0 := ()) trivial ?_ ?_
    · intro pre p post _ ex _
      have hp : p < n := by
        have m : p ∈ [s, e] := by rw [ex]; simp
        rcases List.mem_cons.mp m with rfl | m
        · exact ok.hs
        · rw [List.mem_singleton] at m
          rw [m]; exact ok.he
      walk_at "wx"
      dsimp only
      refine if_d (fun c => ?_) fun c => ?_
      · omega
      walk_at "wx"
      dsimp only
      refine if_d (fun c => ?_) fun c => ?_
      · omega
      walk_at "wx"
      exact ⟨(), rfl, trivial⟩
    · intro _ _
      rfl
  rintro S1 rfl
  walk_at "wy"
  refine ⟨_, rfl, by decide, ?_⟩
  refine to_of (S2 := [.obj "Chart" [(("count" : Str), .int (n : Nat))], .int (n : Nat), A, .int (s : Nat), .int (e : Nat), .non, .non]) rfl ?_
  walk_at "wy"
  refine ⟨_, rfl, by simp, ?_⟩
  refine to_of (S2 := [.obj "Chart" [(("count" : Str), .int (n : Nat)), (("start" : Str), .int (s : Nat))], .int (n : Nat), A, .int (s : Nat), .int (e : Nat), .non, .non]) rfl ?_
  walk_at "wy"
  refine ⟨_, rfl, by simp, ?_⟩
  refine to_of (S2 := [.obj "Chart" [(("count" : Str), .int (n : Nat)), (("start" : Str), .int (s : Nat)), (("end" : Str), .int (e : Nat))], .int (n : Nat), A, .int (s : Nat), .int (e : Nat), .non, .non]) rfl ?_
  walk_at "wy"
  refine OpS.of hA ?_
  walk_at "wy"
  refine s_lcT (e := aD) aD (fun a ma => ?_) ?_
  · walk_at "wx"
    exact ⟨rfl, rfl⟩
  walk_at "wy"
  refine ⟨_, rfl, by simp, ?_⟩
  refine to_of (S2 := [chartD n as s e, .int (n : Nat), A, .int (s : Nat), .int (e : Nat), .non, .non]) rfl ?_
  walk_at "wy"
  refine (s_carrows ok).use fun d ed => ?_
  subst ed
  refine ⟨rfl, ?_⟩
  walk_at "wx"
  refine (s_cplaces ok (by omega)).use fun d ed => ?_
  subst ed
  refine ⟨rfl, ?_⟩
  walk_at "wx"
  exact q
end
section
end
section
abbrev Vz := Nat → Int
section
variable {G G' : Vz → Prop} {a b x : Vz} {f : Int}
end
section
variable {B : List (Nat × Vz)} {x : Vz} {p : Nat}
end
end
section
abbrev MR := List Int × List Int
section
variable {w m p : Nat} {a b A B : MR}
end
end
section
section
variable {w m p : Nat} {a b A B : MR}
end
end
section
open PySem PySem.Spec PyProof.Rows L2
end
section
open PySem PySem.Spec PyProof.Rows L2
section
variable {c : Nat} {nm : List Str} {src : Nat} {st : FS}
end
section
variable {c c' : Nat} {nm nm' : List Str} {src src' : Nat} {st st' : FS}
end
end
section
open PySem PySem.Spec PyProof.Rows L2
section
variable {c : Nat} {nm : List Str} {src : Nat} {st : FS} {ws : List (List Stp)} {many : Nat} {l : List Arw} {φ ψ : Nat → Nat}
end
end
section
open PySem PySem.Spec PyProof.Rows L2
section
variable {S : List D} {E : XQ} {a b : E1} {Q : D → List D → Prop}
theorem s_isi {cs : List (Sum String Str × Bool)} (h : Sat2 (a S) (fun x S1 => x.noT = true ∧ OpS ((tyD x).bind fun t => (cs.find? fun q => decide (q.1 = t)).map fun q => D.bl q.2) fun d => Q d S1) E) : Sat2 (aIsi cs (aNoT a) S) Q E := by with_unfolding_all exact (bnd22 (bnd22 (h.imp (fun x S1 h => by
    show Sat2 (if x.noT = true then Rz.ok (x, S1) else .no) _ _
    rw [if_pos h.1]
    exact or2 h.2) fun _ _ h => h)))
end
section
variable {c : Nat} {nm : List Str} {src : Nat} {st : FS}
end
end
section
open PySem PySem.Spec PyProof.Rows L2
section
variable {S : List D} {E : XQ} {Q : D → List D → Prop} {a : E1} {as : EA} {A : List D → List D → Prop} {pl : PL} {c : EB} {tk tv : E1} {it it1 : EA} {p p1 : Pat} {vs vs1 : List Nat} {c1 : EB}
end
end
section
open PySem PySem.Spec PyProof.Rows L2
end
section
open PySem PySem.Spec PyProof.Rows L2
end
section
open PySem PySem.Spec PyProof.Rows L2
class Gp (G : Type) extends Mul G where
  e : G
  iv : G → G
  as : ∀ a b c : G, a * b * c = a * (b * c)
  el : ∀ a : G, e * a = a
  er : ∀ a : G, a * e = a
  il : ∀ a : G, iv a * a = e
  ir : ∀ a : G, a * iv a = e
section
variable {G : Type} [Gp G]
def stv (st : Str → G) (s : Stp) : G := if s.2 = 1 then st s.1 else Gp.iv (st s.1)
def pwG (st : Str → G) : List Stp → G
  | [] => Gp.e
  | s :: u => stv st s * pwG st u
def Mk (st : Str → G) (M0 : G → Prop) (k : Nat) (a : G) : Prop := ∃ c u, M0 c ∧ (∀ s ∈ u, Sg s) ∧ u.length ≤ k ∧ a = c * pwG st u
theorem Mk.mono {st : Str → G} {M0 : G → Prop} {k l : Nat} {a : G} (h : Mk st M0 k a) (kl : k ≤ l) : Mk st M0 l a := by
  obtain ⟨c, u, h1, h2, h3, h4⟩ := h
  exact ⟨c, u, h1, h2, by omega, h4⟩
variable {st : Str → G} {M0 : G → Prop} {T U : List G} {k l : Nat} {w v : Wg} {a b c : G}
variable {src : Nat} {g : Nat → G} {ln : List Wg}
end
end
section
open PySem PySem.Spec PyProof.Rows L2
end
section
open PySem PySem.Spec PyProof.Rows L2
def sw (l x : Nat) : Nat := if x = l then 0 else if x = 0 then l else x
end
section
open PySem PySem.Spec PyProof.Rows L2
abbrev addM (M : Str → List (Nat × Nat)) (n : Str) (p : Nat × Nat) : Str → List (Nat × Nat) := fun m => if m = n then M m ++ [p] else M m
def m1e (st : FS) (order : List Nat) (M : Str → List (Nat × Nat)) (x : Nat × Nat) : Str → List (Nat × Nat) := (At st.lv x.1).foldl (fun M e => addM M e.1 (x.2, order.idxOf e.2.1)) M
def m1 (st : FS) (order : List Nat) : Str → List (Nat × Nat) := order.zipIdx.foldl (m1e st order) fun _ => []
def m2s (s : (Str → List (Nat × Nat)) × Nat × Nat) (n : Str) : (Str → List (Nat × Nat)) × Nat × Nat := (addM s.1 n (s.2.1, s.2.2), s.2.2, s.2.2 + 1)
def m2 (st : FS) (order : List Nat) (p : Nat) (rest : List Str) : (Str → List (Nat × Nat)) × Nat × Nat := rest.foldl m2s (m1 st order, order.idxOf p, order.length)
end
section
open PySem PySem.Spec PyProof.Rows L2
def sqD (b : Bool) (ds : List D) : D := if b then .tup ds else .lst ds
theorem sq_seq (b : Bool) (ds : List D) : (sqD b ds).seq? = some ds := by cases b <;> rfl
theorem sq_len (b : Bool) (ds : List D) : dLen [sqD b ds] = some (.int (ds.length : Nat)) := by cases b <;> rfl
end
section
open PySem PySem.Spec PyProof.Rows L2
section
variable {st : FS} {nm : List Str} {src : Nat}
end
end
section
open PySem PySem.Spec PyProof.Rows L2
theorem redS_inv {a : List Stp} (h : Rdd a) (s : Stp) : redS (redS a s) (sinv s) = a := by
  unfold redS
  by_cases c : a.getLast? = some (sinv s)
  · rw [if_pos c]
    rcases snoc_cases a with e | ⟨b, t, e⟩
    · rw [e] at c; cases c
    · subst e
      rw [List.getLast?_concat] at c
      have c : t = sinv s := by cases c; rfl
      rw [List.dropLast_concat, sinv_sinv, c]
      rw [if_neg]
      intro e
      obtain ⟨b', u, rfl⟩ : ∃ b' u, b = b' ++ [u] := by
        rcases snoc_cases b with e2 | e2
        · rw [e2] at e; cases e
        · exact e2
      rw [List.getLast?_concat] at e
      have e : u = s := by cases e; rfl
      exact h b' u t [] (by simp) (by rw [c, e])
  · rw [if_neg c, List.getLast?_concat, sinv_sinv, if_pos rfl, List.dropLast_concat]
theorem redL_app (xs ys : List Stp) : redL (xs ++ ys) = ys.foldl redS (redL xs) := by unfold redL; rw [List.foldl_append]
theorem red_l (xs ys : List Stp) : redL (redL xs ++ ys) = redL (xs ++ ys) := by rw [redL_app, redL_app, sred_red]
theorem red_r (xs ys : List Stp) : redL (xs ++ redL ys) = redL (xs ++ ys) := by
  refine snoc_ind (P := fun ys => redL (xs ++ redL ys) = redL (xs ++ ys)) rfl (fun ys s ih => ?_) ys
  rw [sred_snoc, ← List.append_assoc, sred_snoc, ← ih]
  unfold redS
  by_cases c : (redL ys).getLast? = some (sinv s)
  · rw [if_pos c]
    rcases snoc_cases (redL ys) with e | ⟨b, t, e⟩
    · rw [e] at c; cases c
    · rw [e] at c ⊢
      rw [List.getLast?_concat] at c
      have c : t = sinv s := by cases c; rfl
      rw [List.dropLast_concat, ← List.append_assoc, sred_snoc, c]
      have := redS_inv (red_rdd (xs ++ b)) (sinv s)
      rw [sinv_sinv] at this
      exact this.symm
  · rw [if_neg c, ← List.append_assoc, sred_snoc]
    rfl
theorem turn_cons (s : Stp) (b : List Stp) : turnS (s :: b) = turnS b ++ [sinv s] := by rw [turn_eq, turn_eq, List.reverse_cons, List.map_append]; rfl
theorem red_cancel : ∀ (b a : List Stp), redL (a ++ b ++ turnS b) = redL a
  | [], a => by simp [turn_eq]
  | s :: b, a => by
    rw [turn_cons, show a ++ s :: b ++ (turnS b ++ [sinv s]) = (a ++ [s]) ++ b ++ turnS b ++ [sinv s] by simp, sred_snoc, red_cancel b (a ++ [s]), sred_snoc]
    exact redS_inv (red_rdd a) s
theorem red_cancel' (b a : List Stp) : redL (turnS b ++ b ++ a) = redL a := by
  have := red_cancel (turnS b) []
  rw [turn_turn, List.nil_append] at this
  rw [redL_app, this]
  rfl
end
section
open PySem PySem.Spec PyProof.Rows L2
section
variable {G : Type} [Gp G]
variable {st : Str → G} {M0 : G → Prop} {src : Nat} {g : Nat → G} {k : Nat} {W : Nat → G} {mv : MV} {E : ES} {wt : List Tri} {ln : List Wg}
end
end
section
open PySem PySem.Spec PyProof.Rows L2
section
variable {G : Type} [Gp G] {st : Str → G} {M0 : G → Prop} {src : Nat} {g : Nat → G} {k : Nat} {W : Nat → G} {c : Nat} {nm : List Str} {s : FS}
variable {st0 : FS} {xs : List Stp} {L0 : Nat} {num : Nat}
end
end
section
open PySem PySem.Spec PyProof.Rows L2
section
variable {G : Type} [Gp G] {st : Str → G} {M0 : G → Prop} {src : Nat} {g : Nat → G} {k : Nat} {nm : List Str} {s : FS} {xs : List Stp} {num L1 : Nat}
end
end
section
open PySem PySem.Spec PyProof.Rows L2
structure FW where
  l : List Stp
  rd : Rdd l
  sg : ∀ s ∈ l, Sg s
theorem FW.ext {a b : FW} (h : a.l = b.l) : a = b := by
  cases a; cases b
  dsimp only at h
  subst h
  rfl
theorem gred_sg {xs : List Stp} (h : ∀ s ∈ xs, Sg s) : ∀ s ∈ redL xs, Sg s := fun s m => h s ((sred_sub xs).1 s m)
theorem gsg_app {a b : List Stp} (h : ∀ s ∈ a, Sg s) (k : ∀ s ∈ b, Sg s) : ∀ s ∈ a ++ b, Sg s := fun s m => (List.mem_append.mp m).elim (h s) (k s)
theorem gsg_turn {a : List Stp} (h : ∀ s ∈ a, Sg s) : ∀ s ∈ turnS a, Sg s := fun s m => by
  rw [turn_eq] at m
  obtain ⟨t, mt, rfl⟩ := List.mem_map.mp m
  exact (h t (List.mem_reverse.mp mt)).inv
def FW.of (xs : List Stp) (h : ∀ s ∈ xs, Sg s) : FW := ⟨redL xs, red_rdd xs, gred_sg h⟩
theorem rdd_turn' {xs : List Stp} (hr : Rdd xs) : Rdd (turnS xs) := fun l x y r e z => by
  have h2 := congrArg turnS e
  rw [turn_turn] at h2
  have : turnS (l ++ x :: y :: r) = turnS r ++ sinv y :: sinv x :: turnS l := by
    rw [turn_eq, turn_eq, turn_eq]
    simp
  rw [this] at h2
  exact hr _ _ _ _ h2 (by rw [z, sinv_sinv])
instance : Gp FW where
  mul a b := FW.of (a.l ++ b.l) (gsg_app a.sg b.sg)
  e := ⟨[], (fun l x y r e => by cases l <;> cases e), fun s m => by cases m⟩
  iv a := ⟨turnS a.l, rdd_turn' a.rd, gsg_turn a.sg⟩
  as a b c := FW.ext (by
    show redL (redL (a.l ++ b.l) ++ c.l) = redL (a.l ++ redL (b.l ++ c.l))
    rw [red_l, red_r, List.append_assoc])
  el a := FW.ext (by show redL ([] ++ a.l) = a.l; exact sred_of a.rd)
  er a := FW.ext (by show redL (a.l ++ []) = a.l; rw [List.append_nil]; exact sred_of a.rd)
  il a := FW.ext (by
    show redL (turnS a.l ++ a.l) = []
    have := red_cancel' a.l []
    rw [List.append_nil] at this
    exact this)
  ir a := FW.ext (by
    show redL (a.l ++ turnS a.l) = []
    exact red_cancel a.l [])
end
section
open PySem PySem.Spec PyProof.Rows L2
section
variable {p p1 : Pat} {vs vs1 : List Nat} {c1 : EB} {it1 : EA} {tk tv : E1}
end
end
section
open PySem PySem.Spec PyProof.Rows L2
end
section
open PySem PySem.Spec PyProof.Rows L2
section
variable {α : Type} {F : α → D} {B : List (Nat × α)} {p : Nat} {m : α}
end
end
section
open PySem PySem.Spec PyProof.Rows L2
structure Lm where
  s : Nat
  K : Nat
  N0 : Nat
  J : Nat
  W0 : Nat
  ac : Nat → Bool
section
variable {g : Lm}
end
section
variable {ac : Nat → Bool} {B : List (Nat × MR)} {p q : Nat} {a : MR}
end
end
section
open PySem PySem.Spec PyProof.Rows L2
def below (pl : Option Nat) (x : Nat) : Prop := ∀ p, pl = some p → x < p
section
variable {g : Lm} {w m k : Nat} {P : MR → Prop} {B B1 : List (Nat × MR)} {R : Vz} {R1 : MR}
end
end
section
open PySem PySem.Spec PyProof.Rows L2
section
variable {g : Lm} {w m k : Nat} {P : MR → Prop} {B : List (Nat × MR)}
end
end
section
open PySem PySem.Spec PyProof.Rows L2
section
variable {g : Lm}
end
abbrev FL := List (Nat × Int)
section
variable {g : Lm} {w m k : Nat} {P : MR → Prop} {B : List (Nat × MR)} {R0 : Vz} {scale : Int} {F : FL} {R : List Int} {p : Nat} {A : MR}
end
end
section
open PySem PySem.Spec PyProof.Rows L2
section
variable {g : Lm} {w m k : Nat} {P : MR → Prop} {B : List (Nat × MR)}
end
end
section
open PySem PySem.Spec PyProof.Rows L2
theorem SatS.nx {r : Rz Out} {N : List D → Prop} (h : SatS r N (fun _ _ => False) noX) : ∃ S, r = .ok (.nx S) ∧ N S := by
  with_unfolding_all
    match r, h with
    | .ok (.nx S), h => exact ⟨S, rfl, h⟩
    | .ok (.rt d S), h => exact h.elim
    | .ex c fs, h => exact h.elim
    | .ok (.bk _), h => exact h.elim
    | .ok (.ct _), h => exact h.elim
    | .no, h => exact h.elim
section
variable {g : Lm} {w m k : Nat} {P : MR → Prop} {B : List (Nat × MR)}
end
end
section
open PySem PySem.Spec PyProof.Rows L2
end
section
open PySem PySem.Spec PyProof.Rows L2
section
variable {w c : Nat} {B : List (Nat × MR)} {ch fr : Option Nat} {a : Nat} {vs : List Int} {b : Int}
end
section
variable {g : Lm} {w m k : Nat} {P : MR → Prop} {B : List (Nat × MR)}
end
end
section
open PySem PySem.Spec PyProof.Rows L2
end
section
open PySem PySem.Spec PyProof.Rows L2
end
section
open PySem PySem.Spec PyProof.Rows L2
section
variable {l : List Str} {T : List (List Str)} {Kn : List Str} {i : Nat} {B : List (Nat × MR)} {g : Lm}
end
end
section
open PySem PySem.Spec PyProof.Rows L2
end
section
open PySem PySem.Spec PyProof.Rows L2
section
variable {g : Lm} {w m k : Nat} {P : MR → Prop} {B : List (Nat × MR)} {l : List Str} {S : List (List Str)} {R : List Str} {sc : Int} {F : FL} {R' : List Int}
end
section
variable {g : Lm} {w m k : Nat} {P : MR → Prop} {B : List (Nat × MR)}
end
end
section
open PySem PySem.Spec PyProof.Rows L2
end
section
open PySem PySem.Spec PyProof.Rows L2
section
variable {g : Lm} {w m k : Nat} {P : MR → Prop} {B : List (Nat × MR)} {R0 : Vz} {sc : Int} {F : FL} {R' : List Int}
end
end
section
open PySem PySem.Spec PyProof.Rows L2
def F2 (F : Nat → Str → Nat → Prop) (f : Nat × Str → Bool) (x : Nat × Bool) (n : Str) (y : Nat × Bool) : Prop := F x.1 n y.1 ∧ y.2 = (x.2 ^^ f (x.1, n))
section
variable {F : Nat → Str → Nat → Prop} {f g : Nat × Str → Bool}
end
section
variable {c : Nat} {nm : List Str} {src : Nat} {st : FS} {ws : List (List Stp)}
end
end
section
open PySem PySem.Spec PyProof.Rows L2
section
variable {c : Nat} {nm : List Str} {src : Nat} {st : FS} {ws : List (List Stp)} {many : Nat} {l : List Arw} {φ ψ : Nat → Nat}
end
end
section
open PySem PySem.Spec PyProof.Rows L2
section
variable {c : Nat} {nm : List Str} {src : Nat} {st : FS} {ws : List (List Stp)} {many : Nat} {l : List Arw} {φ ψ : Nat → Nat}
end
end
section
open PySem PySem.Spec PyProof.Rows L2
section
variable {c c' : Nat} {nm nm' : List Str} {src src' : Nat} {st st' : FS} {ws ws' : List (List Stp)}
end
section
variable {V : Type} {F : V → Str → V → Prop} {x : V}
end
end
section
open PySem PySem.Spec PyProof.Rows L2
end
section
open PySem PySem.Spec PyProof.Rows L2
section
variable {nm nm' : List Str} {ws ws' : List (List Stp)} {web web' : D} {st st' : FS}
end
end
section
open PySem PySem.Spec PyProof.Rows L2
end
section
open PySem PySem.Spec PyProof.Rows L2
end
section
open PySem PySem.Spec PyProof.Rows L2
section
variable {nm Kn : List Str} {T : List (List Str)} {R : List Str}
end
end
section
open PySem PySem.Spec PyProof.Rows L2
end
section
open PySem PySem.Spec PyProof.Rows L2
end
section
open PySem PySem.Spec PyProof.Rows L2
section
variable {P : List (Nat × Nat)} {pl om : List Nat} {ws : List Str} {n g : Nat}
end
end
section
open PySem PySem.Spec PyProof.Rows L2
abbrev PF := List (Nat × List Nat)
end
section
open PySem PySem.Spec PyProof.Rows L2
end
section
open PySem PySem.Spec PyProof.Rows L2
section
variable {as : List Arr} {n b : Nat} {f g : Arr → Nat} {ext : List Nat → Nat → List Nat} {F : PF}
end
end
section
open PySem PySem.Spec PyProof.Rows L2
end
section
open PySem PySem.Spec PyProof.Rows L2
end
section
open PySem PySem.Spec PyProof.Rows L2
section
variable {as : List Arr} {n p0 : Nat} {Ns Gs : List Nat} {F : PF}
end
end
section
end
section
section
variable {G : Vz → Prop} {w n n' : Nat} {b b' : Nat → Vz}
end
end
section
inductive St (v : Int) : Int → Int → Int → Int → Prop
  | s0 : St v 1 0 0 1
  | s1 : 1 < v → St v 0 1 1 0
  | s2 : 1 < v → St v 1 0 (-v) 1
  | s3 : v = 1 ∨ v = -1 → St v 0 1 1 (-v)
  | s4 : v < -1 → St v 0 1 1 1
  | s5 : v = -2 → St v 1 1 (-2) (-1)
  | s6 : v < -2 → St v 1 1 (-1) 0
  | s7 : v < -2 → St v (-1) 0 (-v) 1
theorem fd_1 {v : Int} (h : v < -1) : (1 : Int).fdiv v = -1 := by
  have e : (1 : Int).fdiv v = (-1 : Int).fdiv (-v) := (Int.neg_fdiv_neg 1 v).symm
  rw [e, Int.neg_fdiv, Int.fdiv_eq_zero_of_lt (by decide) (by omega), if_neg]
  · rfl
  · rintro (c | c)
    · omega
    · have := Int.le_of_dvd (by decide) c
      omega
theorem fd_2 {v : Int} (h : v < -2) : v.fdiv (1 + v) = 1 := by
  rw [← Int.neg_fdiv_neg, Int.fdiv_eq_ediv_of_nonneg _ (by omega), show -v = 1 + 1 * -(1 + v) by omega, Int.add_mul_ediv_right _ _ (by omega), Int.ediv_eq_zero_of_lt (by decide) (by omega)]
  rfl
theorem fd_3 (x : Int) : x.fdiv (-1) = -x := by
  rw [← Int.neg_fdiv_neg, Int.neg_neg, Int.fdiv_one]
theorem St.turn {v α β γ δ : Int} (h : St v α β γ δ) (n : γ + δ * v ≠ 0) (v0 : v ≠ 0) : St v γ δ (α - (α + β * v).fdiv (γ + δ * v) * γ) (β - (α + β * v).fdiv (γ + δ * v) * δ) := by
  cases h with
  | s0 =>
    rw [show (1 : Int) + 0 * v = 1 by omega, show (0 : Int) + 1 * v = v by omega]
    by_cases c : 1 < v
    · rw [Int.fdiv_eq_zero_of_lt (by decide) c]
      exact .s1 c
    · by_cases c1 : v = 1
      · subst c1
        exact .s3 (.inl rfl)
      · by_cases c2 : v = -1
        · subst c2
          exact .s3 (.inr rfl)
        · rw [fd_1 (by omega)]
          exact .s4 (by omega)
  | s1 c =>
    rw [show (0 : Int) + 1 * v = v by omega, show (1 : Int) + 0 * v = 1 by omega, Int.fdiv_one, show (0 : Int) - v * 1 = -v by omega, show (1 : Int) - v * 0 = 1 by omega]
    exact .s2 c
  | s2 c => exact absurd (show -v + 1 * v = 0 by omega) n
  | s3 c =>
    rcases c with c | c <;> subst c <;> exact absurd rfl n
  | s4 c =>
    rw [show (0 : Int) + 1 * v = v by omega, show (1 : Int) + 1 * v = 1 + v by omega]
    by_cases c2 : v = -2
    · subst c2
      exact .s5 rfl
    · rw [fd_2 (by omega)]
      exact .s6 (by omega)
  | s5 c => subst c; exact absurd rfl n
  | s6 c =>
    rw [show (1 : Int) + 1 * v = 1 + v by omega, show (-1 : Int) + 0 * v = -1 by omega, fd_3, show (1 : Int) - -(1 + v) * -1 = -v by omega, show (1 : Int) - -(1 + v) * 0 = 1 by omega]
    exact .s7 c
  | s7 c => exact absurd (show -v + 1 * v = 0 by omega) n
section
variable {p w m : Nat} {A B a b : MR}
end
end
section
section
variable {G : Vz → Prop} {r : Vz}
end
end
section
open PySem PySem.Spec PyProof.Rows L2
end
section
open PySem PySem.Spec PyProof.Rows L2
end
section
open PySem PySem.Spec PyProof.Rows L2
section
variable {p : Pat} {ms : List Mo} {s : S1} {N : List D → Prop} {R : D → List D → Prop} {E : XQ}
end
section
variable {w p : Nat} {pre oth : List (List Int)} {top : Option (List Int)} {row : List Int}
end
end
section
open PySem PySem.Spec PyProof.Rows L2
end
section
open PySem PySem.Spec PyProof.Rows L2
section
variable {p w : Nat} {T row : List Int} {a b : MR} {n N : Nat}
end
end
section
open PySem PySem.Spec PyProof.Rows L2
end
section
open PySem PySem.Spec PyProof.Rows L2
end
section
open PySem PySem.Spec PyProof.Rows L2
end
section
open PySem PySem.Spec PyProof.Rows L2
section
variable {l : List Str} {S : List (List Str)} {R : List Str}
end
section
variable {nm l : List Str} {S : List (List Str)} {R : List Str}
end
end
section
open PySem PySem.Spec PyProof.Rows L2
section
variable {nm l : List Str} {S : List (List Str)} {R : List Str}
end
end
section
open PySem PySem.Spec PyProof.Rows L2
section
variable {N l : List Str} {S S' : List (List Str)} {R R' : List Str} {c s s' : Int}
end
section
variable {nm Kn : List Str} {T : List (List Str)} {R : List Str}
end
end
section
open PySem PySem.Spec PyProof.Rows L2
section
variable {nm N Kn : List Str} {T : List (List Str)} {R : List Str}
end
end
section
open PySem PySem.Spec PyProof.Rows L2
section
variable {N l : List Str} {S : List (List Str)} {n : Nat} {b : Nat → Vz}
end
section
variable {g : Lm} {w m k : Nat} {P : MR → Prop} {B : List (Nat × MR)} {G : Vz → Prop}
end
end
section
open PySem PySem.Spec PyProof.Rows L2
section
variable {G H : Vz → Prop} {w n p r j : Nat} {x y : Vz}
section
variable {rows : List (List Int)} {b b' b2 : Nat}
end
end
end
section
section
variable {G : Vz → Prop} {w n n' : Nat} {b b' : Nat → Vz}
end
section
variable {as : List Arr} {n s e : Nat} {FA : PF}
end
end
section
open PySem PySem.Spec PyProof.Rows L2
end
section
section
variable {as : List Arr} {n s e : Nat} {FA FB : PF} {G : Vz → Prop}
end
end
section
open PySem PySem.Spec PyProof.Rows L2
section
variable {as : List Arr}
end
section
variable {as : List Arr} {n s e : Nat} {U T : List Nat} {L : List (List Nat)}
end
end
section
open PySem PySem.Spec PyProof.Rows L2
end
section
open PySem PySem.Spec PyProof.Rows L2
section
variable {V : Type} {G : V → Str → V → Prop}
end
section
variable {as : List Arr} {n s e : Nat}
end
section
variable {as : List Arr} {n s e : Nat}
end
end
section
open PySem PySem.Spec PyProof.Rows L2
end
section
open PySem PySem.Spec PyProof.Rows L2
end
section
open PySem PySem.Spec PyProof.Rows L2
end
section
open PySem PySem.Spec PyProof.Rows L2
end
section
open PySem PySem.Spec PyProof.Rows L2
section
variable {as : List Arr} {n s e : Nat} {FA FB : PF} {L : List (List Nat)}
end
end
section
open PySem PySem.Spec PyProof.Rows L2
end
section
open PySem PySem.Spec PyProof.Rows L2
def PenI (s : D) (c : Int) : Prop := ∃ a b : Int, s = .lst [.int a, .int b, .int c]
theorem draw_okI {s : D} {c n : Int} (hp : PenI s c) (h0 : 0 ≤ c) (h1 : c ≤ 1000000) (hn : 0 < n) (hn2 : n < 2 ^ 64) : ∃ r s', A__law_draw_K66 [s, .int n] = .ok (.int r, s') ∧ 0 ≤ r ∧ r < n ∧ PenI s' (c + 1) := by
  obtain ⟨a, b, rfl⟩ := hp
  have e2 : L2.atI [D.int a, D.int b, D.int c] 2 = some (D.int c) := rfl
  have e1 : ∀ x, L2.atI [D.int a, D.int b, x] 1 = some (D.int b) := fun _ => rfl
  have e0 : ∀ x, L2.atI [D.int a, D.int b, x] 0 = some (D.int a) := fun _ => rfl
  have e22 : ∀ x, L2.atI [D.int a, D.int b, x] 2 = some x := fun _ => rfl
  have i2 : ixN 3 2 = some 2 := rfl
  have i0 : ixN 3 0 = some 0 := rfl
  have ne : n ≠ 0 := by omega
  have ln : n.natAbs.log2 < 9000 := by
    have : n.natAbs < 2 ^ 64 := by omega
    have := Nat.log2_lt (n := n.natAbs) (k := 64) (by omega)
    omega
  unfold A__law_draw_K66
  walk_at "av"
  rw [e2]
  walk_at "av"
  rw [i2]
  walk_at "av"
  rw [e1]
  walk_at "av"
  by_cases hb : b = 1
  · rw [decide_eq_true hb]
    walk_at "av"
    rw [e0]
    walk_at "av"
    rw [mod_int ne]
    walk_at "av"
    rw [e0]
    walk_at "av"
    rw [div_int ne ln]
    walk_at "av"
    rw [i0]
    walk_at "av"
    exact ⟨_, _, rfl, Int.fmod_nonneg_of_pos _ hn, Int.fmod_lt_of_pos _ hn, _, _, rfl⟩
  · rw [decide_eq_false hb]
    walk_at "av"
    rw [e0]
    walk_at "av"
    rw [mod_int (by decide)]
    walk_at "av"
    rw [e22]
    walk_at "av"
    rw [mul_int (.inr (by decide))]
    walk_at "av"
    have q1 := Int.fmod_nonneg_of_pos a (b := 2147483647) (by decide)
    have q2 := Int.fmod_lt_of_pos a (b := 2147483647) (by decide)
    rw [pow_int ⟨by decide, by decide, by omega⟩]
    walk_at "av"
    rw [mod_int (by decide)]
    walk_at "av"
    rw [div_int (by decide) (by decide)]
    walk_at "av"
    rw [mod_int ne]
    walk_at "av"
    exact ⟨_, _, rfl, Int.fmod_nonneg_of_pos _ hn, Int.fmod_lt_of_pos _ hn, _, _, rfl⟩
def PenS (s : D) (c : Nat) : Prop := PenI s (c : Int)
theorem w_drawS {s : D} {c : Nat} {n : Int} (hp : PenS s c) (h1 : c ≤ 1000000) (hn : 0 < n) (hn2 : n < 2 ^ 64) {Q : D → D → Prop} {E : XQ} (q : ∀ (k : Nat) s', (k : Int) < n → PenS s' (c + 1) → Q (.int k) s') : Sat2 (A__law_draw_K66 [s, .int n]) Q E := by
  obtain ⟨r, s', e, r0, r1, hp'⟩ := draw_okI hp (by omega) (by omega) hn hn2
  refine .ok e ?_
  have hp2 : PenS s' (c + 1) := hp'
  have := q r.toNat s' (by omega) hp2
  rw [show ((r.toNat : Nat) : Int) = r from by omega] at this
  exact this
theorem w_stateS {a : Int} {Q : D → Prop} {E : XQ} (q : ∀ s, PenS s 0 → Q s) : Sat (A__law_state [.int a]) Q E := by
  suffices h : ∃ s, A__law_state [.int a] = .ok s ∧ PenS s 0 by
    obtain ⟨s, e, p⟩ := h
    exact .ok e (q s p)
  unfold A__law_state
  walk_at "av"
  rw [pow_int (by decide)]
  walk_at "av"
  exact ⟨_, rfl, _, _, rfl⟩
theorem w_cellS {ns : List Int} {k : Nat} {Q : D → Prop} {E : XQ} (q : ∀ a : Int, Q (.int a)) : Sat (A__law_cell [.scr ns, .int (k : Int)]) Q E := by
  suffices h : ∃ a, A__law_cell [.scr ns, .int (k : Int)] = .ok (.int a) by
    obtain ⟨a, e⟩ := h
    exact .ok e (q a)
  unfold A__law_cell
  walk_at "av"
  by_cases h : k < ns.length
  · have e : decide ((k : Int) < (ns.length : Int)) = true := by simp; omega
    rw [e]
    walk_at "av"
    have : dIx (.scr ns) (.int (k : Int)) = some (.int ns[k]) := by
      show L2.atI (ns.map D.int) (k : Int) = _
      exact atI_of (j := k) rfl (by simp [h])
    rw [this]
    exact ⟨_, rfl⟩
  · have e : decide ((k : Int) < (ns.length : Int)) = false := by simp; omega
    rw [e]
    exact ⟨_, rfl⟩
theorem w_pickS {α : Type} {s : D} {c : Nat} {l : List α} {f : α → D} (hp : PenS s c) (h1 : c ≤ 1000000) (hl : 0 < l.length) (hl2 : l.length ≤ 100000) {Q : D → D → Prop} {E : XQ} (q : ∀ x s', x ∈ l → PenS s' (c + 1) → Q (f x) s') : Sat2 (A__law_pick [s, .lst (l.map f)]) Q E := by
  have hsz := szL
  unfold A__law_pick
  walk_at "wx"
  rw [List.length_map]
  refine w_drawS hp h1 (by omega) (by omega) fun k s' hk p' => ?_
  walk_at "wx"
  refine o_ixM (xs := l) (e := f) k rfl (by omega) ?_
  walk_at "wx"
  exact q _ _ (List.getElem_mem _) p'
end
section
open PySem PySem.Spec PyProof.Rows L2
abbrev rbD (b : Bool) (r : List Str) : D := sqD b (txs r)
abbrev tbD (b : Bool) (T : List (List Str)) : D := sqD b (T.map (rbD b))
def badT (T : List (List Str)) : Option Str := T.flatten.find? fun x => !fitsN x
theorem bad_at {pre post : List (List Str)} {pr po : List Str} {x : Str} (h1 : badT pre = none) (h2 : pr.find? (fun x => !fitsN x) = none) (h : fitsN x = false) : badT (pre ++ (pr ++ x :: po) :: post) = some x := by
  unfold badT at h1 ⊢
  rw [List.flatten_append, List.find?_append, h1, Option.none_or, List.flatten_cons, List.append_assoc, List.find?_append, h2, Option.none_or, List.cons_append, List.find?_cons_of_pos (by simp [h])]
theorem bad_snoc {pre : List (List Str)} {r : List Str} (h1 : badT pre = none) (h2 : r.find? (fun x => !fitsN x) = none) : badT (pre ++ [r]) = none := by
  unfold badT at h1 ⊢
  rw [List.flatten_append, List.find?_append, h1, Option.none_or, List.flatten_cons, List.flatten_nil, List.append_nil, h2]
theorem find_snoc {pr : List Str} {x : Str} (h : pr.find? (fun x => !fitsN x) = none) (k : fitsN x = true) : (pr ++ [x]).find? (fun x => !fitsN x) = none := by
  rw [List.find?_append, h, Option.none_or, List.find?_cons_of_neg (by simp [k])]
  rfl
theorem w_threads {b : Bool} {T : List (List Str)} (hz : ∀ r ∈ T, ∀ x ∈ r, x.length ≤ 100) {Q : D → Prop} {E : XQ} (hb : ∀ x, badT T = some x → E ("BadName" : Str) [(("name" : Str), .str x)]) (q : badT T = none → Q .non) : Sat (A_check_thread_names [tbD b T]) Q E := by
  have hsz := szL
  unfold A_check_thread_names
  walk_at "wx"
  refine OpS.of (sq_seq b _) ?_
  refine s_forP (e := rbD b) (σ := Unit) (fun _ => [tbD b T, .non, .non]) (fun pre _ => badT pre = none) (σ0 := ()) rfl ?_ ?_
  · rintro pre r post _ ex hp
    walk_at "wx"
    refine OpS.of (sq_seq b _) ?_
    refine s_forP (e := fun x : Str => D.str x) (σ := Unit) (fun _ => [tbD b T, rbD b r, .non]) (fun pr _ => pr.find? (fun x => !fitsN x) = none) (σ0 := ()) rfl ?_ ?_
    · rintro pr x po _ ex2 hp2
      have lx : x.length ≤ sizeLine := by have := hz r (by rw [ex]; simp) x (by rw [ex2]; simp); omega
      walk_at "wx"
      refine Sat.ok (fits_ok x lx) ?_
      refine OpS.of (show dTruB (D.bl (fitsN x)) = some (fitsN x) from rfl) ?_
      cases hf : fitsN x with
      | false =>
        walk_at "wx"
        exact ⟨rfl, hb x (by rw [ex, ex2]; exact bad_at hp hp2 hf)⟩
      | true =>
        walk_at "wx"
        exact ⟨(), rfl, find_snoc hp2 hf⟩
    · intro _ h
      walk_at "wx"
      exact ⟨(), rfl, bad_snoc hp h⟩
  · intro _ h
    exact q h
def stepS (X : List (List Nat)) (n : Nat) : List (List Nat) := X.flatMap fun s => (List.range (n + 1)).map fun k => s ++ [k]
def spotsT (T : List (List Str)) : List (List Nat) := T.foldl (fun X r => stepS X r.length) [[]]
def manyT (T : List (List Str)) : Nat := (T.map fun r => r.length + 1).foldl (· * ·) 1
theorem spots_snoc (T : List (List Str)) (r : List Str) : spotsT (T ++ [r]) = stepS (spotsT T) r.length := by unfold spotsT; rw [List.foldl_append]; rfl
theorem many_snoc (T : List (List Str)) (r : List Str) : manyT (T ++ [r]) = manyT T * (r.length + 1) := by unfold manyT; rw [List.map_append, List.foldl_append]; rfl
theorem stepS_len (X : List (List Nat)) (n : Nat) : (stepS X n).length = X.length * (n + 1) := by
  unfold stepS
  induction X with
  | nil => simp
  | cons s X ih =>
    rw [List.flatMap_cons, List.length_append, ih, List.length_map, List.length_range, List.length_cons, Nat.add_mul]
    omega
theorem spots_len : ∀ T, (spotsT T).length = manyT T := by
  refine snoc_ind rfl fun T r ih => ?_
  rw [spots_snoc, many_snoc, stepS_len, ih]
theorem spots_mem : ∀ (T : List (List Str)) (s : List Nat), s ∈ spotsT T ↔ s.length = T.length ∧ ∀ k, k < T.length → s.getD k 0 ≤ (T.getD k []).length := by
  refine snoc_ind (fun s => ?_) fun T r ih s => ?_
  · show s ∈ [[]] ↔ _
    rw [List.mem_singleton, List.length_nil, List.length_eq_zero_iff]
    exact ⟨fun e => ⟨e, fun k h => by omega⟩, fun h => h.1⟩
  · rw [spots_snoc]
    unfold stepS
    rw [List.mem_flatMap]
    constructor
    · rintro ⟨q, mq, m⟩
      obtain ⟨j, mj, rfl⟩ := List.mem_map.mp m
      obtain ⟨h1, h2⟩ := (ih q).mp mq
      have hj := List.mem_range.mp mj
      refine ⟨by rw [List.length_append, List.length_append, h1]; rfl, fun k hk => ?_⟩
      rw [List.length_append] at hk
      simp only [List.length_cons, List.length_nil] at hk
      by_cases c : k < T.length
      · rw [List.getD_eq_getElem?_getD, List.getElem?_append_left (by omega), ← List.getD_eq_getElem?_getD, List.getD_eq_getElem?_getD (l := T ++ [r]), List.getElem?_append_left c, ← List.getD_eq_getElem?_getD]
        exact h2 k c
      · obtain rfl : k = T.length := by omega
        rw [List.getD_eq_getElem?_getD, ← h1, List.getElem?_append_right (Nat.le_refl _), Nat.sub_self, List.getD_eq_getElem?_getD, h1, List.getElem?_append_right (Nat.le_refl _), Nat.sub_self]
        show j ≤ r.length
        omega
    · rintro ⟨h1, h2⟩
      rw [List.length_append] at h1 h2
      simp only [List.length_cons, List.length_nil] at h1 h2
      have hne : s ≠ [] := fun e => by rw [e] at h1; simp at h1
      have es := (List.dropLast_concat_getLast hne).symm
      have ld : s.dropLast.length = T.length := by rw [List.length_dropLast]; omega
      refine ⟨s.dropLast, (ih _).mpr ⟨ld, fun k hk => ?_⟩, List.mem_map.mpr ⟨s.getLast hne, List.mem_range.mpr ?_, es.symm⟩⟩
      · have := h2 k (by omega)
        rw [es, List.getD_eq_getElem?_getD, List.getElem?_append_left (by omega), ← List.getD_eq_getElem?_getD, List.getD_eq_getElem?_getD (l := T ++ [r]), List.getElem?_append_left hk, ← List.getD_eq_getElem?_getD] at this
        exact this
      · have := h2 T.length (by omega)
        rw [es, List.getD_eq_getElem?_getD, ← ld, List.getElem?_append_right (Nat.le_refl _), Nat.sub_self, List.getD_eq_getElem?_getD, ld, List.getElem?_append_right (Nat.le_refl _), Nat.sub_self] at this
        have : s.getLast hne ≤ r.length := this
        omega
theorem spots_nd : ∀ T, (spotsT T).Nodup := by
  refine snoc_ind (by show [[]].Nodup; simp) fun T r ih => ?_
  rw [spots_snoc]
  unfold stepS
  generalize spotsT T = X at ih
  induction X with
  | nil => exact List.nodup_nil
  | cons s X ih2 =>
    rw [List.flatMap_cons]
    rw [List.nodup_cons] at ih
    refine List.nodup_append.mpr ⟨?_, ih2 ih.2, fun a ma c mc e => ?_⟩
    · exact List.pairwise_map.mpr (List.Pairwise.imp (fun h e => h (by simpa using e)) List.nodup_range)
    · subst e
      obtain ⟨j, _, rfl⟩ := List.mem_map.mp ma
      obtain ⟨s2, ms, mc⟩ := List.mem_flatMap.mp mc
      obtain ⟨i, _, e⟩ := List.mem_map.mp mc
      have e2 : s2 = s := by
        have := congrArg List.dropLast e
        simpa using this
      exact ih.1 (e2 ▸ ms)
def incS (s : List Nat) (k : Nat) : List Nat := s.set k (s.getD k 0 + 1)
def arr1 (T : List (List Str)) (X : List (List Nat)) (s : List Nat) (k : Nat) : Option Arr := if s.getD k 0 < (T.getD k []).length then some (X.idxOf s, X.idxOf (incS s k), (T.getD k []).getD (s.getD k 0) "") else none
def arrsX (T : List (List Str)) (X S : List (List Nat)) : List Arr := S.flatMap fun s => (List.range T.length).filterMap (arr1 T X s)
def arrsT (T : List (List Str)) : List Arr := arrsX T (spotsT T) (spotsT T)
theorem getD_set {s : List Nat} {k j v : Nat} (h : k < s.length) : (s.set k v).getD j 0 = if j = k then v else s.getD j 0 := by
  rw [List.getD_eq_getElem?_getD, List.getElem?_set]
  by_cases c : k = j
  · subst c
    rw [if_pos rfl, if_pos h, if_pos rfl]
    rfl
  · rw [if_neg c, if_neg fun z => c z.symm, List.getD_eq_getElem?_getD]
theorem set_mem {T : List (List Str)} {s : List Nat} {k v : Nat} (m : s ∈ spotsT T) (hk : k < T.length) (hv : v ≤ (T.getD k []).length) : s.set k v ∈ spotsT T := by
  obtain ⟨h1, h2⟩ := (spots_mem T s).mp m
  refine (spots_mem T _).mpr ⟨by rw [List.length_set]; exact h1, fun j hj => ?_⟩
  rw [getD_set (by omega)]
  split
  · rename_i e; rw [e]; exact hv
  · exact h2 j hj
theorem sum_set_lt : ∀ {s : List Nat} {k v : Nat}, k < s.length → v < s.getD k 0 → (s.set k v).sum < s.sum
  | [], k, v, h, _ => by simp at h
  | x :: s, 0, v, _, h => by
    have h : v < x := h
    show v + s.sum < x + s.sum
    omega
  | x :: s, k + 1, v, h, h2 => by
    have := sum_set_lt (s := s) (k := k) (v := v) (by simpa using h) h2
    show x + (s.set k v).sum < x + s.sum
    omega
theorem sum_set_gt : ∀ {s : List Nat} {k v : Nat}, k < s.length → s.getD k 0 < v → s.sum < (s.set k v).sum
  | [], k, v, h, _ => by simp at h
  | x :: s, 0, v, _, h => by
    have h : x < v := h
    show x + s.sum < v + s.sum
    omega
  | x :: s, k + 1, v, h, h2 => by
    have := sum_set_gt (s := s) (k := k) (v := v) (by simpa using h) h2
    show x + s.sum < x + (s.set k v).sum
    omega
theorem sum_le_all {X : List (List Nat)} {s : List Nat} (m : s ∈ X) : s.sum ≤ (X.map List.sum).sum := by
  induction X with
  | nil => cases m
  | cons x X ih =>
    rw [List.map_cons, List.sum_cons]
    rcases List.mem_cons.mp m with rfl | m
    · omega
    · have := ih m; omega
theorem arr_mem {T : List (List Str)} {s : List Nat} {k : Nat} (m : s ∈ spotsT T) (hk : k < T.length) (h : s.getD k 0 < (T.getD k []).length) : ((spotsT T).idxOf s, (spotsT T).idxOf (incS s k), (T.getD k []).getD (s.getD k 0) "") ∈ arrsT T := by
  unfold arrsT arrsX
  refine List.mem_flatMap.mpr ⟨s, m, List.mem_filterMap.mpr ⟨k, List.mem_range.mpr hk, ?_⟩⟩
  unfold arr1
  rw [if_pos h]
theorem stepS_head {X : List (List Nat)} {n : Nat} {s : List Nat} (h : X.head? = some s) : (stepS X n).head? = some (s ++ [0]) := by
  cases X with
  | nil => cases h
  | cons x X =>
    cases h
    unfold stepS
    rw [List.flatMap_cons, List.range_succ_eq_map]
    rfl
theorem spots_head : ∀ T, (spotsT T).head? = some (List.replicate T.length 0) := by
  refine snoc_ind rfl fun T r ih => ?_
  rw [spots_snoc, stepS_head ih, List.length_append]
  show _ = some (List.replicate (T.length + 1) 0)
  rw [List.replicate_succ']
theorem stepS_last {X : List (List Nat)} {n : Nat} {s : List Nat} (h : X.getLast? = some s) : (stepS X n).getLast? = some (s ++ [n]) := by
  obtain ⟨ys, rfl⟩ := List.getLast?_eq_some_iff.mp h
  unfold stepS
  rw [List.flatMap_append, List.flatMap_cons, List.flatMap_nil, List.append_nil, List.range_succ, List.map_append, ← List.append_assoc]
  show (_ ++ [s ++ [n]]).getLast? = _
  rw [List.getLast?_append]
  rfl
theorem spots_last : ∀ T, (spotsT T).getLast? = some (T.map List.length) := by
  refine snoc_ind rfl fun T r ih => ?_
  rw [spots_snoc, stepS_last ih, List.map_append]
  rfl
theorem idx_first {T : List (List Str)} : (spotsT T).idxOf (List.replicate T.length 0) = 0 := by
  have h := spots_head T
  cases hX : spotsT T with
  | nil => rw [hX] at h; cases h
  | cons x X =>
    rw [hX, List.head?_cons] at h
    rw [Option.some.inj h, List.idxOf_cons_self]
theorem idx_last {T : List (List Str)} : (spotsT T).idxOf (T.map List.length) = manyT T - 1 := by
  obtain ⟨ys, e⟩ := List.getLast?_eq_some_iff.mp (spots_last T)
  have nd := spots_nd T
  have ln := spots_len T
  rw [e] at nd ln ⊢
  rw [List.length_append] at ln
  simp only [List.length_cons, List.length_nil] at ln
  have no : T.map List.length ∉ ys := fun m => (List.nodup_append.mp nd).2.2 _ m _ (List.mem_singleton.mpr rfl) rfl
  rw [List.idxOf_append, if_neg no, List.idxOf_cons_self]
  omega
theorem many_pos (T : List (List Str)) : 0 < manyT T := by
  have h := spots_head T
  have ln := spots_len T
  cases hX : spotsT T with
  | nil => rw [hX] at h; cases h
  | cons x X => rw [hX] at ln; rw [← ln]; simp
theorem all_zero {T : List (List Str)} {s : List Nat} (h1 : s.length = T.length) (h : ∀ k, k < T.length → s.getD k 0 = 0) : s = List.replicate T.length 0 := by
  refine List.ext_getElem (by rw [List.length_replicate, h1]) fun i a b => ?_
  rw [List.getElem_replicate]
  have := h i (by omega)
  rw [List.getD_eq_getElem?_getD, List.getElem?_eq_getElem a] at this
  exact this
theorem all_full {T : List (List Str)} {s : List Nat} (h1 : s.length = T.length) (h : ∀ k, k < T.length → s.getD k 0 = (T.getD k []).length) : s = T.map List.length := by
  refine List.ext_getElem (by rw [List.length_map, h1]) fun i a b => ?_
  have hi : i < T.length := by omega
  have := h i hi
  rw [List.getD_eq_getElem?_getD, List.getElem?_eq_getElem a, List.getD_eq_getElem?_getD, List.getElem?_eq_getElem hi] at this
  rw [List.getElem_map]
  exact this
theorem bad_none {T : List (List Str)} (h : badT T = none) : ∀ r ∈ T, ∀ x ∈ r, fitsN x = true := fun r mr x mx => by
  have := List.find?_eq_none.mp h x (List.mem_flatten.mpr ⟨r, mr, mx⟩)
  simpa using this
theorem weave_ok {T : List (List Str)} (h40 : manyT T ≤ 40) (hb : badT T = none) : ChOk (manyT T) (arrsT T) 0 (manyT T - 1) where
  hn := h40
  hs := many_pos T
  he := by have := many_pos T; omega
  lt := fun a ma => by
    unfold arrsT arrsX at ma
    obtain ⟨s, ms, ma⟩ := List.mem_flatMap.mp ma
    obtain ⟨k, mk, e⟩ := List.mem_filterMap.mp ma
    unfold arr1 at e
    split at e
    · rename_i c
      rw [← Option.some.inj e, ← spots_len T]
      exact ⟨List.idxOf_lt_length_of_mem ms, List.idxOf_lt_length_of_mem (set_mem ms (List.mem_range.mp mk) (by omega))⟩
    · cases e
  fit := fun a ma => by
    unfold arrsT arrsX at ma
    obtain ⟨s, ms, ma⟩ := List.mem_flatMap.mp ma
    obtain ⟨k, mk, e⟩ := List.mem_filterMap.mp ma
    unfold arr1 at e
    split at e
    · rename_i c
      rw [← Option.some.inj e]
      have hk := List.mem_range.mp mk
      have f : fitsN ((T.getD k []).getD (s.getD k 0) "") = true := by
        rw [List.getD_eq_getElem?_getD, List.getElem?_eq_getElem c]
        refine bad_none hb (T.getD k []) ?_ _ (List.getElem_mem c)
        rw [List.getD_eq_getElem?_getD, List.getElem?_eq_getElem hk]
        exact List.getElem_mem hk
      exact ⟨f, fits_gn f⟩
    · cases e
  fw := fun P h0 st p hp => by
    have key : ∀ N, ∀ s ∈ spotsT T, s.sum ≤ N → P ((spotsT T).idxOf s) := by
      intro N
      induction N with
      | zero =>
        intro s ms hs
        obtain ⟨h1, _⟩ := (spots_mem T s).mp ms
        rw [all_zero h1 fun k hk => ?_, idx_first]
        · exact h0
        · rcases Nat.eq_zero_or_pos (s.getD k 0) with c | c
          · exact c
          · have := sum_set_lt (s := s) (k := k) (v := 0) (by omega) c; omega
      | succ N ih =>
        intro s ms hs
        obtain ⟨h1, h2⟩ := (spots_mem T s).mp ms
        by_cases c : ∃ k, k < T.length ∧ 0 < s.getD k 0
        · obtain ⟨k, hk, hc⟩ := c
          have hk2 : k < s.length := by omega
          have m1 := set_mem (v := s.getD k 0 - 1) ms hk (by have := h2 k hk; omega)
          have l1 := sum_set_lt (s := s) (k := k) (v := s.getD k 0 - 1) hk2 (by omega)
          have g1 : (s.set k (s.getD k 0 - 1)).getD k 0 = s.getD k 0 - 1 := by rw [getD_set hk2, if_pos rfl]
          have a1 := arr_mem m1 hk (by rw [g1]; have := h2 k hk; omega)
          have e1 : incS (s.set k (s.getD k 0 - 1)) k = s := by
            unfold incS
            rw [g1, List.set_set, show s.getD k 0 - 1 + 1 = s.getD k 0 by omega, List.getD_eq_getElem?_getD, List.getElem?_eq_getElem hk2]
            exact List.set_getElem_self hk2
          have := st _ a1 (ih _ m1 (by omega))
          rw [e1] at this
          exact this
        · rw [all_zero h1 fun k hk => Nat.eq_zero_of_not_pos fun z => c ⟨k, hk, z⟩, idx_first]
          exact h0
    have hp2 : p < (spotsT T).length := by rw [spots_len]; exact hp
    have := key _ (spotsT T)[p] (List.getElem_mem hp2) (Nat.le_refl _)
    rw [List.Nodup.idxOf_getElem (spots_nd T) p hp2] at this
    exact this
  bw := fun P h0 st p hp => by
    have key : ∀ N, ∀ s ∈ spotsT T, ((spotsT T).map List.sum).sum ≤ s.sum + N → P ((spotsT T).idxOf s) := by
      intro N
      induction N with
      | zero =>
        intro s ms hs
        obtain ⟨h1, h2⟩ := (spots_mem T s).mp ms
        rw [all_full h1 fun k hk => ?_, idx_last]
        · exact h0
        · have := h2 k hk
          rcases Nat.lt_or_ge (s.getD k 0) (T.getD k []).length with c | c
          · have g := sum_set_gt (s := s) (k := k) (v := s.getD k 0 + 1) (by omega) (by omega)
            have := sum_le_all (set_mem (v := s.getD k 0 + 1) ms hk (by omega))
            omega
          · omega
      | succ N ih =>
        intro s ms hs
        obtain ⟨h1, h2⟩ := (spots_mem T s).mp ms
        by_cases c : ∃ k, k < T.length ∧ s.getD k 0 < (T.getD k []).length
        · obtain ⟨k, hk, hc⟩ := c
          have a1 := arr_mem ms hk hc
          have g := sum_set_gt (s := s) (k := k) (v := s.getD k 0 + 1) (by omega) (by omega)
          exact st _ a1 (ih _ (set_mem ms hk (by omega)) (by show _ ≤ (s.set k (s.getD k 0 + 1)).sum + N; omega))
        · rw [all_full h1 fun k hk => ?_, idx_last]
          · exact h0
          · have := h2 k hk
            have : ¬ s.getD k 0 < (T.getD k []).length := fun z => c ⟨k, hk, z⟩
            omega
    have hp2 : p < (spotsT T).length := by rw [spots_len]; exact hp
    have := key _ (spotsT T)[p] (List.getElem_mem hp2) (Nat.le_add_left _ _)
    rw [List.Nodup.idxOf_getElem (spots_nd T) p hp2] at this
    exact this
end
section
open PySem PySem.Spec PyProof.Rows L2
section
variable {S : List D} {E : XQ} {c : EB} {te : E1} {Q : D → List D → Prop} {it it1 : EA} {p p1 : Pat} {vs vs1 : List Nat}
theorem s_lc2 (h : Sat2 (it S) (fun ds S1 => To (unD vs S1) fun S2 => Sat2 (lc2Go p vs c p1 vs1 it1 c te ds S2 []) (fun l S3 => To (reD vs S1 S3) fun S4 => Q (.lst l) S4) noX) E) : Sat2 (aLc2 p vs it c p1 vs1 it1 c te S) Q E := by with_unfolding_all exact (bnd22 (h.imp (fun ds S1 h => bnd22 ((show Sat2 (lc2Go p vs c p1 vs1 it1 c te ds (unD vs S1) []) (fun l S3 => Q (.lst l) (reD vs S1 S3)) noX from h).imp (fun _ _ h => h) fun _ _ h => h.elim)) fun _ _ h => h))
theorem s_lcIn {β : Type} {e1 : β → D} {gg : β → D} {W : List D → List D → Prop} : ∀ {ys : List β} {acc : List D}, (∀ y ∈ ys, OpS (bindP p1 (e1 y) S) fun S5 => Sat2 (te S5) (fun d S6 => d = gg y ∧ To (unD vs1 S6) fun S7 => S7 = S) noX) → acc.length + ys.length ≤ sizeLine → W (acc ++ ys.map gg) S → Sat2 (lcIn p1 vs1 aYes te (ys.map e1) S acc) W noX
  | [], acc, _, _, q => by
    rw [List.map_nil, List.append_nil] at q
    with_unfolding_all exact q
  | y :: ys, acc, h, hn, q => by
    have hy := h y (List.mem_cons_self ..)
    rw [List.map_cons]
    unfold lcIn
    cases e1' : bindP p1 (e1 y) S with
    | none => rw [e1'] at hy; exact (show False by with_unfolding_all exact hy).elim
    | some S1 =>
      rw [e1'] at hy
      have hy := ops_some hy
      obtain ⟨d, S3, e3, rfl, e4⟩ := hy.get
      have e4 : unD vs1 S3 = S := e4
      rw [List.length_cons] at hn
      show Sat2 (match te S1 with
        | .ok (x, S3) => if acc.length < sizeLine then lcIn p1 vs1 aYes te (ys.map e1) (unD vs1 S3) (acc ++ [x]) else .no
        | _ => .no) W noX
      simp only [e3]
      rw [if_pos (by omega), e4]
      exact s_lcIn (fun z m => h z (List.mem_cons_of_mem _ m)) (by rw [List.length_append]; simp; omega) (by rw [List.append_assoc]; exact q)
theorem s_lc2T {α β : Type} {e : α → D} {ys : α → List β} {e1 : β → D} {gg : α → β → D} {W : List D → List D → Prop} : ∀ {xs : List α} {acc : List D},
    (∀ x ∈ xs, OpS (bindP p (e x) S) fun S1 => Sat2 (it1 S1) (fun es S3 => es = (ys x).map e1 ∧ To (unD vs1 S3) fun S4 => (∀ y ∈ ys x, OpS (bindP p1 (e1 y) S4) fun S5 => Sat2 (te S5) (fun d S6 => d = gg x y ∧ To (unD vs1 S6) fun S7 => S7 = S4) noX) ∧ To (unD vs S4) fun S5 => S5 = S) noX) →
    acc.length + (xs.flatMap fun x => (ys x).map (gg x)).length ≤ sizeLine → W (acc ++ xs.flatMap fun x => (ys x).map (gg x)) S → Sat2 (lc2Go p vs aYes p1 vs1 it1 aYes te (xs.map e) S acc) W noX
  | [], acc, _, _, q => by
    rw [List.flatMap_nil, List.append_nil] at q
    with_unfolding_all exact q
  | x :: xs, acc, h, hn, q => by
    have hx := h x (List.mem_cons_self ..)
    rw [List.flatMap_cons] at hn q
    rw [List.length_append, List.length_map] at hn
    rw [List.map_cons]
    unfold lc2Go
    cases e1' : bindP p (e x) S with
    | none => rw [e1'] at hx; exact (show False by with_unfolding_all exact hx).elim
    | some S1 =>
      rw [e1'] at hx
      have hx := ops_some hx
      obtain ⟨es, S3, e3, rfl, hy, e4⟩ := hx.get
      have e4 : unD vs (unD vs1 S3) = S := e4
      have key : Sat2 (lcIn p1 vs1 aYes te ((ys x).map e1) (unD vs1 S3) acc) (fun acc' S4 => acc' = acc ++ (ys x).map (gg x) ∧ S4 = unD vs1 S3) noX := s_lcIn hy (by omega) ⟨rfl, rfl⟩
      obtain ⟨acc', S4, e5, rfl, rfl⟩ := key.get
      show Sat2 (match it1 S1 with
        | .ok (es, S3) => (match lcIn p1 vs1 aYes te es (unD vs1 S3) acc with
          | .ok (acc', S4) => lc2Go p vs aYes p1 vs1 it1 aYes te (xs.map e) (unD vs S4) acc'
          | _ => .no)
        | _ => .no) W noX
      simp only [e3, e5]
      rw [e4]
      exact s_lc2T (fun z m => h z (List.mem_cons_of_mem _ m)) (by rw [List.length_append, List.length_map]; omega) (by rw [List.append_assoc]; exact q)
end
section
variable {S : List D} {E : XQ} {c : EB} {te tk : E1} {Q : D → List D → Prop} {it : EA} {p : Pat} {vs : List Nat}
theorem s_dcTw (h : Sat2 (it S) (fun ds S1 => To (unD vs S1) fun S2 => Sat2 (dcGoT p vs c tk te ds S2 []) (fun l S3 => To (reD vs S1 S3) fun S4 => Q (.dct true l) S4) noX) E) : Sat2 (aDcT p vs it c tk te S) Q E := by with_unfolding_all exact (bnd22 (h.imp (fun ds S1 h => bnd22 ((show Sat2 (dcGoT p vs c tk te ds (unD vs S1) []) (fun l S3 => Q (.dct true l) (reD vs S1 S3)) noX from h).imp (fun _ _ h => h) fun _ _ h => h.elim)) fun _ _ h => h))
theorem s_dcGoTw {σ α : Type} {xs : List α} {e : α → D} {W : List (D × D) → List D → Prop} (em : σ → List D) (I : List α → List (D × D) → σ → Prop) {σ0 : σ} {acc0 : List (D × D)} (h0 : I [] acc0 σ0)
    (hs : ∀ (pre : List α) (x : α) (post : List α) (acc : List (D × D)) (st : σ), xs = pre ++ x :: post → I pre acc st → OpS (bindP p (e x) (em st)) fun S1 => Sat2 (c S1) (fun b S2 => IfB b (Sat2 (tk S2) (fun k S3 => Sat2 (te S3) (fun d S4 => (isKey true k = true ∧ acc.length < sizeLine) ∧ To (unD vs S4) fun S5 => ∃ st', S5 = em st' ∧ I (pre ++ [x]) (putD acc k d) st') noX) noX)
        (To (unD vs S2) fun S4 => ∃ st', S4 = em st' ∧ I (pre ++ [x]) acc st')) noX)
    (hq : ∀ acc st, I xs acc st → W acc (em st)) : Sat2 (dcGoT p vs c tk te (xs.map e) (em σ0) acc0) W noX := by
  with_unfolding_all
    suffices h : ∀ (post pre : List α) (acc : List (D × D)) (st : σ), xs = pre ++ post → I pre acc st → Sat2 (dcGoT p vs c tk te (post.map e) (em st) acc) W noX from h xs [] acc0 σ0 rfl h0
    intro post
    induction post with
    | nil =>
      intro pre acc st e i
      rw [List.append_nil] at e
      subst e
      unfold dcGoT
      exact hq acc st i
    | cons x post ih =>
      intro pre acc st ex i
      have h := hs pre x post acc st ex i
      rw [List.map_cons]
      unfold dcGoT
      cases e1 : bindP p (e x) (em st) with
      | none => rw [e1] at h; exact h
      | some S1 =>
        rw [e1] at h
        have h := ops_some h
        obtain ⟨b, S2, e2, h⟩ := h.get
        simp only [e2]
        cases b with
        | true =>
          have h := if_t' h
          obtain ⟨d, S3, e3, h⟩ := h.get
          obtain ⟨d2, S4, e5, h1, h⟩ := h.get
          obtain ⟨st', e4, i'⟩ := h
          rw [if_pos rfl]
          simp only [e3, e5]
          rw [if_pos h1, e4]
          exact ih (pre ++ [x]) _ st' (by rw [ex]; simp) i'
        | false =>
          obtain ⟨st', e4, i'⟩ := if_f' h
          rw [if_neg Bool.false_ne_true]
          rw [e4]
          exact ih (pre ++ [x]) _ st' (by rw [ex]; simp) i'
end
end
section
open PySem PySem.Spec PyProof.Rows L2
abbrev tpN (s : List Nat) : D := .tup (nts s)
theorem keqs_nts : ∀ a b : List Nat, keqs (nts a) (nts b) = decide (a = b)
  | [], [] => rfl
  | [], y :: b => rfl
  | x :: a, [] => rfl
  | x :: a, y :: b => by
    show keqs (.int (x : Nat) :: nts a) (.int (y : Nat) :: nts b) = _
    unfold keqs
    rw [keqs_nts a b]
    unfold keq
    rw [Bool.eq_iff_iff]
    simp [Int.ofNat_inj]
theorem key_nts : ∀ s : List Nat, (keys? (nts s)).isSome = true
  | [] => rfl
  | x :: s => by
    have := key_nts s
    obtain ⟨q, hq⟩ := Option.isSome_iff_exists.mp this
    show (keys? (.int (x : Nat) :: nts s)).isSome = true
    unfold keys?
    rw [hq]
    rfl
theorem key_tp {s : List Nat} (h : s ≠ []) : isKey true (tpN s) = true := by
  show (!(nts s).isEmpty && (keys? (nts s)).isSome) = true
  rw [key_nts, Bool.and_true]
  cases s with
  | nil => exact absurd rfl h
  | cons x s => rfl
theorem keq_tp (a b : List Nat) : keq (tpN a) (tpN b) = decide (a = b) := by
  show keq (.tup (nts a)) (.tup (nts b)) = _
  unfold keq
  exact keqs_nts a b
abbrev nuE (p : List Nat × Nat) : D × D := (tpN p.1, .int (p.2 : Nat))
def nuD (X : List (List Nat)) : D := .dct true (X.zipIdx.map nuE)
theorem look_nu {s : List Nat} : ∀ (X : List (List Nat)) (k : Nat), s ∈ X → lookD ((X.zipIdx k).map nuE) (tpN s) = some (.int ((k + X.idxOf s : Nat) : Int))
  | [], _, m => by cases m
  | x :: X, k, m => by
    rw [List.zipIdx_cons, List.map_cons]
    unfold lookD
    rw [List.find?_cons]
    show Option.map _ (match keq (tpN x) (tpN s) with | true => _ | false => _) = _
    rw [keq_tp]
    by_cases c : x = s
    · subst c
      rw [decide_eq_true rfl, List.idxOf_cons_self]
      rfl
    · rw [decide_eq_false c]
      have := look_nu X (k + 1) ((List.mem_cons.mp m).resolve_left fun z => c z.symm)
      unfold lookD at this
      rw [List.idxOf_cons, beq_false_of_ne c]
      show _ = some (D.int ((k + (X.idxOf s + 1) : Nat) : Int))
      rw [show k + (X.idxOf s + 1) = k + 1 + X.idxOf s by omega]
      exact this
theorem get_nu {X : List (List Nat)} {s : List Nat} (m : s ∈ X) (h : s ≠ []) : dGet (nuD X) (tpN s) = some (.int ((X.idxOf s : Nat) : Int)) := by
  show (if isKey true (tpN s) = true then lookD _ (tpN s) else none) = _
  rw [if_pos (key_tp h), look_nu X 0 m, Nat.zero_add]
theorem put_nu {pre : List (List Nat × Nat)} {p : List Nat × Nat} (h : p.1 ∉ pre.map (·.1)) : putD (pre.map nuE) (tpN p.1) (.int (p.2 : Nat)) = (pre ++ [p]).map nuE := by
  unfold putD
  rw [if_neg]
  · rw [List.map_append]
    rfl
  · intro c
    obtain ⟨x, mx, hx⟩ := List.any_eq_true.mp c
    obtain ⟨b, mb, rfl⟩ := List.mem_map.mp mx
    have hx : keq (tpN b.1) (tpN p.1) = true := hx
    rw [keq_tp, decide_eq_true_eq] at hx
    exact h (List.mem_map.mpr ⟨b, mb, hx⟩)
theorem many_mono {pre post : List (List Str)} {r : List Str} : manyT pre * (r.length + 1) ≤ manyT (pre ++ r :: post) := by
  rw [← many_snoc]
  have key : ∀ post : List (List Str), ∀ pre, manyT pre ≤ manyT (pre ++ post) := by
    intro post
    induction post with
    | nil => intro pre; rw [List.append_nil]; exact Nat.le_refl _
    | cons r post ih =>
      intro pre
      have h1 := ih (pre ++ [r])
      rw [many_snoc, List.append_assoc] at h1
      refine Nat.le_trans ?_ h1
      have := many_pos pre
      exact Nat.le_mul_of_pos_right _ (by omega)
  have := key post (pre ++ [r])
  rw [List.append_assoc] at this
  exact this
theorem ix_tp {s : List Nat} {k : Nat} (h : k < s.length) : dIx (tpN s) (.int (k : Nat)) = some (.int ((s[k] : Nat) : Int)) := by
  show atI (nts s) (k : Nat) = _
  exact atI_of rfl (by rw [List.getElem?_map, List.getElem?_eq_getElem h]; rfl)
theorem ix_tb {b : Bool} {T : List (List Str)} {k : Nat} (h : k < T.length) : dIx (tbD b T) (.int (k : Nat)) = some (rbD b T[k]) := by
  have e : atI (T.map (rbD b)) (k : Nat) = some (rbD b T[k]) := atI_of rfl (by rw [List.getElem?_map, List.getElem?_eq_getElem h]; rfl)
  cases b <;> exact e
theorem ix_rb {b : Bool} {r : List Str} {k : Nat} (h : k < r.length) : dIx (rbD b r) (.int (k : Nat)) = some (.str r[k]) := by
  have e : atI (txs r) (k : Nat) = some (.str r[k]) := atI_of rfl (by unfold txs; rw [List.getElem?_map, List.getElem?_eq_getElem h]; rfl)
  cases b <;> exact e
theorem nts_app64 (a b : List Nat) : nts (a ++ b) = nts a ++ nts b := List.map_append ..
theorem add_tp {a b : List Nat} (h : a.length + b.length ≤ 1000) : dAdd (tpN a) (tpN b) = some (tpN (a ++ b)) := by
  have hsz := szL
  show okL _ _ = _
  rw [okL_ok (by rw [List.length_map, List.length_map]; omega), ← nts_app64]
theorem inc_eq {s : List Nat} {k : Nat} (h : k < s.length) : s.take k ++ [s[k] + 1] ++ s.drop (k + 1) = incS s k := by
  unfold incS
  rw [List.set_eq_take_append_cons_drop, if_pos h, List.getD_eq_getElem?_getD, List.getElem?_eq_getElem h, List.append_assoc]
  rfl
theorem arrsX_len (T : List (List Str)) (X : List (List Nat)) : ∀ S : List (List Nat), (arrsX T X S).length ≤ S.length * T.length
  | [] => Nat.zero_le _
  | s :: S => by
    have ih := arrsX_len T X S
    have := List.length_filterMap_le (arr1 T X s) (List.range T.length)
    rw [List.length_range] at this
    unfold arrsX at ih ⊢
    rw [List.flatMap_cons, List.length_append, List.length_cons, Nat.add_mul]
    omega
theorem w_weave1 {b : Bool} {T : List (List Str)} (hz : ∀ r ∈ T, ∀ x ∈ r, x.length ≤ 100) (hr : ∀ r ∈ T, r.length ≤ 1000) (hl : T.length ≤ 100) (hn : T ≠ []) {Q : D → Prop} {E : XQ} (hb : ∀ x, badT T = some x → E ("BadName" : Str) [(("name" : Str), .str x)])
    (hg : badT T = none → 40 < manyT T ∨ 80 < (arrsT T).length → E ("TooGreat" : Str) []) (q : badT T = none → manyT T ≤ 40 → (arrsT T).length ≤ 80 → Q (chartD (manyT T) (arrsT T) 0 (manyT T - 1))) : Sat (A_weaving1 [tbD b T]) Q E := by
  have hsz := szL
  unfold A_weaving1
  walk_at "wx"
  refine w_threads hz hb fun nb => ?_
  walk_at "wx"
  refine OpS.of (sq_seq b _) ?_
  refine s_forP (e := rbD b) (σ := List (List Nat)) (fun X => [tbD b T, .lst (X.map tpN), .non, .non, .non, .non, .non, .non, .non, .non]) (fun pre X => X = spotsT pre ∧ manyT pre ≤ 40) (σ0 := [[]]) ⟨rfl, by decide⟩ ?_ ?_
  · rintro pre r post X ex ⟨rfl, h40⟩
    have ln := spots_len pre
    have hrl : r.length ≤ 1000 := hr r (by rw [ex]; simp)
    have sn := spots_snoc pre r
    have mn := many_snoc pre r
    have mm := many_mono (pre := pre) (post := post) (r := r)
    rw [← ex] at mm
    have sl := stepS_len (spotsT pre) r.length
    have hX : ∀ s ∈ spotsT pre, s.length ≤ 100 := fun s m => by
      rw [((spots_mem pre s).mp m).1]
      have := congrArg List.length ex
      rw [List.length_append] at this
      omega
    generalize spotsT pre = X at *
    walk_at "wx"
    rw [List.length_map]
    refine OpS.of (sq_len b _) ?_
    rw [len_txs]
    walk_at "wx"
    refine if_b (fun c1 => ?_) fun c1 => ?_
    · have c1 : 40 < X.length * (r.length + 1) := by have := of_decide_eq_true c1; rw [← Int.ofNat_lt]; push_cast; omega
      walk_at "wx"
      exact hg nb (.inl (by rw [ln] at c1; omega))
    · have c1 : X.length * (r.length + 1) ≤ 40 := by have := of_decide_eq_false c1; rw [← Int.ofNat_le]; push_cast; omega
      walk_at "wx"
      refine s_lc2 ?_
      walk_at "wx"
      refine s_lc2T (e := tpN) (ys := fun _ => List.range (r.length + 1)) (e1 := fun i : Nat => D.int (i : Int)) (gg := fun s k => tpN (s ++ [k])) (fun s ms => ?_) ?_ ?_
      · walk_at "wx"
        refine OpS.of (sq_len b _) ?_
        rw [len_txs]
        walk_at "wx"
        refine ⟨?_, fun y my => ?_, rfl⟩
        · rw [show (r.length : Int) + 1 = ((r.length + 1 : Nat) : Int) by omega, rng_gen, Int.toNat_natCast]
        walk_at "wx"
        refine OpS.of (show dAdd (tpN s) (tpN [y]) = some (tpN (s ++ [y])) from add_tp (by have := hX s ms; simp; omega)) ?_
        exact ⟨rfl, rfl⟩
      · have e : ((X.flatMap fun x => (List.range (r.length + 1)).map fun k => tpN (x ++ [k])).length) = (stepS X r.length).length := by
          unfold stepS
          rw [List.length_flatMap, List.length_flatMap]
          simp
        rw [e, sl]
        show 0 + _ ≤ _
        omega
      · walk_at "wx"
        refine ⟨stepS X r.length, ?_, sn.symm, by rw [mn, ← ln]; exact c1⟩
        unfold stepS
        rw [List.map_flatMap]
        simp only [List.map_map]
        rfl
  · rintro X ⟨rfl, h40⟩
    have ln := spots_len T
    have nd := spots_nd T
    have lt : ∀ s ∈ spotsT T, s.length = T.length := fun s m => ((spots_mem T s).mp m).1
    have hne : ∀ s ∈ spotsT T, s ≠ [] := fun s m e => by
      have := lt s m
      rw [e] at this
      exact hn (List.length_eq_zero_iff.mp this.symm)
    walk_at "wx"
    refine s_dcTw ?_
    walk_at "wx"
    rw [enum_zip]
    refine s_dcGoTw (e := fun p : List Nat × Nat => D.tup [.int (p.2 : Nat), tpN p.1]) (σ := Unit) (fun _ => [tbD b T, .lst ((spotsT T).map tpN), .non, .non, .non, .non, .non, .non, .non, .non]) (fun pre acc _ => acc = pre.map nuE) (σ0 := ()) rfl (fun pre p post acc _ ex i => ?_) fun acc _ i => ?_
    · subst i
      obtain ⟨z1, z2⟩ := zip_split ex
      have mp : p.1 ∈ spotsT T := by rw [z1]; simp
      have lp : pre.length ≤ 40 := by
        have := congrArg List.length z1
        rw [List.length_append, List.length_map, ln] at this
        omega
      have nx : p.1 ∉ pre.map (·.1) := fun m => by
        rw [z1] at nd
        exact (List.nodup_append.mp nd).2.2 _ m _ (List.mem_cons_self ..) rfl
      walk_at "wx"
      refine ⟨⟨key_tp (hne _ mp), by rw [List.length_map]; omega⟩, ?_⟩
      walk_at "wx"
      exact ⟨(), rfl, put_nu nx⟩
    subst i
    walk_at "wx"
    refine s_forP (e := tpN) (σ := List Arr) (fun A => [tbD b T, .lst ((spotsT T).map tpN), .non, .non, .non, nuD (spotsT T), .non, .lst (A.map aD), .non, .non]) (fun pre A => A = arrsX T (spotsT T) pre) (σ0 := []) rfl ?_ ?_
    · rintro pre s post A ex rfl
      have ms : s ∈ spotsT T := by rw [ex]; simp
      obtain ⟨h1, h2⟩ := (spots_mem T s).mp ms
      walk_at "wx"
      refine OpS.of (sq_len b _) ?_
      rw [List.length_map]
      walk_at "wx"
      rw [rng_gen, Int.toNat_natCast]
      refine s_forP (e := fun i : Nat => D.int (i : Int)) (σ := List Arr) (fun A => [tbD b T, .lst ((spotsT T).map tpN), .non, tpN s, .non, nuD (spotsT T), .non, .lst (A.map aD), .non, .non]) (fun pr A => A = arrsX T (spotsT T) pre ++ pr.filterMap (arr1 T (spotsT T) s)) (σ0 := arrsX T (spotsT T) pre) (by simp) ?_ ?_
      · rintro pr k po A ex2 rfl
        have hk : k < T.length := List.mem_range.mp (by rw [ex2]; simp)
        have hks : k < s.length := by omega
        have gs : s.getD k 0 = s[k] := by rw [List.getD_eq_getElem?_getD, List.getElem?_eq_getElem hks]; rfl
        have gT : T.getD k [] = T[k] := by rw [List.getD_eq_getElem?_getD, List.getElem?_eq_getElem hk]; rfl
        walk_at "wx"
        refine OpS.of (ix_tp hks) ?_
        walk_at "wx"
        refine OpS.of (ix_tb hk) ?_
        walk_at "wx"
        refine OpS.of (sq_len b _) ?_
        rw [len_txs]
        walk_at "wx"
        dsimp only
        refine if_d (fun c1 => ?_) fun c1 => ?_
        · have c1 : s[k] < T[k].length := by omega
          have hm : incS s k ∈ spotsT T := set_mem ms hk (by rw [gs, gT]; omega)
          have ea : arr1 T (spotsT T) s k = some ((spotsT T).idxOf s, (spotsT T).idxOf (incS s k), T[k][s[k]]) := by
            unfold arr1
            rw [gs, gT, if_pos c1, List.getD_eq_getElem?_getD, List.getElem?_eq_getElem c1]
            rfl
          walk_at "wx"
          refine OpS.of (ix_tp hks) ?_
          walk_at "wx"
          rw [cut_to, show (nts s).take k = nts (s.take k) from List.map_take.symm, show ((s[k] : Nat) : Int) + 1 = ((s[k] + 1 : Nat) : Int) by omega]
          refine OpS.of (show dAdd (tpN (s.take k)) (tpN [s[k] + 1]) = some (tpN (s.take k ++ [s[k] + 1])) from add_tp (by rw [List.length_take]; simp; omega)) ?_
          walk_at "wx"
          rw [show (k : Int) + 1 = ((k + 1 : Nat) : Int) by omega, cut_from, show (nts s).drop (k + 1) = nts (s.drop (k + 1)) from List.map_drop.symm]
          refine OpS.of (show dAdd (tpN (s.take k ++ [s[k] + 1])) (tpN (s.drop (k + 1))) = some (tpN (incS s k)) from by rw [add_tp (by rw [List.length_append, List.length_take, List.length_drop]; simp; omega), inc_eq hks]) ?_
          walk_at "wx"
          refine OpS.of (get_nu ms (hne s ms)) ?_
          walk_at "wx"
          refine OpS.of (get_nu hm (hne _ hm)) ?_
          walk_at "wx"
          refine OpS.of (ix_tb hk) ?_
          walk_at "wx"
          refine OpS.of (ix_tp hks) ?_
          refine OpS.of (ix_rb c1) ?_
          walk_at "wx"
          have l1 := arrsX_len T (spotsT T) pre
          have l2 : pre.length * T.length ≤ 40 * 100 := Nat.mul_le_mul (by have := congrArg List.length ex; rw [List.length_append, ln] at this; omega) hl
          have l3 := List.length_filterMap_le (arr1 T (spotsT T) s) pr
          have l4 : pr.length ≤ 100 := by have := congrArg List.length ex2; rw [List.length_append, List.length_range] at this; omega
          refine ⟨by rw [List.length_map, List.length_append]; omega, ?_⟩
          walk_at "wx"
          refine ⟨arrsX T (spotsT T) pre ++ (pr ++ [k]).filterMap (arr1 T (spotsT T) s), ?_, rfl⟩
          rw [List.filterMap_append, List.filterMap_cons_some ea, List.filterMap_nil, ← List.append_assoc, List.map_append (l₂ := [_])]
          rfl
        · have c1 : ¬ s[k] < T[k].length := by omega
          have ea : arr1 T (spotsT T) s k = none := by
            unfold arr1
            rw [gs, gT, if_neg c1]
          walk_at "wx"
          refine ⟨_, rfl, ?_⟩
          rw [List.filterMap_append, List.filterMap_cons_none ea, List.filterMap_nil, List.append_nil]
      · rintro A rfl
        walk_at "wx"
        refine ⟨_, rfl, ?_⟩
        unfold arrsX
        rw [List.flatMap_append, List.flatMap_cons, List.flatMap_nil, List.append_nil]
    · rintro A rfl
      walk_at "wx"
      rw [List.length_map, ln]
      have mp := many_pos T
      rw [show (manyT T : Int) - 1 = ((manyT T - 1 : Nat) : Int) by omega]
      refine s_chart (n := manyT T) (s := 0) (e := manyT T - 1) (as := arrsT T) (A := .lst ((arrsT T).map aD)) rfl (by
        show some (D.int (((arrsT T).map aD).length : Nat)) = _
        rw [List.length_map]) (by omega) (fun h => hg nb (.inr h)) fun h => ⟨weave_ok h40 nb, ?_⟩
      refine ⟨rfl, ?_⟩
      walk_at "wx"
      exact q nb h40 h
theorem s_dcE {S : List D} {E : XQ} {i : Nat} {p : Pat} {vs : List Nat} {it : EA} {tk tv : E1} {N : List D → Prop} {R : D → List D → Prop} (h : Sat2 (it S) (fun ds S1 => ∃ d, ds = [d] ∧ To (unD vs S1) fun S2 => OpS (bindP p d S2) fun S3 => Sat2 (tk S3) (fun k S4 => k = .tup [] ∧ Sat2 (tv S4) (fun _ S5 => To ((reD vs S1 (unD vs S5)).set i .non) fun S6 => N S6) noX) noX) noX) : SatS (aDcE i p vs it aYes tk tv S) N R E := by
  obtain ⟨ds, S1, e1, d, rfl, h⟩ := h.get
  have h : OpS (bindP p d (unD vs S1)) fun S3 => Sat2 (tk S3) (fun k S4 => k = .tup [] ∧ Sat2 (tv S4) (fun _ S5 => To ((reD vs S1 (unD vs S5)).set i .non) fun S6 => N S6) noX) noX := h
  cases e2 : bindP p d (unD vs S1) with
  | none => rw [e2] at h; exact (show False by with_unfolding_all exact h).elim
  | some S3 =>
    rw [e2] at h
    obtain ⟨k, S4, e3, rfl, h⟩ := (ops_some h).get
    obtain ⟨x, S5, e4, h⟩ := h.get
    have e : aDcE i p vs it aYes tk tv S = .ok (.nx ((reD vs S1 (unD vs S5)).set i .non)) := by
      unfold aDcE dcE
      rw [e1]
      show Rz.bind (match bindP p d (unD vs S1) with
        | some S1 => (match aYes S1 with
          | .ok (true, S2) => (match tk S2 with
            | .ok (.tup [], S3) => (match tv S3 with
              | .ok (_, S4) => .ok S4
              | _ => .no)
            | _ => .no)
          | _ => .no)
        | none => .no) _ = _
      rw [e2]
      show Rz.bind (match tk S3 with
            | .ok (.tup [], S3) => (match tv S3 with
              | .ok (_, S4) => .ok S4
              | _ => .no)
            | _ => .no) _ = _
      rw [e3]
      show Rz.bind (match tv S4 with
              | .ok (_, S4) => .ok S4
              | _ => .no) _ = _
      rw [e4]
      rfl
    rw [e]
    with_unfolding_all exact h
theorem w_weave0 {b : Bool} {Q : D → Prop} {E : XQ} (q : Q (chartD 1 [] 0 0)) : Sat (A_weaving0 [tbD b []]) Q E := by
  have hsz := szL
  unfold A_weaving0
  walk_at "wx"
  refine w_threads (T := []) (fun r m => by cases m) (fun x h => by cases h) fun nb => ?_
  walk_at "wx"
  refine OpS.of (sq_seq b _) ?_
  refine s_forN ?_
  walk_at "wx"
  refine s_dcE ?_
  walk_at "wx"
  refine ⟨_, rfl, ?_⟩
  walk_at "wx"
  refine ⟨rfl, ?_⟩
  walk_at "wx"
  refine s_forP (e := tpN) (xs := [[]]) (σ := Unit) (fun _ => [tbD b [], .lst [.tup []], .non, .non, .non, .non, .non, .lst [], .non, .non]) (fun _ _ => True) (σ0 := ()) trivial ?_ ?_
  · rintro pre s post _ ex _
    walk_at "wx"
    refine OpS.of (sq_len b _) ?_
    walk_at "wx"
    refine s_forN ?_
    walk_at "wx"
    exact ⟨(), rfl, trivial⟩
  · intro _ _
    walk_at "wx"
    refine s_chart (n := 1) (s := 0) (e := 0) (as := []) (A := .lst []) rfl rfl (by omega) (fun h => absurd h (by decide)) fun h => ⟨weave_ok (T := []) (by decide) rfl, ?_⟩
    refine ⟨rfl, ?_⟩
    walk_at "wx"
    exact q
theorem w_weave {b : Bool} {T : List (List Str)} (hz : ∀ r ∈ T, ∀ x ∈ r, x.length ≤ 100) (hr : ∀ r ∈ T, r.length ≤ 1000) (hl : T.length ≤ 100) {Q : D → Prop} {E : XQ} (hb : ∀ x, badT T = some x → E ("BadName" : Str) [(("name" : Str), .str x)])
    (hg : badT T = none → 40 < manyT T ∨ 80 < (arrsT T).length → E ("TooGreat" : Str) []) (q : badT T = none → manyT T ≤ 40 → (arrsT T).length ≤ 80 → Q (chartD (manyT T) (arrsT T) 0 (manyT T - 1))) : Sat (A_weaving_chart [tbD b T]) Q E := by
  unfold A_weaving_chart aTwo
  by_cases hn : T = []
  · subst hn
    rw [if_pos (by cases b <;> rfl)]
    exact w_weave0 (q rfl (by decide) (by decide))
  · rw [if_neg (by
      cases T with
      | nil => exact absurd rfl hn
      | cons r T => cases b <;> exact Bool.false_ne_true)]
    exact w_weave1 hz hr hl hn hb hg q
end
section
open PySem PySem.Spec PyProof.Rows L2
theorem named_ok (z : Str) (h : z.length ≤ sizeLine) (ho : PyData.strOk z = true) : A__law_named [.str z] = .ok (.bl (fitsN z)) := by
  have hf : fitsN z = (decide (1 ≤ z.length) && decide (z.length ≤ 3) && z.cps.toList.all fun c => decide (c ∈ ("abcdefghijklmnopqrstuvwxyz" : Str).cps.toList)) := rfl
  rw [hf]
  unfold A__law_named
  walk_at "av"
  rw [len_str h]
  walk_at "av"
  by_cases h1 : 1 ≤ z.length
  · have e1 : decide ((1 : Int) ≤ (z.length : Int)) = true := by simp; omega
    rw [e1]
    walk_at "av"
    by_cases h2 : z.length ≤ 3
    · have e2 : decide ((z.length : Int) ≤ 3) = true := by simp; omega
      rw [e2]
      walk_at "av"
      rw [aLc_pure (ds := signs z) (fun d => !decide (sgn d ∈ ("abcdefghijklmnopqrstuvwxyz" : Str).cps.toList)) (fun d => d) (aItS_ok rfl h) (fun d m => by
        obtain ⟨c, rfl⟩ := signs_str z d m
        walk_at "av"
        rw [nin_sign]
        rfl) (fun d m _ => by
        obtain ⟨c, rfl⟩ := signs_str z d m
        walk_at "av")]
      rw [List.map_id']
      have cl : ∀ d ∈ (signs z).filter (fun d => !decide (sgn d ∈ ("abcdefghijklmnopqrstuvwxyz" : Str).cps.toList)), Cl 0 d := fun d m => by
        have m := (List.mem_filter.mp m).1
        unfold signs at m
        obtain ⟨c, mc, rfl⟩ := List.mem_map.mp m
        exact .str (strOk_at ho mc)
      walk_at "av"
      rw [eq_nil cl (by decide)]
      walk_at "av"
      rw [decide_eq_true h1, decide_eq_true h2]
      congr 2
      simp only [Bool.true_and]
      unfold signs
      rw [Bool.eq_iff_iff, List.isEmpty_iff, List.filter_eq_nil_iff, List.all_eq_true]
      constructor
      · intro a c m
        have := a (.str ⟨#[c]⟩) (List.mem_map.mpr ⟨c, m, rfl⟩)
        simpa [sgn] using this
      · intro a d m
        obtain ⟨c, mc, rfl⟩ := List.mem_map.mp m
        have := a c mc
        simpa [sgn] using this
    · have e2 : decide ((z.length : Int) ≤ 3) = false := by simp; omega
      rw [e2]
      walk_at "av"
      rw [decide_eq_false h2]
      simp
  · have e1 : decide ((1 : Int) ≤ (z.length : Int)) = false := by simp; omega
    rw [e1]
    walk_at "av"
    rw [decide_eq_false h1]
    simp
abbrev lsN (s : List Nat) : D := .lst (nts s)
theorem lsN_cl (s : List Nat) : Cl 1 (lsN s) := .lst fun d m => by
  obtain ⟨n, _, rfl⟩ := List.mem_map.mp m
  exact .int _
theorem eqvAll_nts : ∀ a b : List Nat, PyData.eqvAll (D.pys (nts a)) (D.pys (nts b)) = decide (a = b)
  | [], [] => rfl
  | [], y :: b => rfl
  | x :: a, [] => rfl
  | x :: a, y :: b => by
    have ih := eqvAll_nts a b
    show (PyData.eqv (.int x) (.int y) && PyData.eqvAll (D.pys (nts a)) (D.pys (nts b))) = _
    rw [ih]
    simp only [PyData.eqv]
    rw [Bool.eq_iff_iff]
    simp [Int.ofNat_inj]
theorem eqv_lsN (a b : List Nat) : PyData.eqv (lsN a).py (lsN b).py = decide (a = b) := by
  show PyData.eqv (.list (D.pys (nts a))) (.list (D.pys (nts b))) = _
  simp only [PyData.eqv]
  exact eqvAll_nts a b
theorem find_lsN (c : List Nat) : ∀ X : List (List Nat), c ∈ X → (X.map fun x => (lsN x).py).findIdx? (fun z => PyData.eqv z (lsN c).py) = some (X.idxOf c)
  | [], m => by cases m
  | x :: P, m => by
    rw [List.map_cons, List.findIdx?_cons, eqv_lsN]
    by_cases h : x = c
    · subst h
      rw [decide_eq_true rfl, if_pos rfl, List.idxOf_cons_self]
    · have m2 : c ∈ P := (List.mem_cons.mp m).resolve_left fun z => h z.symm
      have hb : (x == c) = false := beq_false_of_ne h
      rw [decide_eq_false h, if_neg (by simp), find_lsN c P m2, List.idxOf_cons, hb]
      rfl
theorem idx_lsN {c : List Nat} {X : List (List Nat)} (m : c ∈ X) : dIndexD (.lst (X.map lsN)) (lsN c) = some (.int ((X.idxOf c : Nat) : Int)) := by
  have cl : Cl 2 (.lst (X.map lsN)) := .lst fun d m => by
    obtain ⟨a, ma, rfl⟩ := List.mem_map.mp m
    exact lsN_cl a
  have sh : SeqAt.shaped (.list (D.pys (X.map lsN))) = true := by
    have s2 := cl.shaped (by omega)
    have : (D.lst (X.map lsN)).py = .list (D.pys (X.map lsN)) := by unfold D.py; rfl
    rw [← this]
    exact s2
  show (if SeqAt.shaped (lsN c).py && SeqAt.shaped (.list (D.pys (X.map lsN))) then ((D.pys (X.map lsN)).findIdx? fun z => PyData.eqv z (lsN c).py).map fun j => D.int (j : Nat) else none) = _
  rw [(lsN_cl c).shaped (by omega), sh, if_pos (by rfl), pys_map, find_lsN c X m]
  rfl
theorem stepS_get {m : Nat} : ∀ (X : List (List Nat)) (n : Nat), (stepS X m)[n]? = X[n / (m + 1)]?.map fun s => s ++ [n % (m + 1)]
  | [], n => by unfold stepS; simp
  | x :: X, n => by
    have ih := stepS_get (m := m) X
    have e : stepS (x :: X) m = ((List.range (m + 1)).map fun k => x ++ [k]) ++ stepS X m := rfl
    rw [e, List.getElem?_append, List.length_map, List.length_range]
    by_cases c : n < m + 1
    · rw [if_pos c, List.getElem?_map, List.getElem?_range c, Nat.div_eq_of_lt c, Nat.mod_eq_of_lt c]
      rfl
    · rw [if_neg c, ih]
      have h1 : n / (m + 1) = (n - (m + 1)) / (m + 1) + 1 := by
        rw [Nat.div_eq n (m + 1), if_pos ⟨by omega, by omega⟩]
      have h2 : n % (m + 1) = (n - (m + 1)) % (m + 1) := Nat.mod_eq_sub_mod (by omega)
      rw [h1, h2, List.getElem?_cons_succ]
def dueW (T : List (List Str)) : D := match badT T with
  | some x => .tup [.str "name", .str x, .bl true]
  | none => if manyT T ≤ 40 ∧ (arrsT T).length ≤ 80 then .tup [.str "done", .int (manyT T : Nat), .tup ((arrsT T).map aD), .int 0, .int ((manyT T - 1 : Nat) : Int)] else .tup [.str "great", .bl true]
theorem w_due {T : List (List Str)} (hz : ∀ r ∈ T, ∀ x ∈ r, x.length ≤ 100 ∧ PyData.strOk x = true) (hr : ∀ r ∈ T, r.length ≤ 1000) (hl : T.length ≤ 100) (hm : manyT T ≤ 2 ^ 60) : Sat (A__law_due [tbD false T]) (fun d => d = dueW T) noX := by
  have hsz := szL
  unfold A__law_due
  walk_at "wx"
  refine s_forP (e := rbD false) (σ := Unit) (fun _ => [tbD false T, .non, .non, .non, .non, .non, .non, .non, .non, .non, .non]) (fun pre _ => badT pre = none) (σ0 := ()) rfl ?_ ?_
  · rintro pre r post _ ex hp
    walk_at "wx"
    refine s_forP (e := fun x : Str => D.str x) (σ := Unit) (fun _ => [tbD false T, rbD false r, .non, .non, .non, .non, .non, .non, .non, .non, .non]) (fun pr _ => pr.find? (fun x => !fitsN x) = none) (σ0 := ()) rfl ?_ ?_
    · rintro pr x po _ ex2 hp2
      obtain ⟨lx, ox⟩ := hz r (by rw [ex]; simp) x (by rw [ex2]; simp)
      walk_at "wx"
      refine Sat.ok (named_ok x (by omega) ox) ?_
      refine OpS.of (show dTruB (D.bl (fitsN x)) = some (fitsN x) from rfl) ?_
      cases hf : fitsN x with
      | false =>
        walk_at "wx"
        unfold dueW
        rw [ex, ex2, bad_at hp hp2 hf]
      | true =>
        walk_at "wx"
        exact ⟨(), rfl, find_snoc hp2 hf⟩
    · intro _ h
      walk_at "wx"
      exact ⟨(), rfl, bad_snoc hp h⟩
  intro _ nb
  walk_at "wx"
  refine s_forP (e := rbD false) (σ := Nat) (fun m => [tbD false T, .non, .non, .int (m : Nat), .non, .non, .non, .non, .non, .non, .non]) (fun pre m => m = manyT pre) (σ0 := 1) rfl ?_ ?_
  · rintro pre r post m ex rfl
    have mm := many_mono (pre := pre) (post := post) (r := r)
    rw [← ex] at mm
    have mp := many_pos pre
    have m1 : manyT pre ≤ 2 ^ 60 := Nat.le_trans (Nat.le_mul_of_pos_right _ (by omega)) (Nat.le_trans mm hm)
    have hrl : r.length ≤ 1000 := hr r (by rw [ex]; simp)
    have mn := many_snoc pre r
    walk_at "wx"
    refine ⟨manyT pre * (r.length + 1), ?_, mn.symm⟩
    rw [len_txs, show (manyT pre : Int) * ((r.length : Int) + 1) = ((manyT pre * (r.length + 1) : Nat) : Int) by push_cast; rfl]
  rintro m rfl
  have mp := many_pos T
  walk_at "wx"
  refine if_b (fun c1 => ?_) fun c1 => ?_
  · have c1 : 40 < manyT T := by have := of_decide_eq_true c1; omega
    walk_at "wx"
    unfold dueW
    rw [nb]
    show _ = if _ then _ else _
    rw [if_neg (by omega)]
  have h40 : manyT T ≤ 40 := by have := of_decide_eq_false c1; omega
  have ln := spots_len T
  walk_at "wx"
  rw [rng_gen, Int.toNat_natCast]
  refine s_forP (e := fun i : Nat => D.int (i : Int)) (σ := List (List Nat)) (fun X => [tbD false T, .non, .non, .int (manyT T : Nat), .lst (X.map lsN), .non, .non, .non, .non, .non, .non]) (fun pre X => X = (spotsT T).take pre.length) (σ0 := []) (by simp) ?_ ?_
  · rintro pre n post X ex rfl
    obtain ⟨rfl, hn⟩ := range_split ex
    walk_at "wx"
    rw [← List.map_reverse]
    refine s_forP (e := rbD false) (σ := List Nat × Nat) (fun st => [tbD false T, .non, .non, .int (manyT T : Nat), .lst (((spotsT T).take pre.length).map lsN), .int (pre.length : Nat), .lst (nts st.1), .int (st.2 : Nat), .non, .non, .non])
      (fun pre2 st => st.1.length = pre2.length ∧ ∃ p, T = p ++ pre2.reverse ∧ (spotsT T)[pre.length]? = (spotsT p)[st.2]?.map fun s => s ++ st.1) (σ0 := ([], pre.length)) ⟨rfl, T, by simp, by simp⟩ ?_ ?_
    · rintro pre2 r post2 ⟨spot, rest⟩ ex2 ⟨lsp, p, eT, eg⟩
      dsimp only at lsp eg ⊢
      have eT2 : T = post2.reverse ++ [r] ++ pre2.reverse := by
        have := congrArg List.reverse ex2
        rw [List.reverse_reverse] at this
        rw [this]
        simp
      have ep : p = post2.reverse ++ [r] := List.append_cancel_right (eT.symm.trans eT2)
      have lp : pre2.length ≤ 100 := by
        have := congrArg List.length ex2
        rw [List.length_reverse, List.length_append] at this
        omega
      have hrl : r.length ≤ 1000 := hr r (by rw [eT2]; simp)
      have fm : (rest : Int).fmod ((r.length : Int) + 1) = ((rest % (r.length + 1) : Nat) : Int) := by
        rw [show (r.length : Int) + 1 = ((r.length + 1 : Nat) : Int) by omega, Int.fmod_eq_emod_of_nonneg _ (by omega)]
        rfl
      have fd : (rest : Int).fdiv ((r.length : Int) + 1) = ((rest / (r.length + 1) : Nat) : Int) := by
        rw [show (r.length : Int) + 1 = ((r.length + 1 : Nat) : Int) by omega, Int.fdiv_eq_ediv_of_nonneg _ (by omega)]
        rfl
      walk_at "wx"
      rw [len_txs, fm]
      refine OpS.of (d := .lst (nts ((rest % (r.length + 1)) :: spot))) ?_ ?_
      · show okL _ _ = _
        rw [okL_ok (by rw [List.length_map, lsp]; show 1 + _ ≤ _; omega)]
        rfl
      walk_at "wx"
      rw [len_txs]
      have hd : dDiv (.int (rest : Nat)) (.int ((r.length : Int) + 1)) = some (.int ((rest / (r.length + 1) : Nat) : Int)) := by
        have h1 : ((r.length : Int) + 1).natAbs < 2 ^ 100 := by omega
        have h2 : ((r.length : Int) + 1).natAbs.log2 < 9000 := by
          have := Nat.log2_lt (n := ((r.length : Int) + 1).natAbs) (k := 100) (by omega)
          omega
        rw [div_int (by omega) h2, fd]
      refine OpS.of hd ?_
      walk_at "wx"
      refine ⟨((rest % (r.length + 1)) :: spot, rest / (r.length + 1)), rfl, by rw [List.length_append, List.length_cons, lsp]; rfl, post2.reverse, by rw [List.reverse_append, eT2]; simp, ?_⟩
      dsimp only
      rw [eg, ep, spots_snoc, stepS_get, Option.map_map]
      congr 1
      funext s
      show s ++ [_] ++ spot = _
      simp
    · rintro ⟨spot, rest⟩ ⟨lsp, p, eT, eg⟩
      dsimp only at lsp eg ⊢
      rw [List.reverse_reverse] at eT
      have ep : p = [] := by
        have := congrArg List.length eT
        rw [List.length_append] at this
        exact List.length_eq_zero_iff.mp (by omega)
      subst ep
      have hx : pre.length < (spotsT T).length := by rw [ln]; exact hn
      have e1 : (spotsT T)[pre.length] = spot := by
        rw [List.getElem?_eq_getElem hx] at eg
        cases rest with
        | zero => exact Option.some.inj eg
        | succ z => cases eg
      walk_at "wx"
      refine ⟨by rw [List.length_map, List.length_take]; omega, ?_⟩
      walk_at "wx"
      refine ⟨(spotsT T).take (pre.length + 1), ?_, by rw [List.length_append]; rfl⟩
      rw [List.take_succ, List.getElem?_eq_getElem hx, e1, List.map_append (l₂ := Option.toList _)]
      rfl
  intro X eX
  rw [List.length_range, ← ln, List.take_length] at eX
  subst eX
  walk_at "wx"
  rw [rng_gen, Int.toNat_natCast]
  refine s_forP (e := fun i : Nat => D.int (i : Int)) (σ := List Arr) (fun A => [tbD false T, .non, .non, .int (manyT T : Nat), .lst ((spotsT T).map lsN), .non, .non, .non, .lst (A.map aD), .non, .non]) (fun pre A => A = arrsX T (spotsT T) ((spotsT T).take pre.length)) (σ0 := []) (by simp [arrsX]) ?_ ?_
  · rintro pre n post A ex rfl
    obtain ⟨rfl, hn⟩ := range_split ex
    have hx : pre.length < (spotsT T).length := by rw [ln]; exact hn
    generalize hs : (spotsT T)[pre.length] = s
    have ms : s ∈ spotsT T := hs ▸ List.getElem_mem hx
    obtain ⟨h1, h2⟩ := (spots_mem T s).mp ms
    have ei : (spotsT T).idxOf s = pre.length := by rw [← hs]; exact List.Nodup.idxOf_getElem (spots_nd T) _ hx
    have sget : ∀ {Q : D → Prop}, Q (lsN s) → OpS (dIx (.lst ((spotsT T).map lsN)) (.int (pre.length : Nat))) Q := fun q => o_ixM (xs := spotsT T) (e := lsN) pre.length rfl hx (by rw [hs]; exact q)
    walk_at "wx"
    rw [List.length_map, rng_gen, Int.toNat_natCast]
    refine s_forP (e := fun i : Nat => D.int (i : Int)) (σ := List Arr) (fun A => [tbD false T, .non, .non, .int (manyT T : Nat), .lst ((spotsT T).map lsN), .int (pre.length : Nat), .non, .non, .lst (A.map aD), .non, .non]) (fun pr A => A = arrsX T (spotsT T) ((spotsT T).take pre.length) ++ pr.filterMap (arr1 T (spotsT T) s)) (σ0 := arrsX T (spotsT T) ((spotsT T).take pre.length)) (by simp) ?_ ?_
    · rintro pr k po A ex2 rfl
      have hk : k < T.length := List.mem_range.mp (by rw [ex2]; simp)
      have hks : k < s.length := by omega
      have gs : s.getD k 0 = s[k] := by rw [List.getD_eq_getElem?_getD, List.getElem?_eq_getElem hks]; rfl
      have gT : T.getD k [] = T[k] := by rw [List.getD_eq_getElem?_getD, List.getElem?_eq_getElem hk]; rfl
      have lix : dIx (lsN s) (.int (k : Nat)) = some (.int ((s[k] : Nat) : Int)) := ix_tp hks
      walk_at "wx"
      refine sget ?_
      walk_at "wx"
      refine OpS.of lix ?_
      walk_at "wx"
      refine OpS.of (ix_tb (b := false) hk) ?_
      walk_at "wx"
      rw [len_txs]
      dsimp only
      refine if_d (fun c3 => ?_) fun c3 => ?_
      · have c3 : s[k] < T[k].length := by omega
        have hm2 : incS s k ∈ spotsT T := set_mem ms hk (by rw [gs, gT]; omega)
        have ea : arr1 T (spotsT T) s k = some ((spotsT T).idxOf s, (spotsT T).idxOf (incS s k), T[k][s[k]]) := by
          unfold arr1
          rw [gs, gT, if_pos c3, List.getD_eq_getElem?_getD, List.getElem?_eq_getElem c3]
          rfl
        walk_at "wx"
        refine sget ?_
        walk_at "wx"
        refine OpS.of (show atI (nts s) (k : Nat) = some (.int ((s[k] : Nat) : Int)) from lix) ?_
        walk_at "wx"
        refine o_ixN (k := k) rfl (by rw [List.length_map]; exact hks) ?_
        walk_at "wx"
        have es : (nts s).set k (.int ((s[k] : Nat) + 1)) = nts (incS s k) := by
          unfold incS
          rw [gs]
          show (s.map fun n : Nat => D.int (n : Nat)).set k (D.int ((s[k] : Nat) + 1)) = (s.set k (s[k] + 1)).map fun n : Nat => D.int (n : Nat)
          rw [List.map_set]
          rfl
        rw [es]
        refine s_lm ?_
        walk_at "wx"
        refine ⟨_, rfl, ?_⟩
        walk_at "wx"
        refine OpS.of (idx_lsN hm2) ?_
        walk_at "wx"
        refine OpS.of (ix_tb (b := false) hk) ?_
        walk_at "wx"
        refine sget ?_
        walk_at "wx"
        refine OpS.of lix ?_
        refine OpS.of (ix_rb (b := false) c3) ?_
        walk_at "wx"
        have l1 := arrsX_len T (spotsT T) ((spotsT T).take pre.length)
        have l2 : ((spotsT T).take pre.length).length * T.length ≤ 40 * 100 := Nat.mul_le_mul (by rw [List.length_take]; omega) hl
        have l3 := List.length_filterMap_le (arr1 T (spotsT T) s) pr
        have l4 : pr.length ≤ 100 := by have := congrArg List.length ex2; rw [List.length_append, List.length_range] at this; omega
        refine ⟨by rw [List.length_map, List.length_append]; omega, ?_⟩
        walk_at "wx"
        refine ⟨arrsX T (spotsT T) ((spotsT T).take pre.length) ++ (pr ++ [k]).filterMap (arr1 T (spotsT T) s), ?_, rfl⟩
        rw [List.filterMap_append, List.filterMap_cons_some ea, List.filterMap_nil, ← List.append_assoc, List.map_append (l₂ := [_]), ei]
        rfl
      · have c3 : ¬ s[k] < T[k].length := by omega
        have ea : arr1 T (spotsT T) s k = none := by
          unfold arr1
          rw [gs, gT, if_neg c3]
        walk_at "wx"
        refine ⟨_, rfl, ?_⟩
        rw [List.filterMap_append, List.filterMap_cons_none ea, List.filterMap_nil, List.append_nil]
    · rintro A rfl
      walk_at "wx"
      refine ⟨_, rfl, ?_⟩
      rw [List.length_append]
      show _ = arrsX T (spotsT T) ((spotsT T).take (pre.length + 1))
      rw [List.take_succ, List.getElem?_eq_getElem hx, hs]
      unfold arrsX
      rw [List.flatMap_append]
      simp
  intro A eA
  rw [List.length_range, ← ln, List.take_length] at eA
  subst eA
  walk_at "wx"
  rw [List.length_map]
  refine if_b (fun c2 => ?_) fun c2 => ?_
  · have c2 : (arrsT T).length ≤ 80 := by
      have h1 := of_decide_eq_true c2
      have h2 : (arrsT T).length < 81 := Int.ofNat_lt.mp h1
      omega
    walk_at "wx"
    unfold dueW
    rw [nb]
    show _ = if _ then _ else _
    rw [if_pos ⟨h40, c2⟩, show (manyT T : Int) - 1 = ((manyT T - 1 : Nat) : Int) by omega]
    rfl
  · have c2 : ¬ (arrsT T).length ≤ 80 := by
      have := of_decide_eq_false c2
      intro h
      exact this (Int.ofNat_lt.mpr (show (arrsT T).length < 81 by omega))
    walk_at "wx"
    unfold dueW
    rw [nb]
    show _ = if _ then _ else _
    rw [if_neg fun h => c2 h.2]
theorem w_caught64 {b : Bool} {T : List (List Str)} (hz : ∀ r ∈ T, ∀ x ∈ r, x.length ≤ 100) (hr : ∀ r ∈ T, r.length ≤ 1000) (hl : T.length ≤ 100) : Sat (A__law_caught [tbD b T]) (fun d => d = dueW T) noX := by
  have hsz := szL
  unfold A__law_caught
  walk_at "wx"
  refine s_try ?_
  refine sb_drop ?_
  refine sb_seq ?_
  refine sb_set ?_
  walk_at "wx"
  refine w_weave hz hr hl (fun x hx => ?_) (fun nb h => ?_) fun nb h40 h80 => ?_
  · refine ⟨by decide, _, rfl, ⟨by show 3 ≤ sizeLine; omega, by decide, by decide, by decide⟩, ?_⟩
    walk_at "wx"
    unfold dueW
    rw [hx]
  · refine ⟨by decide, _, rfl, ⟨by show 2 ≤ sizeLine; omega, by decide, by decide, by decide⟩, ?_⟩
    walk_at "wx"
    unfold dueW
    rw [nb]
    show _ = if _ then _ else _
    rw [if_neg (by omega)]
  · walk_at "wx"
    refine sb_set ?_
    walk_at "wx"
    unfold dueW
    rw [nb]
    show _ = if _ then _ else _
    rw [if_pos ⟨h40, h80⟩]
    rfl
theorem dueW_cl {T : List (List Str)} (ho : ∀ r ∈ T, ∀ x ∈ r, PyData.strOk x = true) : Cl 3 (dueW T) := by
  have k1 : PyData.strOk ("name" : Str) = true := by decide +kernel
  have k2 : PyData.strOk ("done" : Str) = true := by decide +kernel
  have k3 : PyData.strOk ("great" : Str) = true := by decide +kernel
  unfold dueW
  cases hb : badT T with
  | some x =>
    have hx : PyData.strOk x = true := by
      have := List.mem_of_find?_eq_some hb
      obtain ⟨r, mr, mx⟩ := List.mem_flatten.mp this
      exact ho r mr x mx
    refine Cl.tup fun d md => ?_
    simp only [List.mem_cons, List.not_mem_nil, or_false] at md
    rcases md with rfl | rfl | rfl
    · exact Cl.str k1
    · exact Cl.str hx
    · exact Cl.bl _
  | none =>
    show Cl 3 (if _ then _ else _)
    split
    · rename_i h
      have ok := weave_ok h.1 hb
      refine Cl.tup fun d md => ?_
      simp only [List.mem_cons, List.not_mem_nil, or_false] at md
      rcases md with rfl | rfl | rfl | rfl | rfl
      · exact Cl.str k2
      · exact Cl.int _
      · refine Cl.tup fun d md => ?_
        obtain ⟨a, ma, rfl⟩ := List.mem_map.mp md
        refine Cl.tup fun d md => ?_
        simp only [List.mem_cons, List.not_mem_nil, or_false] at md
        rcases md with rfl | rfl | rfl
        · exact Cl.int _
        · exact Cl.int _
        · exact Cl.str (ok.fit a ma).2.2
      · exact Cl.int _
      · exact Cl.int _
    · refine Cl.tup fun d md => ?_
      simp only [List.mem_cons, List.not_mem_nil, or_false] at md
      rcases md with rfl | rfl
      · exact Cl.str k3
      · exact Cl.bl _
end
section
open PySem PySem.Spec PyProof.Rows L2
abbrev pool64 : List Str := ["a", "b", "cd", "xyz", "", "B", "abcd", "a1", " a", "p", "q"]
theorem pool_ok : ∀ x ∈ pool64, x.length ≤ 100 ∧ PyData.strOk x = true := by decide +kernel
abbrev pk1 : List Str := ["a", "b", "cd", "xyz"]
abbrev pk2 : List Str := ["", "B", "abcd", "a1", " a"]
theorem pk1_in : ∀ z ∈ pk1, z ∈ pool64 := by decide +kernel
theorem pk2_in : ∀ z ∈ pk2, z ∈ pool64 := by decide +kernel
theorem rep_a (m : Nat) (hm : m ≤ 1000) : dRep (.lst [.str "a"]) (.int ((m : Nat) : Int)) = some (rbD false (List.replicate m "a")) := by
  have hsz := szL
  unfold dRep
  dsimp only
  rw [if_pos ⟨by omega, by omega, by simp; omega⟩, Int.toNat_natCast]
  refine congrArg (fun x => some (D.lst x)) ?_
  clear hm
  induction m with
  | zero => rfl
  | succ n ih => rw [List.replicate_succ, List.flatten_cons, ih, List.replicate_succ]; rfl
abbrev pq2 : List (List Str) := [["p", "q"], ["p", "q"]]
theorem due_two (T : List (List Str)) : (badT T = none ∧ manyT T ≤ 40 ∧ (arrsT T).length ≤ 80 ∧ dueW T = .tup [.str "done", .int (manyT T : Nat), .tup ((arrsT T).map aD), .int ((0 : Nat) : Int), .int ((manyT T - 1 : Nat) : Int)]) ∨ ∃ z l, dueW T = .tup (.str z :: l) ∧ z ≠ "done" := by
  unfold dueW
  cases hb : badT T with
  | some x => exact .inr ⟨_, _, rfl, by decide⟩
  | none =>
    by_cases h : manyT T ≤ 40 ∧ (arrsT T).length ≤ 80
    · exact .inl ⟨rfl, h.1, h.2, if_pos h⟩
    · exact .inr ⟨_, _, if_neg h, by decide⟩
theorem ch_eq {n s e : Nat} {as : List Arr} (h : ∀ d ∈ as.map aD, Cl 1 d) : Sat (A_Chart_eq [chartD n as s e, chartD n as s e]) (fun d => d = .bl true) noX := by
  unfold A_Chart_eq
  walk_at "wx"
  refine s_isi ?_
  walk_at "wx"
  refine ⟨rfl, ?_⟩
  refine OpS.of (d := .bl true) rfl ?_
  walk_at "wx"
  unfold A_Chart_parts
  walk_at "wx"
  have c : Cl 3 (D.tup [D.int (n : Nat), D.tup (as.map aD), D.int (s : Nat), D.int (e : Nat)]) := .tup fun d m => by
    rcases List.mem_cons.mp m with rfl | m
    · exact .int _
    rcases List.mem_cons.mp m with rfl | m
    · exact (show Cl 2 (D.tup (as.map aD)) from .tup h)
    rcases List.mem_cons.mp m with rfl | m
    · exact .int _
    rw [List.mem_singleton] at m
    subst m
    exact .int _
  refine OpS.of (eq_self c (by omega)) ?_
  walk_at "wx"
  rfl
structure Tok (k m : Nat) (T : List (List Str)) : Prop where
  l : T.length ≤ k
  r : ∀ r ∈ T, r.length ≤ m ∧ ∀ x ∈ r, x ∈ pool64
theorem many_le {B : Nat} : ∀ T : List (List Str), (∀ r ∈ T, r.length + 1 ≤ B) → manyT T ≤ B ^ T.length := by
  refine snoc_ind (fun _ => Nat.le_refl _) fun T r ih h => ?_
  rw [many_snoc, List.length_append]
  show _ ≤ B ^ (T.length + 1)
  rw [Nat.pow_succ]
  exact Nat.mul_le_mul (ih fun x m => h x (List.mem_append_left _ m)) (h r (by simp))
theorem plain (ns : List Int) (hl : ns.length ≤ 63) : A_law_K64 [.scr ns] = .ok (.bl true) := by
  suffices h : Sat (A_law_K64 [.scr ns]) (fun d => d = .bl true) noX by
    obtain ⟨a, e, rfl⟩ := h.get
    exact e
  have hsz := szL
  unfold A_law_K64
  walk_at "wx"
  rw [rng_gen]
  refine s_forP (e := fun i : Nat => D.int (i : Int)) (σ := Unit) (fun _ => [.scr ns, .non, .non, .non, .non, .non, .non, .non, .non, .non, .non]) (fun _ _ => True) (σ0 := ()) trivial ?_ ?_
  · rintro pre at_ post _ ex _
    walk_at "wx"
    refine w_cellS fun a => ?_
    walk_at "wx"
    refine w_stateS fun s0 p0 => ?_
    walk_at "wx"
    refine w_drawS p0 (by omega) (by omega) (by omega) fun k s1 hk p1 => ?_
    walk_at "wx"
    rw [rng_gen, Int.toNat_natCast]
    refine s_forP (e := fun i : Nat => D.int (i : Int)) (σ := D × Nat × List (List Str)) (fun st => [.scr ns, .int (at_ : Nat), st.1, .lst (st.2.2.map (rbD false)), .non, .non, .non, .non, .non, .non, .non]) (fun pr st => (PenS st.1 st.2.1 ∧ st.2.1 ≤ 1 + 10 * pr.length) ∧ Tok pr.length 3 st.2.2) (σ0 := (s1, 0 + 1, [])) ⟨⟨p1, by show 0 + 1 ≤ 1 + 10 * 0; omega⟩, by simp, fun r m => by cases m⟩ ?_ ?_
    · rintro pr i po ⟨s2, c2, T⟩ ex2 ⟨⟨p2, hc2⟩, tok⟩
      obtain ⟨rfl, hi⟩ := range_split ex2
      dsimp only at p2 hc2 tok ⊢
      walk_at "wx"
      refine w_drawS p2 (by omega) (by omega) (by omega) fun m s3 hm p3 => ?_
      walk_at "wx"
      rw [rng_gen, Int.toNat_natCast]
      refine s_lcW (e := fun i : Nat => D.int (i : Int)) (σ := D × Nat) (fun st => [.scr ns, .int (at_ : Nat), st.1, .lst (T.map (rbD false)), .int (pr.length : Nat), .non, .non, .non, .non, .non, .non]) (fun pre3 acc st => (PenS st.1 st.2 ∧ st.2 ≤ c2 + 1 + pre3.length) ∧ ∃ L : List Str, acc = txs L ∧ L.length = pre3.length ∧ ∀ x ∈ L, x ∈ pool64) (σ0 := (s3, c2 + 1)) ⟨⟨p3, Nat.le_refl _⟩, [], rfl, rfl, fun x m => by cases m⟩ ?_ ?_
      · rintro pre3 i post3 acc ⟨s4, c4⟩ ex3 ⟨⟨p4, hc4⟩, L, rfl, ll, lw⟩
        obtain ⟨_, hk3⟩ := range_split ex3
        have lp3 : pre3.length < m := by
          have := congrArg List.length ex3
          rw [List.length_range, List.length_append, List.length_cons] at this
          omega
        dsimp only at p4 hc4 ⊢
        walk_at "wx"
        refine w_pickS (l := pk1) (f := D.str) p4 (by omega) (by decide) (by decide) fun x s5 mx p5 => ?_
        walk_at "wx"
        refine ⟨(s5, c4 + 1), rfl, ⟨p5, by rw [List.length_append]; show c4 + 1 ≤ c2 + 1 + (pre3.length + 1); omega⟩, L ++ [x], by unfold txs; rw [List.map_append]; rfl, by simp [ll], fun y my => ?_⟩
        rcases List.mem_append.mp my with my | my
        · exact lw y my
        · rw [List.mem_singleton.mp my]
          exact pk1_in x mx
      rintro acc ⟨s4, c4⟩ ⟨⟨p4, hc4⟩, L, rfl, ll, lw⟩
      rw [List.length_range] at hc4 ll
      dsimp only at p4 hc4 ⊢
      walk_at "wx"
      refine ⟨by rw [List.length_map]; have := tok.l; omega, ?_⟩
      walk_at "wx"
      refine ⟨(s4, c4, T ++ [L]), ?_, ⟨p4, by rw [List.length_append]; show c4 ≤ 1 + 10 * (pr.length + 1); omega⟩, by rw [List.length_append, List.length_append]; have := tok.l; simp; omega, fun r mr => ?_⟩
      · show _ = [_, _, _, D.lst ((T ++ [L]).map (rbD false)), _, _, _, _, _, _, _]
        rw [List.map_append]
        rfl
      · rcases List.mem_append.mp mr with mr | mr
        · exact tok.r r mr
        · rw [List.mem_singleton.mp mr]
          exact ⟨by omega, lw⟩
    rintro ⟨s2, c2, T⟩ ⟨⟨p2, hc2⟩, tok⟩
    rw [List.length_range] at hc2 tok
    dsimp only at p2 hc2 tok ⊢
    have tok5 : Tok 5 3 T := ⟨Nat.le_trans tok.l (by omega), tok.r⟩
    refine s_cut (fun S => ∃ (kd : Nat) (s3 : D), S = [.scr ns, .int (at_ : Nat), s3, .lst (T.map (rbD false)), .non, .non, .int (kd : Nat), .non, .non, .non, .non] ∧ PenS s3 (c2 + 1)) ?_ ?_
    · walk_at "wx"
      refine w_drawS p2 (by omega) (by omega) (by omega) fun kd s3 hkd p3 => ?_
      walk_at "wx"
      exact ⟨kd, s3, rfl, p3⟩
    rintro _ ⟨kd, s3, rfl, p3⟩
    refine s_cut (fun S => ∃ (T2 : List (List Str)) (s4 : D), S = [.scr ns, .int (at_ : Nat), s4, .lst (T2.map (rbD false)), .non, .non, .int (kd : Nat), .non, .non, .non, .non] ∧ Tok 6 42 T2) ?_ ?_
    · walk_at "wx"
      refine if_d (fun c1 => ?_) fun c1 => ?_
      · walk_at "wx"
        refine w_drawS p3 (by omega) (by omega) (by omega) fun m s4 hm p4 => ?_
        walk_at "wx"
        rw [show (39 : Int) + (m : Int) = ((39 + m : Nat) : Int) by omega]
        refine OpS.of (rep_a (39 + m) (by omega)) ?_
        walk_at "wx"
        refine ⟨by rw [List.length_map]; have := tok5.l; omega, ?_⟩
        walk_at "wx"
        refine ⟨T ++ [List.replicate (39 + m) ("a" : Str)], s4, ?_, by rw [List.length_append]; have := tok5.l; simp; omega, fun r mr => ?_⟩
        · show _ = [_, _, _, D.lst ((T ++ [List.replicate (39 + m) ("a" : Str)]).map (rbD false)), _, _, _, _, _, _, _]
          rw [List.map_append]
          rfl
        · rcases List.mem_append.mp mr with mr | mr
          · exact ⟨by have := (tok5.r r mr).1; omega, (tok5.r r mr).2⟩
          · rw [List.mem_singleton.mp mr]
            exact ⟨by rw [List.length_replicate]; omega, fun x mx => by rw [(List.mem_replicate.mp mx).2]; decide +kernel⟩
      · walk_at "wx"
        have same : Tok 6 42 T := ⟨by have := tok5.l; omega, fun r mr => ⟨by have := (tok5.r r mr).1; omega, (tok5.r r mr).2⟩⟩
        have two : SatS (aIfS (aTest (aBin dEq (aVar 6) (aC (.int 2)))) (aSet 3 (aBin dCat (aSl (aVar 3) aNoP (aPart (aC (.int 3)))) (aBin dRep (aLst (aCons (aLst (aCons (aC (.str "p")) (aCons (aC (.str "q")) aNil))) aNil)) (aC (.int 2))))) aNext [.scr ns, .int (at_ : Nat), s3, .lst (T.map (rbD false)), .non, .non, .int (kd : Nat), .non, .non, .non, .non]) (fun S => ∃ (T2 : List (List Str)) (s4 : D), S = [.scr ns, .int (at_ : Nat), s4, .lst (T2.map (rbD false)), .non, .non, .int (kd : Nat), .non, .non, .non, .non] ∧ Tok 6 42 T2) (fun d x => d = .bl true) noX := by
          walk_at "wx"
          refine if_d (fun c3 => ?_) fun c3 => ?_
          · walk_at "wx"
            have er : dRep (.lst [rbD false ["p", "q"]]) (.int 2) = some (.lst (pq2.map (rbD false))) := by
              unfold dRep
              dsimp only
              rw [if_pos ⟨by omega, by omega, by show 1 * 2 ≤ sizeLine; omega⟩]
              rfl
            refine OpS.of (show dRep (.lst [.lst [.str "p", .str "q"]]) (.int 2) = _ from er) ?_
            rw [show (some (3 : Int)) = some ((3 : Nat) : Int) from rfl, cut_to, ← List.map_take]
            refine OpS.of (d := .lst ((T.take 3 ++ pq2).map (rbD false))) ?_ ?_
            · show okL _ _ = _
              rw [okL_ok (by rw [List.length_map, List.length_take]; show _ + 2 ≤ _; omega), List.map_append]
            walk_at "wx"
            refine ⟨T.take 3 ++ pq2, s3, rfl, by rw [List.length_append, List.length_take]; show _ + 2 ≤ 6; omega, fun r mr => ?_⟩
            rcases List.mem_append.mp mr with mr | mr
            · exact same.r r (List.mem_of_mem_take mr)
            · have : r = (["p", "q"] : List Str) := by simpa using mr
              subst this
              exact ⟨by decide, by decide +kernel⟩
          · walk_at "wx"
            exact ⟨T, s3, rfl, same⟩
        refine if_d (fun c2 => ?_) fun c2 => ?_
        · walk_at "wx"
          have clT : ∀ d ∈ T.map (rbD false), Cl 1 d := fun d md => by
            obtain ⟨r, mr, rfl⟩ := List.mem_map.mp md
            refine Cl.lst fun d md => ?_
            obtain ⟨x, mx, rfl⟩ := List.mem_map.mp md
            exact Cl.str (pool_ok x ((tok5.r r mr).2 x mx)).2
          refine OpS.of (ne_nil clT (by omega)) ?_
          walk_at "wx"
          refine if_b (fun c5 => ?_) fun c5 => ?_
          · exact two
          have hT0 : 0 < T.length := by
            cases T with
            | nil => cases c5
            | cons r T => simp
          have tl := tok5.l
          walk_at "wx"
          rw [List.length_map]
          refine w_drawS p3 (by omega) (by omega) (by omega) fun sp s5 hsp p5 => ?_
          have hsp : sp < T.length := by omega
          walk_at "wx"
          refine o_atI (xs := T) (e := rbD false) sp rfl hsp ?_
          walk_at "wx"
          refine w_pickS (l := pk2) (f := D.str) p5 (by omega) (by decide) (by decide) fun x s6 mx p6 => ?_
          walk_at "wx"
          have hTs := same.r T[sp] (List.getElem_mem hsp)
          have hT3 := (tok5.r T[sp] (List.getElem_mem hsp)).1
          refine OpS.of (d := rbD false (T[sp] ++ [x])) ?_ ?_
          · show okL _ _ = _
            rw [okL_ok (by rw [len_txs]; show _ + 1 ≤ _; omega)]
            show some (D.lst (txs T[sp] ++ txs [x])) = some (D.lst (txs (T[sp] ++ [x])))
            unfold txs
            rw [List.map_append]
          walk_at "wx"
          refine o_ixN (k := sp) rfl (by rw [List.length_map]; exact hsp) ?_
          walk_at "wx"
          refine ⟨T.set sp (T[sp] ++ [x]), s6, ?_, by rw [List.length_set]; exact same.l, fun r mr => ?_⟩
          · rw [List.map_set]
          · rcases List.mem_or_eq_of_mem_set mr with mr | rfl
            · exact same.r r mr
            · refine ⟨by rw [List.length_append]; show _ + 1 ≤ 42; omega, fun y my => ?_⟩
              rcases List.mem_append.mp my with my | my
              · exact hTs.2 y my
              · rw [List.mem_singleton.mp my]; exact pk2_in x mx
        · refine if_f ?_
          exact two
    rintro _ ⟨T2, s4, rfl, tok2⟩
    have hz : ∀ r ∈ T2, ∀ x ∈ r, x.length ≤ 100 := fun r mr x mx => (pool_ok x ((tok2.r r mr).2 x mx)).1
    have ho : ∀ r ∈ T2, ∀ x ∈ r, PyData.strOk x = true := fun r mr x mx => (pool_ok x ((tok2.r r mr).2 x mx)).2
    have hr : ∀ r ∈ T2, r.length ≤ 1000 := fun r mr => by have := (tok2.r r mr).1; omega
    have hl2 : T2.length ≤ 100 := by have := tok2.l; omega
    have hm : manyT T2 ≤ 2 ^ 60 := Nat.le_trans (many_le (B := 43) T2 fun r mr => by have := (tok2.r r mr).1; omega) (Nat.le_trans (Nat.pow_le_pow_right (by omega) tok2.l) (by decide))
    walk_at "wx"
    refine (w_due (fun r mr x mx => ⟨hz r mr x mx, ho r mr x mx⟩) hr hl2 hm).use fun d hd => ?_
    subst hd
    walk_at "wx"
    refine (show Sat (A__law_caught [.lst (T2.map (rbD false))]) (fun d => d = dueW T2) noX from w_caught64 (b := false) hz hr hl2).use fun d hd => ?_
    subst hd
    walk_at "wx"
    refine OpS.of (ne_self (dueW_cl ho) (by omega)) ?_
    walk_at "wx"
    refine s_lcT (e := rbD false) (rbD true) (fun r mr => ?_) ?_
    · walk_at "wx"
      exact ⟨rfl, rfl⟩
    walk_at "wx"
    refine (show Sat (A__law_caught [.tup (T2.map (rbD true))]) (fun d => d = dueW T2) noX from w_caught64 (b := true) hz hr hl2).use fun d hd => ?_
    subst hd
    walk_at "wx"
    refine OpS.of (ne_self (dueW_cl ho) (by omega)) ?_
    walk_at "wx"
    rcases due_two T2 with ⟨nb, h40, h80, ed⟩ | ⟨z, l, ed, hz9⟩
    · rw [ed]
      walk_at "wx"
      refine if_d (fun _ => ?_) fun c => absurd rfl c
      have mp := many_pos T2
      have ok := weave_ok h40 nb
      walk_at "wx"
      refine s_chart (n := manyT T2) (s := 0) (e := manyT T2 - 1) (as := arrsT T2) (A := .tup ((arrsT T2).map aD)) rfl (by
        show some (D.int (((arrsT T2).map aD).length : Nat)) = _
        rw [List.length_map]) (by omega) (fun h => absurd h (by omega)) fun _ => ⟨ok, ?_⟩
      refine ⟨rfl, ?_⟩
      walk_at "wx"
      refine s_ownB ?_
      walk_at "wx"
      refine (show Sat (A_weaving_chart [.lst (T2.map (rbD false))]) (fun d => d = chartD (manyT T2) (arrsT T2) 0 (manyT T2 - 1)) noX from w_weave (b := false) hz hr hl2 (fun x hx => by rw [nb] at hx; cases hx) (fun _ h => by omega) fun _ _ _ => rfl).use fun d hd => ?_
      subst hd
      walk_at "wx"
      refine ⟨rfl, ?_⟩
      refine (ch_eq (n := manyT T2) (s := 0) (e := manyT T2 - 1) (as := arrsT T2) fun d md => ?_).use fun d hd => ?_
      · obtain ⟨a, ma, rfl⟩ := List.mem_map.mp md
        refine Cl.tup fun d md => ?_
        simp only [List.mem_cons, List.not_mem_nil, or_false] at md
        rcases md with rfl | rfl | rfl
        · exact Cl.int _
        · exact Cl.int _
        · exact Cl.str (ok.fit a ma).2.2
      subst hd
      walk_at "wx"
      exact ⟨(), rfl, trivial⟩
    · rw [ed]
      refine OpS.of (show dIx (.tup (.str z :: l)) (.int 0) = some (.str z) from (show atI (D.str z :: l) 0 = _ from atI_of (j := 0) rfl rfl)) ?_
      walk_at "wx"
      refine if_d (fun c => absurd c hz9) fun _ => ?_
      walk_at "wx"
      exact ⟨(), rfl, trivial⟩
  · intro _ _
    walk_at "wx"
    rfl
end
section
open PySem PySem.Spec PyProof.Rows L2
def spLaw (K : PySem.W.Frag) : Sp := fun vs H Q _ => ∃ (a : Addr) (ns : List Int), vs = [.ref a] ∧ SqL K H a (ns.map V.int) ∧ ns.length ≤ 63 ∧ ∀ H', Q (.bl true) H'
theorem imp_law {K : PySem.W.Frag} {vs : List V} {H : Hp} {Q : VK} {E : XK} (h : spLaw K vs H Q E) : spA K .z A_law_K64 vs H Q E := by
  obtain ⟨a, ns, rfl, hs, hl, q⟩ := h
  refine ⟨H, [.scr ns], ⟨Same.refl _, tups_sub⟩, .cons (by unfold Rep; exact ⟨a, rfl, hs, Nat.le_trans hl (by decide)⟩) .nil, ?_⟩
  rw [plain ns hl]
  intro v F' H' _ r
  have : v = .bl true := by unfold VR Rep at r; exact r
  rw [this]
  exact q H'
theorem whole {P : Program} {w : World} {K : PySem.W.Frag} {h : Heap} {mg : Str → Option Value} {f : Addr} (X : K.In h) (G : h.Ns mainGlobals mg) (hfa : mg ("law" : Str) = some (.ref f)) (c : Tells fbs dfs K) :
    ∃ fd : FuncData, (∀ (s : Shared) (v : Value), BindsTo s fd ⟨[v], []⟩ [("_law_script", v)]) ∧ ∀ base : Heap, K.In base → base.Ns mainGlobals mg → FnOk P w K mg base CX0 8 f fd ["_law_script"] (spLaw K) := by
  have T : Txt K mg := txt_of X G ⟨c.fb⟩
  obtain ⟨d0, F0⟩ := c.fx 0 rfl
  obtain ⟨d1, F1⟩ := c.fx 1 rfl
  obtain ⟨d2, F2⟩ := c.fx 2 rfl
  obtain ⟨d3, F3⟩ := c.fx 3 rfl
  obtain ⟨d4, F4⟩ := c.fx 4 rfl
  obtain ⟨d5, F5⟩ := c.fx 5 rfl
  obtain ⟨d6, F6⟩ := c.fx 6 rfl
  obtain ⟨d7, F7⟩ := c.fx 7 rfl
  obtain ⟨d8, F8⟩ := c.fx 8 rfl
  obtain ⟨d9, F9⟩ := c.fx 9 rfl
  obtain ⟨d10, F10⟩ := c.fx 10 rfl
  obtain ⟨d11, F11⟩ := c.fx 11 rfl
  obtain ⟨d12, F12⟩ := c.fx 12 rfl
  obtain ⟨d13, F13⟩ := c.fx 13 rfl
  obtain ⟨d14, F14⟩ := c.fx 14 rfl
  obtain ⟨d15, F15⟩ := c.fx 15 rfl
  obtain ⟨d16, F16⟩ := c.fx 16 rfl
  obtain ⟨d17, F17⟩ := c.fx 17 rfl
  obtain ⟨d18, F18⟩ := c.fx 18 rfl
  obtain ⟨d19, F19⟩ := c.fx 19 rfl
  obtain ⟨d20, F20⟩ := c.fx 20 rfl
  obtain ⟨d21, F21⟩ := c.fx 21 rfl
  have e := hfa.symm.trans T.g_law
  cases e
  refine ⟨d21, fun s v => FunD.bindsA (ps := ["_law_script"]) F21 (fun _ _ _ _ _ _ us hl => match us, hl with | [_], _ => rfl) s [v] rfl, fun base _ _ => cx0_of ?_ fun vs H Q E z => z⟩
  have c_BadArrow := rai_of (P := P) (w := w) (base := base) F0 T.g_BadArrow T.x_BadArrow T.xi_BadArrow T.xt_BadArrow (ok_BadArrow F0 T) (fun _ _ _ _ _ _ us hl => match us, hl with | [_, _], _ => rfl)
  have c_LoosePlace := rai_of (P := P) (w := w) (base := base) F1 T.g_LoosePlace T.x_LoosePlace T.xi_LoosePlace T.xt_LoosePlace (ok_LoosePlace F1 T) (fun _ _ _ _ _ _ us hl => match us, hl with | [_, _], _ => rfl)
  have c_NoPlace := rai_of (P := P) (w := w) (base := base) F2 T.g_NoPlace T.x_NoPlace T.xi_NoPlace T.xt_NoPlace (ok_NoPlace F2 T) (fun _ _ _ _ _ _ us hl => match us, hl with | [_, _], _ => rfl)
  have c_BadName := rai_of (P := P) (w := w) (base := base) F3 T.g_BadName T.x_BadName T.xi_BadName T.xt_BadName (ok_BadName F3 T) (fun _ _ _ _ _ _ us hl => match us, hl with | [_, _], _ => rfl)
  have c__law_state := cal_of (P := P) (w := w) (base := base) F4 T.g__law_state (av__law_state F4 T) (fun _ _ _ _ _ _ us hl => match us, hl with | [_], _ => rfl)
  have c__law_draw := cal_of (P := P) (w := w) (base := base) F5 T.g__law_draw (av__law_draw F5 T) (fun _ _ _ _ _ _ us hl => match us, hl with | [_, _], _ => rfl)
  have c__law_named := cal_of (P := P) (w := w) (base := base) F6 T.g__law_named (av__law_named F6 T) (fun _ _ _ _ _ _ us hl => match us, hl with | [_], _ => rfl)
  have c__law_due := cal_of (P := P) (w := w) (base := base) F7 T.g__law_due (av__law_due F7 T c__law_named) (fun _ _ _ _ _ _ us hl => match us, hl with | [_], _ => rfl)
  have c__law_cell := cal_of (P := P) (w := w) (base := base) F8 T.g__law_cell (av__law_cell F8 T) (fun _ _ _ _ _ _ us hl => match us, hl with | [_, _], _ => rfl)
  have c_fits_name := cal_of (P := P) (w := w) (base := base) F9 T.g_fits_name (av_fits_name F9 T) (fun _ _ _ _ _ _ us hl => match us, hl with | [_], _ => rfl)
  have c_Chart_check_arrows := met_of (P := P) (w := w) (base := base) F10 T.o_Chart.cl T.m_Chart_check_arrows (av_Chart_check_arrows F10 T c_BadArrow c_fits_name) (fun _ _ _ _ _ _ us hl => match us, hl with | [_], _ => rfl)
  have c_distinct := cal_of (P := P) (w := w) (base := base) F11 T.g_distinct (av_distinct F11 T) (fun _ _ _ _ _ _ us hl => match us, hl with | [_], _ => rfl)
  have c_spread := cal_of (P := P) (w := w) (base := base) F12 T.g_spread (av_spread F12 T) (fun _ _ _ _ _ _ us hl => match us, hl with | [_, _], _ => rfl)
  have c_Chart_check_places := met_of (P := P) (w := w) (base := base) F13 T.o_Chart.cl T.m_Chart_check_places (av_Chart_check_places F13 T c_distinct c_spread c_LoosePlace) (fun _ _ _ _ _ _ us hl => match us, hl with | [_], _ => rfl)
  have c_Chart_init := mak_of (P := P) (w := w) (base := base) F14 T.g_Chart T.mk_Chart (av_Chart_init F14 T c_Chart_check_arrows c_Chart_check_places c_NoPlace) (fun _ _ _ _ _ _ us hl => match us, hl with | [_, _, _, _, _], _ => rfl)
  have c_check_thread_names := cal_of (P := P) (w := w) (base := base) F15 T.g_check_thread_names (av_check_thread_names F15 T c_fits_name c_BadName) (fun _ _ _ _ _ _ us hl => match us, hl with | [_], _ => rfl)
  have c_weaving_chart := cal_of (P := P) (w := w) (base := base) F16 T.g_weaving_chart (av_weaving_chart F16 T c_check_thread_names c_Chart_init) (fun _ _ _ _ _ _ us hl => match us, hl with | [_], _ => rfl)
  have c__law_caught := cal_of (P := P) (w := w) (base := base) F17 T.g__law_caught (av__law_caught F17 T c_weaving_chart) (fun _ _ _ _ _ _ us hl => match us, hl with | [_], _ => rfl)
  have c_Chart_parts := met_of (P := P) (w := w) (base := base) F18 T.o_Chart.cl T.m_Chart_parts (av_Chart_parts F18 T) (fun _ _ _ _ _ _ us hl => match us, hl with | [_], _ => rfl)
  have c_Chart_eq := met_of (P := P) (w := w) (base := base) F19 T.o_Chart.cl T.m_Chart_eq (av_Chart_eq F19 T c_Chart_parts) (fun _ _ _ _ _ _ us hl => match us, hl with | [_, _], _ => rfl)
  have c__law_pick := cal_of (P := P) (w := w) (base := base) F20 T.g__law_pick (av__law_pick F20 T c__law_draw) (fun _ _ _ _ _ _ us hl => match us, hl with | [_, _], _ => rfl)
  exact (av_law F21 T c__law_state c__law_draw c__law_due c__law_cell c_Chart_init c__law_caught c_Chart_eq c__law_pick c_weaving_chart).imp fun _ _ _ _ z => imp_law z
end
end TT
open PySem PySem.W PySem.Calls PyProof.Rows
set_option maxRecDepth 100000 in
set_option maxHeartbeats 0 in
theorem PySem.Challenge.cw_triedtells_k64_charts_of_weavings_holds : PySem.Challenge.rw_triedtells_k64_charts_of_weavings.Holds := by
  refine TT.early fun w mg fa h Y G hmg => ?_
  obtain ⟨K, KX, c⟩ := Y
  obtain ⟨fd, hb, hF⟩ := TT.whole (P := (PySem.Challenge.rw_triedtells_k64_charts_of_weavings).prog) (w := w) KX G hmg c
  exact ⟨K, fd, TT.spLaw K, KX, hb, fun H a ns hl _ hS => ⟨a, ns, rfl, hS, hl, fun _ => rfl⟩, hF⟩
