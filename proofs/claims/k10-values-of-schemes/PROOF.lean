import PyProof.Rows.All
import Wide.All
import OpenK.AllK
import Wide.FinOn
import KE.KStateDown
import KE.KOpsOwn
import KE.GoesMore
import KE.GoesEnum
import HandS.ForMost
import HandS.ForExc
import HandS.ForSpec
import HandS.More
import HandS.Conv
import HandS.Zip
import HandS.Walk
import HandS.IsInst
import HandS.Flow
import HandS.Style
import HandS.Defaults
import HandS.ExcInit
import HandS.ExcField
import HandS.ExcIs
import HandS.TryMany
import HandS.Codes
import HandS.Star
import HandS.ClsMeth
import HandS.OwnEq
import HandS.SlotsOwn
import HandS.Wide
import HandS.Sort
import HandS.SortKw
import HandS.SortInts
import HandS.Deep
import HandS.DictComp
import HandS.ListItems
import HandS.TupLe
import HandS.TupAny
import HandS.TupMul
import HandS.DictTup
import HandS.CallSlots
import HandS.EndBits
import HandS.Head0
import HandS.Head1
import HandS.Head2
import HandS.HeadEnd
import HandS.HeadHook1
import HandS.HeadHook2
import HandS.HeadNt
import KE.KExcIs
import HandS.ExcValue
import HandS.OwnIter
import HandS.IterNext
import HandS.IterVal
import PySem.Challenge.RW_triedtells_k10_whole_values_of_schemes
set_option Elab.async false
set_option linter.all false
set_option maxRecDepth 100000
set_option maxHeartbeats 4000000
namespace TT
open PySem PySem.Spec PyProof.Rows L2

/-! ### the head: defs by addresses, facts by one Bool -/
structure DX where
  ad : PySem.W.Frag → Addr
  name : Str
  qual : Str
  st : Stmt
  dfl : List He.Dv := []
  kwd : List (Str × He.Dv) := []

def fnAt (K : PySem.W.Frag) (f : Addr) : He.FnW :=
  match K.lookup f with
  | some ⟨_, _, .func fd, _⟩ => some (fd.name, fd.qualname, fd.params, fd.body, fd.scope, fd.globals, fd.closure, fd.builtins)
  | _ => none

def fnGood (K : PySem.W.Frag) (f : Addr) (q : Str) (ds : List V) (ks : List (Str × V)) : Bool :=
  PySem.W.keepIn K (.ref f) &&
  match K.lookup f with
  | some ⟨_, _, .func fd, _⟩ => PySem.W.codeIn K fd.code q && He.dflB K fd.defaults ds && He.kwdB K fd.kwdefaults ks
  | _ => false

def DX.dvs (K : PySem.W.Frag) (d : DX) : List V := d.dfl.map fun z => z.v K
def DX.kws (K : PySem.W.Frag) (d : DX) : List (Str × V) := d.kwd.map fun z => (z.1, z.2.v K)
def DX.good (K : PySem.W.Frag) (d : DX) : Bool := fnGood K (d.ad K) d.qual (d.dvs K) (d.kws K)
def DX.want (d : DX) : He.FnW :=
  some (d.name, d.qual, defArgs d.st, .stmts (defBody d.st), defScope d.st, mainGlobals, [], builtinsNs)

abbrev FX (K : PySem.W.Frag) (x q : Str) (st : Stmt) (ds : List V) (ks : List (Str × V)) (f : Addr) (fd : FuncData) : Prop :=
  FunD K x q (defArgs st) (defBody st) (defScope st) ds ks f fd

theorem fx_of {K : PySem.W.Frag} {f : Addr} {x q : Str} {st : Stmt} {ds : List V} {ks : List (Str × V)}
    (e : fnAt K f = some (x, q, defArgs st, .stmts (defBody st), defScope st, mainGlobals, [], builtinsNs))
    (g : fnGood K f q ds ks = true) : ∃ fd, FX K x q st ds ks f fd := by
  unfold fnGood at g
  rw [Bool.and_eq_true] at g
  obtain ⟨kp, g⟩ := g
  unfold fnAt at e
  rcases hk : K.lookup f with _ | ⟨oc, od, dt, sl⟩
  · simp [hk] at g
  · rw [hk] at e g
    cases dt <;> try (simp at g; done)
    rename_i fd
    simp only [Bool.and_eq_true] at g
    obtain ⟨⟨g1, g2⟩, g3⟩ := g
    have e' := Option.some.inj e
    obtain ⟨a1, a2, a3, a4, a5, a6, a7, a8, a9, a10, a11, a12, a13, a14, a15⟩ := fd
    simp only [Prod.mk.injEq] at e'
    obtain ⟨h1, h2, h3, h4, h5, h6, h7, h8⟩ := e'
    subst h1 h2 h3 h4 h5 h6 h7 h8
    exact ⟨_, ⟨oc, od, a8, a9, a10, a11, a12, a13, a14, sl, rfl, hk, g1, He.dflB_ok g2, He.kwdB_ok g3⟩, kp⟩

abbrev SeenX : Type := Bool × List He.FnW
def seenX (fb : PySem.W.Frag → Bool) (fn : List DX) (K : PySem.W.Frag) : SeenX :=
  (fb K && fn.all (fun d => d.good K), fn.map fun d => fnAt K (d.ad K))
def wantX (fn : List DX) : SeenX := (true, fn.map DX.want)
def seenG (n : Nat) (fb : PySem.W.Frag → Bool) (fn : List DX) (g : Addr → Option Obj) : SeenX := seenX fb fn (He.frG g (cStatics :: He.asD g n))
/-- what the head's run tells of the written part -/
def Tells (fb : PySem.W.Frag → Bool) (fn : List DX) (K : PySem.W.Frag) : Prop := seenX fb fn K = wantX fn
def hookX (n : Nat) (fb : PySem.W.Frag → Bool) (fn : List DX) : PySem.W.Hook where
  α := SeenX
  obs := fun s => seenG n fb fn s.heap.get?
  val := fun _ => wantX fn
  says := fun _ h => ∃ K : PySem.W.Frag, K.In h ∧ Tells fb fn K
  of := fun _ _ e => ⟨_, He.frG_in, e⟩
  keeps := fun _ _ _ ⟨K, hK, c⟩ k => ⟨K, hK.keeps k, c⟩
theorem seenG_eq {n : Nat} {fb : PySem.W.Frag → Bool} {fn : List DX} {g : Addr → Option Obj} {s : Shared} (h : ∀ a, g a = s.heap.get? a) :
    seenG n fb fn g = (hookX n fb fn).obs s := by
  have e : g = s.heap.get? := funext h
  subst e
  rfl
theorem Tells.fb {fb : PySem.W.Frag → Bool} {fn : List DX} {K : PySem.W.Frag} (c : Tells fb fn K) : fb K = true := by
  have z : (fb K && fn.all (fun d => d.good K)) = true := congrArg Prod.fst c
  rw [Bool.and_eq_true] at z
  exact z.1
theorem Tells.fx {fb : PySem.W.Frag → Bool} {fn : List DX} {K : PySem.W.Frag} (c : Tells fb fn K) (i : Nat) {d : DX} (h : fn[i]? = some d) :
    ∃ fd, FX K d.name d.qual d.st (d.dvs K) (d.kws K) (d.ad K) fd := by
  have z : (fb K && fn.all (fun d => d.good K)) = true := congrArg Prod.fst c
  rw [Bool.and_eq_true] at z
  have y : fn.map (fun d => fnAt K (d.ad K)) = fn.map DX.want := congrArg Prod.snd c
  have y2 : (fn.map (fun d => fnAt K (d.ad K)))[i]? = (fn.map DX.want)[i]? := by rw [y]
  rw [List.getElem?_map, List.getElem?_map, h] at y2
  exact fx_of (Option.some.inj y2) (List.all_eq_true.mp z.2 d (List.mem_of_getElem? h))
end TT

set_option Elab.async false
set_option linter.all false
set_option maxRecDepth 100000
set_option maxHeartbeats 4000000
namespace TT
open PySem PySem.Spec PyProof.Rows L2

/-! ### heaps that grow -/
theorem same_new {H : Hp} {p : Addr} {o : HO} (h : H p = none) : Same H (upd H p o) := fun a u e => by
  rw [upd_ne (ne_of_none e h)]
  exact e
/-- an object that was not there may change -/
theorem same_mut {H H1 : Hp} {p : Addr} {o : HO} (s : Same H H1) (h : H p = none) : Same H (upd H1 p o) := fun a u e => by
  rw [upd_ne (ne_of_none e h)]
  exact s a u e
theorem same_t {K : PySem.W.Frag} {H H1 : Hp} {a : Addr} {xs : List V} (s : Same H H1) (h : SqT K H a xs) : SqT K H1 a xs := h.ext s
theorem same_l {K : PySem.W.Frag} {H H1 : Hp} {a : Addr} {xs : List V} (s : Same H H1) (h : SqL K H a xs) : SqL K H1 a xs := h.ext s
mutual
theorem same_d {K : PySem.W.Frag} {H H1 : Hp} (s : Same H H1) : ∀ {v : V} (d : PyData), Dp K H v d → Dp K H1 v d
  | _, .none, h => by cases h; exact .non
  | _, .bool b, h => by cases h; exact .bl b
  | _, .int i, h => by cases h; exact .int i
  | _, .str x, h => by cases h; exact .str x
  | _, .list ds, h => by
    cases h with
    | lst a b => exact .lst (same_l s a) (same_ds s ds b)
  | _, .tuple ds, h => by
    cases h with
    | tup a b => exact .tup (same_t s a) (same_ds s ds b)
  | _, .dict _, h => by cases h
theorem same_ds {K : PySem.W.Frag} {H H1 : Hp} (s : Same H H1) : ∀ {vs : List V} (ds : List PyData), DpAll K H vs ds → DpAll K H1 vs ds
  | _, [], h => by cases h; exact .nil
  | _, d :: ds, h => by
    cases h with
    | cons a b => exact .cons (same_d s d a) (same_ds s ds b)
end
/-- all but p stands -/
def But (p : Addr) (H H1 : Hp) : Prop := ∀ a o, a ≠ p → H a = some o → H1 a = some o
theorem But.refl (p : Addr) (H : Hp) : But p H H := fun _ _ _ h => h
theorem But.trans {p : Addr} {H H1 H2 : Hp} (x : But p H H1) (y : But p H1 H2) : But p H H2 := fun a o n h => y a o n (x a o n h)
theorem But.of {p : Addr} {H H1 : Hp} (s : Same H H1) : But p H H1 := fun a o _ h => s a o h
theorem But.upd {p : Addr} {H : Hp} {o : HO} : But p H (upd H p o) := fun a u n h => by rw [upd_ne n]; exact h
/-- the part without p -/
def off (H : Hp) (p : Addr) : Hp := fun a => if a = p then none else H a
theorem off_ne {H : Hp} {p a : Addr} (h : a ≠ p) : off H p a = H a := if_neg h
theorem off_at {H : Hp} {p : Addr} : off H p p = none := if_pos rfl
theorem off_sub {H : Hp} {p : Addr} : Same (off H p) H := fun a o h => by
  by_cases e : a = p
  · rw [e, off_at] at h; cases h
  · rw [off_ne e] at h; exact h
theorem But.off {p : Addr} {H H1 : Hp} (x : But p H H1) : Same (off H p) (off H1 p) := fun a o h => by
  by_cases e : a = p
  · rw [e, off_at] at h; cases h
  · rw [off_ne e] at h ⊢
    exact x a o e h
theorem off_of {p a : Addr} {H : Hp} {o : HO} (n : a ≠ p) (h : H a = some o) : TT.off H p a = some o := by rw [off_ne n]; exact h

/-! ### defs by their names, methods, makers -/
structure Cal (P : Program) (w : World) (K : PySem.W.Frag) (mg : Str → Option Value) (base : Heap) (x : Str) (k : Nat) (sp : Sp) : Prop where
  ex : ∃ f : Addr, mg x = some (.ref f) ∧ PySem.W.keepIn K (.ref f) = true ∧ FnR P w K mg base (L2.CX P w) k f sp
structure Met (P : Program) (w : World) (K : PySem.W.Frag) (mg : Str → Option Value) (base : Heap) (C : Addr) (m : Str) (k : Nat) (sp : Sp) : Prop where
  cl : Cls K C
  ex : ∃ f : Addr, Meth K C m f ∧ FnR P w K mg base (L2.CX P w) k f sp
structure Mak (P : Program) (w : World) (K : PySem.W.Frag) (mg : Str → Option Value) (base : Heap) (x : Str) (C : Addr) (k : Nat) (sp : Sp) : Prop where
  at_ : mg x = some (.ref C)
  ex : ∃ f : Addr, Mk K C f ∧ FnR P w K mg base (L2.CX P w) k f sp
/-- a static method of the class named x -/
structure Sta (P : Program) (w : World) (K : PySem.W.Frag) (mg : Str → Option Value) (base : Heap) (C : Addr) (m : Str) (k : Nat) (sp : Sp) : Prop where
  rd : PySem.W.readsIn K C (.type "type") = true
  ga : PySem.W.specialIn K (.ref C) "__getattribute__" = some (some (.builtin "type.__getattribute__"))
  ex : ∃ p f : Addr, PySem.W.findCls K (.ref C) (.type "type") m = some (.get (.builtin "staticmethod.__get__") (.ref p) .none (.ref C)) ∧
    (∃ rest, PySem.W.recIn K p "staticmethod" = some (.ref f :: rest)) ∧ PySem.W.keepIn K (.ref f) = true ∧ FnR P w K mg base (L2.CX P w) k f sp

def tF (sp : Sp) (E : XK) (t : TA) : TE := fun σ H Q => t σ H fun vs H1 => sp vs H1 Q E
def tS (C : Addr) (sp : Sp) (E : XK) (to : TE) (t : TA) : TE := fun σ H Q => to σ H fun x H1 => x = .ref C ∧ t σ H1 fun vs H2 => sp vs H2 Q E
section
variable {X : Cx} {x m : Str} {C : Addr} {k j : Nat} {sp : Sp} {E : XK} {e o : Expr} {es : List Expr} {to : TE} {t : TA} {p pos apos : Pos} {pl : Sem Bool}
theorem pe_f (c : Cal X.prog X.w X.K X.mg X.base x k sp) (hr : Room j X.A) (hk : k ≤ j) (hg : Gl X x) (hx : Passes (L2.CX X.prog X.w) X E) (ha : PA X (e :: es) t)
    (hd : (x == ("__debug__" : Str)) = false := by decide) (h1 : starEach (e :: es) X.env = (false, eval e X.env) :: starEach es X.env := by rfl)
    (h2 : (backTo pos (starEach es X.env)).any (·.1) = false := by rfl) : PE X (.Call (.Name x p) (e :: es) [] pos) (tF sp E t) := ⟨fun pins s σ H Q I h => by
  obtain ⟨f, hm, kp, F⟩ := c.ex
  exact wpAny_Call_Name_kw (ld_glob I hg hm (PySem.W.callWith_K (h₀ := X.base) I.ok.mod.kin kp
    (thn (ha.run pos pins s σ H _ I h) fun us s1 ⟨vs, H1, I1, r, q⟩ => ⟨I1.kIn, wpAny_call (run_fnR F (hr.mono hk) hx I1 r q)⟩) h1 h2) hd)⟩
theorem pe_f0 (c : Cal X.prog X.w X.K X.mg X.base x k sp) (hr : Room j X.A) (hk : k ≤ j) (hg : Gl X x) (hx : Passes (L2.CX X.prog X.w) X E)
    (hd : (x == ("__debug__" : Str)) = false := by decide) : PE X (.Call (.Name x p) [] [] pos) (tF sp E tNil) := ⟨fun pins s σ H Q I h => by
  obtain ⟨f, hm, kp, F⟩ := c.ex
  exact wpAny_Call_Name_kw (ld_glob I hg hm (PySem.W.callWith_K0 I.kIn kp (wpAny_call (run_fnR (us := []) (vs := []) F (hr.mono hk) hx I .nil h))) hd)⟩
theorem pe_m (c : Met X.prog X.w X.K X.mg X.base C m k sp) (hr : Room j X.A) (hk : k ≤ j) (hx : Passes (L2.CX X.prog X.w) X E) (ho : PE X o to) (ha : PA X (e :: es) t)
    (h1 : starEach (e :: es) X.env = (false, eval e X.env) :: starEach es X.env := by rfl) (h2 : (backTo pos (starEach es X.env)).any (·.1) = false := by rfl)
    (h3 : eval (.Call (.Attribute o m apos) (e :: es) [] pos) X.env = (eval o X.env >>= fun ov => standAt apos.atName >>= fun _ => holding [ov] (getMethod ov m pl) >>= fun fr =>
      callWith pos fr.1 fr.2 (backTo pos (starEach (e :: es) X.env)) (backToKw pos (keywordEach [] X.env))) := by rfl) :
    PE X (.Call (.Attribute o m apos) (e :: es) [] pos) (tMethR C m sp E to t) := by
  obtain ⟨f, hm, F⟩ := c.ex
  exact pe_methR (pl := pl) ho c.cl hm F (hr.mono hk) hx ha h1 h2 h3
theorem pe_m0 (c : Met X.prog X.w X.K X.mg X.base C m k sp) (hr : Room j X.A) (hk : k ≤ j) (hx : Passes (L2.CX X.prog X.w) X E) (ho : PE X o to)
    (h3 : eval (.Call (.Attribute o m apos) [] [] pos) X.env = (eval o X.env >>= fun ov => standAt apos.atName >>= fun _ => holding [ov] (getMethod ov m pl) >>= fun fr =>
      callWith pos fr.1 fr.2 (backTo pos (starEach [] X.env)) (backToKw pos (keywordEach [] X.env))) := by rfl) :
    PE X (.Call (.Attribute o m apos) [] [] pos) (tMethR C m sp E to tNil) := ⟨fun pins s σ H Q I h => by
  obtain ⟨f, hm, F⟩ := c.ex
  refine PySem.W.methodCall_KW (pl := pl) (thn (ho.run pins s σ H _ I h) fun u s1 hh => ?_) h3
  obtain ⟨v, H1, I1, rv, a, dx, fs, ev, ea, l, q⟩ := hh
  subst ev
  cases (show u = Value.ref a from rv)
  exact getmeth_ok I1 ea c.cl hm l (PySem.W.callWith_K0 (first := [.ref a]) I1.kIn hm.kp (wpAny_call (run_fnR (us := [.ref a]) (vs := [.ref a]) F (hr.mono hk) hx I1 (.cons rfl .nil) q)))⟩
theorem pe_k (c : Mak X.prog X.w X.K X.mg X.base x C k sp) (hr : Room j X.A) (hk : k + 1 ≤ j) (hg : Gl X x) (hx : Passes (L2.CX X.prog X.w) X E) (ha : PA X (e :: es) t)
    (hd : (x == ("__debug__" : Str)) = false := by decide) (h1 : starEach (e :: es) X.env = (false, eval e X.env) :: starEach es X.env := by rfl)
    (h2 : (backTo pos (starEach es X.env)).any (·.1) = false := by rfl) : PE X (.Call (.Name x p) (e :: es) [] pos) (StX.tMakeR C sp E t) := by
  obtain ⟨f, M, F⟩ := c.ex
  exact StX.pe_makeR M F (hr.mono hk) hg c.at_ hx ha hd h1 h2
theorem pe_k0 (c : Mak X.prog X.w X.K X.mg X.base x C k sp) (hr : Room j X.A) (hk : k + 1 ≤ j) (hg : Gl X x) (hx : Passes (L2.CX X.prog X.w) X E)
    (hd : (x == ("__debug__" : Str)) = false := by decide) : PE X (.Call (.Name x p) [] [] pos) (StX.tMakeR C sp E tNil) := ⟨fun pins s σ H Q I h => by
  obtain ⟨f, M, F⟩ := c.ex
  exact wpAny_Call_Name_kw (ld_glob I hg c.at_ (PySem.W.callWith_K0 I.kIn M.kp (StX.run_makeR (us := []) M F (hr.mono hk) hx I .nil h)) hd)⟩
theorem pe_s (c : Sta X.prog X.w X.K X.mg X.base C m k sp) (hr : Room j X.A) (hk : k ≤ j) (hx : Passes (L2.CX X.prog X.w) X E) (ho : PE X o to) (ha : PA X (e :: es) t)
    (h1 : starEach (e :: es) X.env = (false, eval e X.env) :: starEach es X.env := by rfl) (h2 : (backTo pos (starEach es X.env)).any (·.1) = false := by rfl)
    (h3 : eval (.Call (.Attribute o m apos) (e :: es) [] pos) X.env = (eval o X.env >>= fun ov => standAt apos.atName >>= fun _ => holding [ov] (getMethod ov m pl) >>= fun fr =>
      callWith pos fr.1 fr.2 (backTo pos (starEach (e :: es) X.env)) (backToKw pos (keywordEach [] X.env))) := by rfl) :
    PE X (.Call (.Attribute o m apos) (e :: es) [] pos) (tS C sp E to t) := ⟨fun pins s σ H Q I h => by
  obtain ⟨p, f, hf, ⟨rest, hrec⟩, kp, F⟩ := c.ex
  refine PySem.W.methodCall_KW (pl := pl) (thn (ho.run pins s σ H _ I h) fun u s1 hh => ?_) h3
  obtain ⟨v, H1, I1, rv, ev, q⟩ := hh
  subst ev
  cases (show u = Value.ref C from rv)
  refine PySem.W.method_cls I1.kIn c.ga (PySem.W.cls_bind I1.kIn c.rd hf (wpAny_call ?_))
  refine PySem.W.sm_get (s := { s1 with toks := s1.toks + 1 }) I1.kIn hrec (PySem.W.handed_on rfl ?_)
  exact PySem.W.callWith_K (first := []) (h₀ := X.base) I.ok.mod.kin kp (thn (ha.run pos pins _ σ H1 _ (I1.tok _) q) fun us s2 ⟨vs, H2, I2, r, q2⟩ =>
    ⟨I2.kIn, wpAny_call (run_fnR F (hr.mono hk) hx I2 r q2)⟩) h1 h2⟩
end

/-! ### operators of own classes -/
/-- what isinstance and the operators ask of a class -/
structure Own (K : PySem.W.Frag) (C : Addr) : Prop where
  cl : Cls K C
  ca : PySem.W.findIn K (.ref C) "__class__" = some (some (.builtin "object.__class__"))
  cn : PySem.W.specialIn K (.builtin "object.__class__") "__get__" = some (some (.builtin "getset_descriptor.__get__"))
  ct : PySem.W.takesIn K (.builtin "object.__class__") = some true
  cm : PySem.W.mroIn K C (.type "object") = some true
  sf : PySem.W.selfFirst K C = true
theorem Own.ty {K : PySem.W.Frag} {H : Hp} {a C dx : Addr} {fs : List (Str × V)} (c : Own K C) (h : H a = some (.ins C dx fs)) : TyX K H (.ref a) (.ref C) :=
  .base (.ins h c.cl c.ca c.cn c.ct c.cm)
theorem ty_t {K : PySem.W.Frag} {H : Hp} {a : Addr} {xs : List V} (h : SqT K H a xs) : TyX K H (.ref a) (.type "tuple") := by
  rcases h with (h | ⟨o, h⟩) | ⟨o, its, n, h, c, _⟩
  · exact .base (.tup h)
  · exact .fTuple h
  · exact .kTuple h c
section
variable {X : Cx} {C : Addr} {k j : Nat} {sp : Sp} {E : XK} {f : Addr}
/-- x op y by the class's own def, y of a type t that does not go first -/
def rOwnC (K : PySem.W.Frag) (C : Addr) (sp : Sp) (E : XK) : R2 := fun x y H Q => ∃ a dx fs t, x = .ref a ∧ H a = some (.ins C dx fs) ∧ TyX K H y t ∧ PySem.W.notFirst K C t = true ∧ sp [x, y] H Q E
theorem op_eqO (c : Met X.prog X.w X.K X.mg X.base C "__eq__" k sp) (hr : Room j X.A) (hk : k ≤ j) (hx : Passes (L2.CX X.prog X.w) X E) : OpR X (compareOp .Eq) (rOwnC X.K C sp E) := by
  intro pins s σ H x y v u Q I rx ry h
  obtain ⟨a, dx, fs, t, rfl, ha, ty, nf, q⟩ := h
  obtain ⟨f, hm, F⟩ := c.ex
  cases (show v = Value.ref a from rx)
  obtain ⟨mA, O, _⟩ := ins_get I.hok ha
  obtain ⟨od, J, _⟩ := O.look
  obtain ⟨P, Z, hp, _⟩ := kit_of I ry ty
  obtain ⟨m, hF⟩ := I.fr
  show wpAny _ _ (richCompare .Eq (.ref a) u) _ _ s
  refine PySem.W.cmp_K (op := .Eq) (tb := t) hr.units0 hF I.ok.mod.kin J (Z.ty _ _ I.kIn hp) nf hm.at_ hm.fn ?_
  refine wpAny_mono (wpAny_call (run_fnR (us := [.ref a, u]) (vs := [.ref a, y]) F (hr.mono hk) hx I (.cons rfl (.cons ry .nil)) q)) (fun w s' z => ?_) fun _ _ z => z
  obtain ⟨z', H', I', rz, qz⟩ := z
  exact SlX.cmpback rz ⟨z', H', I', rz, qz⟩
/-- x op y, two of one class -/
def rOwnB (C : Addr) (sp : Sp) (E : XK) : R2 := fun x y H Q => ∃ a dx fs b dy gs, x = .ref a ∧ y = .ref b ∧ H a = some (.ins C dx fs) ∧ H b = some (.ins C dy gs) ∧ sp [x, y] H Q E
theorem op_mulO (ow : Own X.K C) (c : Met X.prog X.w X.K X.mg X.base C "__mul__" k sp) (hr : Room j X.A) (hk : k ≤ j) (hx : Passes (L2.CX X.prog X.w) X E) : OpR X (binaryOp .Mult) (rOwnB C sp E) := by
  intro pins s σ H x y v u Q I rx ry h
  obtain ⟨a, dx, fs, b, dy, gs, rfl, rfl, ha, hb, q⟩ := h
  obtain ⟨f, hm, F⟩ := c.ex
  cases (show v = Value.ref a from rx)
  cases (show u = Value.ref b from ry)
  obtain ⟨mA, O, _⟩ := ins_get I.hok ha
  obtain ⟨od, J, _⟩ := O.look
  obtain ⟨mB, O', _⟩ := ins_get I.hok hb
  obtain ⟨od', J', _⟩ := O'.look
  obtain ⟨m, hF⟩ := I.fr
  refine PySem.W.binop_K (op := .Mult) hF I.ok.mod.kin J J'.type ow.sf hm.at_ hm.fn ?_
  refine wpAny_mono (wpAny_call (run_fnR (us := [.ref a, .ref b]) (vs := [.ref a, .ref b]) F (hr.mono hk) hx I (.cons rfl (.cons rfl .nil)) q)) (fun w s' z => ?_) fun _ _ z => z
  obtain ⟨z', H', I', rz, qz⟩ := z
  exact SlX.cmpback rz ⟨z', H', I', rz, qz⟩
def rOwnU (C : Addr) (sp : Sp) (E : XK) : V → Hp → VK → Prop := fun x H Q => ∃ a dx fs, x = .ref a ∧ H a = some (.ins C dx fs) ∧ sp [x] H Q E
theorem un_invO (c : Met X.prog X.w X.K X.mg X.base C "__invert__" k sp) (hr : Room j X.A) (hk : k ≤ j) (hx : Passes (L2.CX X.prog X.w) X E) : UnR X (unaryOp .Invert) (rOwnU C sp E) := by
  intro pins s σ H x v Q I rx h
  obtain ⟨a, dx, fs, rfl, ha, q⟩ := h
  obtain ⟨f, hm, F⟩ := c.ex
  cases (show v = Value.ref a from rx)
  obtain ⟨mA, O, _⟩ := ins_get I.hok ha
  obtain ⟨od, J, _⟩ := O.look
  obtain ⟨m, hF⟩ := I.fr
  exact PySem.W.ksp_inv hF I.ok.mod.kin J hm.at_ hm.fn (wpAny_call (run_fnR (us := [.ref a]) (vs := [.ref a]) F (hr.mono hk) hx I (.cons rfl .nil) q))
/-- len(x) by the class's own def -/
def rOwnL (C : Addr) (sp : Sp) (E : XK) : List V → Hp → VK → Prop := fun xs H Q => ∃ a dx fs, xs = [.ref a] ∧ H a = some (.ins C dx fs) ∧ sp [.ref a] H (fun v H' => ∃ n : Int, v = .int n ∧ 0 ≤ n ∧ n < 2 ^ 63 ∧ Q v H') E
theorem call_lenO (c : Met X.prog X.w X.K X.mg X.base C "__len__" k sp) (hr : Room j X.A) (hk : k + 1 ≤ j) (hx : Passes (L2.CX X.prog X.w) X E) : CallR X (.builtin "len") (rOwnL C sp E) := by
  intro pins s σ H xs us Q I r h
  obtain ⟨a, dx, fs, rfl, ha, q⟩ := h
  obtain ⟨f, hm, F⟩ := c.ex
  obtain ⟨u, rfl, ru⟩ := r.one
  cases (show u = Value.ref a from ru)
  obtain ⟨mA, O, _⟩ := ins_get I.hok ha
  obtain ⟨od, J, _⟩ := O.look
  obtain ⟨m, hF⟩ := I.fr
  have hr2 : Room k X.A.in1 := (show Room (k + 1) X.A from hr.mono hk).in1
  refine PySem.W.len_K hF I.ok.mod.kin J hm.at_ hm.fn (wpAny_mono (wpAny_call (SlX.run_at (us := [.ref a]) (ws := [.ref a]) F hr2 I.env0.in1 hx I (.cons rfl .nil) q)) (fun w s' z => ?_) fun _ _ z => z)
  obtain ⟨z', H', I', rz, n, en, n0, n1, qz⟩ := z
  subst en
  obtain ⟨t, e⟩ := (show ∃ t, w = Value.int n t from rz)
  subst e
  exact ⟨⟨n0, n1⟩, .int n, H', I'.tok _, ⟨_, rfl⟩, qz⟩
theorem CallR_or {g : Value} {r r' : List V → Hp → VK → Prop} (h : CallR X g r) (h' : CallR X g r') : CallR X g (fun xs H Q => r xs H Q ∨ r' xs H Q) := h.or h'
theorem OpR_or {g : Value → Value → Sem Value} {r r' : R2} (h : OpR X g r) (h' : OpR X g r') : OpR X g (fun x y H Q => r x y H Q ∨ r' x y H Q) := by
  intro pins s σ H x y v u Q I rx ry q
  rcases q with q | q
  · exact h pins s σ H x y v u Q I rx ry q
  · exact h' pins s σ H x y v u Q I rx ry q
theorem UnR_or {g : Value → Sem Value} {r r' : V → Hp → VK → Prop} (h : UnR X g r) (h' : UnR X g r') : UnR X g (fun x H Q => r x H Q ∨ r' x H Q) := by
  intro pins s σ H x v Q I rx q
  rcases q with q | q
  · exact h pins s σ H x v Q I rx q
  · exact h' pins s σ H x v Q I rx q
end
end TT

set_option Elab.async false
set_option linter.all false
set_option maxRecDepth 100000
set_option maxHeartbeats 4000000
namespace PySem
open Sem (wp)
open AutoSeq1 (wpAny_loadPart')
set_option maxHeartbeats 1000000 in
/-- enumerate(t), t a tuple: the two new cells -/
theorem tt_enum_new (t : Addr) (items : Array Value) :
    Meets (Builtin.«enumerate.__new__» ⟨[.type "enumerate", .ref t], []⟩) (fun _ R s => s.heap.IsTuple t items ∧
      R (.ok (.ret (.ref (s.heap.push { cls := .type "tuple_iterator", data := .fields #[.ref t, .int 0 0] }).objs.size)))
        { s with heap := ((s.heap.push { cls := .type "tuple_iterator", data := .fields #[.ref t, .int 0 0] }).push ({ cls := .type "enumerate", data := .fields #[.none, .bool false, .ref s.heap.objs.size, rawInt 0, .none, .none] } : Obj)) }) :=
  .of_wp fun prog w A R s h => by
    obtain ⟨hp, g, d, tk, os⟩ := s
    obtain ⟨hl, h⟩ := h
    have hsub := sub_enumerate
    have hT : Heap.IsTuple (Shared.heap ⟨hp, g, d, tk, os⟩) t items := hl
    wp_walk
    refine wpAny_stack_any fun st => wpAny_pure ?_
    split
    · rename_i c _ _ _ _ _
      cases (c == Value.type "enumerate") <;>
        (wp_walk using wpAny_pyIter_tuple hT; exact ⟨_, rfl, h⟩)
    · wp_walk using wpAny_pyIter_tuple hT
      exact ⟨_, rfl, h⟩
theorem tt_enum_tuple {prog : Program} {w : World} {A : Around} {E : Value → Shared → Prop} {s : Shared} {t : Addr} {items : Array Value} {Q : Value → Shared → Prop} (ht : s.heap.IsTuple t items)
    (h : ∀ h', IsEnum h' (s.heap.objs.size + 1) s.heap.objs.size 0 .none → h'.IsTupleIter s.heap.objs.size t 0 →
      (∀ b o, s.heap.get? b = some o → h'.get? b = some o) → Q (.ref (s.heap.objs.size + 1)) { s with heap := h' }) :
    wpAny (model prog w) A (call (.type "enumerate") [.ref t]) Q E s := by
  refine callType_new F.called_enumerate (by decide) (F.typeCall_enumerate_1 _) (F.newCall_enumerate_1 _) (fun obj => F.args_object_init_2 obj _) F.entry_enumerate_new (tt_enum_new t items) ⟨ht, ?_⟩
  generalize ho : ({ cls := .type "tuple_iterator", data := .fields #[.ref t, .int 0 0] } : Obj) = o
  have hz : (s.heap.push o).objs.size = s.heap.objs.size + 1 := Heap.size_push ..
  have fr : o.isFreed = false := by subst ho; rfl
  show _ ∧ _
  rw [hz]
  generalize hn : ({ cls := .type "enumerate", data := .fields #[.none, .bool false, .ref s.heap.objs.size, rawInt 0, .none, .none] } : Obj) = en
  have fe : en.isFreed = false := by subst hn; rfl
  have z := Heap.get?_push_size (s.heap.push o) fe
  rw [hz] at z
  have he : IsEnum ((s.heap.push o).push en) (s.heap.objs.size + 1) s.heap.objs.size 0 .none := by
    subst hn
    exact z
  refine ⟨⟨_, he, rfl⟩, h _ he ⟨o, Heap.get?_push_of_some _ (Heap.get?_push_size _ fr), by subst ho; rfl, by subst ho; rfl⟩ fun b ob x => ?_⟩
  exact Heap.get?_push_of_some _ (Heap.get?_push_of_some _ x)
end PySem
namespace TT
open PySem PySem.Spec PyProof.Rows L2

/-! ### enumerate of a tuple -/
def Iet (K : PySem.W.Frag) (a : Addr) : It where
  go := fun i H => ∃ (xs : List V) (x : V), SqT K H a xs ∧ xs[i]? = some x
  yld := fun i H v H' => ∃ q x, v = .ref q ∧ H q = none ∧ H' = upd H q (.tup [.int (i : Nat), x]) ∧ ∀ xs, SqT K H a xs → xs[i]? = some x
  stop := fun i H => ∃ xs : List V, SqT K H a xs ∧ xs.length ≤ i
theorem turn_et {P : Program} {w : World} {K : PySem.W.Frag} {elts : List Expr} {kk : Nat} {tpos : Pos} (a e it : Addr) (hai : a ≠ it) :
    Turn P w K (.Tuple elts kk tpos) (Iet K a) [e, it] e (fun i h => (∃ old, IsEnum h e it ((i : Nat) : Int) old) ∧ h.IsTupleIter it a i ∧ e ≠ it ∧ e ≠ a) where
  mem := by simp
  obj := fun i h st b hb => by
    obtain ⟨⟨old, he⟩, ⟨o, ho, hc, hd⟩, _⟩ := st
    rcases (show b = e ∨ b = it by simpa using hb) with rfl | rfl
    · exact ⟨_, he, fun v q => nomatch q⟩
    · exact ⟨o, ho, fun v q => by rw [hd] at q; cases q⟩
  keep := fun i h h' st k => by
    obtain ⟨⟨old, he⟩, hi, hne⟩ := st
    exact ⟨⟨old, k e (by simp) _ he⟩, hi.at fun o q => k it (by simp) o q, hne⟩
  item := by
    intro X hP hw hK hc i pins s σ H E I hf st hg
    subst hP hw hK
    obtain ⟨⟨old, he⟩, hit, hne, hea⟩ := st
    obtain ⟨xs, x, hq, hx⟩ := hg
    obtain ⟨its, rv, p, hz⟩ := I.tuple hq
    obtain ⟨u, hu, ru⟩ := rv.get hx
    have le : e < s.heap.objs.size := Heap.lt_size he
    have li : it < s.heap.objs.size := by obtain ⟨_, q, _⟩ := hit; exact Heap.lt_size q
    have hlt : i < its.toArray.size := by
      have := (List.getElem?_eq_some_iff.mp hu).1
      simpa using this
    have D := Draws.tuple (prog := X.prog) (w := X.w) (A := X.A.in1) (I.ok.hd hc) it a hai its.toArray
    refine wpAny_pyNext_enum_itemD D he ⟨hit, p⟩ hlt hne (by simp [hne, hea]) fun y h' tk hy ho st' hT hsz hk => ?_
    have ey : y = u := by
      have z : its.toArray[i]? = some u := by simpa using hu
      rw [z] at hy
      exact (Option.some.inj hy).symm
    subst ey
    refine ⟨_, rfl, wpAny_letOwnedTupleGo_enum (s := { s with heap := h', toks := tk + 1 }) ho fun h2 he' sb => ?_⟩
    have hT2 := (sb.2 _ (Nat.ne_of_gt le)).trans hT
    have new : ObjOk X.prog X.w (upd H s.heap.objs.size (.tup [.int (i : Nat), x])) h2 s.heap.objs.size (.tup [.int (i : Nat), x]) :=
      ⟨by show 2 ≤ sizeLine; decide, [.int i tk, y], .cons ⟨_, rfl⟩ (.cons ru .nil), ⟨_, hT2, rfl, _, rfl⟩⟩
    have I1 := I.turnedNew (t' := tk + 1) (ch := [e, it]) (h' := h2) (fun b ob hb q => (sb.2 b (fun z => hb (by simp [z]))).trans
      (hk b ob (fun z => hb (by simp [z])) (fun z => hb (by simp [z])) q)) hf (Nat.le_refl _) new
    refine ⟨.ref s.heap.objs.size, _, I1, rfl, ⟨_, x, rfl, I.hok.fresh (Nat.le_refl _), rfl, fun ys hy' => by rw [I.tuple_inj hy' hq]; exact hx⟩,
      ⟨⟨y, ?_⟩, st'.1.at fun o q => (sb.2 it (Ne.symm hne)).trans q, hne, hea⟩, fun b hb => ?_⟩
    · have e1 : ((i + 1 : Nat) : Int) = (i : Int) + 1 := by omega
      rw [e1]
      exact he'
    · have hb' : b < s.heap.objs.size := by
        rcases (show b = e ∨ b = it by simpa using hb) with rfl | rfl
        · exact le
        · exact li
      rw [upd_ne (Nat.ne_of_lt hb')]
      exact (hf b hb).1
  done := by
    intro X hP hw hK hc i pins s σ H E I hf st hg
    subst hP hw hK
    obtain ⟨⟨old, he⟩, hit, hne, hea⟩ := st
    obtain ⟨xs, hq, hx⟩ := hg
    obtain ⟨its, rv, p, hz⟩ := I.tuple hq
    obtain ⟨f0, f1, f2, f3, f4, f5⟩ := hf it (by simp)
    have hl := rv.length
    refine wpAny_bind (wpAny_attempt (wpAny_callSpecial?_slot (name := Str.ofString "__next__") ⟨_, he, rfl⟩ F.slot_enumerate_next
      (wpAny_call_entry F.slot_enumerate_next ⟨_, he, rfl⟩ F.entry_enumerate_next ?_ (F.args_enumerate_next_1 _))))
    show wpAny _ _ (field (.ref e) 2 >>= _) _ _ _
    refine wpAny_bind (wpAny_field he rfl (x := .ref it) rfl ?_)
    refine wpAny_bind (wpAny_nextOf_tuple_end (A := X.A.in1) (I.ok.hd hc) hit p (by simp; omega) fun h' x he' hx' => ?_)
    obtain ⟨o, ho, hcl⟩ := hx'
    refine wpAny_bind (wpAny_isInstance (T := "StopIteration") (b := true) ⟨o, ho, hcl⟩ isSubtype_stop ?_)
    exact wpAny_pure ⟨rfl, I.turned (t' := s.toks) (fun b o hb q => he' b o hb q) f0 f1 f3 f4 f5⟩
  self := fun A i s Q E st h => let ⟨⟨_, he⟩, _⟩ := st; wpAny_pyIter_enum he h
def iEt (K : PySem.W.Frag) (ta : TA) : TI := fun σ H R => ta σ H fun vs H1 => ∃ a xs, vs = [.ref a] ∧ SqT K H1 a xs ∧ R (Iet K a) H1
theorem pi_enumT {X : Cx} {e : Expr} {ta : TA} {p pos tpos : Pos} {elts : List Expr} {kk : Nat} (hg : Gl X "enumerate") (hm : X.mg "enumerate" = none) (ha : PA X [e] ta) (hs : starEach [e] X.env = [(false, eval e X.env)] := by rfl) :
    PI X (.Tuple elts kk tpos) (.Call (.Name "enumerate" p) [e] [] pos) (iEt X.K ta) := by
  refine ⟨fun pins s σ H R I h => Call_ (ld_blt I hg hm boot_enumerate (PyProof.Rows.callWith_type1 (thn (ha.run pos pins s σ H _ I h) fun us s1 hh => ?_) hs rfl))⟩
  obtain ⟨vs, H1, I1, r1, a, xs, ex, hq, q⟩ := hh
  subst ex
  cases r1 with
  | cons r rr =>
    cases rr
    cases r
    obtain ⟨its, rv, p', hz⟩ := I1.tuple hq
    have la : a < s1.heap.objs.size := by obtain ⟨_, z, _⟩ := p'; exact Heap.lt_size z
    refine tt_enum_tuple p' fun h' he hit hk => wpAny_pyIter_enum he ?_
    have I2 : Inv X pins σ H1 { s1 with heap := h' } := I1.kept (t' := s1.toks) hk
    refine ⟨s1.heap.objs.size + 1, [s1.heap.objs.size + 1, s1.heap.objs.size], _, _, H1, rfl, I2, turn_et a (s1.heap.objs.size + 1) s1.heap.objs.size (Nat.ne_of_lt la),
      ⟨⟨.none, he⟩, hit, Nat.succ_ne_self _, (Nat.ne_of_gt (Nat.lt_succ_of_lt la))⟩, fun b hb => ?_, q⟩
    have hle : s1.heap.objs.size ≤ b := by
      rcases (show b = s1.heap.objs.size + 1 ∨ b = s1.heap.objs.size by simpa using hb) with rfl | rfl
      · exact Nat.le_add_right _ _
      · exact Nat.le_refl _
    exact I1.fpOk hle (I1.hok.fresh hle)
theorem walk_et {K : PySem.W.Frag} {a : Addr} {xs : List V} : Walk (Iet K a) xs.length (fun H => SqT K H a xs) (YPair (fun i => some (.int (i : Nat))) (fun i => xs[i]?)) where
  goes := fun i H hi hq => ⟨xs, xs[i], hq, by simp [hi]⟩
  stops := fun H hq => ⟨xs, hq, Nat.le_refl _⟩
  yields := fun i H v H' hi hq ⟨q, x, e1, e2, e3, e4⟩ => ⟨q, _, x, e1, e2, e3, rfl, e4 xs hq⟩

/-! ### unions -/
def rAddU (K : PySem.W.Frag) : R2 := fun x y H Q => (rI0 fun i j => .int (i + j)) x y H Q ∨ rCat x y H Q ∨ rCatA K x y H Q
def rMulU (K : PySem.W.Frag) : R2 := fun x y H Q => rI CMul (fun i j => .int (i * j)) x y H Q ∨ rRep x y H Q
def rEqU (K : PySem.W.Frag) : R2 := fun x y H Q => rEq x y H Q ∨ rEqD K x y H Q
def rNeU (K : PySem.W.Frag) : R2 := fun x y H Q => rNe x y H Q ∨ rNeD K x y H Q
def rLenU (K : PySem.W.Frag) : List V → Hp → VK → Prop := fun xs H Q => ∃ p ys, xs = [.ref p] ∧ (SqL K H p ys ∨ SqT K H p ys) ∧ Q (.int ys.length) H
def rSlU (K : PySem.W.Frag) : V → Option Int → Option Int → Hp → VK → Prop := fun x lo hi H Q => rSlL K x lo hi H Q ∨ rSlA K x lo hi H Q
section
variable {X : Cx}
theorem op_addU : OpR X (binaryOp .Add) (rAddU X.K) := OpR_or op_add (OpR_or op_cat op_catA)
theorem op_mulU : OpR X (binaryOp .Mult) (rMulU X.K) := OpR_or op_mul op_rep
theorem op_eqU (hu : X.A.units + 64 < cLine) : OpR X (compareOp .Eq) (rEqU X.K) := OpR_or op_eq (op_eqD hu)
theorem op_neU (hu : X.A.units + 64 < cLine) : OpR X (compareOp .NotEq) (rNeU X.K) := OpR_or op_ne (op_neD hu)
theorem call_lenU : CallR X (.builtin "len") (rLenU X.K) := call_len_seq
theorem sl_U : SlR X (rSlU X.K) := sl_list.or sl_tupA
variable {K : PySem.W.Frag}
theorem opK {g : Value → Value → Sem Value} {r : PySem.W.Frag → R2} (h : OpR X g (r X.K)) (hK : X.K = K) : OpR X g (r K) := by subst hK; exact h
theorem k_add (hK : X.K = K) : OpR X (binaryOp .Add) (rAddU K) := opK (r := rAddU) op_addU hK
theorem k_mul (hK : X.K = K) : OpR X (binaryOp .Mult) (rMulU K) := opK (r := rMulU) op_mulU hK
theorem k_eq (hK : X.K = K) (hu : X.A.units + 64 < cLine) : OpR X (compareOp .Eq) (rEqU K) := opK (r := rEqU) (op_eqU hu) hK
theorem k_ne (hK : X.K = K) (hu : X.A.units + 64 < cLine) : OpR X (compareOp .NotEq) (rNeU K) := opK (r := rNeU) (op_neU hu) hK
theorem k_in (hK : X.K = K) : OpR X (compareOp .In) (rIn K false) := opK (r := fun K => rIn K false) op_in_seq hK
theorem k_notin (hK : X.K = K) : OpR X (compareOp .NotIn) (rIn K true) := opK (r := fun K => rIn K true) op_notIn_seq hK
theorem k_len (hK : X.K = K) : CallR X (.builtin "len") (rLenU K) := by subst hK; exact call_lenU
theorem k_isi (hK : X.K = K) : CallR X (.builtin "isinstance") (rIsi K) := by subst hK; exact call_isi
theorem k_sum (hK : X.K = K) (hc : X.calm = true) : CallR X (.builtin "sum") (rSum K) := by subst hK; exact cr_sum hc
theorem k_all (hK : X.K = K) (hc : X.calm = true) : CallR X (.builtin "all") (rAll K) := by subst hK; exact cr_all hc
theorem k_any (hK : X.K = K) (hc : X.calm = true) : CallR X (.builtin "any") (rAny K) := by subst hK; exact cr_any hc
theorem k_ix (hK : X.K = K) : IxR X (rIx K) := by subst hK; exact ix_seq
theorem k_sl (hK : X.K = K) : SlR X (rSlU K) := by subst hK; exact sl_U
theorem k_index (hK : X.K = K) : MtR X "list.index" (rIndex K) := by subst hK; exact mt_index
section
variable {e : Expr} {te : TE} {f : Str} {pos pos' : Pos} {o value : Expr} {ta tv : TE} {tg l : Expr} {ts : TA} {es : List Expr}
theorem k_fld (hK : X.K = K) (he : PE X e te) (hb : attributeBase e f X.env (eval e X.env) = eval e X.env := by rfl) : PE X (.Attribute e f pos) (tFld K te f) := by subst hK; exact pe_fld he hb
theorem k_put (hK : X.K = K) (ha : PE X o ta) (hv : PE X value tv) (hs : swapsWith value (some (.Attribute o f pos')) pos.line X.env = pure false := by rfl) : PS X (.Assign [.Attribute o f pos'] value pos) (sFld K ta tv f) := by subst hK; exact ps_fld ha hv hs
def tTr (K : PySem.W.Frag) (ta : TE) : TT := fun σ H Q => ta σ H fun x H' => ∃ k, TruV K x H' k ∧ Q k H'
theorem k_tr (hK : X.K = K) (ha : PE X e te) (he : ∀ whole, isTrue e X.env whole = (do let v ← whole; standAt e.pos; holding [v] (truthy v)) := by intro _; rfl) : PT X e (tTr K te) := by subst hK; exact pt_truth ha he
theorem k_not (hK : X.K = K) (ha : PE X e te) : PE X (.UnaryOp .Not e pos) (tNotT K te) := by subst hK; exact pe_notT ha
theorem k_iL (hK : X.K = K) (hl : PE X l te) : PI X tg l (iList K te) := by subst hK; exact pi_list hl
theorem k_iT (hK : X.K = K) (hl : PE X l te) : PI X tg l (iTup K te) := by subst hK; exact pi_tup hl
theorem k_iE {elts : List Expr} {kk : Nat} {p tpos : Pos} (hK : X.K = K) (hg : Gl X "enumerate") (hm : X.mg "enumerate" = none) (ha : PA X [e] ts) (hs : starEach [e] X.env = [(false, eval e X.env)] := by rfl) : PI X (.Tuple elts kk tpos) (.Call (.Name "enumerate" p) [e] [] pos) (iEnum K ts) := by subst hK; exact pi_enum hg hm ha hs
theorem k_iEt {elts : List Expr} {kk : Nat} {p tpos : Pos} (hK : X.K = K) (hg : Gl X "enumerate") (hm : X.mg "enumerate" = none) (ha : PA X [e] ts) (hs : starEach [e] X.env = [(false, eval e X.env)] := by rfl) : PI X (.Tuple elts kk tpos) (.Call (.Name "enumerate" p) [e] [] pos) (iEt K ts) := by subst hK; exact pi_enumT hg hm ha hs
theorem k_gtup {k : Nat} {t : TGs} {n : Nat} (hK : X.K = K) (hc : X.calm = true) (h : PGs X es t) (hn : (assignEach es X.env).length = n := by rfl) (hst : (assignEach es X.env).findIdx? (·.1) = none := by rfl) : PG X (.Tuple es k pos) (gTup K n t) := by subst hK; exact pg_tup hc h hn hst
theorem k_bm0 {T : String} {name : Str} {id : String} {r : V → List V → Hp → VK → Prop} {apos cpos : Pos} (hK : X.K = K) (pa : PlainAttrs T) (slot : Slot T name id) (hty : typeOf (.builtin id) = pure (.type "method_descriptor")) (hm : MtR X id r) (ho : PE X o te)
    (h1 : attributeBase o name X.env (eval o X.env) = eval o X.env := by rfl) (h2 : (apos.endLine == cpos.line) = true := by rfl) : PE X (.Call (.Attribute o name apos) [] [] cpos) (tBM0 K T r te) := by
  subst hK
  exact pe_bm0 pa slot hty hm ho h1 h2
theorem k_bm {T : String} {name : Str} {id : String} {r : V → List V → Hp → VK → Prop} {apos cpos : Pos} {e1 : Expr} (hK : X.K = K) (pa : PlainAttrs T) (slot : Slot T name id) (hty : typeOf (.builtin id) = pure (.type "method_descriptor")) (hm : MtR X id r) (ho : PE X o te) (ha : PA X (e1 :: es) ts)
    (h1 : attributeBase o name X.env (eval o X.env) = eval o X.env := by rfl) (h2 : ((backTo cpos (starEach (e1 :: es) X.env)).all (fun x => !x.1) && (backToKw cpos (keywordEach [] X.env)).all (fun x => x.1.isSome) && decide ((e1 :: es).length + ([] : List Keyword).length + (if ([] : List Keyword).isEmpty then 0 else 1) < 30)) = true := by rfl)
    (h3 : (apos.endLine == cpos.line) = true := by rfl) (h4 : starEach (e1 :: es) X.env = (false, eval e1 X.env) :: starEach es X.env := by rfl) (h5 : (backTo cpos (starEach es X.env)).any (·.1) = false := by rfl) : PE X (.Call (.Attribute o name apos) (e1 :: es) [] cpos) (tBM K T r te ts) := by
  subst hK
  exact pe_bm pa slot hty hm ho ha h1 h2 h3 h4 h5
end
theorem pe_gv {x : Str} {pos : Pos} {v : V} (hg : Gl X x) (h : ∃ u, X.mg x = some u ∧ RelV v u) (hd : (x == ("__debug__" : Str)) = false := by decide) : PE X (.Name x pos) (tC v) := by
  obtain ⟨u, h1, h2⟩ := h
  exact pe_glob hg h1 h2 hd
end
end TT

set_option Elab.async false
set_option linter.all false
set_option maxRecDepth 100000
set_option maxHeartbeats 4000000
namespace TT
open PySem PySem.Spec PyProof.Rows L2
/-! ### readings, step by step -/
def rNewL (xs : List V) (H : Hp) (Q : VK) : Prop := xs.length ≤ sizeLine ∧ ∀ p, H p = none → Q (.ref p) (upd H p (.lst xs))
def rNewT (xs : List V) (H : Hp) (Q : VK) : Prop := xs.length ≤ sizeLine ∧ ∀ p, H p = none → Q (.ref p) (upd H p (.tup xs))
def rFld (K : PySem.W.Frag) (f : Str) (x : V) (H : Hp) (Q : VK) : Prop := ∃ a C dx fs v, x = .ref a ∧ H a = some (.ins C dx fs) ∧ Cls K C ∧ NoAttr K C f ∧ fs.lookup f = some v ∧ Q v H
def rPut (K : PySem.W.Frag) (f : Str) (x y : V) (H : Hp) (R : Hp → Prop) : Prop := ∃ a C dx fs, x = .ref a ∧ H a = some (.ins C dx fs) ∧ Cls K C ∧ NoAttr K C f ∧ fs.length < 1000 ∧ R (upd H a (.ins C dx (putF f y fs)))
def rInt1 : List V → Hp → VK → Prop := fun xs H Q => (∃ i, xs = [.int i] ∧ Q (.int i) H) ∨ ∃ k, xs = [.bl k] ∧ Q (.int (if k then 1 else 0)) H
theorem call_int1U {X : Cx} : CallR X (.type "int") rInt1 := call_int1
def rListU (K : PySem.W.Frag) : List V → Hp → VK → Prop := fun xs H Q => ∃ p ys, xs = [.ref p] ∧ (SqL K H p ys ∨ SqT K H p ys) ∧ ∀ l, H l = none → Q (.ref l) (upd H l (.lst ys))
theorem k_list {X : Cx} {K : PySem.W.Frag} (hK : X.K = K) : CallR X (.type "list") (rListU K) := by subst hK; exact call_list_of
def rTupU (K : PySem.W.Frag) : List V → Hp → VK → Prop := fun xs H Q => ∃ p ys, xs = [.ref p] ∧ ((SqL K H p ys ∧ ∀ l, H l = none → Q (.ref l) (upd H l (.tup ys))) ∨ (SqT K H p ys ∧ Q (.ref p) H))
theorem k_tuple {X : Cx} {K : PySem.W.Frag} (hK : X.K = K) : CallR X (.type "tuple") (rTupU K) := by subst hK; exact call_tuple_of
section
variable {K : PySem.W.Frag} {σ : L2.St} {H H1 : Hp} {Q : VK} {QA : List V → Hp → Prop} {QB : Bool → Hp → Prop} {D : Ends} {t u : TS} {ta tb tc te : TE} {ts : TA} {tt : TT} {i : Nat} {v x y : V} {a p b : Addr} {xs ys : List V} {m n : Int}
theorem g_seq (h : t { D with nx := u D } σ H) : tSeq t u D σ H := h
theorem g_next (h : D.nx σ H) : tNext D σ H := h
theorem g_set (h : te σ H fun z H1 => D.nx (σ.set i (some z)) H1) : tAsg te (gName i) D σ H := h
theorem g_asg {g : TG} (h : te σ H fun z H1 => g z σ H1 D.nx) : tAsg te g D σ H := h
theorem g_sub {to ti : TE} {r : TSet} {R : L2.St → Hp → Prop} (h : to σ H fun o H1 => ti σ H1 fun j H2 => r o j v H2 fun H3 => R σ H3) : gSub to ti r v σ H R := h
theorem g_aug {ti : TIp} (h : σ[i]? = some (some x)) (q : te σ H fun y H1 => ti x y H1 fun z H2 => D.nx (σ.set i (some z)) H2) : tAug i te ti D σ H := ⟨x, h, q⟩
theorem g_par {j : Nat} (h : ts σ H fun vs H1 => ∃ v w, vs = [v, w] ∧ D.nx ((σ.set i (some v)).set j (some w)) H1) : tPar i j ts D σ H := h
theorem a_two {w : V} {R : V → V → Prop} (h : R v w) : ∃ v' w', [v, w] = [v', w'] ∧ R v' w' := ⟨v, w, rfl, h⟩
theorem g_drop (h : te σ H fun _ H1 => D.nx σ H1) : tDrop te D σ H := h
theorem g_ret (h : te σ H D.rt) : tRet te D σ H := h
theorem g_var (h : σ[i]? = some (some v)) (q : Q v H) : tVar i σ H Q := ⟨v, h, q⟩
theorem g_c (q : Q v H) : tC v σ H Q := q
theorem g_op {r : R2} (h : ta σ H fun x H1 => tb σ H1 fun y H2 => r x y H2 Q) : tOp r ta tb σ H Q := h
theorem g_un {r : V → Hp → VK → Prop} (h : ta σ H fun x H1 => r x H1 Q) : tUn r ta σ H Q := h
theorem g_nil (q : QA [] H) : tNil σ H QA := q
theorem g_cons (h : ta σ H fun x H1 => ts σ H1 fun xs H2 => QA (x :: xs) H2) : tCons ta ts σ H QA := h
theorem g_cb {r : List V → Hp → VK → Prop} (h : ts σ H fun vs H1 => r vs H1 Q) : tCB r ts σ H Q := h
theorem g_if {c : TT} (h : c σ H fun b H1 => if b = true then t D σ H1 else u D σ H1) : tIfS c t u D σ H := h
theorem g_ife {c : TT} (h : c σ H fun b H1 => if b = true then ta σ H1 Q else tb σ H1 Q) : tIf c ta tb σ H Q := h
theorem g_test (h : te σ H fun x H' => ∃ k, x = .bl k ∧ QB k H') : tTest te σ H QB := h
theorem a_bl {c : Bool} {R : Bool → Prop} (h : R c) : ∃ k, V.bl c = .bl k ∧ R k := ⟨c, rfl, h⟩
theorem g_tr (h : ta σ H fun x H1 => ∃ k, TruV K x H1 k ∧ QB k H1) : tTr K ta σ H QB := h
theorem g_not {c : TT} (h : c σ H fun b H1 => QB (!b) H1) : tNot c σ H QB := h
theorem g_or {c d : TT} (h : c σ H fun b H1 => if b = true then QB true H1 else d σ H1 QB) : tOr c d σ H QB := h
theorem g_and {c d : TT} (h : c σ H fun b H1 => if b = true then d σ H1 QB else QB false H1) : tAnd c d σ H QB := h
theorem g_F {sp : Sp} {E : XK} (h : ts σ H fun vs H1 => sp vs H1 Q E) : tF sp E ts σ H Q := h
theorem g_S {C : Addr} {sp : Sp} {E : XK} (h : te σ H fun x H1 => x = .ref C ∧ ts σ H1 fun vs H2 => sp vs H2 Q E) : tS C sp E te ts σ H Q := h
theorem g_lst (h : ts σ H fun xs H1 => rNewL xs H1 Q) : tLst ts σ H Q := h
theorem g_tup (h : ts σ H fun xs H1 => rNewT xs H1 Q) : tTup ts σ H Q := h
theorem g_fld {f : Str} (h : ta σ H fun x H1 => rFld K f x H1 Q) : tFld K ta f σ H Q := h
theorem g_sfld {f : Str} (h : tb σ H fun y H1 => ta σ H1 fun x H2 => rPut K f x y H2 fun H3 => D.nx σ H3) : sFld K ta tb f D σ H := h
theorem g_methR {C : Addr} {f : Str} {sp : Sp} {E : XK} (h : ta σ H fun x H1 => ∃ a dx fs, x = .ref a ∧ H1 a = some (.ins C dx fs) ∧ fs.lookup f = none ∧ ts σ H1 fun vs H2 => sp (x :: vs) H2 Q E) : tMethR C f sp E ta ts σ H Q := h
theorem g_andV (h : ta σ H fun x H1 => ∃ c, x = .bl c ∧ if c = true then tb σ H1 Q else Q (.bl false) H1) : tAndV ta tb σ H Q := h
theorem g_orV (h : ta σ H fun x H1 => ∃ c, x = .bl c ∧ if c = true then Q (.bl true) H1 else tb σ H1 Q) : tOrV ta tb σ H Q := h
theorem g_notT (h : ta σ H fun x H1 => ∃ k, TruV K x H1 k ∧ Q (.bl (!k)) H1) : tNotT K ta σ H Q := h
theorem g_chain {r r' : R2} (h : ta σ H fun x H1 => tb σ H1 fun y H2 => r x y H2 fun z H3 => ∃ k, z = .bl k ∧ (if k = true then tc σ H3 fun w' H4 => r' y w' H4 Q else Q (.bl false) H3)) : tChain r r' ta tb tc σ H Q := h
theorem g_bm {T : String} {r : V → List V → Hp → VK → Prop} (h : ta σ H fun x H1 => tyV K T x H1 ∧ ts σ H1 fun xs H2 => r x xs H2 Q) : tBM K T r ta ts σ H Q := h
theorem g_bm0 {T : String} {r : V → List V → Hp → VK → Prop} (h : ta σ H fun x H1 => tyV K T x H1 ∧ r x [] H1 Q) : tBM0 K T r ta σ H Q := h
theorem g_sl {r : V → Option Int → Option Int → Hp → VK → Prop} {tl th : TO} (h : te σ H fun x H1 => tl σ H1 fun l H2 => th σ H2 fun u H3 => r x l u H3 Q) : tSl r te tl th σ H Q := h
theorem g_nop {R : Option Int → Hp → Prop} (q : R none H) : tNoPart σ H R := q
theorem g_part {R : Option Int → Hp → Prop} (h : te σ H fun x H1 => ∃ i, x = .int i ∧ R (some i) H1) : tPart te σ H R := h
theorem a_int {R : Int → Prop} (h : R n) : ∃ i, V.int n = .int i ∧ R i := ⟨n, rfl, h⟩
/-! values that have come -/
theorem a_addI (q : Q (.int (m + n)) H) : rAddU K (.int m) (.int n) H Q := .inl ⟨_, _, rfl, rfl, q⟩
theorem a_mulI (hc : CMul m n) (q : Q (.int (m * n)) H) : rMulU K (.int m) (.int n) H Q := .inl ⟨_, _, rfl, rfl, hc, q⟩
theorem a_I0 {g : Int → Int → V} (q : Q (g m n) H) : rI0 g (.int m) (.int n) H Q := ⟨_, _, rfl, rfl, q⟩
theorem a_I {C : Int → Int → Prop} {g : Int → Int → V} (hc : C m n) (q : Q (g m n) H) : rI C g (.int m) (.int n) H Q := ⟨_, _, rfl, rfl, hc, q⟩
theorem a_U {g : Int → V} (q : Q (g m) H) : rU g (.int m) H Q := ⟨_, rfl, q⟩
theorem a_ipI {f : Int → Int → Int} (q : Q (.int (f m n)) H) : ipI f (.int m) (.int n) H Q := ⟨_, _, rfl, rfl, q⟩
theorem a_eq (h : scal x y = true) (q : Q (.bl (decide (x = y))) H) : rEqU K x y H Q := .inl ⟨h, q⟩
theorem a_ne (h : scal x y = true) (q : Q (.bl (!decide (x = y))) H) : rNeU K x y H Q := .inl ⟨h, q⟩
theorem a_eqD {d e : PyData} (hd : Dp K H x d) (he : Dp K H y e) (sd : SeqAt.shaped d = true) (se : SeqAt.shaped e = true) (q : Q (.bl (PyData.eqv d e)) H) : rEqU K x y H Q := .inr ⟨d, e, hd, he, sd, se, q⟩
theorem a_neD {d e : PyData} (hd : Dp K H x d) (he : Dp K H y e) (sd : SeqAt.shaped d = true) (se : SeqAt.shaped e = true) (q : Q (.bl (!PyData.eqv d e)) H) : rNeU K x y H Q := .inr ⟨d, e, hd, he, sd, se, q⟩
theorem a_lenL (h : SqL K H p ys) (q : Q (.int ys.length) H) : rLenU K [.ref p] H Q := ⟨p, ys, rfl, .inl h, q⟩
theorem a_lenT (h : SqT K H p ys) (q : Q (.int ys.length) H) : rLenU K [.ref p] H Q := ⟨p, ys, rfl, .inr h, q⟩
theorem a_ixL (h : SqL K H p xs) (ha : atI xs n = some v) (q : Q v H) : rIx K (.ref p) (.int n) H Q := .inl ⟨p, xs, n, v, rfl, rfl, h, ha, q⟩
theorem a_ixT (h : SqT K H p xs) (ha : atI xs n = some v) (q : Q v H) : rIx K (.ref p) (.int n) H Q := .inr (.inl ⟨p, xs, n, v, rfl, rfl, h, ha, q⟩)
theorem a_setL {R : Hp → Prop} {j : Nat} (h : H p = some (.lst xs)) (ha : ixN xs.length n = some j) (q : R (upd H p (.lst (xs.set j v)))) : rSetL (.ref p) (.int n) v H R := ⟨p, xs, n, j, rfl, rfl, h, ha, q⟩
theorem a_newL (hl : xs.length ≤ 100000) (h : ∀ p H2, H p = none → Same H H2 → H2 p = some (.lst xs) → Q (.ref p) H2) : rNewL xs H Q := ⟨Nat.le_trans hl (by decide), fun p hp => h p _ hp (same_new hp) upd_same⟩
theorem a_newT (hl : xs.length ≤ 100000) (h : ∀ p H2, H p = none → Same H H2 → H2 p = some (.tup xs) → Q (.ref p) H2) : rNewT xs H Q := ⟨Nat.le_trans hl (by decide), fun p hp => h p _ hp (same_new hp) upd_same⟩
theorem a_fld {f : Str} {C dx : Addr} {fs : List (Str × V)} (h : H a = some (.ins C dx fs)) (c : Cls K C) (n : NoAttr K C f) (l : fs.lookup f = some v) (q : Q v H) : rFld K f (.ref a) H Q := ⟨a, C, dx, fs, v, rfl, h, c, n, l, q⟩
theorem a_put {f : Str} {C dx : Addr} {fs : List (Str × V)} {R : Hp → Prop} (h : H a = some (.ins C dx fs)) (c : Cls K C) (n : NoAttr K C f) (l : fs.length < 1000) (q : ∀ H2, But a H H2 → H2 a = some (.ins C dx (putF f y fs)) → R H2) : rPut K f (.ref a) y H R := ⟨a, C, dx, fs, rfl, h, c, n, l, q _ But.upd upd_same⟩
theorem a_isi {c : V} {t u : Value} {b : Bool} (k : ClsV c u) (ty : TyX K H x t) (e : PySem.W.kitOne K t u = some b) (q : Q (.bl b) H) : rIsi K [x, c] H Q := ⟨x, c, t, u, b, rfl, k, ty, e, q⟩
theorem a_ite {c A B : Prop} [Decidable c] (h1 : c → A) (h2 : ¬ c → B) : if decide c = true then A else B := by
  by_cases h : c
  · rw [if_pos (decide_eq_true h)]; exact h1 h
  · rw [if_neg (by rw [decide_eq_false h]; exact Bool.false_ne_true)]; exact h2 h
theorem a_itn {c A B : Prop} [Decidable c] (h1 : ¬ c → A) (h2 : c → B) : if (!decide c) = true then A else B := by
  by_cases h : c
  · rw [if_neg (by rw [decide_eq_true h]; exact Bool.false_ne_true)]; exact h2 h
  · rw [if_pos (by rw [decide_eq_false h]; rfl)]; exact h1 h
theorem a_yes {c A B : Prop} [Decidable c] (hc : c) (h : A) : if decide c = true then A else B := by rw [if_pos (decide_eq_true hc)]; exact h
theorem a_no {c A B : Prop} [Decidable c] (hc : ¬ c) (h : B) : if decide c = true then A else B := by
  rw [if_neg (by rw [decide_eq_false hc]; exact Bool.false_ne_true)]; exact h
theorem a_T {A B : Prop} {c : Bool} (hc : c = true) (h : A) : if c = true then A else B := by rw [if_pos hc]; exact h
theorem a_F {A B : Prop} {c : Bool} (hc : c = false) (h : B) : if c = true then A else B := by rw [hc]; rw [if_neg Bool.false_ne_true]; exact h
theorem a_setB {R : Hp → Prop} {j : Nat} (h : H p = some (.lst xs)) (ha : ixN xs.length n = some j) (q : ∀ H2, But p H H2 → H2 p = some (.lst (xs.set j v)) → R H2) : rSetL (.ref p) (.int n) v H R := a_setL h ha (q _ But.upd upd_same)
theorem a_int1 (q : Q (.int n) H) : rInt1 [.int n] H Q := .inl ⟨n, rfl, q⟩
theorem a_list {L : List V} (h : SqL K H p L ∨ SqT K H p L) (q : ∀ l H2, H l = none → Same H H2 → H2 l = some (.lst L) → Q (.ref l) H2) : rListU K [.ref p] H Q := ⟨p, L, rfl, h, fun l hl => q l _ hl (same_new hl) upd_same⟩
theorem a_tupL {L : List V} (h : SqL K H p L) (q : ∀ l H2, H l = none → Same H H2 → H2 l = some (.tup L) → Q (.ref l) H2) : rTupU K [.ref p] H Q := ⟨p, L, rfl, .inl ⟨h, fun l hl => q l _ hl (same_new hl) upd_same⟩⟩
theorem a_tupT {L : List V} (h : SqT K H p L) (q : Q (.ref p) H) : rTupU K [.ref p] H Q := ⟨p, L, rfl, .inr ⟨h, q⟩⟩
/-- tuple(x), x a list or a tuple: some tuple of the same items -/
theorem a_tup {L : List V} (h : SqL K H p L ∨ SqT K H p L) (q : ∀ l H2, Same H H2 → SqT K H2 l L → Q (.ref l) H2) : rTupU K [.ref p] H Q := by
  rcases h with h | h
  · exact a_tupL h fun l H2 _ s e => q l H2 s (SqT.of e)
  · exact a_tupT h (q p H (Same.refl H) h)
theorem a_app {L : List V} {z : V} (h : H p = some (.lst L)) (hl : L.length < sizeLine) (q : ∀ H2, But p H H2 → H2 p = some (.lst (L ++ [z])) → Q .non H2) : rAppend (.ref p) [z] H Q := ⟨p, L, z, rfl, rfl, h, hl, q _ But.upd upd_same⟩
theorem a_ty {L : List V} {R : Prop} (h : H p = some (.lst L)) (q : R) : tyV K "list" (.ref p) H ∧ R := ⟨Or.inl ⟨rfl, _, SqL.of h⟩, q⟩
theorem atI_of {α : Type} {l : List α} {j : Nat} {z : α} {k : Int} (e : k = (j : Int)) (h : l[j]? = some z) : atI l k = some z := by rw [e]; exact atI_nat h
theorem sz {k : Nat} (h : k ≤ 100000) : k ≤ sizeLine := Nat.le_trans h (by decide)
theorem szl {k : Nat} (h : k < 100000) : k < sizeLine := Nat.lt_of_lt_of_le h (by decide)
end
end TT
open TT L2 in
local macro_rules | `(tactic| walk_at "tt") => `(tactic| first
  | with_reducible refine g_seq ?_
  | with_reducible refine g_set ?_
  | with_reducible refine g_c ?_)

set_option Elab.async false
set_option linter.all false
set_option maxRecDepth 100000
set_option maxHeartbeats 4000000
namespace TT
open PySem PySem.Spec PyProof.Rows L2
/-! ### facts of classes as Bools -/
def ownB (K : PySem.W.Frag) (C : Addr) : Bool :=
  PySem.W.plainGet K C Str.empty && PySem.W.hasDictIn K C && PySem.W.plainOver K C && He.eqO (PySem.W.findIn K (.ref C) "__setattr__") (some (some (.builtin "object.__setattr__"))) &&
  He.eqO (PySem.W.findIn K (.ref C) "__class__") (some (some (.builtin "object.__class__"))) &&
  He.eqO (PySem.W.specialIn K (.builtin "object.__class__") "__get__") (some (some (.builtin "getset_descriptor.__get__"))) &&
  decide (PySem.W.takesIn K (.builtin "object.__class__") = some true) && decide (PySem.W.mroIn K C (.type "object") = some true) && PySem.W.selfFirst K C
theorem ownB_ok {K : PySem.W.Frag} {C : Addr} (h : ownB K C = true) : Own K C := by
  unfold ownB at h
  simp only [Bool.and_eq_true] at h
  obtain ⟨⟨⟨⟨⟨⟨⟨⟨h1, h2⟩, h3⟩, h4⟩, h5⟩, h6⟩, h7⟩, h8⟩, h9⟩ := h
  exact ⟨⟨h1, h2, h3, He.eqO_ok h4⟩, He.eqO_ok h5, He.eqO_ok h6, of_decide_eq_true h7, of_decide_eq_true h8, h9⟩
structure StaF (K : PySem.W.Frag) (C : Addr) (m : Str) (f : Addr) : Prop where
  rd : PySem.W.readsIn K C (.type "type") = true
  ga : PySem.W.specialIn K (.ref C) "__getattribute__" = some (some (.builtin "type.__getattribute__"))
  at_ : ∃ p, PySem.W.findCls K (.ref C) (.type "type") m = some (.get (.builtin "staticmethod.__get__") (.ref p) .none (.ref C)) ∧ ∃ rest, PySem.W.recIn K p "staticmethod" = some (.ref f :: rest)
def staB (K : PySem.W.Frag) (C : Addr) (m : Str) : Bool :=
  PySem.W.readsIn K C (.type "type") && He.eqO (PySem.W.specialIn K (.ref C) "__getattribute__") (some (some (.builtin "type.__getattribute__"))) && He5.wrapB K C "staticmethod" "staticmethod.__get__" m
theorem staB_ok {K : PySem.W.Frag} {C : Addr} {m : Str} (h : staB K C m = true) : StaF K C m (He5.wf K C "staticmethod" m) := by
  unfold staB at h
  simp only [Bool.and_eq_true] at h
  obtain ⟨⟨h1, h2⟩, h3⟩ := h
  obtain ⟨h4, h5⟩ := He5.wrapB_ok h3
  exact ⟨h1, He.eqO_ok h2, _, h4, h5⟩
/-- nothing leaves it -/
theorem cx0_of {P : Program} {w : World} {K : PySem.W.Frag} {mg : Str → Option Value} {base : Heap} {f : Addr} {fd : FuncData} {ps : List Str} {k : Nat} {sp : Sp} (G : FnOk P w K mg base (L2.CX P w) k f fd ps sp) (h : ∀ vs H Q E, sp vs H Q E → sp vs H Q E0) : FnOk P w K mg base CX0 k f fd ps sp :=
  ⟨G.len, fun A outer s H args us vs Q E hr e0 hb hv hs => codeAny_mono (G.run A outer s H args us vs Q E0 hr e0 hb hv (h _ _ _ _ hs)) fun r s' q => by
    cases r with
    | ok fl => cases fl <;> exact q
    | error e =>
      obtain ⟨_, _, _, _, _, _, _, _, _, _, _, _, z⟩ := q
      exact z.elim⟩
/-! ### from a def's promise to its contract -/
section
variable {P : Program} {w : World} {K : PySem.W.Frag} {mg : Str → Option Value} {base : Heap} {x q m : Str} {st : Stmt} {f C : Addr} {fd : FuncData} {ps : List Str} {k : Nat} {sp : Sp} {ks : List (Str × V)}
theorem fnr_of (F : FX K x q st [] ks f fd) (G : FnOk P w K mg base (L2.CX P w) k f fd ps sp)
    (b : ∀ (kV doc pm : Value) (an : Option Addr) (cdv ct : Value) (us : List Value), us.length = ps.length → bindArgs (PySem.W.fnOf x q (defArgs st) (defBody st) (defScope st) .none kV doc pm an cdv ct) ⟨us, []⟩ = pure (ps.zip us)) :
    FnR P w K mg base (L2.CX P w) k f sp := (G.raw (F.bindsN b) .nil).imp fun vs H Q E h => by
  show sp (vs ++ []) H Q E
  rw [List.append_nil]
  exact h
theorem cal_of (F : FX K x q st [] ks f fd) (hm : mg x = some (.ref f)) (G : FnOk P w K mg base (L2.CX P w) k f fd ps sp)
    (b : ∀ (kV doc pm : Value) (an : Option Addr) (cdv ct : Value) (us : List Value), us.length = ps.length → bindArgs (PySem.W.fnOf x q (defArgs st) (defBody st) (defScope st) .none kV doc pm an cdv ct) ⟨us, []⟩ = pure (ps.zip us)) :
    Cal P w K mg base x k sp := ⟨f, hm, F.kp, fnr_of F G b⟩
theorem met_of (F : FX K x q st [] ks f fd) (cl : Cls K C) (hm : Meth K C m f) (G : FnOk P w K mg base (L2.CX P w) k f fd ps sp)
    (b : ∀ (kV doc pm : Value) (an : Option Addr) (cdv ct : Value) (us : List Value), us.length = ps.length → bindArgs (PySem.W.fnOf x q (defArgs st) (defBody st) (defScope st) .none kV doc pm an cdv ct) ⟨us, []⟩ = pure (ps.zip us)) :
    Met P w K mg base C m k sp := ⟨cl, f, hm, fnr_of F G b⟩
theorem mak_of {y : Str} (F : FX K x q st [] ks f fd) (hm : mg y = some (.ref C)) (M : Mk K C f) (G : FnOk P w K mg base (L2.CX P w) k f fd ps sp)
    (b : ∀ (kV doc pm : Value) (an : Option Addr) (cdv ct : Value) (us : List Value), us.length = ps.length → bindArgs (PySem.W.fnOf x q (defArgs st) (defBody st) (defScope st) .none kV doc pm an cdv ct) ⟨us, []⟩ = pure (ps.zip us)) :
    Mak P w K mg base y C k sp := ⟨hm, f, M, fnr_of F G b⟩
theorem sta_of (F : FX K x q st [] ks f fd) (S : StaF K C m f) (G : FnOk P w K mg base (L2.CX P w) k f fd ps sp)
    (b : ∀ (kV doc pm : Value) (an : Option Addr) (cdv ct : Value) (us : List Value), us.length = ps.length → bindArgs (PySem.W.fnOf x q (defArgs st) (defBody st) (defScope st) .none kV doc pm an cdv ct) ⟨us, []⟩ = pure (ps.zip us)) :
    Sta P w K mg base C m k sp := by
  obtain ⟨p, h1, h2⟩ := S.at_
  exact ⟨S.rd, S.ga, p, f, h1, h2, F.kp, fnr_of F G b⟩
end
end TT

set_option Elab.async false
set_option linter.all false
set_option maxRecDepth 100000
set_option maxHeartbeats 4000000
namespace TT
open PySem PySem.Spec PyProof.Rows L2
def rMk (C : Addr) (sp : Sp) (E : XK) (vs : List V) (H : Hp) (Q : VK) : Prop := ∀ x dx, H x = none → H dx = none → dx ≠ x → sp (V.ref x :: vs) (upd (upd H dx (.own x)) x (.ins C dx [])) (fun v H2 => v = .non ∧ Q (.ref x) H2) E
def rLrg (a b : Int) (H : Hp) (Q : VK) : Prop := RgOk a b ∧ ∀ q, H q = none → Q (.ref q) (upd H q (.lst (rgV a b)))
/-- what is made stands on what stood -/
theorem a_mk {C : Addr} {sp : Sp} {E : XK} {vs : List V} {H : Hp} {Q : VK} (h : ∀ x dx H1, H x = none → Same H H1 → H1 x = some (.ins C dx []) → sp (V.ref x :: vs) H1 (fun v H2 => v = .non ∧ Q (.ref x) H2) E) : rMk C sp E vs H Q :=
  fun x dx hx hd _ => h x dx _ hx (same_mut (same_new hd) hx) upd_same
/-! ### comprehensions whose parts only make objects -/
section
variable {K : PySem.W.Frag} {J : It} {n j : Nat} {G : Hp → Prop} {Y : Nat → Hp → V → Hp → Prop} {σ : L2.St} {H H1 : Hp} {te : TE} {tt : TT} {Q : VK}
theorem set_none (σ : L2.St) (j : Nat) (x : Option V) : ((σ.set j none).set j x).set j none = σ.set j none := by
  rw [List.set_set, List.set_set]
theorem filt_succ {α : Type} (b : Nat → Bool) (f : Nat → α) (i : Nat) : ((List.range (i + 1)).filter b).map f = ((List.range i).filter b).map f ++ (if b i = true then [f i] else []) := by
  rw [List.range_succ, List.filter_append, List.map_append]
  cases h : b i <;> simp [h]
theorem filt_len (b : Nat → Bool) (f : Nat → V) (i : Nat) : (((List.range i).filter b).map f).length ≤ i := by
  rw [List.length_map]
  exact Nat.le_trans (List.length_filter_le _ _) (by rw [List.length_range]; exact Nat.le_refl i)
theorem lc_f (w : Walk J n G Y) (b : Nat → Bool) (f : Nat → V) (hn : n ≤ 100000) (hG : ∀ H', Same H1 H' → G H')
    (hs : ∀ i x H' H2, i < n → Same H1 H' → Y i H' x H2 → Same H' H2 ∧ (∀ R : Bool → Hp → Prop, (∀ H3, Same H2 H3 → R (b i) H3) → tt ((σ.set j none).set j (some x)) H2 R) ∧
      (b i = true → ∀ H3, Same H2 H3 → ∀ R : VK, (∀ H4, Same H3 H4 → R (f i) H4) → te ((σ.set j none).set j (some x)) H3 R))
    (hd : ∀ D H', H1 D = none → Same H1 H' → H' D = some (.lst (((List.range n).filter b).map f)) → Q (.ref D) H') :
    ∀ D, H1 D = none → ∃ W : Nat → Nat → Hp → Prop, (∃ m, W 0 m (upd H1 D (.lst []))) ∧ ∀ i m H, W i m H →
      (J.stop i H ∧ Q (.ref D) H) ∨ (J.go i H ∧ ∃ Nx : Hp → Prop, (∀ H', Nx H' → ∃ m', m' < m ∧ W (i + 1) m' H') ∧ ∀ x H', J.yld i H x H' → gName j x (wipe σ [j]) H' fun σ2 H2 => wipe σ2 [j] = wipe σ [j] ∧ tt σ2 H2 fun b H3 =>
        if b = true then te σ2 H3 fun y H4 => ∃ acc, H4 D = some (.lst acc) ∧ acc.length < sizeLine ∧ Nx (upd H4 D (.lst (acc ++ [y]))) else Nx H3) := by
  intro D hD
  refine lc_it w (fun i H' => Same H1 H' ∧ H' D = some (.lst (((List.range i).filter b).map f))) ⟨same_new hD, upd_same⟩ (fun i H' _ q => hG H' q.1) ?_ fun H' q => hd D H' hD q.1 q.2
  rintro i x H' H2 hi ⟨q1, q2⟩ hy
  obtain ⟨s2, htt, hte⟩ := hs i x H' H2 hi q1 hy
  refine ⟨set_none σ j (some x), htt _ fun H3 s3 => ?_⟩
  have e3 := s3 _ _ (s2 _ _ q2)
  cases hb : b i with
  | false =>
    rw [if_neg Bool.false_ne_true]
    refine ⟨(q1.trans s2).trans s3, ?_⟩
    rw [e3, filt_succ, hb]
    simp
  | true =>
    rw [if_pos rfl]
    refine hte hb H3 s3 _ fun H4 s4 => ⟨_, s4 _ _ e3, szl (Nat.lt_of_le_of_lt (filt_len b f i) (by omega)), ?_⟩
    refine ⟨same_mut (((q1.trans s2).trans s3).trans s4) hD, ?_⟩
    rw [upd_same, filt_succ, hb]
    rfl
theorem lc_1 (w : Walk J n G Y) (f : Nat → V) (hn : n ≤ 100000) (hG : ∀ H', Same H1 H' → G H')
    (hs : ∀ i x H' H2, i < n → Same H1 H' → Y i H' x H2 → Same H' H2 ∧ ∀ R : VK, (∀ H4, Same H2 H4 → R (f i) H4) → te ((σ.set j none).set j (some x)) H2 R)
    (hd : ∀ D H', H1 D = none → Same H1 H' → H' D = some (.lst ((List.range n).map f)) → Q (.ref D) H') :
    ∀ D, H1 D = none → ∃ W : Nat → Nat → Hp → Prop, (∃ m, W 0 m (upd H1 D (.lst []))) ∧ ∀ i m H, W i m H →
      (J.stop i H ∧ Q (.ref D) H) ∨ (J.go i H ∧ ∃ Nx : Hp → Prop, (∀ H', Nx H' → ∃ m', m' < m ∧ W (i + 1) m' H') ∧ ∀ x H', J.yld i H x H' → gName j x (wipe σ [j]) H' fun σ2 H2 => wipe σ2 [j] = wipe σ [j] ∧ tYes σ2 H2 fun b H3 =>
        if b = true then te σ2 H3 fun y H4 => ∃ acc, H4 D = some (.lst acc) ∧ acc.length < sizeLine ∧ Nx (upd H4 D (.lst (acc ++ [y]))) else Nx H3) := by
  intro D hD
  refine lc_it w (fun i H' => Same H1 H' ∧ H' D = some (.lst ((List.range i).map f))) ⟨same_new hD, upd_same⟩ (fun i H' _ q => hG H' q.1) ?_ fun H' q => hd D H' hD q.1 q.2
  rintro i x H' H2 hi ⟨q1, q2⟩ hy
  obtain ⟨s2, hte⟩ := hs i x H' H2 hi q1 hy
  refine ⟨set_none σ j (some x), ?_⟩
  unfold tYes
  dsimp only
  rw [if_pos rfl]
  refine hte _ fun H4 s4 => ⟨_, s4 _ _ (s2 _ _ q2), szl (by rw [List.length_map, List.length_range]; omega), same_mut ((q1.trans s2).trans s4) hD, ?_⟩
  rw [upd_same, List.range_succ, List.map_append]
  rfl
/-- over a list, a tuple, a range: the i-th value of the target -/
theorem c_l {tl : TE} {xs : List V} (f : Nat → V) (hn : xs.length ≤ 100000) (hl : ∀ R : VK, (∀ a H1, Same H H1 → SqL K H1 a xs → R (.ref a) H1) → tl σ H R)
    (hs : ∀ i x H', xs[i]? = some x → Same H H' → ∀ R : VK, (∀ H4, Same H' H4 → R (f i) H4) → te ((σ.set j none).set j (some x)) H' R)
    (hd : ∀ D H', H D = none → Same H H' → H' D = some (.lst ((List.range xs.length).map f)) → Q (.ref D) H') : tLc (iList K tl) (gName j) tYes te [j] σ H Q := by
  refine hl _ fun a H1 s1 h => ⟨a, rfl, ⟨xs, h⟩, lc_1 walk_list f hn (fun H' s => same_l s h) (fun i x H' H2 hi s y => ?_) fun D H' n s e => hd D H' (s1.free n) (s1.trans s) e⟩
  obtain ⟨rfl, e⟩ := y
  exact ⟨Same.refl _, hs i x _ e (s1.trans s)⟩
theorem c_t {tl : TE} {xs : List V} (f : Nat → V) (hn : xs.length ≤ 100000) (hl : ∀ R : VK, (∀ a H1, Same H H1 → SqT K H1 a xs → R (.ref a) H1) → tl σ H R)
    (hs : ∀ i x H', xs[i]? = some x → Same H H' → ∀ R : VK, (∀ H4, Same H' H4 → R (f i) H4) → te ((σ.set j none).set j (some x)) H' R)
    (hd : ∀ D H', H D = none → Same H H' → H' D = some (.lst ((List.range xs.length).map f)) → Q (.ref D) H') : tLc (iTup K tl) (gName j) tYes te [j] σ H Q := by
  refine hl _ fun a H1 s1 h => ⟨a, rfl, ⟨xs, h⟩, lc_1 walk_tup f hn (fun H' s => same_t s h) (fun i x H' H2 hi s y => ?_) fun D H' n s e => hd D H' (s1.free n) (s1.trans s) e⟩
  obtain ⟨rfl, e⟩ := y
  exact ⟨Same.refl _, hs i x _ e (s1.trans s)⟩
theorem c_r {ta : TA} {k : Nat} (f : Nat → V) (hn : k ≤ 100000) (hl : ∀ R : List V → Hp → Prop, (∀ H1, Same H H1 → R [.int (k : Nat)] H1) → ta σ H R)
    (hs : ∀ (i : Nat) H', i < k → Same H H' → ∀ R : VK, (∀ H4, Same H' H4 → R (f i) H4) → te ((σ.set j none).set j (some (.int (i : Nat)))) H' R)
    (hd : ∀ D H', H D = none → Same H H' → H' D = some (.lst ((List.range k).map f)) → Q (.ref D) H') : tLc (iRng1 ta) (gName j) tYes te [j] σ H Q := by
  refine hl _ fun H1 s1 => ⟨(k : Int), rfl, by omega, by omega, lc_1 walk_range f (by omega) (fun _ _ => True.intro) (fun i x H' H2 hi s y => ?_) fun D H' n s e => hd D H' (s1.free n) (s1.trans s) e⟩
  obtain ⟨rfl, e⟩ := y
  subst e
  refine ⟨Same.refl _, ?_⟩
  have e0 : (0 : Int) + (i : Int) = i := by omega
  show ∀ R : VK, _ → te ((σ.set j none).set j (some (.int (0 + (i : Int))))) H2 R
  rw [e0]
  exact hs i _ (by omega) (s1.trans s)
/-! .. with a test -/
theorem cf_l {tl : TE} {xs : List V} (b : Nat → Bool) (f : Nat → V) (hn : xs.length ≤ 100000) (hl : ∀ R : VK, (∀ a H1, Same H H1 → SqL K H1 a xs → R (.ref a) H1) → tl σ H R)
    (hs : ∀ i x H', xs[i]? = some x → Same H H' → (∀ R : Bool → Hp → Prop, (∀ H3, Same H' H3 → R (b i) H3) → tt ((σ.set j none).set j (some x)) H' R) ∧
      (b i = true → ∀ H3, Same H' H3 → ∀ R : VK, (∀ H4, Same H3 H4 → R (f i) H4) → te ((σ.set j none).set j (some x)) H3 R))
    (hd : ∀ D H', H D = none → Same H H' → H' D = some (.lst (((List.range xs.length).filter b).map f)) → Q (.ref D) H') : tLc (iList K tl) (gName j) tt te [j] σ H Q := by
  refine hl _ fun a H1 s1 h => ⟨a, rfl, ⟨xs, h⟩, lc_f walk_list b f hn (fun H' s => same_l s h) (fun i x H' H2 hi s y => ?_) fun D H' n s e => hd D H' (s1.free n) (s1.trans s) e⟩
  obtain ⟨rfl, e⟩ := y
  exact ⟨Same.refl _, hs i x _ e (s1.trans s)⟩
theorem cf_t {tl : TE} {xs : List V} (b : Nat → Bool) (f : Nat → V) (hn : xs.length ≤ 100000) (hl : ∀ R : VK, (∀ a H1, Same H H1 → SqT K H1 a xs → R (.ref a) H1) → tl σ H R)
    (hs : ∀ i x H', xs[i]? = some x → Same H H' → (∀ R : Bool → Hp → Prop, (∀ H3, Same H' H3 → R (b i) H3) → tt ((σ.set j none).set j (some x)) H' R) ∧
      (b i = true → ∀ H3, Same H' H3 → ∀ R : VK, (∀ H4, Same H3 H4 → R (f i) H4) → te ((σ.set j none).set j (some x)) H3 R))
    (hd : ∀ D H', H D = none → Same H H' → H' D = some (.lst (((List.range xs.length).filter b).map f)) → Q (.ref D) H') : tLc (iTup K tl) (gName j) tt te [j] σ H Q := by
  refine hl _ fun a H1 s1 h => ⟨a, rfl, ⟨xs, h⟩, lc_f walk_tup b f hn (fun H' s => same_t s h) (fun i x H' H2 hi s y => ?_) fun D H' n s e => hd D H' (s1.free n) (s1.trans s) e⟩
  obtain ⟨rfl, e⟩ := y
  exact ⟨Same.refl _, hs i x _ e (s1.trans s)⟩
theorem cf_r {ta : TA} {k : Nat} (b : Nat → Bool) (f : Nat → V) (hn : k ≤ 100000) (hl : ∀ R : List V → Hp → Prop, (∀ H1, Same H H1 → R [.int (k : Nat)] H1) → ta σ H R)
    (hs : ∀ (i : Nat) H', i < k → Same H H' → (∀ R : Bool → Hp → Prop, (∀ H3, Same H' H3 → R (b i) H3) → tt ((σ.set j none).set j (some (.int (i : Nat)))) H' R) ∧
      (b i = true → ∀ H3, Same H' H3 → ∀ R : VK, (∀ H4, Same H3 H4 → R (f i) H4) → te ((σ.set j none).set j (some (.int (i : Nat)))) H3 R))
    (hd : ∀ D H', H D = none → Same H H' → H' D = some (.lst (((List.range k).filter b).map f)) → Q (.ref D) H') : tLc (iRng1 ta) (gName j) tt te [j] σ H Q := by
  refine hl _ fun H1 s1 => ⟨(k : Int), rfl, by omega, by omega, lc_f walk_range b f (by omega) (fun _ _ => True.intro) (fun i x H' H2 hi s y => ?_) fun D H' n s e => hd D H' (s1.free n) (s1.trans s) e⟩
  obtain ⟨rfl, e⟩ := y
  subst e
  refine ⟨Same.refl _, ?_⟩
  have e0 : (0 : Int) + (i : Int) = i := by omega
  dsimp only
  rw [e0]
  exact hs i _ (by omega) (s1.trans s)
theorem g_lcT {wi : TI} {g : TG} {vs : List Nat} (h : wi σ H fun J H1 => ∀ D, H1 D = none → ∃ W : Nat → Nat → Hp → Prop, (∃ m, W 0 m (upd H1 D (.lst []))) ∧ ∀ i m H, W i m H →
      (J.stop i H ∧ Q (.ref D) H) ∨ (J.go i H ∧ ∃ Nx : Hp → Prop, (∀ H', Nx H' → ∃ m', m' < m ∧ W (i + 1) m' H') ∧ ∀ x H', J.yld i H x H' → g x (wipe σ vs) H' fun σ2 H2 => wipe σ2 vs = wipe σ vs ∧ tt σ2 H2 fun b H3 =>
        if b = true then te σ2 H3 fun y H4 => ∃ acc, H4 D = some (.lst acc) ∧ acc.length < sizeLine ∧ Nx (upd H4 D (.lst (acc ++ [y]))) else Nx H3)) : tLc wi g tt te vs σ H Q := h
theorem g_iTup {tl : TE} {R : It → Hp → Prop} (h : tl σ H fun x H1 => ∃ a, x = .ref a ∧ (∃ xs, SqT K H1 a xs) ∧ R (Itt K a) H1) : iTup K tl σ H R := h
theorem g_iList {tl : TE} {R : It → Hp → Prop} (h : tl σ H fun x H1 => ∃ a, x = .ref a ∧ (∃ xs, SqL K H1 a xs) ∧ R (Itl K a) H1) : iList K tl σ H R := h
theorem g_iRng {ta : TA} {R : It → Hp → Prop} (h : ta σ H fun vs H1 => ∃ j : Int, vs = [.int j] ∧ -(2 ^ 62) ≤ j ∧ j < 2 ^ 62 ∧ R (Itr 0 j.toNat) H1) : iRng1 ta σ H R := h
theorem g_iEt {ta : TA} {R : It → Hp → Prop} (h : ta σ H fun vs H1 => ∃ a xs, vs = [.ref a] ∧ SqT K H1 a xs ∧ R (Iet K a) H1) : iEt K ta σ H R := h
theorem g_iEn {ta : TA} {R : It → Hp → Prop} (h : ta σ H fun vs H1 => ∃ a xs, vs = [.ref a] ∧ SqL K H1 a xs ∧ R (Ite K a) H1) : iEnum K ta σ H R := h
theorem g_for {wi : TI} {g : TG} {tb : TS} {D : Ends} (h : wi σ H fun J H1 => ∃ W : Nat → Nat → L2.St → Hp → Prop, (∃ m, W 0 m σ H1) ∧ ∀ i m σ H, W i m σ H →
      (J.stop i H ∧ D.nx σ H) ∨ (J.go i H ∧ ∃ N : L2.St → Hp → Prop, (∀ σ' H', N σ' H' → ∃ m', m' < m ∧ W (i + 1) m' σ' H') ∧ ∀ x H', J.yld i H x H' → g x σ H' fun σ2 H2 => tb { D with nx := N, ct := N, bk := D.nx } σ2 H2)) : tFor wi g tb D σ H := h
theorem g_mk {C : Addr} {sp : Sp} {E : XK} {ts : TA} (h : ts σ H fun vs H1 => rMk C sp E vs H1 Q) : StX.tMakeR C sp E ts σ H Q := h
theorem g_lrg {tr : L2.St → Hp → (Int → Int → Hp → Prop) → Prop} (h : tr σ H fun a b H1 => rLrg a b H1 Q) : tLstRg tr σ H Q := h
theorem g_rg1 {ta : TE} {R : Int → Int → Hp → Prop} (h : ta σ H fun x H1 => ∃ n, x = .int n ∧ R 0 n H1) : tRg1 ta σ H R := h
theorem g_yes {R : Bool → Hp → Prop} (h : R true H) : tYes σ H R := h
theorem g_gtup {t : TGs} {k : Nat} {a : Addr} {xs : List V} {R : L2.St → Hp → Prop} (h : SqT K H a xs) (hn : xs.length = k) (q : t xs σ H R) : gTup K k t (.ref a) σ H R := ⟨a, xs, rfl, h, hn, q⟩
theorem g_gcons {t : TG} {u : TGs} {v : V} {r : List V} {R : L2.St → Hp → Prop} (q : t v σ H fun σ' H' => u r σ' H' R) : gCons t u (v :: r) σ H R := ⟨v, r, rfl, q⟩
theorem g_gnil {R : L2.St → Hp → Prop} (q : R σ H) : gNil [] σ H R := ⟨rfl, q⟩
theorem g_gname {i : Nat} {v : V} {R : L2.St → Hp → Prop} (q : R (σ.set i (some v)) H) : gName i v σ H R := q
/-- x(e, ..), x an instance of C -/
def tCO (C : Addr) (sp : Sp) (E : XK) (tf : TE) (t : TA) : TE := fun σ H Q => tf σ H fun y H1 => ∃ a, y = V.ref a ∧ t σ H1 fun vs H2 => (∃ dx fs, H2 a = some (.ins C dx fs)) ∧ sp (V.ref a :: vs) H2 Q E
theorem pe_co {X : Cx} {C : Addr} {sp : Sp} {E : XK} {k i : Nat} {fe e : Expr} {es : List Expr} {tf : TE} {t : TA} {pos : Pos} (c : Met X.prog X.w X.K X.mg X.base C "__call__" k sp) (fi : ∀ g, Meth X.K C "__call__" g → PySem.W.fnIn X.K g = true) (hr : Room i X.A) (hk : k ≤ i) (hx : Passes (L2.CX X.prog X.w) X E) (hf : PE X fe tf) (ha : PA X (e :: es) t)
    (h1 : eval (.Call fe (e :: es) [] pos) X.env = (eval fe X.env >>= fun z => callWith pos z [] (backTo pos (starEach (e :: es) X.env)) (backToKw pos (keywordEach [] X.env))) := by rfl)
    (h2 : starEach (e :: es) X.env = (false, eval e X.env) :: starEach es X.env := by rfl) (h3 : (backTo pos (starEach es X.env)).any (·.1) = false := by rfl) : PE X (.Call fe (e :: es) [] pos) (tCO C sp E tf t) := ⟨fun pins s σ H Q I h => by
  obtain ⟨g, hm, F⟩ := c.ex
  refine Call_ (thn (hf.run pins s σ H _ I h) fun u s1 hh => ?_) h1
  obtain ⟨y, H1, I1, ry, a, ey, q⟩ := hh
  subst ey
  cases (show u = Value.ref a from ry)
  refine StX.callO_with (thn (ha.run pos pins s1 σ H1 _ I1 q) fun us s2 hh2 => ?_) h2 h3
  obtain ⟨vs, H2, I2, r, ⟨dx, fs, hi⟩, q2⟩ := hh2
  obtain ⟨ox, od, J, hd⟩ := StX.insC_at (C := C) I2 (.inr ⟨dx, fs, hi⟩)
  exact ⟨⟨C, ox, od, J, hd⟩, StX.run_callO ⟨hm.at_, hm.fn, fi g hm⟩ F (hr.mono hk) hx I2 (.inr ⟨dx, fs, hi⟩) r q2⟩⟩
theorem g_co {C : Addr} {sp : Sp} {E : XK} {tf : TE} {t : TA} (h : tf σ H fun y H1 => ∃ a, y = V.ref a ∧ t σ H1 fun vs H2 => (∃ dx fs, H2 a = some (.ins C dx fs)) ∧ sp (V.ref a :: vs) H2 Q E) : tCO C sp E tf t σ H Q := h
theorem a_ref {a : Addr} {R : Addr → Prop} (h : R a) : ∃ b, V.ref a = .ref b ∧ R b := ⟨a, rfl, h⟩
theorem a_pop {p : Addr} {L : List V} {m : Int} {k : Nat} {y : V} (h : H p = some (.lst L)) (e : m = (k : Int)) (hk : L[k]? = some y) (hl : L.length ≤ 100000) (q : ∀ H2, But p H H2 → H2 p = some (.lst (L.eraseIdx k)) → Q y H2) : rPopAt (.ref p) [.int m] H Q := by
  have hlt := (List.getElem?_eq_some_iff.mp hk).1
  refine ⟨p, L, m, k, y, rfl, rfl, h, by omega, by omega, ?_, hk, q _ But.upd upd_same⟩
  subst e
  exact (L2.ixN_seq (by unfold ixN; rw [if_pos (by omega), if_pos (by omega)]; rfl)).1
theorem a_truB {b : Bool} {R : Bool → Prop} (h : R b) : ∃ k, TruV K (.bl b) H k ∧ R k := ⟨b, rfl, h⟩
theorem a_truI {m : Int} {R : Bool → Prop} (h : R (m != 0)) : ∃ k, TruV K (.int m) H k ∧ R k := ⟨_, rfl, h⟩
theorem a_truL {p : Addr} {xs : List V} {R : Bool → Prop} (e : SqL K H p xs) (h : R (!xs.isEmpty)) : ∃ k, TruV K (.ref p) H k ∧ R k := ⟨_, .inl ⟨xs, e, rfl⟩, h⟩
theorem a_truT {p : Addr} {xs : List V} {R : Bool → Prop} (e : SqT K H p xs) (h : R (!xs.isEmpty)) : ∃ k, TruV K (.ref p) H k ∧ R k := ⟨_, .inr (.inl ⟨xs, e, rfl⟩), h⟩
theorem a_nyes {c A B : Prop} [Decidable c] (hc : c) (h : B) : if (!decide c) = true then A else B := iteNS hc h
theorem a_nno {c A B : Prop} [Decidable c] (hc : ¬ c) (h : A) : if (!decide c) = true then A else B := by
  rw [if_pos (by rw [decide_eq_false hc]; rfl)]; exact h
theorem a_lrg {n : Int} (h0 : 0 ≤ n) (hn : n ≤ 100000) (q : ∀ p H2, H p = none → Same H H2 → H2 p = some (.lst ((List.range n.toNat).map fun i => V.int (i : Nat))) → Q (.ref p) H2) :
    rLrg 0 n H Q := by
  refine ⟨⟨by omega, by omega, by omega, by omega, by omega⟩, fun p hp => q p _ hp (same_new hp) ?_⟩
  rw [upd_same]
  have e : rgV 0 n = (List.range n.toNat).map fun i => V.int (i : Nat) := by
    unfold rgV
    rw [Int.sub_zero]
    apply List.map_congr_left
    intro i _
    rw [Int.zero_add]
  rw [e]
end
end TT

set_option Elab.async false
set_option linter.all false
set_option maxRecDepth 100000
set_option maxHeartbeats 4000000
namespace TT
open PySem PySem.Spec PyProof.Rows L2
/-! ### plain lists -/
theorem sub_len {α : Type} [DecidableEq α] : ∀ {l m : List α}, l.Nodup → (∀ x ∈ l, x ∈ m) → l.length ≤ m.length
  | [], _, _, _ => Nat.zero_le _
  | a :: l, m, nd, h => by
    have na := List.nodup_cons.mp nd
    have ha : a ∈ m := h a (List.mem_cons_self ..)
    have ih := sub_len (l := l) (m := m.erase a) na.2 fun x hx => (List.mem_erase_of_ne (fun e => na.1 (by rw [← e]; exact hx))).mpr (h x (List.mem_cons_of_mem _ hx))
    have e := List.length_erase_of_mem ha
    have p : 0 < m.length := List.length_pos_of_mem ha
    show l.length + 1 ≤ m.length
    omega
/-- an image of a permutation -/
structure OkImg (a : List Nat) : Prop where
  nd : a.Nodup
  lt : ∀ x ∈ a, x < a.length
theorem OkImg.has {a : List Nat} (h : OkImg a) {j : Nat} (hj : j < a.length) : j ∈ a := by
  by_cases hm : j ∈ a
  · exact hm
  · have := sub_len (l := j :: a) (m := List.range a.length) (List.nodup_cons.mpr ⟨hm, h.nd⟩) fun x hx => by
      rw [List.mem_range]
      rcases List.mem_cons.mp hx with rfl | hx
      · exact hj
      · exact h.lt x hx
    rw [List.length_range, List.length_cons] at this
    omega
theorem nd_inj {a : List Nat} (nd : a.Nodup) {i j : Nat} (hi : i < a.length) (hj : j < a.length) (e : a[i] = a[j]) : i = j :=
  L2.nd_ix nd (List.getElem?_eq_getElem hi) (by rw [List.getElem?_eq_getElem hj, e])
theorem idx_at {a : List Nat} {j : Nat} (h : j ∈ a) : ∃ hl : a.idxOf j < a.length, a[a.idxOf j] = j := by
  have hl := List.idxOf_lt_length_of_mem h
  exact ⟨hl, List.getElem_idxOf hl⟩
theorem idx_uniq {a : List Nat} (nd : a.Nodup) {i j : Nat} (hi : i < a.length) (e : a[i] = j) : a.idxOf j = i := by
  have hm : j ∈ a := e ▸ List.getElem_mem hi
  obtain ⟨hl, hx⟩ := idx_at hm
  exact nd_inj nd hl hi (by rw [hx, e])
def comp (a b : List Nat) : List Nat := a.map fun i => b.getD i 0
def inv (a : List Nat) : List Nat := (List.range a.length).map fun j => a.idxOf j
theorem comp_len (a b : List Nat) : (comp a b).length = a.length := List.length_map _
theorem inv_len (a : List Nat) : (inv a).length = a.length := by unfold inv; rw [List.length_map, List.length_range]
theorem getD_lt {b : List Nat} {i : Nat} (h : i < b.length) : b.getD i 0 = b[i] := by
  rw [List.getD_eq_getElem?_getD, List.getElem?_eq_getElem h]
  rfl
theorem comp_get {a b : List Nat} {i : Nat} (h : i < a.length) (h' : i < (comp a b).length := by rw [comp_len]; assumption) : (comp a b)[i] = b.getD a[i] 0 := by
  simp [comp]
theorem inv_get {a : List Nat} {i : Nat} (h : i < (inv a).length) : (inv a)[i] = a.idxOf i := by
  simp [inv]
theorem OkImg.of_inj {a : List Nat} (h : ∀ i j (hi : i < a.length) (hj : j < a.length), a[i] = a[j] → i = j) (l : ∀ i (hi : i < a.length), a[i] < a.length) : OkImg a := by
  refine ⟨?_, fun x hx => ?_⟩
  · rw [List.nodup_iff_pairwise_ne]
    rw [List.pairwise_iff_getElem]
    intro i j hi hj hij e
    exact absurd (h i j hi hj e) (Nat.ne_of_lt hij)
  · obtain ⟨i, hi, e⟩ := List.getElem_of_mem hx
    rw [← e]
    exact l i hi
theorem OkImg.comp {a b : List Nat} (ha : OkImg a) (hb : OkImg b) (e : a.length = b.length) : OkImg (TT.comp a b) := by
  have hl : ∀ i (hi : i < a.length), a[i] < b.length := fun i hi => e ▸ ha.lt _ (List.getElem_mem hi)
  refine .of_inj (fun i j hi hj q => ?_) fun i hi => ?_
  · rw [comp_len] at hi hj
    rw [comp_get hi, comp_get hj, getD_lt (hl i hi), getD_lt (hl j hj)] at q
    exact nd_inj ha.nd hi hj (nd_inj hb.nd (hl i hi) (hl j hj) q)
  · rw [comp_len] at hi ⊢
    rw [comp_get hi, getD_lt (hl i hi), e]
    exact hb.lt _ (List.getElem_mem _)
theorem OkImg.inv {a : List Nat} (ha : OkImg a) : OkImg (TT.inv a) := by
  refine .of_inj (fun i j hi hj q => ?_) fun i hi => ?_
  · rw [inv_get, inv_get] at q
    rw [inv_len] at hi hj
    obtain ⟨h1, h2⟩ := idx_at (ha.has hi)
    obtain ⟨h3, h4⟩ := idx_at (ha.has hj)
    rw [← h2, ← h4]
    exact getElem_congr_idx q
  · rw [inv_get]
    rw [inv_len] at hi ⊢
    exact (idx_at (ha.has hi)).1
theorem OkImg.range (n : Nat) : OkImg (List.range n) := ⟨List.nodup_range, fun x hx => by rw [List.length_range]; exact List.mem_range.mp hx⟩
theorem comp_inv {a : List Nat} (ha : OkImg a) : comp a (inv a) = List.range a.length := by
  refine List.ext_getElem (by rw [comp_len, List.length_range]) fun i h1 h2 => ?_
  rw [comp_len] at h1
  rw [comp_get h1, List.getElem_range, getD_lt (by rw [inv_len]; exact ha.lt _ (List.getElem_mem _)), inv_get]
  exact idx_uniq ha.nd h1 rfl
theorem inv_comp {a b : List Nat} (ha : OkImg a) (hb : OkImg b) (e : a.length = b.length) : inv (comp a b) = comp (inv b) (inv a) := by
  refine List.ext_getElem (by rw [inv_len, comp_len, comp_len, inv_len, e]) fun j h1 h2 => ?_
  rw [inv_get]
  rw [inv_len, comp_len] at h1
  have hj : j < b.length := e ▸ h1
  obtain ⟨p1, p2⟩ := idx_at (hb.has hj)
  have hk : b.idxOf j < a.length := by rw [e]; exact p1
  obtain ⟨p3, p4⟩ := idx_at (ha.has hk)
  have hj' : j < (inv b).length := by rw [inv_len]; exact hj
  rw [comp_get hj', inv_get, getD_lt (by rw [inv_len]; exact hk), inv_get]
  refine idx_uniq (ha.comp hb e).nd (by rw [comp_len]; exact p3) ?_
  rw [comp_get p3, p4, getD_lt p1, p2]
/-! ### values -/
def vi (a : List Nat) : List V := a.map fun n => V.int (n : Nat)
def di (a : List Nat) : List PyData := a.map fun n => PyData.int (n : Nat)
theorem vi_len (a : List Nat) : (vi a).length = a.length := List.length_map _
theorem vi_get {a : List Nat} {i : Nat} {x : V} (h : (vi a)[i]? = some x) : ∃ hi : i < a.length, x = V.int (a[i] : Nat) := by
  obtain ⟨h1, h2⟩ := List.getElem?_eq_some_iff.mp h
  rw [vi_len] at h1
  refine ⟨h1, ?_⟩
  rw [← h2]
  simp [vi]
theorem vi_at {a : List Nat} {i : Nat} (h : i < a.length) : (vi a)[i]? = some (V.int (a[i] : Nat)) := by
  unfold vi
  rw [List.getElem?_map, List.getElem?_eq_getElem h]
  rfl
theorem dp_vi {K : PySem.W.Frag} {H : Hp} : ∀ a : List Nat, DpAll K H (vi a) (di a)
  | [] => .nil
  | n :: a => .cons (.int _) (dp_vi a)
theorem lay_di : ∀ a : List Nat, PyData.canLayAll0 (di a) = true
  | [] => by simp [di, PyData.canLayAll0]
  | n :: a => by
    have ih := lay_di a
    simp [di, PyData.canLayAll0, PyData.canLay0] at ih ⊢
    exact ih
theorem dep_di : ∀ a : List Nat, PyData.depthAll (di a) ≤ 1
  | [] => by simp [di, PyData.depthAll]
  | n :: a => by
    have ih := dep_di a
    simp [di, PyData.depthAll, PyData.depth] at ih ⊢
    omega
theorem sh_t (a : List Nat) : SeqAt.shaped (.tuple (di a)) = true := by
  unfold SeqAt.shaped
  have h1 := lay_di a
  have h2 := dep_di a
  simp [PyData.canLay0, PyData.depth, h1]
  omega
theorem sh_l (a : List Nat) : SeqAt.shaped (.list (di a)) = true := by
  unfold SeqAt.shaped
  have h1 := lay_di a
  have h2 := dep_di a
  simp [PyData.canLay0, PyData.depth, h1]
  omega
theorem eqv_di : ∀ a b : List Nat, PyData.eqvAll (di a) (di b) = decide (a = b)
  | [], [] => by simp [di, PyData.eqvAll]
  | [], _ :: _ => by simp [di, PyData.eqvAll]
  | _ :: _, [] => by simp [di, PyData.eqvAll]
  | n :: a, m :: b => by
    have ih := eqv_di a b
    simp only [di, List.map_cons, PyData.eqvAll, PyData.eqv] at ih ⊢
    rw [ih]
    by_cases h : n = m
    · subst h
      simp
    · have h' : ((n : Int) == (m : Int)) = false := by
        rw [beq_eq_false_iff_ne]
        omega
      rw [h']
      simp [h]
theorem eqv_tt (a b : List Nat) : PyData.eqv (.tuple (di a)) (.tuple (di b)) = decide (a = b) := by
  simp only [PyData.eqv]
  exact eqv_di a b
theorem eqv_ll (a b : List Nat) : PyData.eqv (.list (di a)) (.list (di b)) = decide (a = b) := by
  simp only [PyData.eqv]
  exact eqv_di a b
end TT

set_option Elab.async false
set_option linter.all false
set_option maxRecDepth 100000
set_option maxHeartbeats 4000000
namespace TT
open PySem PySem.Spec PyProof.Rows L2
/-! ### errors of the program: classes below ValueError by way of a class of the program -/
structure Err (K : PySem.W.Frag) (C : Addr) : Prop where
  ox : OexC K C
  xf : XfC K C
  ca : PySem.W.findIn K (.ref C) "__class__" = some (some (.builtin "object.__class__"))
  cn : PySem.W.specialIn K (.builtin "object.__class__") "__get__" = some (some (.builtin "getset_descriptor.__get__"))
  ct : PySem.W.takesIn K (.builtin "object.__class__") = some true
  cm : PySem.W.mroIn K C (.type "object") = some true
  ic : (PySem.W.clsIn K C).isSome = true
  em : PySem.W.exmOne K (.ref C) (.ref C) = some true
def oexB (K : PySem.W.Frag) (C : Addr) : Bool := match K.lookup C with
  | some ⟨.type "type", _, .cls cd, sl⟩ => (match cd.mro, sl.toList with
    | .ref D :: bm, [_, _, _, _, some (.builtin n), _] => D == C && n == "ValueError.__new__" && !cd.hasDel && cd.hasDict && PySem.HandSPX.refsVE bm
    | _, _ => false)
  | _ => false
theorem oexB_ok {K : PySem.W.Frag} {C : Addr} (q : oexB K C = true) :
    ∃ nm q N bs bm sn sub ab col dd k0 k1 k2 k3 k5, K.lookup C = some (excClassObj nm q C N bs bm true sn sub ab col dd k0 k1 k2 k3 k5 "ValueError.__new__") ∧ PySem.HandSPX.refsVE bm = true := by
  unfold oexB at q
  split at q
  · rename_i dd cd sl ho
    split at q
    · rename_i D bm a0 a1 a2 a3 n a5 hm hs
      simp only [Bool.and_eq_true, beq_iff_eq, Bool.not_eq_true'] at q
      obtain ⟨⟨⟨⟨rfl, rfl⟩, q1⟩, q2⟩, q3⟩ := q
      obtain ⟨nm, bs, mro, ns, qn, hd, sn, sub, ab, col, dl⟩ := cd
      dsimp only at hm q1 q2
      subst hm q1 q2
      have es : sl = #[a0, a1, a2, a3, some (.builtin "ValueError.__new__"), a5] := by
        cases sl
        simp only at hs
        rw [hs]
      subst es
      exact ⟨nm, qn, ns, bs, bm, sn, sub, ab, col, dd, a0, a1, a2, a3, a5, ho, q3⟩
    · cases q
  · cases q
def errB (K : PySem.W.Frag) (C : Addr) : Bool :=
  oexB K C && He.eqO (PySem.W.findIn K (.ref C) "__setattr__") (some (some (.builtin "object.__setattr__"))) && decide (PySem.W.subIn K (.ref C) (.type "BaseException") = some true) &&
  (PySem.W.typeIn K (.ref C) == some (.type "type")) && PySem.W.keepIn K (.ref C) && xfB K C &&
  He.eqO (PySem.W.findIn K (.ref C) "__class__") (some (some (.builtin "object.__class__"))) && He.eqO (PySem.W.specialIn K (.builtin "object.__class__") "__get__") (some (some (.builtin "getset_descriptor.__get__"))) &&
  decide (PySem.W.takesIn K (.builtin "object.__class__") = some true) && decide (PySem.W.mroIn K C (.type "object") = some true) && (PySem.W.clsIn K C).isSome && decide (PySem.W.exmOne K (.ref C) (.ref C) = some true)
theorem errB_ok {K : PySem.W.Frag} {C : Addr} (h : errB K C = true) : Err K C := by
  unfold errB at h
  simp only [Bool.and_eq_true] at h
  obtain ⟨⟨⟨⟨⟨⟨⟨⟨⟨⟨⟨h1, h2⟩, h3⟩, h4⟩, h5⟩, h6⟩, h7⟩, h8⟩, h9⟩, h10⟩, h11⟩, h12⟩ := h
  exact ⟨⟨oexB_ok h1, He.eqO_ok h2, of_decide_eq_true h3, eq_of_beq h4, h5⟩, xfB_ok h6, He.eqO_ok h7, He.eqO_ok h8, of_decide_eq_true h9, of_decide_eq_true h10, h11, of_decide_eq_true h12⟩
/-- isinstance(e, c) where a suite holds e -/
def rIsX (K : PySem.W.Frag) (cls : Value) (d : Option Addr) (a : Addr) : List V → Hp → VK → Prop := fun xs H Q => ∃ (D : Addr) (c : V) (cv : Value) (b : Bool), cls = .ref D ∧ Err K D ∧ xs = [.ref a, c] ∧ (∀ dd, d = some dd → ∃ fs, H dd = some (.xd fs)) ∧
  (∀ u, RelV c u → u = cv) ∧ PySem.W.kitOne K (.ref D) cv = some b ∧ Q (.bl b) H
theorem call_isX {X : Cx} {a : Addr} {cls : Value} {d : Option Addr} {oe : Obj} {pn : List (Addr × Obj)} (hz : Zc cls d oe) (hf : ∃ vs, oe.data = .fields vs) : CallR (X.suite a ((a, oe) :: pn)) (.builtin "isinstance") (rIsX X.K cls d a) := by
  intro pins s σ H xs us Q I r h
  obtain ⟨D, c, cv, b, rfl, E, rfl, hdd, hcv, e, q⟩ := h
  cases r with
  | cons rx rr =>
    cases rr with
    | cons rt rr =>
      cases rr
      cases rx
      have ec := hcv _ rt
      subst ec
      obtain ⟨hget, _⟩ := I.pin (a, oe) (List.mem_append.mpr (.inl List.mem_cons_self))
      obtain ⟨vs, hv⟩ := hf
      have J : ∃ od, PySem.W.InstAt s.heap a oe D od := by
        obtain ⟨oc, od, oda, osl⟩ := oe
        obtain ⟨h1, h2⟩ := hz
        dsimp only at h1 h2 hv
        subst h1 h2 hv
        cases od with
        | none => exact ⟨none, hget, rfl, rfl, trivial⟩
        | some dd =>
          obtain ⟨fs, ed⟩ := hdd dd rfl
          have hx : ObjOk X.prog X.w H s.heap dd (.xd fs) := I.hok dd _ ed
          obtain ⟨mA, ⟨o, es, ep, ho, _⟩, _⟩ := hx
          exact ⟨some o, hget, rfl, rfl, ho⟩
      obtain ⟨od, J⟩ := J
      exact PySem.W.kia_one (PySem.W.kitx_exc E.ic E.xf.ga E.xf.gg E.xf.exC E.ca E.cn E.ct E.cm) I.kIn J e (fun z => nomatch z) fun tk => ⟨.bl b, H, I.kept (t' := tk) fun _ _ z => z, rfl, q⟩
/-! ### making an error -/
def rOex (C : Addr) (sp : Sp) (vs : List V) (H1 : Hp) (Q : XK) : Prop := vs.length ≤ 1000 ∧ ∀ a, H1 a = none → sp (.ref a :: (vs ++ [])) (upd H1 a (exo a C none))
  (fun v H2 => v = .non ∧ ∃ (d : Addr) (fs : List (Str × V)), H2 a = some (exo a C (some d)) ∧ H2 d = some (exd d fs) ∧ H1 d = none ∧ Q (.ref C) (some d) (upd (del H2 a) d (.xd fs))) (fun _ _ _ => False)
def tOex (C : Addr) (sp : Sp) (ta : TA) : L2.St → Hp → XK → Prop := fun σ H Q => ta σ H fun vs H1 => rOex C sp vs H1 Q
/-- __init__ of one field -/
def spI1 (C : Addr) (f : Str) : Sp := fun vs H Q _ => ∃ a v, vs = [.ref a, v] ∧ H a = some (exo a C none) ∧ ∀ dx, H dx = none → dx ≠ a → Q .non (upd (upd H dx (exd dx [(f, v)])) a (exo a C (some dx)))
def spI2 (C : Addr) (f g : Str) : Sp := fun vs H Q _ => ∃ a v w, vs = [.ref a, v, w] ∧ H a = some (exo a C none) ∧ ∀ dx, H dx = none → dx ≠ a → Q .non (upd (upd (upd H dx (exd dx [(f, v)])) a (exo a C (some dx))) dx (exd dx [(g, w), (f, v)]))
theorem a_oex1 {C : Addr} {f : Str} {v : V} {H : Hp} {Q : XK} (q : ∀ d H', H d = none → Same H H' → H' d = some (.xd [(f, v)]) → Q (.ref C) (some d) H') : rOex C (spI1 C f) [v] H Q := by
  refine ⟨by show 1 ≤ 1000; decide, fun a ha => ⟨a, v, rfl, upd_same, fun dx hd ne => ⟨rfl, dx, [(f, v)], upd_same, by rw [upd_ne ne, upd_same], ?_, ?_⟩⟩⟩
  · rw [upd_ne ne] at hd
    exact hd
  · rw [upd_ne ne] at hd
    refine q dx _ hd (fun c o e => ?_) upd_same
    rw [upd_ne (ne_of_none e hd), del_ne (ne_of_none e ha), upd_ne (ne_of_none e ha), upd_ne (ne_of_none e hd), upd_ne (ne_of_none e ha)]
    exact e
theorem a_oex2 {C : Addr} {f g : Str} {v w : V} {H : Hp} {Q : XK} (q : ∀ d H', H d = none → Same H H' → H' d = some (.xd [(g, w), (f, v)]) → Q (.ref C) (some d) H') : rOex C (spI2 C f g) [v, w] H Q := by
  refine ⟨by show 2 ≤ 1000; decide, fun a ha => ⟨a, v, w, rfl, upd_same, fun dx hd ne => ⟨rfl, dx, [(g, w), (f, v)], by rw [upd_ne (Ne.symm ne), upd_same], upd_same, ?_, ?_⟩⟩⟩
  · rw [upd_ne ne] at hd
    exact hd
  · rw [upd_ne ne] at hd
    refine q dx _ hd (fun c o e => ?_) upd_same
    rw [upd_ne (ne_of_none e hd), del_ne (ne_of_none e ha), upd_ne (ne_of_none e hd), upd_ne (ne_of_none e ha), upd_ne (ne_of_none e hd), upd_ne (ne_of_none e ha)]
    exact e
/-- a class whose __init__ keeps sp -/
structure Rai (P : Program) (w : World) (K : PySem.W.Frag) (mg : Str → Option Value) (base : Heap) (x : Str) (C : Addr) (k : Nat) (sp : Sp) : Prop where
  at_ : mg x = some (.ref C)
  er : Err K C
  ex : ∃ (f : Addr) (fd : FuncData) (ps : List Str), PySem.W.findIn K (.ref C) "__init__" = some (some (.ref f)) ∧ PySem.W.typeIn K (.ref f) = some (.type "function") ∧ FnOk P w K mg base (L2.CX P w) k f fd ps sp ∧ Binds K fd ps []
section
variable {X : Cx} {x : Str} {C : Addr} {k j : Nat} {sp : Sp} {e : Expr} {es : List Expr} {ta : TA} {p pos : Pos}
theorem passF {X : Cx} : Passes (L2.CX X.prog X.w) X (fun _ _ _ => False) := fun _ _ _ _ _ _ _ h => by
  obtain ⟨_, _, _, _, _, _, _, _, _, _, _, _, z⟩ := h
  exact z.elim
theorem pmk_r (c : Rai X.prog X.w X.K X.mg X.base x C k sp) (hr : Room j X.A) (hk : k + 1 ≤ j) (hg : Gl X x) (ha : PA X (e :: es) ta) (hd : (x == ("__debug__" : Str)) = false := by decide)
    (h1 : starEach (e :: es) X.env = (false, eval e X.env) :: starEach es X.env := by rfl) (h2 : (backTo pos (starEach es X.env)).any (·.1) = false := by rfl) : PMk X (.Call (.Name x p) (e :: es) [] pos) (tOex C sp ta) := by
  obtain ⟨f, fd, ps, h3, h4, F, b⟩ := c.ex
  exact pmk_oex c.er.ox h3 h4 F (hr.mono hk) b .nil passF hg c.at_ ha hd h1 h2
/-- C(): no __init__ of its own -/
structure Rai0 (K : PySem.W.Frag) (mg : Str → Option Value) (x : Str) (C : Addr) : Prop where
  at_ : mg x = some (.ref C)
  er : Err K C
  ei : PySem.W.excIn K C [.type "ValueError", .type "Exception", .type "BaseException", .type "object"] "ValueError.__new__" = true
theorem pmk_r0 (c : Rai0 X.K X.mg x C) (hg : Gl X x) (hd : (x == ("__debug__" : Str)) = false := by decide) : PMk X (.Call (.Name x p) [] [] pos) (fun _ H Q => Q (.ref C) none H) := by
  intro pins s σ H Q I h
  obtain ⟨hp, g, dr, tk, os⟩ := s
  refine wpAny_Call_Name_kw (ld_glob I hg c.at_ (PySem.W.callWith_K0 (first := []) I.kIn c.er.ox.kC ?_) hd)
  obtain ⟨bm, N, nm, qn, bs, hdct, sn, sub, ab, col, dd, a0, a1, a2, a3, a5, mN, hC, hN, hni, T⟩ := exc_obj I.kIn c.ei
  refine wpAny_call_exc_subT PySem.F.excBase_ValueError T hC hN hni (fun h' e hm => ?_) (by rw [sizeLine_eq]; exact Nat.zero_le _)
  exact mk_of I hm (raises_own c.er.ox.exC c.er.ox.tyC) h (I.hok.gone hm.new)
end
end TT

set_option Elab.async false
set_option linter.all false
set_option maxRecDepth 100000
set_option maxHeartbeats 4000000
namespace TT
open PySem PySem.Spec PyProof.Rows L2
open L2 (St)
/-! ### calls whose errors are wished for at the caller's slots -/
abbrev PassS (X : Cx) (E : L2.St → XK) : Prop := ∀ σ, PassesAt (L2.CX X.prog X.w) X σ (E σ)
theorem passS {X : Cx} {W : WX} (tk : Takes X W) : PassS X (WE W) := fun σ => passAt tk σ
section
variable {X : Cx} {x m : Str} {C f : Addr} {k j : Nat} {sp : Sp} {E : L2.St → XK} {e o a b : Expr} {es : List Expr} {to ta tb : TE} {t : TA} {p pos apos : Pos} {pl : Sem Bool}
theorem run_s {pins : List (Addr × Obj)} {σ : L2.St} {H : Hp} {s : Shared} {E : XK} {Q : VK} {us : List Value} {vs : List V} (F : FnR X.prog X.w X.K X.mg X.base (L2.CX X.prog X.w) k f sp) (hr : Room k X.A) (hx : PassesAt (L2.CX X.prog X.w) X σ E) (I : Inv X pins σ H s) (r : Vals vs us) (h : sp vs H Q E) :
    codeAny (model X.prog X.w) X.A (.call (.ref f) ⟨us, []⟩) (fun r s' => match r with | .ok (.ret v) => EP X pins σ Q v s' | .ok _ => False | .error e => X.xe e s') s :=
  codeAny_mono (F X.A X.stack s H us vs Q E hr I.env0 r h) fun r s' q => by
    rcases r with z | fl
    · exact hx pins H s z s' I q
    · cases fl with
      | ret u => exact I.after q
      | next => exact q.elim
      | brk => exact q.elim
      | cont => exact q.elim
def tFS (sp : Sp) (E : L2.St → XK) (t : TA) : TE := fun σ H Q => t σ H fun vs H1 => sp vs H1 Q (E σ)
theorem pe_fS (c : Cal X.prog X.w X.K X.mg X.base x k sp) (hr : Room j X.A) (hk : k ≤ j) (hg : Gl X x) (hx : PassS X E) (ha : PA X (e :: es) t)
    (hd : (x == ("__debug__" : Str)) = false := by decide) (h1 : starEach (e :: es) X.env = (false, eval e X.env) :: starEach es X.env := by rfl)
    (h2 : (backTo pos (starEach es X.env)).any (·.1) = false := by rfl) : PE X (.Call (.Name x p) (e :: es) [] pos) (tFS sp E t) := ⟨fun pins s σ H Q I h => by
  obtain ⟨f, hm, kp, F⟩ := c.ex
  exact wpAny_Call_Name_kw (ld_glob I hg hm (PySem.W.callWith_K (h₀ := X.base) I.ok.mod.kin kp
    (thn (ha.run pos pins s σ H _ I h) fun us s1 ⟨vs, H1, I1, r, q⟩ => ⟨I1.kIn, wpAny_call (run_s F (hr.mono hk) (hx σ) I1 r q)⟩) h1 h2) hd)⟩
theorem pe_fS0 (c : Cal X.prog X.w X.K X.mg X.base x k sp) (hr : Room j X.A) (hk : k ≤ j) (hg : Gl X x) (hx : PassS X E)
    (hd : (x == ("__debug__" : Str)) = false := by decide) : PE X (.Call (.Name x p) [] [] pos) (tFS sp E tNil) := ⟨fun pins s σ H Q I h => by
  obtain ⟨f, hm, kp, F⟩ := c.ex
  exact wpAny_Call_Name_kw (ld_glob I hg hm (PySem.W.callWith_K0 I.kIn kp (wpAny_call (run_s (us := []) (vs := []) F (hr.mono hk) (hx σ) I .nil h))) hd)⟩
def tMS (C : Addr) (m : Str) (sp : Sp) (E : L2.St → XK) (to : TE) (t : TA) : TE := fun σ H Q => to σ H fun x H1 => ∃ a dx fs, x = .ref a ∧ H1 a = some (.ins C dx fs) ∧ fs.lookup m = none ∧ t σ H1 fun vs H2 => sp (x :: vs) H2 Q (E σ)
theorem pe_mS0 (c : Met X.prog X.w X.K X.mg X.base C m k sp) (hr : Room j X.A) (hk : k ≤ j) (hx : PassS X E) (ho : PE X o to)
    (h3 : eval (.Call (.Attribute o m apos) [] [] pos) X.env = (eval o X.env >>= fun ov => standAt apos.atName >>= fun _ => holding [ov] (getMethod ov m pl) >>= fun fr =>
      callWith pos fr.1 fr.2 (backTo pos (starEach [] X.env)) (backToKw pos (keywordEach [] X.env))) := by rfl) :
    PE X (.Call (.Attribute o m apos) [] [] pos) (tMS C m sp E to tNil) := ⟨fun pins s σ H Q I h => by
  obtain ⟨f, hm, F⟩ := c.ex
  refine PySem.W.methodCall_KW (pl := pl) (thn (ho.run pins s σ H _ I h) fun u s1 hh => ?_) h3
  obtain ⟨v, H1, I1, rv, a, dx, fs, ev, ea, l, q⟩ := hh
  subst ev
  cases (show u = Value.ref a from rv)
  exact getmeth_ok I1 ea c.cl hm l (PySem.W.callWith_K0 (first := [.ref a]) I1.kIn hm.kp (wpAny_call (run_s (us := [.ref a]) (vs := [.ref a]) F (hr.mono hk) (hx σ) I1 (.cons rfl .nil) q)))⟩
theorem pe_mS (c : Met X.prog X.w X.K X.mg X.base C m k sp) (hr : Room j X.A) (hk : k ≤ j) (hx : PassS X E) (ho : PE X o to) (ha : PA X (e :: es) t)
    (h1 : starEach (e :: es) X.env = (false, eval e X.env) :: starEach es X.env := by rfl) (h2 : (backTo pos (starEach es X.env)).any (·.1) = false := by rfl)
    (h3 : eval (.Call (.Attribute o m apos) (e :: es) [] pos) X.env = (eval o X.env >>= fun ov => standAt apos.atName >>= fun _ => holding [ov] (getMethod ov m pl) >>= fun fr =>
      callWith pos fr.1 fr.2 (backTo pos (starEach (e :: es) X.env)) (backToKw pos (keywordEach [] X.env))) := by rfl) :
    PE X (.Call (.Attribute o m apos) (e :: es) [] pos) (tMS C m sp E to t) := ⟨fun pins s σ H Q I h => by
  obtain ⟨f, hm, F⟩ := c.ex
  refine PySem.W.methodCall_KW (pl := pl) (thn (ho.run pins s σ H _ I h) fun u s1 hh => ?_) h3
  obtain ⟨v, H1, I1, rv, a, dx, fs, ev, ea, l, q⟩ := hh
  subst ev
  cases (show u = Value.ref a from rv)
  exact getmeth_ok I1 ea c.cl hm l (PySem.W.callWith_K (first := [.ref a]) (h₀ := X.base) I1.ok.mod.kin hm.kp (thn (ha.run pos pins _ σ H1 _ (I1.tok _) q) fun us s2 ⟨vs, H2, I2, r, q2⟩ =>
    ⟨I2.kIn, wpAny_call (run_s (us := .ref a :: us) (vs := .ref a :: vs) F (hr.mono hk) (hx σ) I2 (.cons rfl r) q2)⟩) h1 h2)⟩
def tKS (C : Addr) (sp : Sp) (E : L2.St → XK) (t : TA) : TE := fun σ H Q => t σ H fun vs H1 => rMk C sp (E σ) vs H1 Q
theorem pe_kS (c : Mak X.prog X.w X.K X.mg X.base x C k sp) (hr : Room j X.A) (hk : k + 1 ≤ j) (hg : Gl X x) (hx : PassS X E) (ha : PA X (e :: es) t)
    (hd : (x == ("__debug__" : Str)) = false := by decide) (h1 : starEach (e :: es) X.env = (false, eval e X.env) :: starEach es X.env := by rfl)
    (h2 : (backTo pos (starEach es X.env)).any (·.1) = false := by rfl) : PE X (.Call (.Name x p) (e :: es) [] pos) (tKS C sp E t) := ⟨fun pins s σ H Q I h => by
  obtain ⟨f, M, F⟩ := c.ex
  refine wpAny_Call_Name_kw (ld_glob I hg c.at_ (PySem.W.callWith_K (h₀ := X.base) I.ok.mod.kin M.kp (thn (ha.run pos pins s σ H _ I h) fun us s1 ⟨vs, H1, I1, r, q⟩ => ⟨I1.kIn, ?_⟩) h1 h2) hd)
  have q0 := q (s1.heap.objs.size + 1) s1.heap.objs.size (I1.hok.fresh (Nat.le_succ _)) (I1.hok.fresh (Nat.le_refl _)) (Nat.ne_of_lt (Nat.lt_succ_self _))
  have I2 := Inv.made (C := C) I1
  refine wpAny_call (make_map (f := f) I1.kIn M.makes M.init (beq_iff_eq.mp M.fn) (codeAny_mono (F _ X.stack _ _ (Value.ref (s1.heap.objs.size + 1) :: us) (V.ref (s1.heap.objs.size + 1) :: vs) _ (E σ) ((hr.mono hk).make C us []) (I2.env0.make C us []) (.cons rfl r) q0) fun z s' q' => ?_))
  rcases z with z | fl
  · exact hx σ pins _ _ z s' I2 q'
  · cases fl with
    | ret u =>
      obtain ⟨v, H', I3, rv, ev, q3⟩ := I2.after q'
      subst ev
      exact ⟨rv, V.ref (s1.heap.objs.size + 1), H', I3, rfl, q3⟩
    | next => exact q'.elim
    | brk => exact q'.elim
    | cont => exact q'.elim⟩
def tSS (C : Addr) (sp : Sp) (E : L2.St → XK) (to : TE) (t : TA) : TE := fun σ H Q => to σ H fun x H1 => x = .ref C ∧ t σ H1 fun vs H2 => sp vs H2 Q (E σ)
theorem pe_sS (c : Sta X.prog X.w X.K X.mg X.base C m k sp) (hr : Room j X.A) (hk : k ≤ j) (hx : PassS X E) (ho : PE X o to) (ha : PA X (e :: es) t)
    (h1 : starEach (e :: es) X.env = (false, eval e X.env) :: starEach es X.env := by rfl) (h2 : (backTo pos (starEach es X.env)).any (·.1) = false := by rfl)
    (h3 : eval (.Call (.Attribute o m apos) (e :: es) [] pos) X.env = (eval o X.env >>= fun ov => standAt apos.atName >>= fun _ => holding [ov] (getMethod ov m pl) >>= fun fr =>
      callWith pos fr.1 fr.2 (backTo pos (starEach (e :: es) X.env)) (backToKw pos (keywordEach [] X.env))) := by rfl) :
    PE X (.Call (.Attribute o m apos) (e :: es) [] pos) (tSS C sp E to t) := ⟨fun pins s σ H Q I h => by
  obtain ⟨p, f, hf, ⟨rest, hrec⟩, kp, F⟩ := c.ex
  refine PySem.W.methodCall_KW (pl := pl) (thn (ho.run pins s σ H _ I h) fun u s1 hh => ?_) h3
  obtain ⟨v, H1, I1, rv, ev, q⟩ := hh
  subst ev
  cases (show u = Value.ref C from rv)
  refine PySem.W.method_cls I1.kIn c.ga (PySem.W.cls_bind I1.kIn c.rd hf (wpAny_call ?_))
  refine PySem.W.sm_get (s := { s1 with toks := s1.toks + 1 }) I1.kIn hrec (PySem.W.handed_on rfl ?_)
  exact PySem.W.callWith_K (first := []) (h₀ := X.base) I.ok.mod.kin kp (thn (ha.run pos pins _ σ H1 _ (I1.tok _) q) fun us s2 ⟨vs, H2, I2, r, q2⟩ =>
    ⟨I2.kIn, wpAny_call (run_s F (hr.mono hk) (hx σ) I2 r q2)⟩) h1 h2⟩
/-- a * b by the class's own def -/
def tBS (C : Addr) (sp : Sp) (E : L2.St → XK) (ta tb : TE) : TE := fun σ H Q => ta σ H fun x H1 => tb σ H1 fun y H2 => rOwnB C sp (E σ) x y H2 Q
theorem pe_mulS (ow : Own X.K C) (c : Met X.prog X.w X.K X.mg X.base C "__mul__" k sp) (hr : Room j X.A) (hk : k ≤ j) (hx : PassS X E) (ha : PE X a ta) (hb : PE X b tb) : PE X (.BinOp a .Mult b pos) (tBS C sp E ta tb) := ⟨fun pins s σ H Q I h =>
  wpAny_BinOp (binT ha hb I h fun v u s2 x y H2 I2 rx ry q => by
    obtain ⟨o1, dx, fs, o2, dy, gs, rfl, rfl, h1, h2, q⟩ := q
    obtain ⟨f, hm, F⟩ := c.ex
    cases (show v = Value.ref o1 from rx)
    cases (show u = Value.ref o2 from ry)
    obtain ⟨mA, O, _⟩ := ins_get I2.hok h1
    obtain ⟨od, J, _⟩ := O.look
    obtain ⟨mB, O', _⟩ := ins_get I2.hok h2
    obtain ⟨od', J', _⟩ := O'.look
    obtain ⟨m, hF⟩ := I2.fr
    refine PySem.W.binop_K (op := .Mult) hF I2.ok.mod.kin J J'.type ow.sf hm.at_ hm.fn ?_
    refine wpAny_mono (wpAny_call (run_s (us := [.ref o1, .ref o2]) (vs := [.ref o1, .ref o2]) F (hr.mono hk) (hx σ) I2 (.cons rfl (.cons rfl .nil)) q)) (fun w s' z => ?_) fun _ _ z => z
    obtain ⟨z', H', I', rz, qz⟩ := z
    exact SlX.cmpback rz ⟨z', H', I', rz, qz⟩)⟩
end
/-! ### try with any number of clauses «except x as n» -/
/-- what stands behind a suite: its name is gone -/
def gone (D : Ends) (i : Nat) : Ends := { nx := fun σ H => D.nx (σ.set i none) H, rt := D.rt, bk := fun σ H => D.bk (σ.set i none) H, ct := fun σ H => D.ct (σ.set i none) H }
def wN (K : PySem.W.Frag) (Wout : WX) (D : Ends) : List (Value × Nat × (Addr → Value → Option Addr → TS)) → WX
  | [] => Wout
  | (c, i, ts) :: r => fun cls d σ H => ∃ b, PySem.W.exmOne K cls c = some b ∧ (b = true → ∀ a, H a = none → ts a cls d (gone D i) (σ.set i (some (.ref a))) H) ∧ (b = false → wN K Wout D r cls d σ H)
inductive HdsN (X : Cx) : List ExceptHandler → List (Value × Nat × (Addr → Value → Option Addr → TS)) → Prop
  | nil : HdsN X [] []
  | cons {x n : Str} {c : Value} {i : Nat} {ts : Addr → Value → Option Addr → TS} {b₀ : Stmt} {suite : List Stmt} {np pos' : Pos} {hds : List ExceptHandler} {l : List (Value × Nat × (Addr → Value → Option Addr → TS))} (hi : X.N[i]? = some n) (hln : X.env.kindOf n = some .local) (hc : Names X x c)
      (hsu : ∀ (a : Addr) (oe : Obj) (cls : Value) (d : Option Addr) (pn : List (Addr × Obj)), Zc cls d oe → (∃ vs, oe.data = .fields vs) → PSs (X.suite a ((a, oe) :: pn)) (b₀ :: suite) (ts a cls d)) (r : HdsN X hds l) :
      HdsN X (.ExceptHandler (some (.Name x np)) (some n) (b₀ :: suite) pos' :: hds) ((c, i, ts) :: l)
section
variable {X : Cx} {body : List Stmt} {h₀ : ExceptHandler} {hds : List ExceptHandler} {l : List (Value × Nat × (Addr → Value → Option Addr → TS))} {pos : Pos} {tb : WX → TS} {Wout : WX}
theorem ps_tryN (hs : X.stack = X.env :: X.outer) (hf : X.env.frame = some X.env.locals) (hN : X.N.Nodup) (tk : Takes X Wout)
    (hb : ∀ (W : WX) (pn : List (Addr × Obj)) (xe : Value → Shared → Prop), Takes (X.tr pn xe) W → PassesOwn (model X.prog X.w) X.A X.env xe → PSs (X.tr pn xe) body (tb W))
    (hh : HdsN X (h₀ :: hds) l) : PS X (.Try body (h₀ :: hds) [] [] pos) (fun D σ H => tb (wN X.K Wout D l) D σ H) := ⟨fun pins s σ H D I h => by
  have ok := I.ok
  have fr0 : X.A.frames = some (X.env :: X.outer) := ok.frames.trans (by rw [hs])
  refine wpAny_Try_except (wpAny_mono ((hb (wN X.K Wout D l) (X.pn ++ pins) (fun z t1 => wpAny (model X.prog X.w) X.A (noteFrame z X.env) (fun _ t2 => wpAny (model X.prog X.w) X.A (setFlight z none) (fun _ t3 =>
    wpAny (model X.prog X.w) X.A (handleBy z X.env (h₀ :: hds)) (SP X pins D) X.xe t3) X.xe t2) X.xe t1) (fun u s' xx => ?_) PassesOwn.looking).run [] s σ H D (I.toTry _) h) (fun fl s1 hsp => ?_) fun _ _ z => z)
  · obtain ⟨a, B, sI, pins', σ', H', cls, d, rfl, J0, nb, up, sk0, na, os, ag, wi⟩ := xx
    have J : Inv X pins σ' H' sI := J0.ofTry ok
    have sk : Sky B (X.env :: X.outer) a (Zc cls d) X.env.locals s'.heap := hs ▸ sk0
    refine Sky.land Zc.steady fr0 hf sk fun h3 fl3 up3 => ?_
    have J3 : Inv X pins σ' H' { s' with heap := h3 } := J.landed nb fl3.1 (up.trans up3) os ag
    obtain ⟨oe3, vs3, he3, hz3, hd3⟩ := fl3.there
    have nfr : a ∉ frs (X.env :: X.outer) := fun hm => by
      obtain ⟨_, o', e', hnf⟩ := fl3.2.2.1.mem hm
      rw [he3] at e'
      cases e'
      exact hnf _ hd3
    have nL : a ≠ X.env.locals := fun z => nfr (List.mem_filterMap.mpr ⟨X.env, List.mem_cons_self, hf.trans (by rw [z])⟩)
    have nF : a ∉ X.fs := fun hm => by
      obtain ⟨en, he, q⟩ := List.mem_filterMap.mp hm
      exact nfr (List.mem_filterMap.mpr ⟨en, List.mem_cons_of_mem _ he, q⟩)
    have S3 := J3.suite he3 hd3 na nL nF
    have go : ∀ {g : List ExceptHandler} {l' : List (Value × Nat × (Addr → Value → Option Addr → TS))}, HdsN X g l' → wN X.K Wout D l' cls d σ' H' →
        wpAny (model X.prog X.w) X.A (handleBy (.ref a) X.env g) (SP X pins D) X.xe { s' with heap := h3 } := by
      intro g l' hk
      induction hk with
      | nil =>
        intro wi
        refine wpAny_handleBy_nil ?_
        obtain ⟨_, _, _, oe, vs, T, oT, ts', he, hz, hd, h1, _⟩ := id fl3
        unfold PySem.passOn
        refine wpAny_bind (wpAny_field he hd h1 ?_)
        rw [if_neg (by simp : ¬ ((Value.ref T == Value.none) = true))]
        have out : wpAny (model X.prog X.w) X.A (setFlight (.ref a) X.env.frame) (fun _ t4 => wpAny (model X.prog X.w) X.A (throw (.ref a) : Sem Flow) (SP X pins D) X.xe t4) X.xe { s' with heap := h3 } := by
          rw [hf]
          exact HandSPX.setFlight_upZ fl3 fun h4 hh4 up4 => wpAny_throw (tk _ _ ⟨a, B, sI, pins, σ', H', cls, d, rfl, J, nb, (up.trans up3).trans up4, .inr (.inr (by rw [hs]; exact hh4)), na, os, ag, wi⟩)
        first
          | exact wpAny_bind (wpAny_pure (wpAny_bind out))
          | exact wpAny_bind out
      | @cons x n c i ts b₀ suite np pos' g2 l2 hi hln hc hsu r ih =>
        intro wi
        obtain ⟨b, hb1, yes, no⟩ := wi
        refine wpAny_handleBy_cons (codeAny_handlers_test ?_) (fun q => by cases q)
        have LT : PySem.W.Looks (model X.prog X.w) h3 (typeOf (.ref a)) cls := fun A Q E t k q => wpAny_typeOf_ref (k _ _ he3) (hz3.1 ▸ q)
        have LM := PySem.W.exm_one (M := model X.prog X.w) (J3.kIn) LT hb1
        have test : ∀ {Q : Value → Shared → Prop} {E : Value → Shared → Prop}, Q c { s' with heap := h3 } → wpAny (model X.prog X.w) (X.A.mark (some (.ref a))) (eval (.Name x np) X.env) Q E { s' with heap := h3 } := fun {Q E} q => by
          obtain ⟨c1, c2, c3 | ⟨c3, c4, c5⟩⟩ := hc
          · exact ld_glob (X := X.suite a ((a, oe3) :: (X.pn ++ pins))) S3 c1 c3 q c2
          · exact ld_blt (X := X.suite a ((a, oe3) :: (X.pn ++ pins))) S3 c1 c3 c4 q c5 c2
        refine test (LM.here ?_)
        cases b with
        | true =>
          refine codeAny_handlers_suite_as (HandSPX.lands_againZ fl3 fun h4 fl4 up4 => ?_)
          have J4 : Inv X pins σ' H' { s' with heap := h4 } := J.landed nb fl4.1 ((up.trans up3).trans up4) os ag
          obtain ⟨oe4, vs4, he4, hz4, hd4⟩ := fl4.there
          have S4 := J4.suite he4 hd4 na nL nF
          refine store_ok (X := X.suite a ((a, oe4) :: (X.pn ++ pins))) (v := .ref a) S4 hN hi (.inl hln) rfl (fun s5 S5 => ?_) (.inr hln)
          refine wpAny_mono ((hsu a oe4 cls d (X.pn ++ pins) hz4 ⟨_, hd4⟩).run [] s5 _ H' _ S5 (yes rfl a na)) (fun fl t6 hsp => ?_) (fun _ _ z => z.elim)
          have fin : ∀ {σ6 : L2.St} {H6 : Hp} {Q : Shared → Prop}, Inv (X.suite a ((a, oe4) :: (X.pn ++ pins))) [] σ6 H6 t6 → (∀ t7, Inv X pins (σ6.set i none) H6 t7 → Q t7) →
              wpAny (model X.prog X.w) X.A (do bindName X.env n .none; unbindBehindTheSuite X.env n pos') (fun _ t7 => Q t7) X.xe t6 := fun {σ6 H6 Q} S6 hq => gone_ok (S6.unsuite ok) hN hi hln hq
          cases fl with
          | next =>
            obtain ⟨_, _, S6, q6⟩ := hsp
            exact fin S6 fun t7 J7 => ⟨_, _, J7, q6⟩
          | brk =>
            obtain ⟨_, _, S6, q6⟩ := hsp
            exact fin S6 fun t7 J7 => ⟨_, _, J7, q6⟩
          | cont =>
            obtain ⟨_, _, S6, q6⟩ := hsp
            exact fin S6 fun t7 J7 => ⟨_, _, J7, q6⟩
          | ret u =>
            obtain ⟨_, _, _, S6, r6, q6⟩ := hsp
            exact fin S6 fun t7 J7 => ⟨_, _, _, J7, r6, q6⟩
        | false => exact ih (no rfl)
    exact go hh wi
  · cases fl with
    | next =>
      obtain ⟨_, _, J1, q⟩ := hsp
      exact wpAny_execs_nil ⟨_, _, J1.ofTry ok, q⟩
    | brk =>
      obtain ⟨_, _, J1, q⟩ := hsp
      exact ⟨_, _, J1.ofTry ok, q⟩
    | cont =>
      obtain ⟨_, _, J1, q⟩ := hsp
      exact ⟨_, _, J1.ofTry ok, q⟩
    | ret u =>
      obtain ⟨_, _, _, J1, r, q⟩ := hsp
      exact ⟨_, _, _, J1.ofTry ok, r, q⟩⟩
end
end TT

set_option Elab.async false
set_option linter.all false
set_option maxRecDepth 100000
set_option maxHeartbeats 4000000
namespace TT
open PySem PySem.Spec PyProof.Rows L2
/-! ### raise and try, named -/
def tRaise (W : WX) (t : L2.St → Hp → XK → Prop) : TS := fun _ σ H => t σ H fun cls d H' => W cls d σ H'
theorem ps_rs {X : Cx} {W : WX} {e : Expr} {t : L2.St → Hp → XK → Prop} {pos : Pos} (hc : X.calm = true) (tk : Takes X W) (he : PMk X e t) : PS X (.Raise (some e) none pos) (tRaise W t) := ps_raise hc tk he
def tR0 (C : Addr) : L2.St → Hp → XK → Prop := fun _ H Q => Q (.ref C) none H
theorem pmk_n {X : Cx} {x : Str} {C : Addr} {p pos : Pos} (c : Rai0 X.K X.mg x C) (hg : Gl X x) (hd : (x == ("__debug__" : Str)) = false := by decide) : PMk X (.Call (.Name x p) [] [] pos) (tR0 C) := pmk_r0 c hg hd
def tTry (K : PySem.W.Frag) (Wout : WX) (l : List (Value × Nat × (Addr → Value → Option Addr → TS))) (tb : WX → TS) : TS := fun D σ H => tb (wN K Wout D l) D σ H
theorem ps_tr {X : Cx} {K : PySem.W.Frag} {body : List Stmt} {h₀ : ExceptHandler} {hds : List ExceptHandler} {l : List (Value × Nat × (Addr → Value → Option Addr → TS))} {pos : Pos} {tb : WX → TS} {Wout : WX} (hK : X.K = K) (hs : X.stack = X.env :: X.outer) (hf : X.env.frame = some X.env.locals) (hN : X.N.Nodup) (tk : Takes X Wout)
    (hb : ∀ (W : WX) (pn : List (Addr × Obj)) (xe : Value → Shared → Prop), Takes (X.tr pn xe) W → PassesOwn (model X.prog X.w) X.A X.env xe → PSs (X.tr pn xe) body (tb W))
    (hh : HdsN X (h₀ :: hds) l) : PS X (.Try body (h₀ :: hds) [] [] pos) (tTry K Wout l tb) := by subst hK; exact ps_tryN hs hf hN tk hb hh
theorem k_isX {X : Cx} {K : PySem.W.Frag} {a : Addr} {cls : Value} {d : Option Addr} {oe : Obj} {pn : List (Addr × Obj)} (hK : X.K = K) (hz : Zc cls d oe) (hf : ∃ vs, oe.data = .fields vs) : CallR (X.suite a ((a, oe) :: pn)) (.builtin "isinstance") (rIsX K cls d a) := by subst hK; exact call_isX hz hf
theorem k_xf {X : Cx} {K : PySem.W.Frag} {a C : Addr} {oe : Obj} {cls : Value} {d : Option Addr} {pn : List (Addr × Obj)} {e : Expr} {te : TE} {pos : Pos} {n : Str} (hK : X.K = K) (T : XfC K C) (hno : PySem.W.findIn K (.ref C) n = some none)
    (hz : Zc cls d oe) (hf : ∃ vs, oe.data = .fields vs) (he : PE (X.suite a ((a, oe) :: pn)) e te) (hb : attributeBase e n X.env (eval e X.env) = eval e X.env := by rfl) :
    PE (X.suite a ((a, oe) :: pn)) (.Attribute e n pos) (tXf a cls d C n te) := by subst hK; exact pe_xf T hno hz hf he hb
def tCOS (C : Addr) (sp : Sp) (E : L2.St → XK) (tf : TE) (t : TA) : TE := fun σ H Q => tf σ H fun y H1 => ∃ a, y = V.ref a ∧ t σ H1 fun vs H2 => (∃ dx fs, H2 a = some (.ins C dx fs)) ∧ sp (V.ref a :: vs) H2 Q (E σ)
theorem pe_coS {X : Cx} {C : Addr} {sp : Sp} {E : L2.St → XK} {k i : Nat} {fe e : Expr} {es : List Expr} {tf : TE} {t : TA} {pos : Pos} (c : Met X.prog X.w X.K X.mg X.base C "__call__" k sp) (fi : ∀ g, Meth X.K C "__call__" g → PySem.W.fnIn X.K g = true) (hr : Room i X.A) (hk : k ≤ i) (hx : PassS X E) (hf : PE X fe tf) (ha : PA X (e :: es) t)
    (h1 : eval (.Call fe (e :: es) [] pos) X.env = (eval fe X.env >>= fun z => callWith pos z [] (backTo pos (starEach (e :: es) X.env)) (backToKw pos (keywordEach [] X.env))) := by rfl)
    (h2 : starEach (e :: es) X.env = (false, eval e X.env) :: starEach es X.env := by rfl) (h3 : (backTo pos (starEach es X.env)).any (·.1) = false := by rfl) : PE X (.Call fe (e :: es) [] pos) (tCOS C sp E tf t) := ⟨fun pins s σ H Q I h => by
  obtain ⟨g, hm, F⟩ := c.ex
  refine Call_ (thn (hf.run pins s σ H _ I h) fun u s1 hh => ?_) h1
  obtain ⟨y, H1, I1, ry, a, ey, q⟩ := hh
  subst ey
  cases (show u = Value.ref a from ry)
  refine StX.callO_with (thn (ha.run pos pins s1 σ H1 _ I1 q) fun us s2 hh2 => ?_) h2 h3
  obtain ⟨vs, H2, I2, r, ⟨dx, fs, hi⟩, q2⟩ := hh2
  obtain ⟨ox, od, J, hd⟩ := StX.insC_at (C := C) I2 (.inr ⟨dx, fs, hi⟩)
  exact ⟨⟨C, ox, od, J, hd⟩, wpAny_call (PySem.W.kco_code I2.kIn J hd hm.at_ hm.fn (fi g hm) (run_s (us := .ref a :: us) (vs := .ref a :: vs) F (hr.mono hk) (hx σ) I2 (.cons rfl r) q2))⟩⟩
theorem g_cos {σ : L2.St} {H : Hp} {Q : VK} {C : Addr} {sp : Sp} {E : L2.St → XK} {tf : TE} {t : TA} (h : tf σ H fun y H1 => ∃ a, y = V.ref a ∧ t σ H1 fun vs H2 => (∃ dx fs, H2 a = some (.ins C dx fs)) ∧ sp (V.ref a :: vs) H2 Q (E σ)) : tCOS C sp E tf t σ H Q := h
section
variable {K : PySem.W.Frag} {σ : L2.St} {H H1 : Hp} {Q : VK} {QX : XK} {D : Ends} {t u : TS} {ta tb te : TE} {ts : TA} {i : Nat} {v x y : V} {a p b C : Addr} {sp : Sp} {E : L2.St → XK} {W Wout : WX} {cls : Value} {d : Option Addr}
theorem g_raise {t : L2.St → Hp → XK → Prop} (h : t σ H fun cls d H' => W cls d σ H') : tRaise W t D σ H := h
theorem g_r0 (h : QX (.ref C) none H) : tR0 C σ H QX := h
theorem g_oex (h : ts σ H fun vs H1 => rOex C sp vs H1 QX) : tOex C sp ts σ H QX := h
theorem g_try {l : List (Value × Nat × (Addr → Value → Option Addr → TS))} {tb : WX → TS} (h : tb (wN K Wout D l) D σ H) : tTry K Wout l tb D σ H := h
theorem g_FS (h : ts σ H fun vs H1 => sp vs H1 Q (E σ)) : tFS sp E ts σ H Q := h
theorem g_MS {m : Str} (h : ta σ H fun x H1 => ∃ a dx fs, x = .ref a ∧ H1 a = some (.ins C dx fs) ∧ fs.lookup m = none ∧ ts σ H1 fun vs H2 => sp (x :: vs) H2 Q (E σ)) : tMS C m sp E ta ts σ H Q := h
theorem g_KS (h : ts σ H fun vs H1 => rMk C sp (E σ) vs H1 Q) : tKS C sp E ts σ H Q := h
theorem g_SS (h : ta σ H fun x H1 => x = .ref C ∧ ts σ H1 fun vs H2 => sp vs H2 Q (E σ)) : tSS C sp E ta ts σ H Q := h
theorem g_BS (h : ta σ H fun x H1 => tb σ H1 fun y H2 => rOwnB C sp (E σ) x y H2 Q) : tBS C sp E ta tb σ H Q := h
/-- e.f, its class and its dict known -/
theorem g_xf {f : Str} {dd : Addr} {fs : List (Str × V)} (h : te σ H fun x H1 => x = .ref a ∧ ∃ fs v, H1 dd = some (.xd fs) ∧ fs.lookup f = some v ∧ Q v H1) (mono : ∀ R R' : VK, (∀ x H, R x H → R' x H) → te σ H R → te σ H R') : tXf a (.ref C) (some dd) C f te σ H Q :=
  mono _ _ (fun x H1 ⟨e, fs, v, h1, h2, q⟩ => ⟨e, rfl, dd, fs, v, rfl, h1, h2, q⟩) h
theorem g_xfv {f : Str} {dd : Addr} {fs : List (Str × V)} {i : Nat} (h1 : σ[i]? = some (some (.ref a))) (h2 : H dd = some (.xd fs)) (h3 : fs.lookup f = some v) (q : Q v H) : tXf a (.ref C) (some dd) C f (tVar i) σ H Q :=
  ⟨_, h1, rfl, rfl, dd, fs, v, rfl, h2, h3, q⟩
theorem g_xf1 {f : Str} {dd : Addr} {i : Nat} (h1 : σ[i]? = some (some (.ref a))) (h2 : H dd = some (.xd [(f, v)])) (q : Q v H) : tXf a (.ref C) (some dd) C f (tVar i) σ H Q :=
  g_xfv h1 h2 (by simp [List.lookup]) q
theorem g_gone {i : Nat} (h : D.nx (σ.set i none) H) : (gone D i).nx σ H := h
theorem a_isX {c : V} {u : Value} {b : Bool} (er : Err K C) (hd : ∀ dd, d = some dd → ∃ fs, H dd = some (.xd fs)) (k : ∀ z, RelV c z → z = u) (e : PySem.W.kitOne K (.ref C) u = some b) (q : Q (.bl b) H) : rIsX K (.ref C) d a [.ref a, c] H Q := ⟨C, c, u, b, rfl, er, rfl, hd, k, e, q⟩
theorem a_isX0 {D : Addr} {b : Bool} (er : Err K C) (e : PySem.W.kitOne K (.ref C) (.ref D) = some b) (q : Q (.bl b) H) : rIsX K (.ref C) none a [.ref a, .ref D] H Q := a_isX er (fun _ z => by cases z) (fun _ z => z) e q
theorem a_isX1 {D dd : Addr} {fs : List (Str × V)} {b : Bool} (er : Err K C) (h : H dd = some (.xd fs)) (e : PySem.W.kitOne K (.ref C) (.ref D) = some b) (q : Q (.bl b) H) : rIsX K (.ref C) (some dd) a [.ref a, .ref D] H Q :=
  a_isX er (fun _ z => by cases z; exact ⟨_, h⟩) (fun _ z => z) e q
theorem a_catch {c : Value} {i : Nat} {f : Addr → Value → Option Addr → TS} {r : List (Value × Nat × (Addr → Value → Option Addr → TS))} (e : PySem.W.exmOne K cls c = some true) (h : ∀ a, H a = none → f a cls d (gone D i) (σ.set i (some (.ref a))) H) : wN K Wout D ((c, i, f) :: r) cls d σ H :=
  ⟨true, e, fun _ => h, fun z => Bool.noConfusion z⟩
theorem a_skip {c : Value} {i : Nat} {f : Addr → Value → Option Addr → TS} {r : List (Value × Nat × (Addr → Value → Option Addr → TS))} (e : PySem.W.exmOne K cls c = some false) (h : wN K Wout D r cls d σ H) : wN K Wout D ((c, i, f) :: r) cls d σ H :=
  ⟨false, e, fun z => Bool.noConfusion z, fun _ => h⟩
theorem a_nite {c A B : Prop} [Decidable c] (h1 : ¬ c → A) (h2 : c → B) : if (!decide c) = true then A else B := by
  by_cases h : c
  · rw [decide_eq_true h]
    exact h2 h
  · rw [decide_eq_false h]
    exact h1 h
end
/-! ### weaker promises -/
section
variable {P : Program} {w : World} {K : PySem.W.Frag} {mg : Str → Option Value} {base : Heap} {x m : Str} {C : Addr} {k : Nat} {sp sp' : Sp}
theorem Cal.imp (c : Cal P w K mg base x k sp) (h : ∀ vs H Q E, sp' vs H Q E → sp vs H Q E) : Cal P w K mg base x k sp' := let ⟨f, a, b, F⟩ := c.ex; ⟨f, a, b, F.imp h⟩
theorem Met.imp (c : Met P w K mg base C m k sp) (h : ∀ vs H Q E, sp' vs H Q E → sp vs H Q E) : Met P w K mg base C m k sp' := let ⟨f, a, F⟩ := c.ex; ⟨c.cl, f, a, F.imp h⟩
theorem Mak.imp (c : Mak P w K mg base x C k sp) (h : ∀ vs H Q E, sp' vs H Q E → sp vs H Q E) : Mak P w K mg base x C k sp' := let ⟨f, a, F⟩ := c.ex; ⟨c.at_, f, a, F.imp h⟩
theorem Sta.imp (c : Sta P w K mg base C m k sp) (h : ∀ vs H Q E, sp' vs H Q E → sp vs H Q E) : Sta P w K mg base C m k sp' := let ⟨p, f, a, b, d, F⟩ := c.ex; ⟨c.rd, c.ga, p, f, a, b, d, F.imp h⟩
theorem rai_of {q : Str} {st : Stmt} {f : Addr} {fd : FuncData} {ps : List Str} {ks : List (Str × V)} (F : FX K "__init__" q st [] ks f fd) (hm : mg x = some (.ref C)) (er : Err K C) (i1 : PySem.W.findIn K (.ref C) "__init__" = some (some (.ref f))) (i2 : PySem.W.typeIn K (.ref f) = some (.type "function"))
    (G : FnOk P w K mg base (L2.CX P w) k f fd ps sp)
    (b : ∀ (kV doc pm : Value) (an : Option Addr) (cdv ct : Value) (us : List Value), us.length = ps.length → bindArgs (PySem.W.fnOf "__init__" q (defArgs st) (defBody st) (defScope st) .none kV doc pm an cdv ct) ⟨us, []⟩ = pure (ps.zip us)) :
    Rai P w K mg base x C k sp := ⟨hm, er, f, fd, ps, i1, i2, G, F.bindsN b⟩
end
end TT

set_option Elab.async false
set_option linter.all false
set_option maxRecDepth 100000
set_option maxHeartbeats 4000000
namespace TT
open PySem PySem.Spec PyProof.Rows L2
/-! ### data of small depth, that can be compared -/
structure Sm (n : Nat) (d : PyData) : Prop where
  lay : d.canLay0 = true
  dep : d.depth ≤ n
def SmA (n : Nat) (ds : List PyData) : Prop := PyData.canLayAll0 ds = true ∧ PyData.depthAll ds ≤ n
theorem Sm.le {n m : Nat} {d : PyData} (h : Sm n d) (l : n ≤ m) : Sm m d := ⟨h.lay, Nat.le_trans h.dep l⟩
theorem Sm.sh {n : Nat} {d : PyData} (h : Sm n d) (l : n ≤ 64 := by decide) : SeqAt.shaped d = true := by
  unfold SeqAt.shaped
  rw [h.lay, decide_eq_true (Nat.le_trans h.dep l)]
  rfl
theorem SmA.nil {n : Nat} : SmA n [] := ⟨by simp [PyData.canLayAll0], by simp [PyData.depthAll]⟩
theorem SmA.cons {n : Nat} {d : PyData} {ds : List PyData} (h : Sm n d) (t : SmA n ds) : SmA n (d :: ds) := ⟨by simp [PyData.canLayAll0, h.lay, t.1], by
  have h1 := h.dep
  have h2 := t.2
  simp only [PyData.depthAll]
  omega⟩
theorem SmA.of {n : Nat} : ∀ {ds : List PyData}, (∀ d ∈ ds, Sm n d) → SmA n ds
  | [], _ => .nil
  | d :: ds, h => .cons (h d (List.mem_cons_self ..)) (SmA.of fun e he => h e (List.mem_cons_of_mem _ he))
theorem Sm.int {n : Nat} (i : Int) : Sm (n + 1) (.int i) := ⟨by simp [PyData.canLay0], by simp [PyData.depth]⟩
theorem Sm.bl {n : Nat} (b : Bool) : Sm (n + 1) (.bool b) := ⟨by simp [PyData.canLay0], by simp [PyData.depth]⟩
theorem Sm.non {n : Nat} : Sm (n + 1) .none := ⟨by simp [PyData.canLay0], by simp [PyData.depth]⟩
theorem Sm.str {n : Nat} (x : Str) (h : PyData.strOk x = true) : Sm (n + 1) (.str x) := ⟨by simp [PyData.canLay0, h], by simp [PyData.depth]⟩
theorem Sm.tup {n : Nat} {ds : List PyData} (h : SmA n ds) : Sm (n + 1) (.tuple ds) := ⟨by simp [PyData.canLay0, h.1], by
  have h2 := h.2
  simp only [PyData.depth]
  omega⟩
theorem Sm.lst {n : Nat} {ds : List PyData} (h : SmA n ds) : Sm (n + 1) (.list ds) := ⟨by simp [PyData.canLay0, h.1], by
  have h2 := h.2
  simp only [PyData.depth]
  omega⟩
/-- a value that reads as small data -/
structure Dq (K : PySem.W.Frag) (H : Hp) (n : Nat) (v : V) (d : PyData) : Prop where
  dp : Dp K H v d
  sm : Sm n d
structure DqA (K : PySem.W.Frag) (H : Hp) (n : Nat) (vs : List V) (ds : List PyData) : Prop where
  dp : DpAll K H vs ds
  sm : SmA n ds
section
variable {K : PySem.W.Frag} {H H1 : Hp} {n : Nat} {v x y : V} {vs : List V} {d e : PyData} {ds : List PyData} {a : Addr} {Q : VK}
theorem DqA.nil : DqA K H n [] [] := ⟨.nil, .nil⟩
theorem DqA.cons (h : Dq K H n v d) (t : DqA K H n vs ds) : DqA K H n (v :: vs) (d :: ds) := ⟨.cons h.dp t.dp, .cons h.sm t.sm⟩
theorem Dq.int (i : Int) : Dq K H (n + 1) (.int i) (.int i) := ⟨.int i, .int i⟩
theorem Dq.bl (b : Bool) : Dq K H (n + 1) (.bl b) (.bool b) := ⟨.bl b, .bl b⟩
theorem Dq.non : Dq K H (n + 1) .non .none := ⟨.non, .non⟩
theorem Dq.str (x : Str) (h : PyData.strOk x = true) : Dq K H (n + 1) (.str x) (.str x) := ⟨.str x, .str x h⟩
theorem Dq.tup (h : SqT K H a vs) (t : DqA K H n vs ds) : Dq K H (n + 1) (.ref a) (.tuple ds) := ⟨.tup h t.dp, .tup t.sm⟩
theorem Dq.lst (h : SqL K H a vs) (t : DqA K H n vs ds) : Dq K H (n + 1) (.ref a) (.list ds) := ⟨.lst h t.dp, .lst t.sm⟩
theorem Dq.same (h : Dq K H n v d) (s : Same H H1) : Dq K H1 n v d := ⟨same_d s d h.dp, h.sm⟩
/-- == and != of what is the same -/
theorem a_eqQ (hx : Dq K H n x d) (hy : Dq K H n y d) (q : Q (.bl true) H) (l : n ≤ 64 := by decide) : rEqU K x y H Q := by
  refine a_eqD hx.dp hy.dp (hx.sm.sh l) (hy.sm.sh l) ?_
  rw [SeqAt.eqv_refl d hx.sm.lay]
  exact q
theorem a_neQ (hx : Dq K H n x d) (hy : Dq K H n y d) (q : Q (.bl false) H) (l : n ≤ 64 := by decide) : rNeU K x y H Q := by
  refine a_neD hx.dp hy.dp (hx.sm.sh l) (hy.sm.sh l) ?_
  rw [SeqAt.eqv_refl d hx.sm.lay]
  exact q
end
def zd (zs : List Int) : List PyData := zs.map .int
def zi (zs : List Int) : List V := zs.map V.int
theorem dqz {K : PySem.W.Frag} {H : Hp} {n : Nat} : ∀ zs : List Int, DqA K H (n + 1) (zi zs) (zd zs)
  | [] => .nil
  | z :: zs => .cons (.int z) (dqz zs)
theorem zi_len (zs : List Int) : (zi zs).length = zs.length := List.length_map ..
theorem zi_get {zs : List Int} {i : Nat} {y : V} (h : (zi zs)[i]? = some y) : ∃ hi : i < zs.length, y = .int zs[i] := by
  unfold zi at h
  rw [List.getElem?_map] at h
  by_cases hi : i < zs.length
  · rw [List.getElem?_eq_getElem hi] at h
    exact ⟨hi, (Option.some.inj h).symm⟩
  · rw [List.getElem?_eq_none (by omega)] at h
    cases h
theorem zi_at {zs : List Int} {i : Nat} (h : i < zs.length) : (zi zs)[i]? = some (.int zs[i]) := by
  unfold zi
  rw [List.getElem?_map, List.getElem?_eq_getElem h]
  rfl
def ni (a : List Nat) : List Int := a.map fun n : Nat => (n : Int)
theorem zi_ni (a : List Nat) : zi (ni a) = vi a := by
  unfold zi ni vi
  rw [List.map_map]
  rfl
theorem ni_inj {a b : List Nat} (h : ni a = ni b) : a = b := by
  have := congrArg (List.map Int.toNat) h
  simpa [ni, List.map_map, Function.comp_def] using this
theorem ni_len (a : List Nat) : (ni a).length = a.length := List.length_map ..
end TT

set_option Elab.async false
set_option linter.all false
set_option maxRecDepth 100000
set_option maxHeartbeats 4000000
namespace TT
open PySem PySem.Spec PyProof.Rows L2
theorem k_sortI {X : Cx} {K : PySem.W.Frag} (hK : X.K = K) : CallR X (.builtin "sorted") (rSortedI K) := by subst hK; exact cr_sortedI
section
variable {K : PySem.W.Frag} {H : Hp} {Q : VK} {p : Addr} {zs : List Int}
theorem a_sortI (h : SqL K H p (zi zs)) (q : ∀ ws l H2, List.Perm ws zs → ws.Pairwise (· ≤ ·) → H l = none → Same H H2 → H2 l = some (.lst (zi ws)) → Q (.ref l) H2) : rSortedI K [.ref p] H Q :=
  ⟨p, zs, rfl, h, fun ws l pm so hl => q ws l _ pm so hl (same_new hl) upd_same⟩
theorem a_rep {xs : List V} {k : Int} (h : H p = some (.lst xs)) (k0 : 0 ≤ k) (k1 : (xs.length : Int) * k ≤ 100000) (k2 : k ≤ 100000) (q : ∀ l H2, H l = none → Same H H2 → H2 l = some (.lst (List.replicate k.toNat xs).flatten) → Q (.ref l) H2) : rMulU K (.ref p) (.int k) H Q :=
  .inr ⟨p, k, xs, rfl, rfl, h, by omega, by omega, by
    rw [sizeLine_eq]
    have : ((xs.length * k.toNat : Nat) : Int) ≤ 100000 := by
      rw [Int.natCast_mul, Int.toNat_of_nonneg k0]
      exact k1
    omega, fun l hl => q l _ hl (same_new hl) upd_same⟩
end
/-- two ways that meet again -/
theorem a_meet {α : Type} {c A B : Prop} [Decidable c] {R J : α → Hp → Prop} (h1 : c → (∀ v H, J v H → R v H) → A) (h2 : ¬ c → (∀ v H, J v H → R v H) → B) (fin : ∀ v H, J v H → R v H) : if decide c = true then A else B := a_ite (fun h => h1 h fin) fun h => h2 h fin
theorem a_nmeet {α : Type} {c A B : Prop} [Decidable c] {R J : α → Hp → Prop} (h1 : ¬ c → (∀ v H, J v H → R v H) → A) (h2 : c → (∀ v H, J v H → R v H) → B) (fin : ∀ v H, J v H → R v H) : if (!decide c) = true then A else B := a_nite (fun h => h1 h fin) fun h => h2 h fin
theorem eqv_zd : ∀ a b : List Int, PyData.eqvAll (zd a) (zd b) = decide (a = b)
  | [], [] => by simp [zd, PyData.eqvAll]
  | [], _ :: _ => by simp [zd, PyData.eqvAll]
  | _ :: _, [] => by simp [zd, PyData.eqvAll]
  | n :: a, m :: b => by
    have ih := eqv_zd a b
    simp only [zd, List.map_cons, PyData.eqvAll, PyData.eqv] at ih ⊢
    rw [ih]
    by_cases h : n = m
    · subst h
      simp
    · have h' : (n == m) = false := by
        rw [beq_eq_false_iff_ne]
        exact h
      rw [h']
      simp [h]
section
variable {K : PySem.W.Frag} {H : Hp} {n : Nat} {x y : V} {Q : VK} {a b : List Int}
theorem a_eqZ {p q : Addr} (hx : SqL K H p (zi a)) (hy : SqL K H q (zi b)) (k : Q (.bl (decide (a = b))) H) : rEqU K (.ref p) (.ref q) H Q := by
  have d1 : Dq K H 2 (.ref p) (.list (zd a)) := .lst hx (dqz a)
  have d2 : Dq K H 2 (.ref q) (.list (zd b)) := .lst hy (dqz b)
  refine a_eqD d1.dp d2.dp d1.sm.sh d2.sm.sh ?_
  have e : PyData.eqv (.list (zd a)) (.list (zd b)) = decide (a = b) := by
    simp only [PyData.eqv]
    exact eqv_zd a b
  rw [e]
  exact k
theorem a_neZ {p q : Addr} (hx : SqL K H p (zi a)) (hy : SqL K H q (zi b)) (k : Q (.bl (!decide (a = b))) H) : rNeU K (.ref p) (.ref q) H Q := by
  have d1 : Dq K H 2 (.ref p) (.list (zd a)) := .lst hx (dqz a)
  have d2 : Dq K H 2 (.ref q) (.list (zd b)) := .lst hy (dqz b)
  refine a_neD d1.dp d2.dp d1.sm.sh d2.sm.sh ?_
  have e : PyData.eqv (.list (zd a)) (.list (zd b)) = decide (a = b) := by
    simp only [PyData.eqv]
    exact eqv_zd a b
  rw [e]
  exact k
end
theorem sorted_uniq : ∀ {a b : List Int}, List.Perm a b → a.Pairwise (· ≤ ·) → b.Pairwise (· ≤ ·) → a = b
  | [], b, h, _, _ => by rw [List.nil_perm.mp h]
  | x :: a, [], h, _, _ => by cases List.perm_nil.mp h
  | x :: a, y :: b, h, ha, hb => by
    obtain ⟨hx, ha'⟩ := List.pairwise_cons.mp ha
    obtain ⟨hy, hb'⟩ := List.pairwise_cons.mp hb
    have e : x = y := by
      have h1 : x ∈ y :: b := h.mem_iff.mp (List.mem_cons_self ..)
      have h2 : y ∈ x :: a := h.mem_iff.mpr (List.mem_cons_self ..)
      have l1 : y ≤ x := by
        rcases List.mem_cons.mp h1 with e | m
        · omega
        · exact hy _ m
      have l2 : x ≤ y := by
        rcases List.mem_cons.mp h2 with e | m
        · omega
        · exact hx _ m
      omega
    subst e
    rw [sorted_uniq (List.Perm.cons_inv h) ha' hb']
theorem range_sorted (n : Nat) : (ni (List.range n)).Pairwise (· ≤ ·) := by
  unfold ni
  rw [List.pairwise_map]
  exact List.Pairwise.imp (fun h => by omega) (List.pairwise_lt_range (n := n))
end TT

set_option Elab.async false
set_option linter.all false
set_option maxRecDepth 100000
set_option maxHeartbeats 4000000
namespace TT
open PySem PySem.Spec PyProof.Rows L2
/-! ### a list or a tuple -/
def Seq (K : PySem.W.Frag) (H : Hp) (a : Addr) (xs : List V) : Prop := SqL K H a xs ∨ SqT K H a xs
theorem Seq.same {K : PySem.W.Frag} {H H1 : Hp} {a : Addr} {xs : List V} (h : Seq K H a xs) (s : Same H H1) : Seq K H1 a xs := h.elim (fun h => .inl (same_l s h)) fun h => .inr (same_t s h)
theorem a_lenS {K : PySem.W.Frag} {H : Hp} {p : Addr} {ys : List V} {Q : VK} (h : Seq K H p ys) (q : Q (.int ys.length) H) : rLenU K [.ref p] H Q := ⟨p, ys, rfl, h, q⟩
def rIter (K : PySem.W.Frag) (x : V) (H1 : Hp) (R : It → Hp → Prop) : Prop := ∃ a, x = .ref a ∧ (((∃ xs, SqL K H1 a xs) ∧ R (Itl K a) H1) ∨ ((∃ xs, SqT K H1 a xs) ∧ R (Itt K a) H1))
def iSeq (K : PySem.W.Frag) (tl : TE) : TI := fun σ H R => tl σ H fun x H1 => rIter K x H1 R
theorem pi_seq {X : Cx} {tg l : Expr} {tl : TE} {K : PySem.W.Frag} (hK : X.K = K) (hl : PE X l tl) : PI X tg l (iSeq K tl) := ⟨fun pins s σ H R I h => by
  subst hK
  refine thn (hl.run pins s σ H _ I h) fun v s1 hh => ?_
  obtain ⟨x, H1, J, r, a, ex, w⟩ := hh
  subst ex
  cases (show v = Value.ref a from r)
  have fp : ∀ b ∈ [s1.heap.objs.size], FpOk X pins H1 b := fun b hb => by
    obtain rfl : b = s1.heap.objs.size := List.mem_singleton.mp hb
    exact J.fpOk (Nat.le_refl _) (J.hok.fresh (Nat.le_refl _))
  rcases w with ⟨⟨xs, hq⟩, q⟩ | ⟨⟨xs, hq⟩, q⟩
  · obtain ⟨its, _, pl, _⟩ := J.list hq
    exact wpAny_pyIter_list pl.isList ⟨_, [s1.heap.objs.size], _, _, H1, rfl, J.kept (t' := s1.toks) fun b o z => Heap.get?_push_of_some _ z, turn_list a _, ⟨_, Heap.get?_push_size _ rfl, rfl, rfl⟩, fp, q⟩
  · obtain ⟨its, _, pl, _⟩ := J.tuple hq
    exact wpAny_pyIter_tuple (show s1.heap.IsTuple a its.toArray from pl) ⟨_, [s1.heap.objs.size], _, _, H1, rfl, J.kept (t' := s1.toks) fun b o z => Heap.get?_push_of_some _ z, turn_tuple a _, ⟨_, Heap.get?_push_size _ rfl, rfl, rfl⟩, fp, q⟩⟩
section
variable {K : PySem.W.Frag} {σ : L2.St} {H : Hp} {Q : VK} {a : Addr} {xs : List V} {j : Nat} {te : TE}
theorem g_iSeq {tl : TE} {R : It → Hp → Prop} (h : tl σ H fun x H1 => rIter K x H1 R) : iSeq K tl σ H R := h
theorem a_iter {R : It → Hp → Prop} (h : Seq K H a xs) (q : ∀ J, Walk J xs.length (fun H' => Same H H') (YAt xs) → R J H) : rIter K (.ref a) H R := by
  refine ⟨a, rfl, ?_⟩
  rcases h with h | h
  · exact .inl ⟨⟨xs, h⟩, q _ (walk_list.mono (fun H' s => same_l s h) fun _ _ _ _ _ _ y => y)⟩
  · exact .inr ⟨⟨xs, h⟩, q _ (walk_tup.mono (fun H' s => same_t s h) fun _ _ _ _ _ _ y => y)⟩
end
theorem sqt_but {K : PySem.W.Frag} {H H1 : Hp} {D t : Addr} {xs ys : List V} (hD : H D = some (.lst ys)) (b : But D H H1) (h : SqT K H t xs) : SqT K H1 t xs := by
  rcases h with (h | ⟨o, h⟩) | h
  · exact .inl (.inl (b _ _ (ne_of h hD (by intro z; cases z)) h))
  · exact .inl (.inr ⟨o, b _ _ (ne_of h hD (by intro z; cases z)) h⟩)
  · exact .inr h
theorem sqt_butI {K : PySem.W.Frag} {H H1 : Hp} {D C dx t : Addr} {fs : List (Str × V)} {xs : List V} (hD : H D = some (.ins C dx fs)) (b : But D H H1) (h : SqT K H t xs) : SqT K H1 t xs := by
  rcases h with (h | ⟨o, h⟩) | h
  · exact .inl (.inl (b _ _ (ne_of h hD (by intro z; cases z)) h))
  · exact .inl (.inr ⟨o, b _ _ (ne_of h hD (by intro z; cases z)) h⟩)
  · exact .inr h
theorem sql_but {K : PySem.W.Frag} {H H1 : Hp} {D C dx t : Addr} {fs : List (Str × V)} {xs : List V} (hD : H D = some (.ins C dx fs)) (b : But D H H1) (h : SqL K H t xs) : SqL K H1 t xs := by
  rcases h with (h | ⟨o, h⟩) | h
  · exact .inl (.inl (b _ _ (ne_of h hD (by intro z; cases z)) h))
  · exact .inl (.inr ⟨o, b _ _ (ne_of h hD (by intro z; cases z)) h⟩)
  · exact .inr h
/-! ### comprehensions whose items are new objects: P D k v H, the k-th item v, D the list that grows -/
section
variable {K : PySem.W.Frag} {J : It} {n j : Nat} {G : Hp → Prop} {Y : Nat → Hp → V → Hp → Prop} {σ : L2.St} {H H1 : Hp} {te : TE} {Q : VK} {P : Addr → Nat → V → Hp → Prop} {xs : List V}
structure Stb (P : Addr → Nat → V → Hp → Prop) : Prop where
  same : ∀ {D k v H H'}, Same H H' → P D k v H → P D k v H'
  but : ∀ {D k v H H' ys}, H D = some (.lst ys) → But D H H' → P D k v H → P D k v H'
theorem lc_p (w : Walk J n G Y) (st : Stb P) (hn : n ≤ 100000) (hG : ∀ H', Same H1 H' → G H')
    (hs : ∀ D acc i x H' H2, i < n → H1 D = none → Same H1 H' → H' D = some (.lst acc) → Y i H' x H2 → Same H' H2 ∧ ∀ R : VK, (∀ v H4, Same H2 H4 → P D i v H4 → R v H4) → te ((σ.set j none).set j (some x)) H2 R)
    (hd : ∀ D acc H', H1 D = none → Same H1 H' → H' D = some (.lst acc) → acc.length = n → (∀ k v, acc[k]? = some v → P D k v H') → Q (.ref D) H') :
    ∀ D, H1 D = none → ∃ W : Nat → Nat → Hp → Prop, (∃ m, W 0 m (upd H1 D (.lst []))) ∧ ∀ i m H, W i m H →
      (J.stop i H ∧ Q (.ref D) H) ∨ (J.go i H ∧ ∃ Nx : Hp → Prop, (∀ H', Nx H' → ∃ m', m' < m ∧ W (i + 1) m' H') ∧ ∀ x H', J.yld i H x H' → gName j x (wipe σ [j]) H' fun σ2 H2 => wipe σ2 [j] = wipe σ [j] ∧ tYes σ2 H2 fun b H3 =>
        if b = true then te σ2 H3 fun y H4 => ∃ acc, H4 D = some (.lst acc) ∧ acc.length < sizeLine ∧ Nx (upd H4 D (.lst (acc ++ [y]))) else Nx H3) := by
  intro D hD
  refine lc_it w (fun i H' => ∃ acc, Same H1 H' ∧ H' D = some (.lst acc) ∧ acc.length = i ∧ ∀ k v, acc[k]? = some v → P D k v H') ⟨[], same_new hD, upd_same, rfl, fun k v z => by simp at z⟩ (fun i H' _ ⟨_, q, _⟩ => hG H' q) ?_ fun H' ⟨acc, q1, q2, q3, q4⟩ => hd D acc H' hD q1 q2 q3 q4
  rintro i x H' H2 hi ⟨acc, q1, q2, q3, q4⟩ hy
  obtain ⟨s2, hte⟩ := hs D acc i x H' H2 hi hD q1 q2 hy
  refine ⟨set_none σ j (some x), ?_⟩
  unfold tYes
  dsimp only
  rw [if_pos rfl]
  refine hte _ fun v H4 s4 hP => ?_
  have e4 := s4 _ _ (s2 _ _ q2)
  refine ⟨acc, e4, szl (by omega), acc ++ [v], same_mut ((q1.trans s2).trans s4) hD, upd_same, by rw [List.length_append, q3]; rfl, fun k u hk => ?_⟩
  by_cases hl : k < acc.length
  · rw [List.getElem?_append_left hl] at hk
    exact st.but e4 But.upd (st.same (s2.trans s4) (q4 k u hk))
  · rw [List.getElem?_append_right (by omega)] at hk
    have e0 : k - acc.length = 0 := by
      have := (List.getElem?_eq_some_iff.mp hk).1
      simp at this
      omega
    rw [e0] at hk
    cases Option.some.inj hk
    have ek : k = i := by omega
    subst ek
    exact st.but e4 But.upd hP
theorem c_sp {tl : TE} (st : Stb P) (hn : xs.length ≤ 100000) (hl : ∀ R : VK, (∀ a H1, Same H H1 → Seq K H1 a xs → R (.ref a) H1) → tl σ H R)
    (hs : ∀ D acc i x H', H D = none → xs[i]? = some x → Same H H' → H' D = some (.lst acc) → ∀ R : VK, (∀ v H4, Same H' H4 → P D i v H4 → R v H4) → te ((σ.set j none).set j (some x)) H' R)
    (hd : ∀ D acc H', H D = none → Same H H' → H' D = some (.lst acc) → acc.length = xs.length → (∀ k v, acc[k]? = some v → P D k v H') → Q (.ref D) H') : tLc (iSeq K tl) (gName j) tYes te [j] σ H Q := by
  refine hl _ fun a H1 s1 h => a_iter h fun J w => lc_p w st hn (fun H' s => s) (fun D acc i x H' H2 hi hD s hacc y => ?_) fun D acc H' nD s e1 e2 e3 => hd D acc H' (s1.free nD) (s1.trans s) e1 e2 e3
  obtain ⟨rfl, e⟩ := y
  exact ⟨Same.refl _, hs D acc i x _ (s1.free hD) e (s1.trans s) hacc⟩
theorem c_lp {tl : TE} (st : Stb P) (hn : xs.length ≤ 100000) (hl : ∀ R : VK, (∀ a H1, Same H H1 → SqL K H1 a xs → R (.ref a) H1) → tl σ H R)
    (hs : ∀ D acc i x H', H D = none → xs[i]? = some x → Same H H' → H' D = some (.lst acc) → ∀ R : VK, (∀ v H4, Same H' H4 → P D i v H4 → R v H4) → te ((σ.set j none).set j (some x)) H' R)
    (hd : ∀ D acc H', H D = none → Same H H' → H' D = some (.lst acc) → acc.length = xs.length → (∀ k v, acc[k]? = some v → P D k v H') → Q (.ref D) H') : tLc (iList K tl) (gName j) tYes te [j] σ H Q := by
  refine hl _ fun a H1 s1 h => ⟨a, rfl, ⟨xs, h⟩, lc_p walk_list st hn (fun H' s => same_l s h) (fun D acc i x H' H2 hi hD s hacc y => ?_) fun D acc H' nD s e1 e2 e3 => hd D acc H' (s1.free nD) (s1.trans s) e1 e2 e3⟩
  obtain ⟨rfl, e⟩ := y
  exact ⟨Same.refl _, hs D acc i x _ (s1.free hD) e (s1.trans s) hacc⟩
end
/-! ### pairs of ints, rows of pairs, lists of rows -/
abbrev Pr := Int × Int
def PairAt (K : PySem.W.Frag) (H : Hp) (v : V) (x : Pr) : Prop := ∃ q, v = .ref q ∧ SqT K H q [.int x.1, .int x.2]
def PairsIn (K : PySem.W.Frag) (H : Hp) (ys : List V) (ps : List Pr) : Prop := ys.length = ps.length ∧ ∀ (k : Nat) v x, ys[k]? = some v → ps[k]? = some x → PairAt K H v x
def PairsAt (K : PySem.W.Frag) (H : Hp) (v : V) (ps : List Pr) : Prop := ∃ q ys, v = .ref q ∧ Seq K H q ys ∧ PairsIn K H ys ps
def LinesIn (K : PySem.W.Frag) (H : Hp) (ys : List V) (ls : List (List Pr)) : Prop := ys.length = ls.length ∧ ∀ (k : Nat) v x, ys[k]? = some v → ls[k]? = some x → PairsAt K H v x
section
variable {K : PySem.W.Frag} {H H1 : Hp} {v : V} {x : Pr} {ys : List V} {ps : List Pr} {ls : List (List Pr)}
theorem PairAt.same (h : PairAt K H v x) (s : Same H H1) : PairAt K H1 v x := let ⟨q, e, h⟩ := h; ⟨q, e, same_t s h⟩
theorem PairAt.but {D : Addr} {zs : List V} (hD : H D = some (.lst zs)) (b : But D H H1) (h : PairAt K H v x) : PairAt K H1 v x := let ⟨q, e, h⟩ := h; ⟨q, e, sqt_but hD b h⟩
theorem PairsIn.same (h : PairsIn K H ys ps) (s : Same H H1) : PairsIn K H1 ys ps := ⟨h.1, fun k v x a b => (h.2 k v x a b).same s⟩
theorem PairsIn.but {D : Addr} {zs : List V} (h : PairsIn K H ys ps) (hD : H D = some (.lst zs)) (b : But D H H1) : PairsIn K H1 ys ps := ⟨h.1, fun k v x e f => (h.2 k v x e f).but hD b⟩
theorem PairsAt.same (h : PairsAt K H v ps) (s : Same H H1) : PairsAt K H1 v ps := let ⟨q, ys, e, h1, h2⟩ := h; ⟨q, ys, e, h1.same s, h2.same s⟩
theorem LinesIn.same (h : LinesIn K H ys ls) (s : Same H H1) : LinesIn K H1 ys ls := ⟨h.1, fun k v x a b => (h.2 k v x a b).same s⟩
theorem PairAt.butI {D C dx : Addr} {fs : List (Str × V)} (hD : H D = some (.ins C dx fs)) (b : But D H H1) (h : PairAt K H v x) : PairAt K H1 v x := let ⟨q, e, h⟩ := h; ⟨q, e, sqt_butI hD b h⟩
theorem PairsIn.butI {D C dx : Addr} {fs : List (Str × V)} (h : PairsIn K H ys ps) (hD : H D = some (.ins C dx fs)) (b : But D H H1) : PairsIn K H1 ys ps := ⟨h.1, fun k v x e f => (h.2 k v x e f).butI hD b⟩
theorem LinesIn.but {D C dx : Addr} {fs : List (Str × V)} (h : LinesIn K H ys ls) (hD : H D = some (.ins C dx fs)) (b : But D H H1) : LinesIn K H1 ys ls := ⟨h.1, fun k v x e f => by
  obtain ⟨q, zs, e1, h1, h2⟩ := h.2 k v x e f
  exact ⟨q, zs, e1, h1.elim (fun h => .inl (sql_but hD b h)) (fun h => .inr (sqt_butI hD b h)), h2.butI hD b⟩⟩
def prD (x : Pr) : PyData := .tuple [.int x.1, .int x.2]
def psD (ps : List Pr) : List PyData := ps.map prD
def lsD (ls : List (List Pr)) : List PyData := ls.map fun ps => .tuple (psD ps)
theorem PairAt.dq {n : Nat} (h : PairAt K H v x) : Dq K H (n + 2) v (prD x) := by
  obtain ⟨q, rfl, h⟩ := h
  exact .tup h (.cons (.int _) (.cons (.int _) .nil))
/-- all items, one by one -/
theorem dqa {α : Type} {n : Nat} (f : α → PyData) : ∀ {ys : List V} {xs : List α}, ys.length = xs.length → (∀ (k : Nat) v x, ys[k]? = some v → xs[k]? = some x → Dq K H n v (f x)) → DqA K H n ys (xs.map f)
  | [], [], _, _ => .nil
  | [], _ :: _, e, _ => by cases e
  | _ :: _, [], e, _ => by cases e
  | y :: ys, x :: xs, e, h => .cons (h 0 y x rfl rfl) (dqa f (Nat.succ.inj e) fun k v z a b => h (k + 1) v z a b)
theorem PairsIn.dq {n : Nat} (h : PairsIn K H ys ps) : DqA K H (n + 2) ys (psD ps) := dqa prD h.1 fun k v x a b => (h.2 k v x a b).dq
end
end TT

set_option Elab.async false
set_option linter.all false
set_option maxRecDepth 100000
set_option maxHeartbeats 4000000
namespace TT
open PySem PySem.Spec PyProof.Rows L2
/-! ### two lists, item by item -/
def Par {α β : Type} (R : α → β → Prop) (ys : List α) (xs : List β) : Prop := ys.length = xs.length ∧ ∀ (k : Nat) v x, ys[k]? = some v → xs[k]? = some x → R v x
section
variable {α β : Type} {R R' : α → β → Prop} {ys zs : List α} {xs ws : List β}
theorem Par.mono (h : Par R ys xs) (m : ∀ v x, R v x → R' v x) : Par R' ys xs := ⟨h.1, fun k v x a b => m v x (h.2 k v x a b)⟩
theorem Par.nil : Par R [] [] := ⟨rfl, fun k v x a => by simp at a⟩
theorem Par.one {y : α} {x : β} (h : R y x) : Par R [y] [x] := ⟨rfl, fun k v z a b => by
  have hk : k = 0 := by
    have := (List.getElem?_eq_some_iff.mp a).1
    simp at this
    omega
  subst hk
  cases Option.some.inj a
  cases Option.some.inj b
  exact h⟩
theorem Par.append (h : Par R ys xs) (h' : Par R zs ws) : Par R (ys ++ zs) (xs ++ ws) := ⟨by rw [List.length_append, List.length_append, h.1, h'.1], fun k v x a b => by
  by_cases hk : k < ys.length
  · rw [List.getElem?_append_left hk] at a
    rw [List.getElem?_append_left (by rw [← h.1]; exact hk)] at b
    exact h.2 k v x a b
  · rw [List.getElem?_append_right (by omega)] at a
    rw [List.getElem?_append_right (by rw [← h.1]; omega), ← h.1] at b
    exact h'.2 _ v x a b⟩
theorem Par.snoc {y : α} {x : β} (h : Par R ys xs) (h' : R y x) : Par R (ys ++ [y]) (xs ++ [x]) := h.append (.one h')
theorem Par.drop (h : Par R ys xs) (n : Nat) : Par R (ys.drop n) (xs.drop n) := ⟨by rw [List.length_drop, List.length_drop, h.1], fun k v x a b => by
  rw [List.getElem?_drop] at a b
  exact h.2 _ v x a b⟩
theorem Par.take (h : Par R ys xs) (n : Nat) : Par R (ys.take n) (xs.take n) := ⟨by rw [List.length_take, List.length_take, h.1], fun k v x a b => by
  rw [List.getElem?_take] at a b
  by_cases hk : k < n
  · rw [if_pos hk] at a b
    exact h.2 _ v x a b
  · rw [if_neg hk] at a
    cases a⟩
theorem Par.rep (h : Par R ys xs) : ∀ n : Nat, Par R (List.replicate n ys).flatten (List.replicate n xs).flatten
  | 0 => .nil
  | n + 1 => by
    rw [List.replicate_succ, List.replicate_succ, List.flatten_cons, List.flatten_cons]
    exact h.append (Par.rep h n)
theorem Par.get (h : Par R ys xs) {k : Nat} (hk : k < xs.length) : ∃ v, ys[k]? = some v ∧ R v xs[k] := by
  have hy : k < ys.length := by rw [h.1]; exact hk
  exact ⟨ys[k], List.getElem?_eq_getElem hy, h.2 k _ _ (List.getElem?_eq_getElem hy) (List.getElem?_eq_getElem hk)⟩
def cut (xs : List β) (lo hi : Option Int) : List β := (xs.drop (HT.sIx xs.length 0 lo)).take (HT.sIx xs.length xs.length hi - HT.sIx xs.length 0 lo)
theorem Par.cut {R : V → β → Prop} {ys : List V} (h : Par R ys xs) (lo hi : Option Int) : Par R (cutV ys lo hi) (TT.cut xs lo hi) := by
  unfold cutV TT.cut
  rw [h.1]
  exact (h.drop _).take _
theorem cut_len (xs : List β) (lo hi : Option Int) : (cut xs lo hi).length ≤ xs.length := by
  unfold cut
  rw [List.length_take, List.length_drop]
  omega
theorem cut_mem {xs : List β} {lo hi : Option Int} {x : β} (h : x ∈ cut xs lo hi) : x ∈ xs := List.mem_of_mem_drop (List.mem_of_mem_take h)
theorem sIx_nat {n d k : Nat} (h : k ≤ n) : HT.sIx n d (some (k : Int)) = k := by
  unfold HT.sIx
  simp
  have : ¬ ((k : Int) < 0) := by omega
  rw [if_neg this]
  omega
theorem cut_le {xs : List β} (k : Nat) : (cut xs none (some (k : Int))).length ≤ k := by
  unfold cut
  rw [List.length_take]
  have : HT.sIx xs.length xs.length (some (k : Int)) ≤ k := by
    unfold HT.sIx
    simp
    have : ¬ ((k : Int) < 0) := by omega
    rw [if_neg this]
    omega
  omega
theorem cut_m1 {xs : List β} : (cut xs none (some (-1))).length = xs.length - 1 := by
  have e : HT.sIx xs.length xs.length (some (-1)) = xs.length - 1 := by
    unfold HT.sIx
    simp
    omega
  have e0 : HT.sIx xs.length 0 none = 0 := rfl
  unfold cut
  rw [e, e0]
  simp
theorem cut_take {xs : List β} {k : Nat} (h : k ≤ xs.length) : cut xs none (some (k : Int)) = xs.take k := by
  have e : HT.sIx xs.length 0 none = 0 := rfl
  unfold cut
  rw [sIx_nat h, e]
  simp
theorem cut_drop {xs : List β} {k : Nat} (h : k ≤ xs.length) : cut xs (some (k : Int)) none = xs.drop k := by
  have e : HT.sIx xs.length xs.length none = xs.length := rfl
  unfold cut
  rw [sIx_nat h, e]
  exact List.take_of_length_le (by rw [List.length_drop]; omega)
end
/-! ### the heap without what may change -/
def Off (ms : List Addr) (H : Hp) : Hp := fun a => if a ∈ ms then none else H a
section
variable {ms : List Addr} {H H1 : Hp} {p a : Addr} {o : HO}
theorem Off.sub : Same (Off ms H) H := fun a o h => by
  unfold Off at h
  by_cases e : a ∈ ms
  · rw [if_pos e] at h
    cases h
  · rw [if_neg e] at h
    exact h
theorem Off.at_ (h : H a = some o) (n : a ∉ ms) : Off ms H a = some o := by
  unfold Off
  rw [if_neg n]
  exact h
theorem Off.same (s : Same H H1) : Same (Off ms H) (Off ms H1) := fun a o h => by
  unfold Off at h ⊢
  by_cases e : a ∈ ms
  · rw [if_pos e] at h
    cases h
  · rw [if_neg e] at h ⊢
    exact s a o h
theorem Off.but (m : p ∈ ms) (b : But p H H1) : Same (Off ms H) (Off ms H1) := fun a o h => by
  unfold Off at h ⊢
  by_cases e : a ∈ ms
  · rw [if_pos e] at h
    cases h
  · rw [if_neg e] at h ⊢
    exact b a o (fun z => e (z ▸ m)) h
theorem Off.mut {H0 : Hp} {q : Addr} (s : Same (Off ms H0) (Off ms H)) (n : H0 q = none) (b : But q H H1) : Same (Off ms H0) (Off ms H1) := fun a o h => by
  have h1 := s a o h
  have ne : a ≠ q := ne_of_none (Off.sub a o h) n
  unfold Off at h1 ⊢
  by_cases e : a ∈ ms
  · rw [if_pos e] at h1
    cases h1
  · rw [if_neg e] at h1 ⊢
    exact b a o ne h1
theorem Off.more {ns : List Addr} (s : ∀ a ∈ ns, a ∈ ms ∨ H a = none) : Same (Off ms H) (Off ns H) := fun a o h => by
  have e1 : a ∉ ms := fun e => by
    unfold Off at h
    rw [if_pos e] at h
    cases h
  unfold Off at h ⊢
  rw [if_neg e1] at h
  rw [if_neg fun e => (s a e).elim e1 fun z => by rw [z] at h; cases h]
  exact h
end
section
variable {K : PySem.W.Frag} {H : Hp} {Q : VK} {p b : Addr} {xs zs : List V}
theorem a_cat (h1 : H p = some (.lst xs)) (h2 : H b = some (.lst zs)) (hl : xs.length + zs.length ≤ 100000) (q : ∀ l H2, H l = none → Same H H2 → H2 l = some (.lst (xs ++ zs)) → Q (.ref l) H2) : rAddU K (.ref p) (.ref b) H Q :=
  .inr (.inl ⟨p, b, xs, zs, rfl, rfl, h1, h2, sz hl, fun l hl => q l _ hl (same_new hl) upd_same⟩)
theorem a_slL {lo hi : Option Int} (h : SqL K H p xs) (q : ∀ l H2, H l = none → Same H H2 → H2 l = some (.lst (cutV xs lo hi)) → Q (.ref l) H2) : rSlU K (.ref p) lo hi H Q := .inl ⟨p, xs, rfl, h, fun l hl => q l _ hl (same_new hl) upd_same⟩
end
def rInsert : V → List V → Hp → VK → Prop := fun x vs H Q => ∃ (l : Addr) (xs : List V) (i : Int) (y : V), x = .ref l ∧ vs = [.int i, y] ∧ H l = some (.lst xs) ∧ xs.length < sizeLine ∧ 0 ≤ i ∧ i < 2 ^ 63 ∧ Q .non (upd H l (.lst (xs.take i.toNat ++ [y] ++ xs.drop i.toNat)))
theorem mt_ins {X : Cx} : MtR X "list.insert" rInsert := mt_insert
theorem a_ins {H : Hp} {Q : VK} {p : Addr} {xs : List V} {i : Nat} {y : V} (h : H p = some (.lst xs)) (hl : xs.length < 100000) (hi : i ≤ 100000) (q : ∀ H2, But p H H2 → H2 p = some (.lst (xs.take i ++ [y] ++ xs.drop i)) → Q .non H2) : rInsert (.ref p) [.int (i : Nat), y] H Q :=
  ⟨p, xs, _, y, rfl, rfl, h, szl hl, by omega, by omega, q _ But.upd upd_same⟩
/-- the first item of a tuple of data -/
theorem Dq.fst {K : PySem.W.Frag} {H : Hp} {n : Nat} {p : Addr} {x : Str} {ds : List PyData} (h : Dq K H n (.ref p) (.tuple (.str x :: ds))) : ∃ vs, SqT K H p (.str x :: vs) := by
  cases h.dp with
  | tup h1 h2 =>
    cases h2 with
    | cons h3 h4 =>
      cases h3
      exact ⟨_, h1⟩
end TT

set_option Elab.async false
set_option linter.all false
set_option maxRecDepth 100000
set_option maxHeartbeats 4000000
namespace TT
/-! ### powers of permutations -/
def stp (a : List Nat) (x : Nat) : Nat := a.getD x 0
def itr (a : List Nat) : Nat → Nat → Nat
  | 0, x => x
  | k + 1, x => stp a (itr a k x)
section
variable {a : List Nat}
theorem stp_lt (h : OkImg a) {x : Nat} (hx : x < a.length) : stp a x < a.length := by
  unfold stp
  rw [getD_lt hx]
  exact h.lt _ (List.getElem_mem _)
theorem itr_lt (h : OkImg a) {x : Nat} (hx : x < a.length) : ∀ k, itr a k x < a.length
  | 0 => hx
  | k + 1 => stp_lt h (itr_lt h hx k)
theorem itr_add (x : Nat) (k : Nat) : ∀ j, itr a (j + k) x = itr a j (itr a k x)
  | 0 => by rw [Nat.zero_add]; rfl
  | j + 1 => by
    rw [Nat.succ_add]
    show stp a _ = stp a _
    rw [itr_add x k j]
theorem stp_inj (h : OkImg a) {x y : Nat} (hx : x < a.length) (hy : y < a.length) (e : stp a x = stp a y) : x = y := by
  unfold stp at e
  rw [getD_lt hx, getD_lt hy] at e
  exact nd_inj h.nd hx hy e
theorem itr_inj (h : OkImg a) {x y : Nat} (hx : x < a.length) (hy : y < a.length) : ∀ k, itr a k x = itr a k y → x = y
  | 0, e => e
  | k + 1, e => itr_inj h hx hy k (stp_inj h (itr_lt h hx k) (itr_lt h hy k) e)
theorem per_ex (h : OkImg a) {x : Nat} (hx : x < a.length) : ∃ L, 0 < L ∧ L ≤ a.length ∧ itr a L x = x := by
  have key : ¬ ((List.range (a.length + 1)).map fun k => itr a k x).Nodup := fun nd => by
    have := sub_len (m := List.range a.length) nd fun y hy => by
      obtain ⟨k, _, rfl⟩ := List.mem_map.mp hy
      exact List.mem_range.mpr (itr_lt h hx k)
    rw [List.length_map, List.length_range, List.length_range] at this
    omega
  rw [List.nodup_iff_pairwise_ne, List.pairwise_iff_getElem] at key
  have key2 : ∃ i j, i < j ∧ j ≤ a.length ∧ itr a i x = itr a j x := by
    refine Classical.byContradiction fun no => key fun i j hi hj hij e => no ⟨i, j, hij, ?_, ?_⟩
    · rw [List.length_map, List.length_range] at hj
      omega
    · simpa using e
  obtain ⟨i, j, hij, hj, e⟩ := key2
  refine ⟨j - i, by omega, by omega, ?_⟩
  have e2 : itr a i x = itr a i (itr a (j - i) x) := by
    rw [← itr_add, e]
    congr 1
    omega
  exact (itr_inj h hx (itr_lt h hx _) i e2).symm
def per (a : List Nat) (x : Nat) : Nat := ((List.range a.length).find? fun k => itr a (k + 1) x == x).getD 0 + 1
theorem per_is (h : OkImg a) {x : Nat} (hx : x < a.length) : itr a (per a x) x = x ∧ per a x ≤ a.length ∧ ∀ k, 0 < k → k < per a x → itr a k x ≠ x := by
  obtain ⟨L, L0, L1, eL⟩ := per_ex h hx
  unfold per
  cases hf : (List.range a.length).find? fun k => itr a (k + 1) x == x with
  | none =>
    have := List.find?_eq_none.mp hf (L - 1) (List.mem_range.mpr (by omega))
    rw [show L - 1 + 1 = L by omega, eL] at this
    simp at this
  | some i =>
    have h1 := List.find?_range_eq_some.mp hf
    obtain ⟨p1, p2, p3⟩ := h1
    rw [Option.getD_some]
    refine ⟨eq_of_beq p1, List.mem_range.mp p2, fun k k0 k1 e => ?_⟩
    have := p3 (k - 1) (by omega)
    rw [show k - 1 + 1 = k by omega, e] at this
    simp at this
theorem per_pos (a : List Nat) (x : Nat) : 0 < per a x := Nat.succ_pos _
theorem itr_mul (x : Nat) {L : Nat} (e : itr a L x = x) : ∀ q, itr a (L * q) x = x
  | 0 => rfl
  | q + 1 => by rw [Nat.mul_succ, itr_add, e, itr_mul x e q]
theorem itr_mod (h : OkImg a) {x : Nat} (hx : x < a.length) (k : Nat) : itr a k x = itr a (k % per a x) x := by
  have e : itr a k x = itr a (k % per a x + per a x * (k / per a x)) x := by rw [Nat.mod_add_div]
  rw [e, itr_add, itr_mul x (per_is h hx).1]
theorem itr_dvd (h : OkImg a) {x : Nat} (hx : x < a.length) {k : Nat} : itr a k x = x ↔ per a x ∣ k := by
  constructor
  · intro e
    rw [itr_mod h hx] at e
    have hl := Nat.mod_lt k (per_pos a x)
    by_cases h0 : k % per a x = 0
    · exact Nat.dvd_of_mod_eq_zero h0
    · exact absurd e ((per_is h hx).2.2 _ (Nat.pos_of_ne_zero h0) hl)
  · rintro ⟨q, rfl⟩
    exact itr_mul x (per_is h hx).1 q
theorem itr_uniq (h : OkImg a) {x : Nat} (hx : x < a.length) {j k : Nat} (hj : j < per a x) (hk : k < per a x) (e : itr a j x = itr a k x) : j = k := by
  have main : ∀ {j k : Nat}, j < k → k < per a x → itr a j x = itr a k x → False := fun {j k} hjk hk e => by
    have e2 : itr a j x = itr a j (itr a (k - j) x) := by
      rw [← itr_add, e]
      congr 1
      omega
    exact (per_is h hx).2.2 (k - j) (by omega) (by omega) (itr_inj h hx (itr_lt h hx _) j e2).symm
  rcases Nat.lt_trichotomy j k with l | l | l
  · exact (main l hk e).elim
  · exact l
  · exact (main l hj e.symm).elim
theorem per_itr (h : OkImg a) {x : Nat} (hx : x < a.length) (k : Nat) : per a (itr a k x) = per a x := by
  have q : ∀ m, itr a m (itr a k x) = itr a k x ↔ itr a m x = x := fun m => by
    rw [← itr_add, Nat.add_comm, itr_add]
    constructor
    · intro e
      exact itr_inj h (itr_lt h hx m) hx k e
    · intro e
      rw [e]
  unfold per
  have : (fun m => itr a (m + 1) (itr a k x) == itr a k x) = fun m => itr a (m + 1) x == x := by
    funext m
    rw [Bool.eq_iff_iff, beq_iff_eq, beq_iff_eq]
    exact q (m + 1)
  rw [this]
/-- the z-th step from x -/
def zit (a : List Nat) (z : Int) (x : Nat) : Nat := itr a (z % (per a x : Int)).toNat x
theorem emod_nat (z : Int) {L : Nat} (h : 0 < L) : 0 ≤ z % (L : Int) ∧ z % (L : Int) < L := ⟨Int.emod_nonneg _ (by omega), Int.emod_lt_of_pos _ (by omega)⟩
theorem zit_lt (h : OkImg a) {x : Nat} (hx : x < a.length) (z : Int) : zit a z x < a.length := itr_lt h hx _
theorem zit_nat (h : OkImg a) {x : Nat} (hx : x < a.length) (k : Nat) : zit a (k : Int) x = itr a k x := by
  unfold zit
  have e : ((k : Int) % (per a x : Int)).toNat = k % per a x := by
    rw [← Int.natCast_emod, Int.toNat_natCast]
  rw [e, ← itr_mod h hx]
theorem zit_add (h : OkImg a) {x : Nat} (hx : x < a.length) (z w : Int) : zit a (z + w) x = zit a w (zit a z x) := by
  have hL := per_pos a x
  have e1 : per a (zit a z x) = per a x := per_itr h hx _
  have s1 := emod_nat z hL
  have s2 := emod_nat w hL
  have s3 := emod_nat (z + w) hL
  have R : zit a w (zit a z x) = itr a ((w % (per a x : Int)).toNat + (z % (per a x : Int)).toNat) x := by
    rw [itr_add]
    show itr a (w % (per a (zit a z x) : Int)).toNat (zit a z x) = _
    rw [e1]
    rfl
  rw [R, itr_mod h hx]
  show itr a ((z + w) % (per a x : Int)).toNat x = _
  congr 1
  have : ((((w % (per a x : Int)).toNat + (z % (per a x : Int)).toNat) % per a x : Nat) : Int) = (z + w) % (per a x : Int) := by
    rw [Int.natCast_emod, Int.natCast_add, Int.toNat_of_nonneg s1.1, Int.toNat_of_nonneg s2.1, ← Int.add_emod, Int.add_comm]
  omega
theorem zit_0 (h : OkImg a) {x : Nat} (hx : x < a.length) : zit a 0 x = x := zit_nat h hx 0
theorem zit_1 (h : OkImg a) {x : Nat} (hx : x < a.length) : zit a 1 x = stp a x := zit_nat h hx 1
def pw (a : List Nat) (z : Int) : List Nat := (List.range a.length).map fun x => zit a z x
theorem pw_len (a : List Nat) (z : Int) : (pw a z).length = a.length := by unfold pw; rw [List.length_map, List.length_range]
theorem pw_get {z : Int} {x : Nat} (hx : x < (pw a z).length) : (pw a z)[x] = zit a z x := by simp [pw]
theorem pw_ok (h : OkImg a) (z : Int) : OkImg (pw a z) := by
  refine .of_inj (fun i j hi hj e => ?_) fun i hi => ?_
  · rw [pw_get, pw_get] at e
    rw [pw_len] at hi hj
    have e2 := congrArg (zit a (-z)) e
    rw [← zit_add h hi, ← zit_add h hj, Int.add_right_neg, zit_0 h hi, zit_0 h hj] at e2
    exact e2
  · rw [pw_get]
    rw [pw_len] at hi ⊢
    exact zit_lt h hi z
theorem pw_comp (h : OkImg a) (z w : Int) : comp (pw a z) (pw a w) = pw a (z + w) := by
  refine List.ext_getElem (by rw [comp_len, pw_len, pw_len]) fun i h1 h2 => ?_
  rw [comp_len] at h1
  rw [comp_get h1, pw_get, pw_get]
  rw [pw_len] at h1
  have hl := zit_lt h h1 z
  rw [getD_lt (by rw [pw_len]; exact hl), pw_get, zit_add h h1]
theorem pw_0 (h : OkImg a) : pw a 0 = List.range a.length := by
  refine List.ext_getElem (by rw [pw_len, List.length_range]) fun i h1 h2 => ?_
  rw [pw_get, List.getElem_range]
  rw [pw_len] at h1
  exact zit_0 h h1
theorem pw_1 (h : OkImg a) : pw a 1 = a := by
  refine List.ext_getElem (pw_len _ _) fun i h1 h2 => ?_
  rw [pw_get, zit_1 h h2]
  unfold stp
  rw [getD_lt h2]
theorem pw_m1 (h : OkImg a) : pw a (-1) = inv a := by
  refine List.ext_getElem (by rw [pw_len, inv_len]) fun i h1 h2 => ?_
  rw [pw_get, inv_get]
  rw [pw_len] at h1
  have hl := zit_lt h h1 (-1)
  refine (idx_uniq h.nd hl ?_).symm
  have e : zit a 1 (zit a (-1) i) = i := by
    rw [← zit_add h h1]
    exact zit_0 h h1
  rw [zit_1 h hl] at e
  unfold stp at e
  rw [getD_lt hl] at e
  exact e
theorem pw_up (h : OkImg a) (z : Int) : comp (pw a z) a = pw a (z + 1) := by
  have := pw_comp h z 1
  rw [pw_1 h] at this
  exact this
theorem pw_down (h : OkImg a) (z : Int) : comp (pw a z) (inv a) = pw a (z - 1) := by
  have := pw_comp h z (-1)
  rw [pw_m1 h] at this
  exact this
theorem zit_per (h : OkImg a) {x : Nat} (hx : x < a.length) {z w : Int} (d : (per a x : Int) ∣ z - w) : zit a z x = zit a w x := by
  unfold zit
  have : z % (per a x : Int) = w % (per a x : Int) := Int.emod_eq_emod_iff_emod_sub_eq_zero.mpr (Int.emod_eq_zero_of_dvd d)
  rw [this]
theorem pw_per (h : OkImg a) {z w : Int} (d : ∀ x, x < a.length → (per a x : Int) ∣ z - w) : pw a z = pw a w := by
  refine List.ext_getElem (by rw [pw_len, pw_len]) fun i h1 h2 => ?_
  rw [pw_get, pw_get]
  rw [pw_len] at h1
  exact zit_per h h1 (d i h1)
/-- the cycle from x -/
def cyc (a : List Nat) (x : Nat) : List Nat := (List.range (per a x)).map fun k => itr a k x
theorem cyc_len (a : List Nat) (x : Nat) : (cyc a x).length = per a x := by unfold cyc; rw [List.length_map, List.length_range]
theorem cyc_get {x k : Nat} (hk : k < (cyc a x).length) : (cyc a x)[k] = itr a k x := by simp [cyc]
theorem cyc_pw (h : OkImg a) {x : Nat} (hx : x < a.length) {k : Nat} (hk : k < per a x) (z : Int) : ∃ j : Nat, j < per a x ∧ (((k : Int) + z) % (per a x : Int)) = j ∧ (cyc a x)[j]? = some (zit a z (itr a k x)) := by
  have s := emod_nat ((k : Int) + z) (per_pos a x)
  refine ⟨(((k : Int) + z) % (per a x : Int)).toNat, by omega, by omega, ?_⟩
  rw [List.getElem?_eq_getElem (by rw [cyc_len]; omega), cyc_get]
  have e := zit_add h hx (k : Int) z
  rw [zit_nat h hx k] at e
  rw [← e]
  rfl
end
end TT

set_option Elab.async false
set_option linter.all false
set_option maxRecDepth 100000
set_option maxHeartbeats 4000000
namespace TT
open PySem PySem.Spec PyProof.Rows L2
theorem w_loop {c : TT} {tb : TS} {D : Ends} {σ : L2.St} {H : Hp} (W : Nat → L2.St → Hp → Prop) (m : Nat) (h0 : W m σ H) (hs : ∀ m σ H, W m σ H → c σ H fun b H1 => if b = true then ∃ N : L2.St → Hp → Prop, (∀ σ' H', N σ' H' → ∃ m', m' < m ∧ W m' σ' H') ∧ tb { D with nx := N, ct := N, bk := D.nx } σ H1 else D.nx σ H1) : tWhile c tb D σ H := ⟨W, ⟨m, h0⟩, hs⟩
theorem w_go {tb : TS} {D : Ends} {σ : L2.St} {H : Hp} {W : Nat → L2.St → Hp → Prop} {m : Nat} (h : tb { D with nx := fun σ' H' => ∃ m', m' < m ∧ W m' σ' H', ct := fun σ' H' => ∃ m', m' < m ∧ W m' σ' H', bk := D.nx } σ H) :
    ∃ N : L2.St → Hp → Prop, (∀ σ' H', N σ' H' → ∃ m', m' < m ∧ W m' σ' H') ∧ tb { D with nx := N, ct := N, bk := D.nx } σ H := ⟨_, fun _ _ h => h, h⟩
def seenP (ps : List Nat) (n : Nat) : List V := (List.range n).map fun j => V.bl (decide (j ∈ ps))
theorem seenP_len (ps : List Nat) (n : Nat) : (seenP ps n).length = n := by unfold seenP; rw [List.length_map, List.length_range]
theorem seenP_at (ps : List Nat) (n j : Nat) (h : j < n) : (seenP ps n)[j]? = some (.bl (decide (j ∈ ps))) := by
  unfold seenP
  rw [List.getElem?_map, List.getElem?_range h]
  rfl
theorem seenP_set (ps : List Nat) (n j : Nat) (h : j < n) : (seenP ps n).set j (.bl true) = seenP (ps ++ [j]) n := by
  refine List.ext_getElem (by rw [List.length_set, seenP_len, seenP_len]) fun i h1 h2 => ?_
  rw [List.getElem_set]
  simp only [seenP, List.getElem_map, List.getElem_range]
  by_cases e : j = i
  · subst e
    rw [if_pos rfl, decide_eq_true (List.mem_append_right _ (List.mem_singleton.mpr rfl))]
  · rw [if_neg e]
    congr 1
    rw [decide_eq_decide, List.mem_append, List.mem_singleton]
    exact ⟨.inl, fun z => z.elim id fun z => absurd z.symm e⟩
theorem a_truP {K : PySem.W.Frag} {H : Hp} {p : Addr} {xs : List V} {R : Bool → Prop} (e : SqL K H p xs) (h : R (decide (xs ≠ []))) : ∃ k, TruV K (.ref p) H k ∧ R k := a_truL e (by
  cases xs with
  | nil => exact h
  | cons x xs => exact h)
/-- the first k of the cycle from x -/
def cyk (a : List Nat) (x k : Nat) : List Nat := (List.range k).map fun k => itr a k x
theorem cyk_up (a : List Nat) (x k : Nat) : cyk a x (k + 1) = cyk a x k ++ [itr a k x] := by
  unfold cyk
  rw [List.range_succ, List.map_append]
  rfl
theorem cyk_len (a : List Nat) (x k : Nat) : (cyk a x k).length = k := by unfold cyk; rw [List.length_map, List.length_range]
theorem mem_cyk {a : List Nat} {x k y : Nat} : y ∈ cyk a x k ↔ ∃ j, j < k ∧ itr a j x = y := by
  unfold cyk
  rw [List.mem_map]
  exact ⟨fun ⟨j, h, e⟩ => ⟨j, List.mem_range.mp h, e⟩, fun ⟨j, h, e⟩ => ⟨j, List.mem_range.mpr h, e⟩⟩
/-- all points of the cycles that begin at bs -/
def cyf (a : List Nat) (bs : List Nat) : List Nat := (bs.map (cyc a)).flatten
theorem mem_cyf {a bs : List Nat} {y : Nat} : y ∈ cyf a bs ↔ ∃ b ∈ bs, y ∈ cyc a b := by
  unfold cyf
  rw [List.mem_flatten]
  constructor
  · rintro ⟨l, hl, hy⟩
    obtain ⟨b, hb, rfl⟩ := List.mem_map.mp hl
    exact ⟨b, hb, hy⟩
  · rintro ⟨b, hb, hy⟩
    exact ⟨_, List.mem_map.mpr ⟨b, hb, rfl⟩, hy⟩
theorem cyf_snoc (a bs : List Nat) (b : Nat) : cyf a (bs ++ [b]) = cyf a bs ++ cyc a b := by
  unfold cyf
  rw [List.map_append, List.flatten_append]
  simp
theorem cyc_eq (a : List Nat) (x : Nat) : cyc a x = cyk a x (per a x) := rfl
/-- a cycle that has a later point has the point -/
theorem cyf_back {a bs : List Nat} (h : OkImg a) (hb : ∀ b ∈ bs, b < a.length) {x k : Nat} (hx : x < a.length) (m : itr a k x ∈ cyf a bs) : x ∈ cyf a bs := by
  obtain ⟨b, hbm, hy⟩ := mem_cyf.mp m
  have hbl := hb b hbm
  obtain ⟨j, hj, e⟩ := mem_cyk.mp hy
  refine mem_cyf.mpr ⟨b, hbm, mem_cyk.mpr ?_⟩
  have px : per a x = per a b := by
    rw [← per_itr h hx k, ← e, per_itr h hbl]
  -- x = itr (j + (L * k - k)) b
  have e2 : itr a (per a x * k - k + k) x = x := by
    rw [show per a x * k - k + k = per a x * k from Nat.sub_add_cancel (Nat.le_mul_of_pos_left k (per_pos a x))]
    exact itr_mul x (per_is h hx).1 k
  rw [itr_add, ← e, ← itr_add] at e2
  refine ⟨(per a x * k - k + j) % per a b, Nat.mod_lt _ (per_pos a b), ?_⟩
  rw [← itr_mod h hbl]
  exact e2
end TT

set_option Elab.async false
set_option linter.all false
set_option maxRecDepth 100000
set_option maxHeartbeats 4000000
namespace TT
open PySem PySem.Spec PyProof.Rows L2
/-- an if whose ways meet again -/
theorem g_seqIf {c : TT} {t u v : TS} {D : Ends} {σ : L2.St} {H : Hp} (J : L2.St → Hp → Prop) (h : (∀ σ' H', J σ' H' → v D σ' H') → c σ H fun b H1 => if b = true then t { D with nx := v D } σ H1 else u { D with nx := v D } σ H1) (fin : ∀ σ' H', J σ' H' → v D σ' H') : tSeq (tIfS c t u) v D σ H := h fin
theorem sqt_off {K : PySem.W.Frag} {H : Hp} {ms : List Addr} {t : Addr} {xs : List V} (hm : ∀ q ∈ ms, ∃ xs, H q = some (.lst xs)) (h : SqT K H t xs) : SqT K (Off ms H) t xs := by
  have no : ∀ {o : HO}, H t = some o → (∀ ys, o ≠ .lst ys) → t ∉ ms := fun {o} e ne z => by
    obtain ⟨ys, e2⟩ := hm t z
    rw [e] at e2
    exact ne ys (Option.some.inj e2)
  rcases h with (h | ⟨o, h⟩) | h
  · exact .inl (.inl (Off.at_ h (no h fun ys z => by cases z)))
  · exact .inl (.inr ⟨o, Off.at_ h (no h fun ys z => by cases z)⟩)
  · exact .inr h
theorem PairAt.off {K : PySem.W.Frag} {H : Hp} {ms : List Addr} {v : V} {x : Pr} (h : PairAt K H v x) (hm : ∀ q ∈ ms, ∃ xs, H q = some (.lst xs)) : PairAt K (Off ms H) v x := let ⟨q, e, h⟩ := h; ⟨q, e, sqt_off hm h⟩
theorem Off.bt {ms : List Addr} {H H1 : Hp} {D : Addr} (b : But D H H1) : But D (Off ms H) (Off ms H1) := fun a o n e => by
  unfold Off at e ⊢
  by_cases z : a ∈ ms
  · rw [if_pos z] at e
    cases e
  · rw [if_neg z] at e ⊢
    exact b a o n e
section
variable {K : PySem.W.Frag} {j : Nat} {σ : L2.St} {H : Hp} {te : TE} {Q : VK} {P : Addr → Nat → V → Hp → Prop}
theorem c_rp {ta : TA} {k : Nat} (st : Stb P) (hn : k ≤ 100000) (hl : ∀ R : List V → Hp → Prop, (∀ H1, Same H H1 → R [.int (k : Nat)] H1) → ta σ H R)
    (hs : ∀ D acc (i : Nat) H', H D = none → i < k → Same H H' → H' D = some (.lst acc) → ∀ R : VK, (∀ v H4, Same H' H4 → P D i v H4 → R v H4) → te ((σ.set j none).set j (some (.int (i : Nat)))) H' R)
    (hd : ∀ D acc H', H D = none → Same H H' → H' D = some (.lst acc) → acc.length = k → (∀ k v, acc[k]? = some v → P D k v H') → Q (.ref D) H') : tLc (iRng1 ta) (gName j) tYes te [j] σ H Q := by
  refine hl _ fun H1 s1 => ⟨(k : Int), rfl, by omega, by omega, lc_p walk_range st (by omega) (fun _ _ => True.intro) (fun D acc i x H' H2 hi hD s hacc y => ?_) fun D acc H' nD s e1 e2 e3 => hd D acc H' (s1.free nD) (s1.trans s) e1 (by omega) e3⟩
  obtain ⟨rfl, e⟩ := y
  subst e
  refine ⟨Same.refl _, ?_⟩
  have e0 : (0 : Int) + (i : Int) = i := by omega
  show ∀ R : VK, _ → te ((σ.set j none).set j (some (.int (0 + (i : Int))))) H2 R
  rw [e0]
  exact hs D acc i _ (s1.free hD) (by omega) (s1.trans s) hacc
end
end TT

set_option Elab.async false
set_option linter.all false
set_option maxRecDepth 100000
set_option maxHeartbeats 4000000
namespace TT
open PySem PySem.Spec PyProof.Rows L2
/-! dicts: steps and arrivals -/
def rDGet (x y : V) (H : Hp) (Q : VK) : Prop := ∃ a v, x = .ref a ∧ DGet H a y (some v) ∧ Q v H
def rDIn (y x : V) (H : Hp) (Q : VK) : Prop := ∃ a o, x = .ref a ∧ DGet H a y o ∧ Q (.bl o.isSome) H
def rDNin (y x : V) (H : Hp) (Q : VK) : Prop := ∃ a o, x = .ref a ∧ DGet H a y o ∧ Q (.bl (!o.isSome)) H
def rDPut (x y v : V) (H : Hp) (R : Hp → Prop) : Prop := ∃ a H4, x = .ref a ∧ DPut H a y v H4 ∧ R H4
def rDNew (H : Hp) (Q : VK) : Prop := ∀ p, H p = none → Q (.ref p) (upd H p (.dK []))
def rDNewT (H : Hp) (Q : VK) : Prop := ∀ p, H p = none → Q (.ref p) (upd H p (.dT []))
section
variable {K : PySem.W.Frag} {σ : L2.St} {H : Hp} {Q : VK} {D : Ends} {td ty tv te : TE} {QB : Bool → Hp → Prop} {a : Addr} {kvs : List (Key × V)} {k : Key} {v : V}
theorem g_dget (h : td σ H fun x H1 => ty σ H1 fun y H2 => rDGet x y H2 Q) : tDGet td ty σ H Q := h
theorem g_din (h : ty σ H fun y H1 => td σ H1 fun x H2 => rDIn y x H2 Q) : tDIn ty td σ H Q := h
theorem g_dnin (h : ty σ H fun y H1 => td σ H1 fun x H2 => rDNin y x H2 Q) : tDNotIn ty td σ H Q := h
theorem g_dput (h : tv σ H fun v H1 => td σ H1 fun x H2 => ty σ H2 fun y H3 => rDPut x y v H3 fun H4 => D.nx σ H4) : sDPut td ty tv D σ H := h
theorem g_dnew (h : rDNew H Q) : tDNewK σ H Q := h
theorem g_dnewT (h : rDNewT H Q) : tDNewT σ H Q := h
theorem g_tB (h : te σ H fun x H' => ∃ k, x = .bl k ∧ QB k H') : tB te σ H QB := h
theorem a_dnew (h : ∀ p H2, H p = none → Same H H2 → H2 p = some (.dK []) → Q (.ref p) H2) : rDNew H Q := fun p hp => h p _ hp (same_new hp) upd_same
theorem a_dnewT (h : ∀ p H2, H p = none → Same H H2 → H2 p = some (.dT []) → Q (.ref p) H2) : rDNewT H Q := fun p hp => h p _ hp (same_new hp) upd_same
theorem a_dgetS {s : Str} (h : Rd H a (.dK kvs)) (e : valV kvs (.inr s) = some v) (q : Q v H) : rDGet (.ref a) (.str s) H Q := ⟨a, v, rfl, .inl ⟨kvs, .inr s, h, rfl, e.symm⟩, q⟩
theorem a_dgetI {n : Int} (h : Rd H a (.dK kvs)) (e : valV kvs (.inl n) = some v) (q : Q v H) : rDGet (.ref a) (.int n) H Q := ⟨a, v, rfl, .inl ⟨kvs, .inl n, h, rfl, e.symm⟩, q⟩
theorem a_dinS {s : Str} (h : Rd H a (.dK kvs)) (q : Q (.bl (valV kvs (.inr s)).isSome) H) : rDIn (.str s) (.ref a) H Q := ⟨a, _, rfl, .inl ⟨kvs, .inr s, h, rfl, rfl⟩, q⟩
theorem a_dninS {s : Str} (h : Rd H a (.dK kvs)) (q : Q (.bl (!(valV kvs (.inr s)).isSome)) H) : rDNin (.str s) (.ref a) H Q := ⟨a, _, rfl, .inl ⟨kvs, .inr s, h, rfl, rfl⟩, q⟩
theorem a_dinI {n : Int} (h : Rd H a (.dK kvs)) (q : Q (.bl (valV kvs (.inl n)).isSome) H) : rDIn (.int n) (.ref a) H Q := ⟨a, _, rfl, .inl ⟨kvs, .inl n, h, rfl, rfl⟩, q⟩
theorem a_dninI {n : Int} (h : Rd H a (.dK kvs)) (q : Q (.bl (!(valV kvs (.inl n)).isSome)) H) : rDNin (.int n) (.ref a) H Q := ⟨a, _, rfl, .inl ⟨kvs, .inl n, h, rfl, rfl⟩, q⟩
theorem a_dinT {kts : List (List Key × V)} {b : Addr} {ks : List Key} (h : Rd H a (.dT kts)) (hb : H b = some (.tup (ks.map kV))) (q : Q (.bl (valV kts ks).isSome) H) : rDIn (.ref b) (.ref a) H Q := ⟨a, _, rfl, .inr ⟨kts, ks, b, h, rfl, hb, rfl⟩, q⟩
theorem a_dninT {kts : List (List Key × V)} {b : Addr} {ks : List Key} (h : Rd H a (.dT kts)) (hb : H b = some (.tup (ks.map kV))) (q : Q (.bl (!(valV kts ks).isSome)) H) : rDNin (.ref b) (.ref a) H Q := ⟨a, _, rfl, .inr ⟨kts, ks, b, h, rfl, hb, rfl⟩, q⟩
theorem a_dgetT {kts : List (List Key × V)} {b : Addr} {ks : List Key} (h : Rd H a (.dT kts)) (hb : H b = some (.tup (ks.map kV))) (e : valV kts ks = some v) (q : Q v H) : rDGet (.ref a) (.ref b) H Q := ⟨a, v, rfl, .inr ⟨kts, ks, b, h, rfl, hb, e.symm⟩, q⟩
theorem a_dputS {s : Str} {R : Hp → Prop} (h : H a = some (.dK kvs)) (hl : kvs.length ≤ 100000) (q : ∀ H2, But a H H2 → H2 a = some (.dK (putK kvs (.inr s) v)) → R H2) : rDPut (.ref a) (.str s) v H R := ⟨a, _, rfl, .inl ⟨kvs, .inr s, h, rfl, Nat.lt_of_le_of_lt hl (by decide), rfl⟩, q _ But.upd upd_same⟩
theorem a_dputI {n : Int} {R : Hp → Prop} (h : H a = some (.dK kvs)) (hl : kvs.length ≤ 100000) (q : ∀ H2, But a H H2 → H2 a = some (.dK (putK kvs (.inl n) v)) → R H2) : rDPut (.ref a) (.int n) v H R := ⟨a, _, rfl, .inl ⟨kvs, .inl n, h, rfl, Nat.lt_of_le_of_lt hl (by decide), rfl⟩, q _ But.upd upd_same⟩
theorem a_dputT {kts : List (List Key × V)} {b : Addr} {ks : List Key} {R : Hp → Prop} (h : H a = some (.dT kts)) (hb : H b = some (.tup (ks.map kV))) (hl : kts.length ≤ 100000) (q : ∀ H2, But a H H2 → H2 a = some (.dT (putK kts ks v)) → R H2) : rDPut (.ref a) (.ref b) v H R := ⟨a, _, rfl, .inr ⟨kts, ks, b, h, rfl, hb, Nat.lt_of_le_of_lt hl (by decide), rfl⟩, q _ But.upd upd_same⟩
/-- a walk over a dict: it is locked meanwhile -/
theorem a_lock {d : Addr} {u : HO} {t : TS} (h : H d = some u) (m : Mut (some u)) (q : ∀ od H1, But d H H1 → H1 d = some (.frz od u) → t ⟨fun σ' H' => H' d = some (.frz od u) ∧ D.nx σ' (upd H' d u), fun v H' => H' d = some (.frz od u) ∧ D.rt v (upd H' d u), fun σ' H' => H' d = some (.frz od u) ∧ D.bk σ' (upd H' d u), fun σ' H' => H' d = some (.frz od u) ∧ D.ct σ' (upd H' d u)⟩ σ H1) : tLock t D σ H := ⟨d, u, h, m, fun od => q od _ But.upd upd_same⟩
theorem a_lockE {d : Addr} {u : HO} (h : H d = some u) (m : Mut (some u)) (q : ∀ od H1, But d H H1 → H1 d = some (.frz od u) → te σ H1 fun v H' => H' d = some (.frz od u) ∧ Q v (upd H' d u)) : tLockE te σ H Q := ⟨d, u, h, m, fun od => q od _ But.upd upd_same⟩
def rKeys (x : V) (H : Hp) (R : It → Hp → Prop) : Prop := ∃ d o, x = .ref d ∧ ((∃ kvs, H d = some (.frz o (.dK kvs)) ∧ R (Itk d o kvs) H) ∨ ∃ kvs, H d = some (.frz o (.dT kvs)) ∧ R (Itkt d o kvs) H)
theorem g_iKeys {R : It → Hp → Prop} (h : td σ H fun x H1 => rKeys x H1 R) : iKeys td σ H R := h
theorem a_keys {R : It → Hp → Prop} {od : Obj} (h : H a = some (.frz od (.dK kvs))) (q : R (Itk a od kvs) H) : rKeys (.ref a) H R := ⟨a, od, rfl, .inl ⟨kvs, h, q⟩⟩
def rStrI (x : V) (H : Hp) (R : It → Hp → Prop) : Prop := ∃ z, x = .str z ∧ R (Its z) H
theorem g_iStr {R : It → Hp → Prop} (h : td σ H fun x H1 => rStrI x H1 R) : iStr td σ H R := h
/-- list(d), dict(d) -/
def rListDU : List V → Hp → VK → Prop := fun xs H Q => ∃ (a : Addr) (kvs : List (Key × V)), xs = [.ref a] ∧ Rd H a (.dK kvs) ∧ ∀ p, H p = none → Q (.ref p) (upd H p (.lst (kvs.map fun kv => kV kv.1)))
def rDictDU : List V → Hp → VK → Prop := fun xs H Q => ∃ (a : Addr) (kvs : List (Key × V)), xs = [.ref a] ∧ Rd H a (.dK kvs) ∧ ∀ p, H p = none → Q (.ref p) (upd H p (.dK kvs))
theorem call_listDU {X : Cx} (hc : X.calm = true) : CallR X (.type "list") rListDU := call_listD hc
theorem call_dictDU {X : Cx} : CallR X (.type "dict") rDictDU := call_dictD
theorem a_listD (h : Rd H a (.dK kvs)) (q : ∀ p H2, H p = none → Same H H2 → H2 p = some (.lst (kvs.map fun kv => kV kv.1)) → Q (.ref p) H2) : rListDU [V.ref a] H Q := ⟨a, kvs, rfl, h, fun p hp => q p _ hp (same_new hp) upd_same⟩
theorem a_dictD (h : Rd H a (.dK kvs)) (q : ∀ p H2, H p = none → Same H H2 → H2 p = some (.dK kvs) → Q (.ref p) H2) : rDictDU [V.ref a] H Q := ⟨a, kvs, rfl, h, fun p hp => q p _ hp (same_new hp) upd_same⟩
def rAddS : R2 := fun x y H Q => ∃ i j, x = .str i ∧ y = .str j ∧ i.length + j.length ≤ sizeLine ∧ Q (.str (i ++ j)) H
theorem op_addSU {X : Cx} : OpR X (binaryOp .Add) rAddS := op_add_str
def rInS : R2 := fun x y H Q => ∃ (c : Nat) (z : Str), x = .str ⟨#[c]⟩ ∧ y = .str z ∧ Q (.bl (decide (c ∈ z.cps.toList))) H
theorem op_inSU {X : Cx} : OpR X (compareOp .In) rInS := op_in_sign
def rLenS : List V → Hp → VK → Prop := fun xs H Q => ∃ z, xs = [.str z] ∧ z.length ≤ sizeLine ∧ Q (.int z.length) H
theorem call_lenSU {X : Cx} : CallR X (.builtin "len") rLenS := call_len_str
def rIsN : R2 := fun x y H Q => y = .non ∧ Q (.bl (decide (x = .non))) H
theorem op_isNU {X : Cx} : OpR X (compareOp .Is) rIsN := op_isN
theorem a_isNt (q : Q (.bl true) H) : rIsN .non .non H Q := ⟨rfl, q⟩
theorem a_isNf {x : V} (h : x ≠ .non) (q : Q (.bl false) H) : rIsN x .non H Q := ⟨rfl, by rw [decide_eq_false h]; exact q⟩
end
section
variable {K : PySem.W.Frag} {J : It} {n j : Nat} {G : Hp → Prop} {Y : Nat → Hp → V → Hp → Prop} {σ : L2.St} {H H1 : Hp} {te tk tv : TE} {tt : TT} {Q : VK}
/-- over the keys of a locked dict -/
theorem c_k {td : TE} {d : Addr} {od : Obj} {kvs : List (Key × V)} (f : Nat → V) (hn : kvs.length ≤ 100000) (hl : ∀ R : VK, (∀ H1, Same H H1 → H1 d = some (.frz od (.dK kvs)) → R (.ref d) H1) → td σ H R)
    (hs : ∀ i k v H', kvs[i]? = some (k, v) → Same H H' → ∀ R : VK, (∀ H4, Same H' H4 → R (f i) H4) → te ((σ.set j none).set j (some (kV k))) H' R)
    (hd : ∀ D H', H D = none → Same H H' → H' D = some (.lst ((List.range kvs.length).map f)) → Q (.ref D) H') : tLc (iKeys td) (gName j) tYes te [j] σ H Q := by
  refine hl _ fun H1 s1 h => ⟨d, od, rfl, .inl ⟨kvs, h, lc_1 walk_keys f hn (fun H' s => s _ _ h) (fun i x H' H2 hi s y => ?_) fun D H' n s e => hd D H' (s1.free n) (s1.trans s) e⟩⟩
  obtain ⟨rfl, k, v, e, rfl⟩ := y
  exact ⟨Same.refl _, hs i k v _ e (s1.trans s)⟩
theorem cf_k {td : TE} {d : Addr} {od : Obj} {kvs : List (Key × V)} (b : Nat → Bool) (f : Nat → V) (hn : kvs.length ≤ 100000) (hl : ∀ R : VK, (∀ H1, Same H H1 → H1 d = some (.frz od (.dK kvs)) → R (.ref d) H1) → td σ H R)
    (hs : ∀ i k v H', kvs[i]? = some (k, v) → Same H H' → (∀ R : Bool → Hp → Prop, (∀ H3, Same H' H3 → R (b i) H3) → tt ((σ.set j none).set j (some (kV k))) H' R) ∧
      (b i = true → ∀ H3, Same H' H3 → ∀ R : VK, (∀ H4, Same H3 H4 → R (f i) H4) → te ((σ.set j none).set j (some (kV k))) H3 R))
    (hd : ∀ D H', H D = none → Same H H' → H' D = some (.lst (((List.range kvs.length).filter b).map f)) → Q (.ref D) H') : tLc (iKeys td) (gName j) tt te [j] σ H Q := by
  refine hl _ fun H1 s1 h => ⟨d, od, rfl, .inl ⟨kvs, h, lc_f walk_keys b f hn (fun H' s => s _ _ h) (fun i x H' H2 hi s y => ?_) fun D H' n s e => hd D H' (s1.free n) (s1.trans s) e⟩⟩
  obtain ⟨rfl, k, v, e, rfl⟩ := y
  exact ⟨Same.refl _, hs i k v _ e (s1.trans s)⟩
/-- over the signs of a text -/
theorem c_s {td : TE} {z : Str} (f : Nat → V) (hn : z.cps.size ≤ 100000) (hl : ∀ R : VK, (∀ H1, Same H H1 → R (.str z) H1) → td σ H R)
    (hs : ∀ i c H', z.cps[i]? = some c → Same H H' → ∀ R : VK, (∀ H4, Same H' H4 → R (f i) H4) → te ((σ.set j none).set j (some (.str ⟨#[c]⟩))) H' R)
    (hd : ∀ D H', H D = none → Same H H' → H' D = some (.lst ((List.range z.cps.size).map f)) → Q (.ref D) H') : tLc (iStr td) (gName j) tYes te [j] σ H Q := by
  refine hl _ fun H1 s1 => ⟨z, rfl, lc_1 walk_str f hn (fun _ _ => True.intro) (fun i x H' H2 hi s y => ?_) fun D H' n s e => hd D H' (s1.free n) (s1.trans s) e⟩
  obtain ⟨rfl, c, e, rfl⟩ := y
  exact ⟨Same.refl _, hs i c _ e (s1.trans s)⟩
/-- the first ones: what a dict of such keys holds -/
def putAll (v : V) (ks : List Key) : List (Key × V) := ks.foldl (fun acc k => putK acc k v) []
theorem putAll_snoc (v : V) (ks : List Key) (k : Key) : putAll v (ks ++ [k]) = putK (putAll v ks) k v := by
  unfold putAll
  rw [List.foldl_append]
  rfl
theorem revInd {α : Type} {P : List α → Prop} (h0 : P []) (h1 : ∀ l x, P l → P (l ++ [x])) (l : List α) : P l := by
  have : ∀ m : List α, P m.reverse := fun m => by
    induction m with
    | nil => exact h0
    | cons x m ih =>
      rw [List.reverse_cons]
      exact h1 _ _ ih
  rw [← List.reverse_reverse l]
  exact this _
theorem putAll_len (v : V) (ks : List Key) : (putAll v ks).length ≤ ks.length := by
  refine revInd (P := fun ks => (putAll v ks).length ≤ ks.length) (Nat.le_refl _) (fun ks x ih => ?_) ks
  · rw [putAll_snoc, List.length_append]
    have := length_putK (putAll v ks) x v
    simp only [List.length_singleton]
    omega
theorem valV_keys {κ : Type} [DecidableEq κ] (k : κ) : ∀ kvs : List (κ × V), (valV kvs k).isSome = true ↔ k ∈ kvs.map (·.1) := by
  intro kvs
  rw [← valV_any, List.any_eq_true]
  simp [eq_comm]
theorem putK_keys {κ : Type} [DecidableEq κ] (kvs : List (κ × V)) (k : κ) (v : V) : (putK kvs k v).map (·.1) = if k ∈ kvs.map (·.1) then kvs.map (·.1) else kvs.map (·.1) ++ [k] := by
  by_cases h : k ∈ kvs.map (·.1)
  · rw [if_pos h]
    have := (valV_keys k kvs).mpr h
    unfold putK
    rw [valV_any, if_pos this, List.map_map]
    refine List.map_congr_left fun p _ => ?_
    show (if p.1 = k then (p.1, v) else p).1 = p.1
    split <;> rfl
  · rw [if_neg h, putK_new]
    · simp
    · have : ¬ (valV kvs k).isSome = true := fun z => h ((valV_keys k kvs).mp z)
      simpa using this
theorem putK_nodup {κ : Type} [DecidableEq κ] {kvs : List (κ × V)} (k : κ) (v : V) (h : (kvs.map (·.1)).Nodup) : ((putK kvs k v).map (·.1)).Nodup := by
  rw [putK_keys]
  split
  · exact h
  · rename_i n
    rw [List.nodup_append]
    refine ⟨h, by simp, fun a ha b hb => ?_⟩
    rw [List.mem_singleton] at hb
    subst hb
    exact fun e => n (e ▸ ha)
theorem putAll_nodup (v : V) (ks : List Key) : ((putAll v ks).map (·.1)).Nodup := by
  refine revInd (P := fun ks => ((putAll v ks).map (·.1)).Nodup) List.nodup_nil (fun ks x ih => ?_) ks
  rw [putAll_snoc]
  exact putK_nodup x v ih
theorem putAll_mem (v : V) (ks : List Key) (k : Key) : k ∈ (putAll v ks).map (·.1) ↔ k ∈ ks := by
  refine revInd (P := fun ks => k ∈ (putAll v ks).map (·.1) ↔ k ∈ ks) Iff.rfl (fun ks x ih => ?_) ks
  rw [putAll_snoc, putK_keys]
  split
  · rename_i h
    rw [ih, List.mem_append, List.mem_singleton]
    refine ⟨.inl, fun z => z.elim id fun e => ?_⟩
    subst e
    exact ih.mp h
  · rw [List.mem_append, List.mem_append, ih]
/-- {k: v for ..}: over a list or a tuple -/
theorem c_d {tl : TE} {xs : List V} {ks : List Key} {v : V} (hn : xs.length ≤ 100000) (hk : xs = ks.map kV) (hl : ∀ R : VK, (∀ a H1, Same H H1 → Seq K H1 a xs → R (.ref a) H1) → tl σ H R)
    (hs : ∀ (i : Nat) (k : Key) H', ks[i]? = some k → Same H H' → ∀ R : VK, (∀ H4, Same H' H4 → R (kV k) H4) → tk ((σ.set j none).set j (some (kV k))) H' R)
    (hv : ∀ (i : Nat) (k : Key) H', ks[i]? = some k → Same H H' → ∀ R : VK, (∀ H4, Same H' H4 → R v H4) → tv ((σ.set j none).set j (some (kV k))) H' R)
    (hd : ∀ D H', H D = none → Same H H' → H' D = some (.dK (putAll v ks)) → Q (.ref D) H') : tDc (iSeq K tl) (gName j) tYes tk tv [j] σ H Q := by
  have hkl : xs.length = ks.length := by rw [hk, List.length_map]
  refine hl _ fun a H1 s1 h => a_iter h fun J w => ?_
  intro D hD
  refine ⟨fun i m H' => m = xs.length - i ∧ i ≤ xs.length ∧ Same H1 H' ∧ H' D = some (.dK (putAll v (ks.take i))), ⟨xs.length, by simp, Nat.zero_le _, same_new hD, upd_same⟩, ?_⟩
  rintro i m H' ⟨rfl, hi, s, e⟩
  by_cases hlt : i < xs.length
  · refine .inr ⟨w.goes i H' hlt s, fun H2 => Same H1 H2 ∧ H2 D = some (.dK (putAll v (ks.take (i + 1)))), fun H2 q => ⟨xs.length - (i + 1), by omega, rfl, hlt, q.1, q.2⟩, fun x H2 y => ?_⟩
    obtain ⟨rfl, ex⟩ := w.yields i H' x H2 hlt s y
    rw [hk, List.getElem?_map] at ex
    obtain ⟨k, ek, rfl⟩ := Option.map_eq_some_iff.mp ex
    refine ⟨set_none σ j _, ?_⟩
    unfold tYes
    dsimp only
    rw [if_pos rfl]
    refine hs i k _ ek (s1.trans s) _ fun H4 s4 => hv i k _ ek ((s1.trans s).trans s4) _ fun H5 s5 => ⟨_, k, rfl, s5 _ _ (s4 _ _ e), ?_, same_mut ((s.trans s4).trans s5) hD, ?_⟩
    · refine Nat.lt_of_le_of_lt (putAll_len v _) (Nat.lt_of_le_of_lt (m := 100000) ?_ (by decide))
      rw [List.length_take]
      omega
    · have hi2 : i < ks.length := by omega
      rw [upd_same, ← List.take_append_getElem hi2, putAll_snoc]
      rw [List.getElem?_eq_getElem hi2] at ek
      rw [Option.some.inj ek]
  · have e2 : i = xs.length := by omega
    subst e2
    refine .inl ⟨w.stops H' s, hd D H' (s1.free hD) (s1.trans s) ?_⟩
    rw [e, hkl, List.take_length]
end
section
variable {K : PySem.W.Frag} {σ : L2.St} {H : Hp} {Q : VK}
def rTrg (a b : Int) (H : Hp) (Q : VK) : Prop := RgOk a b ∧ ∀ q, H q = none → Q (.ref q) (upd H q (.tup (rgV a b)))
theorem g_trg {tr : L2.St → Hp → (Int → Int → Hp → Prop) → Prop} (h : tr σ H fun a b H1 => rTrg a b H1 Q) : tTupRg tr σ H Q := h
theorem a_trg {n : Int} (h0 : 0 ≤ n) (hn : n ≤ 100000) (q : ∀ p H2, H p = none → Same H H2 → H2 p = some (.tup ((List.range n.toNat).map fun i => V.int (i : Nat))) → Q (.ref p) H2) : rTrg 0 n H Q := by
  refine ⟨RgOk.of_le (by omega) (by omega) (by omega) h0, fun p hp => ?_⟩
  have e : rgV 0 n = (List.range n.toNat).map fun i => V.int (i : Nat) := by
    unfold rgV
    have : (n - 0).toNat = n.toNat := by omega
    rw [this]
    refine List.map_congr_left fun i _ => ?_
    congr 1
    omega
  rw [e]
  exact q p _ hp (same_new hp) upd_same
theorem cut_last (xs : List V) (v : V) : cutV (xs ++ [v]) none (some (-1)) = xs := by
  unfold cutV
  have e : (-1 + ((xs.length : Int) + 1)).toNat = xs.length := by omega
  simp [HT.sIx, e]
end
end TT

set_option Elab.async false
set_option linter.all false
set_option maxRecDepth 100000
set_option maxHeartbeats 4000000
namespace TT
open PySem PySem.Spec PyProof.Rows L2
/-! min, max, in, any, all -/
def rMax2 : List V → Hp → VK → Prop := fun xs H Q => ∃ i j, xs = [.int i, .int j] ∧ Q (.int (if j > i then j else i)) H
def rMin2 : List V → Hp → VK → Prop := fun xs H Q => ∃ i j, xs = [.int i, .int j] ∧ Q (.int (if j < i then j else i)) H
theorem call_max2U {X : Cx} (hc : X.calm = true) : CallR X (.builtin "max") rMax2 := call_max2 hc
theorem call_min2U {X : Cx} (hc : X.calm = true) : CallR X (.builtin "min") rMin2 := call_min2 hc
section
variable {K : PySem.W.Frag} {H : Hp} {Q : VK} {p : Addr} {xs : List V}
theorem a_max2 {i j : Int} (q : Q (.int (max i j)) H) : rMax2 [.int i, .int j] H Q := ⟨i, j, rfl, by
  have e : (if j > i then j else i) = max i j := by split <;> omega
  rw [e]; exact q⟩
theorem a_min2 {i j : Int} (q : Q (.int (min i j)) H) : rMin2 [.int i, .int j] H Q := ⟨i, j, rfl, by
  have e : (if j < i then j else i) = min i j := by split <;> omega
  rw [e]; exact q⟩
theorem inV_zi (z : Int) : ∀ zs : List Int, inV (.int z) (zi zs) = decide (z ∈ zs)
  | [] => rfl
  | x :: zs => by
    have ih := inV_zi z zs
    unfold inV zi at ih ⊢
    rw [List.map_cons, List.any_cons, ih]
    show (x == z || _) = _
    by_cases e : x = z
    · subst e; simp
    · have e2 : ¬ z = x := fun h => e h.symm
      simp [e, e2]
theorem inV_str (z : Str) : ∀ zs : List Str, inV (.str z) (zs.map V.str) = decide (z ∈ zs)
  | [] => rfl
  | x :: zs => by
    have ih := inV_str z zs
    unfold inV at ih ⊢
    rw [List.map_cons, List.any_cons, ih]
    show (x == z || _) = _
    by_cases e : x = z
    · subst e; simp
    · have e2 : ¬ z = x := fun h => e h.symm
      simp [e, e2]
theorem flat_zi (zs : List Int) : (zi zs).all flatV = true := by
  rw [List.all_eq_true]
  intro x hx
  obtain ⟨n, _, rfl⟩ := List.mem_map.mp hx
  rfl
theorem flat_str (zs : List Str) : (zs.map V.str).all flatV = true := by
  rw [List.all_eq_true]
  intro x hx
  obtain ⟨n, _, rfl⟩ := List.mem_map.mp hx
  rfl
theorem a_inZ {z : Int} {zs : List Int} (h : Seq K H p (zi zs)) (q : Q (.bl (decide (z ∈ zs))) H) : rIn K false (.int z) (.ref p) H Q := ⟨p, _, rfl, h, rfl, flat_zi zs, by rw [inV_zi]; exact q⟩
theorem a_ninZ {z : Int} {zs : List Int} (h : Seq K H p (zi zs)) (q : Q (.bl (!decide (z ∈ zs))) H) : rIn K true (.int z) (.ref p) H Q := ⟨p, _, rfl, h, rfl, flat_zi zs, by rw [inV_zi]; exact q⟩
theorem a_inN {z : Nat} {a : List Nat} (h : Seq K H p (vi a)) (q : Q (.bl (decide (z ∈ a))) H) : rIn K false (.int (z : Nat)) (.ref p) H Q := by
  rw [← zi_ni] at h
  refine a_inZ h ?_
  have e : ((z : Int) ∈ ni a) ↔ z ∈ a := ⟨fun h => by unfold ni at h; obtain ⟨x, hx, e⟩ := List.mem_map.mp h; rwa [← Int.ofNat.inj e], fun h => List.mem_map_of_mem h⟩
  rw [decide_eq_decide.mpr e]
  exact q
theorem a_ninN {z : Nat} {a : List Nat} (h : Seq K H p (vi a)) (q : Q (.bl (!decide (z ∈ a))) H) : rIn K true (.int (z : Nat)) (.ref p) H Q := by
  rw [← zi_ni] at h
  refine a_ninZ h ?_
  have e : ((z : Int) ∈ ni a) ↔ z ∈ a := ⟨fun h => by unfold ni at h; obtain ⟨x, hx, e⟩ := List.mem_map.mp h; rwa [← Int.ofNat.inj e], fun h => List.mem_map_of_mem h⟩
  rw [decide_eq_decide.mpr e]
  exact q
theorem a_inT {z : Str} {zs : List Str} (h : Seq K H p (zs.map V.str)) (q : Q (.bl (decide (z ∈ zs))) H) : rIn K false (.str z) (.ref p) H Q := ⟨p, _, rfl, h, rfl, flat_str zs, by rw [inV_str]; exact q⟩
theorem a_ninT {z : Str} {zs : List Str} (h : Seq K H p (zs.map V.str)) (q : Q (.bl (!decide (z ∈ zs))) H) : rIn K true (.str z) (.ref p) H Q := ⟨p, _, rfl, h, rfl, flat_str zs, by rw [inV_str]; exact q⟩
theorem a_any {bs : List Bool} (h : SqL K H p (bs.map V.bl)) (q : Q (.bl (bs.any id)) H) : rAny K [.ref p] H Q := ⟨p, bs, rfl, h, q⟩
theorem a_all {bs : List Bool} (h : SqL K H p (bs.map V.bl)) (q : Q (.bl (bs.all id)) H) : rAll K [.ref p] H Q := ⟨p, bs, rfl, h, q⟩
theorem a_ext {q : Addr} {ys : List V} (h : H p = some (.lst xs)) (h2 : H q = some (.lst ys)) (hl : xs.length + ys.length ≤ 100000) (k : ∀ H2, But p H H2 → H2 p = some (.lst (xs ++ ys)) → Q .non H2) : rExtend (.ref p) [.ref q] H Q := ⟨p, q, xs, ys, rfl, rfl, h, h2, Nat.le_trans hl (by decide), k _ But.upd upd_same⟩
theorem a_inSU {c : Nat} {z : Str} (q : Q (.bl (decide (c ∈ z.cps.toList))) H) : rInS (.str ⟨#[c]⟩) (.str z) H Q := ⟨c, z, rfl, rfl, q⟩
theorem a_lenSU {z : Str} (h : z.cps.size ≤ 100000) (q : Q (.int (z.cps.size : Nat)) H) : rLenS [.str z] H Q := ⟨z, rfl, Nat.le_trans h (by decide), q⟩
end
/-! names -/
def fitsN (z : Str) : Bool := decide (1 ≤ z.cps.size) && decide (z.cps.size ≤ 3) && z.cps.toList.all fun c => decide (c ∈ ("abcdefghijklmnopqrstuvwxyz" : Str).cps.toList)
/-! what can be come to -/
inductive Rch (ways : Nat → Nat → Prop) (b : Nat) : Nat → Prop
  | base : Rch ways b b
  | step {x y : Nat} : Rch ways b x → ways x y → Rch ways b y
/-- the list of what is found goes on till all is found -/
structure Spr (ways : List (List Nat)) (b : Nat) (found : List Nat) (at_ : Nat) : Prop where
  first : found.head? = some b
  nd : found.Nodup
  lt : ∀ x ∈ found, x < ways.length
  rch : ∀ x ∈ found, Rch (fun x y => y ∈ ways.getD x []) b x
  le : at_ ≤ found.length
  done : ∀ i (hi : i < found.length), i < at_ → ∀ y ∈ ways.getD found[i] [], y ∈ found
theorem getDL_lt {b : List (List Nat)} {i : Nat} (h : i < b.length) : b.getD i [] = b[i] := by
  rw [List.getD_eq_getElem?_getD, List.getElem?_eq_getElem h]
  rfl
theorem Spr.len {ways : List (List Nat)} {b : Nat} {found : List Nat} {k : Nat} (h : Spr ways b found k) : found.length ≤ ways.length := by
  have := sub_len (m := List.range ways.length) h.nd fun x hx => List.mem_range.mpr (h.lt x hx)
  rwa [List.length_range] at this
theorem Spr.go {ways : List (List Nat)} {b : Nat} {found : List Nat} {k : Nat} (h : Spr ways b found k) (hk : k < found.length) (wnd : ∀ l ∈ ways, l.Nodup) (wlt : ∀ l ∈ ways, ∀ y ∈ l, y < ways.length) :
    Spr ways b (found ++ (ways.getD found[k] []).filter fun g => decide (g ∉ found)) (k + 1) := by
  have hw : found[k] < ways.length := h.lt _ (List.getElem_mem hk)
  have hm : ways.getD found[k] [] ∈ ways := by rw [getDL_lt hw]; exact List.getElem_mem hw
  refine ⟨?_, ?_, ?_, ?_, ?_, ?_⟩
  · cases found with
    | nil => cases hk
    | cons x l => exact h.first
  · rw [List.nodup_append]
    refine ⟨h.nd, (wnd _ hm).filter _, fun x hx y hy e => ?_⟩
    subst e
    have := (List.mem_filter.mp hy).2
    simp at this
    exact this hx
  · intro x hx
    rcases List.mem_append.mp hx with hx | hx
    · exact h.lt x hx
    · exact wlt _ hm x (List.mem_filter.mp hx).1
  · intro x hx
    rcases List.mem_append.mp hx with hx | hx
    · exact h.rch x hx
    · exact .step (h.rch _ (List.getElem_mem hk)) (List.mem_filter.mp hx).1
  · rw [List.length_append]
    omega
  · intro i hi hik y hy
    have hi2 : i < found.length := by omega
    rw [List.getElem_append_left hi2] at hy
    by_cases e : i = k
    · subst e
      by_cases z : y ∈ found
      · exact List.mem_append_left _ z
      · exact List.mem_append_right _ (List.mem_filter.mpr ⟨hy, by simpa using z⟩)
    · exact List.mem_append_left _ (h.done i hi2 (by omega) y hy)
theorem Spr.fin {ways : List (List Nat)} {b : Nat} {found : List Nat} (h : Spr ways b found found.length) (x : Nat) : x ∈ found ↔ Rch (fun x y => y ∈ ways.getD x []) b x := by
  refine ⟨h.rch x, fun r => ?_⟩
  induction r with
  | base =>
    have := h.first
    cases found with
    | nil => cases this
    | cons y l => cases this; exact List.mem_cons_self ..
  | step _ hw ih =>
    obtain ⟨i, hi, e⟩ := List.getElem_of_mem ih
    exact h.done i hi hi _ (e ▸ hw)
/-! arrows -/
abbrev Ar := Int × Int × Str
def ArV (a : Ar) : List V := [.int a.1, .int a.2.1, .str a.2.2]
def ArS (K : PySem.W.Frag) (H : Hp) (v : V) (a : Ar) : Prop := ∃ q, v = .ref q ∧ Seq K H q (ArV a)
def ArT (K : PySem.W.Frag) (H : Hp) (v : V) (a : Ar) : Prop := ∃ q, v = .ref q ∧ SqT K H q (ArV a)
theorem ArT.s {K : PySem.W.Frag} {H : Hp} {v : V} {a : Ar} (h : ArT K H v a) : ArS K H v a := let ⟨q, e, h⟩ := h; ⟨q, e, .inr h⟩
theorem ArS.same {K : PySem.W.Frag} {H H1 : Hp} {v : V} {a : Ar} (h : ArS K H v a) (s : Same H H1) : ArS K H1 v a := let ⟨q, e, h⟩ := h; ⟨q, e, h.same s⟩
theorem ArT.same {K : PySem.W.Frag} {H H1 : Hp} {v : V} {a : Ar} (h : ArT K H v a) (s : Same H H1) : ArT K H1 v a := let ⟨q, e, h⟩ := h; ⟨q, e, same_t s h⟩
theorem ArT.but {K : PySem.W.Frag} {H H1 : Hp} {v : V} {a : Ar} {p : Addr} {o : HO} (h : ArT K H v a) (b : But p H H1) (hp : H p = some o) (no : ∀ xs, o ≠ .tup xs) (nf : ∀ ob xs, o ≠ .frz ob (.tup xs)) : ArT K H1 v a := by
  obtain ⟨q, e, h⟩ := h
  refine ⟨q, e, ?_⟩
  have ne : ∀ {u : HO}, H q = some u → u ≠ o → q ≠ p := fun hu n z => by
    subst z
    rw [hu] at hp
    exact n (Option.some.inj hp)
  rcases h with (h | ⟨ob, h⟩) | h
  · exact .inl (.inl (b _ _ (ne h fun z => no _ z.symm) h))
  · exact .inl (.inr ⟨ob, b _ _ (ne h fun z => nf _ _ z.symm) h⟩)
  · exact .inr h
/-- a tuple that another object's change leaves -/
theorem sqt_chg {K : PySem.W.Frag} {H H1 : Hp} {p q : Addr} {o : HO} {xs : List V} (h : SqT K H q xs) (b : But p H H1) (hp : H p = some o) (no : ∀ xs, o ≠ .tup xs) (nf : ∀ ob xs, o ≠ .frz ob (.tup xs)) : SqT K H1 q xs := by
  have ne : ∀ {u : HO}, H q = some u → u ≠ o → q ≠ p := fun hu n z => by
    subst z
    rw [hu] at hp
    exact n (Option.some.inj hp)
  rcases h with (h | ⟨ob, h⟩) | h
  · exact .inl (.inl (b _ _ (ne h fun z => no _ z.symm) h))
  · exact .inl (.inr ⟨ob, b _ _ (ne h fun z => nf _ _ z.symm) h⟩)
  · exact .inr h
def badAr (n : Int) (a : Ar) : Bool := decide (min a.1 a.2.1 < 0) || decide (n ≤ max a.1 a.2.1) || !fitsN a.2.2
end TT
namespace TT
open PySem PySem.Spec PyProof.Rows L2
section
variable {K : PySem.W.Frag} {j : Nat} {σ : L2.St} {H : Hp} {te : TE} {tt : TT} {Q : VK}
/-- over a list or a tuple -/
theorem c_s1 {tl : TE} {xs : List V} (f : Nat → V) (hn : xs.length ≤ 100000) (hl : ∀ R : VK, (∀ a H1, Same H H1 → Seq K H1 a xs → R (.ref a) H1) → tl σ H R)
    (hs : ∀ i x H', xs[i]? = some x → Same H H' → ∀ R : VK, (∀ H4, Same H' H4 → R (f i) H4) → te ((σ.set j none).set j (some x)) H' R)
    (hd : ∀ D H', H D = none → Same H H' → H' D = some (.lst ((List.range xs.length).map f)) → Q (.ref D) H') : tLc (iSeq K tl) (gName j) tYes te [j] σ H Q := by
  refine hl _ fun a H1 s1 h => a_iter h fun J w => lc_1 w f hn (fun H' s => s) (fun i x H' H2 hi s y => ?_) fun D H' n s e => hd D H' (s1.free n) (s1.trans s) e
  obtain ⟨rfl, e⟩ := y
  exact ⟨Same.refl _, hs i x _ e (s1.trans s)⟩
theorem cf_s1 {tl : TE} {xs : List V} (b : Nat → Bool) (f : Nat → V) (hn : xs.length ≤ 100000) (hl : ∀ R : VK, (∀ a H1, Same H H1 → Seq K H1 a xs → R (.ref a) H1) → tl σ H R)
    (hs : ∀ i x H', xs[i]? = some x → Same H H' → (∀ R : Bool → Hp → Prop, (∀ H3, Same H' H3 → R (b i) H3) → tt ((σ.set j none).set j (some x)) H' R) ∧
      (b i = true → ∀ H3, Same H' H3 → ∀ R : VK, (∀ H4, Same H3 H4 → R (f i) H4) → te ((σ.set j none).set j (some x)) H3 R))
    (hd : ∀ D H', H D = none → Same H H' → H' D = some (.lst (((List.range xs.length).filter b).map f)) → Q (.ref D) H') : tLc (iSeq K tl) (gName j) tt te [j] σ H Q := by
  refine hl _ fun a H1 s1 h => a_iter h fun J w => lc_f w b f hn (fun H' s => s) (fun i x H' H2 hi s y => ?_) fun D H' n s e => hd D H' (s1.free n) (s1.trans s) e
  obtain ⟨rfl, e⟩ := y
  exact ⟨Same.refl _, hs i x _ e (s1.trans s)⟩
end
end TT
namespace TT
open PySem PySem.Spec PyProof.Rows L2
def rDisp1 (p : Addr) (y z : V) (H : Hp) (Q : VK) : Prop := H p = some (.dK []) ∧ ∃ kvs : List (Key × V), [(y, z)] = kvs.map (fun kv => (kV kv.1, kv.2)) ∧ kvs.length ≤ 15 ∧ Q (.ref p) (upd H p (.dK (mergeK [] kvs)))
theorem g_disp1 {tk tv : TE} {σ : L2.St} {H : Hp} {Q : VK} (h : ∀ p H1, H p = none → Same H H1 → H1 p = some (.dK []) → tk σ H1 fun y H2 => tv σ H2 fun z H3 => rDisp1 p y z H3 Q) : tDisp [(tk, tv)] σ H Q := fun p hp => h p _ hp (same_new hp) upd_same
theorem a_disp1 {p : Addr} {y z : V} {k : Key} {H : Hp} {Q : VK} (e : y = kV k) (h : H p = some (.dK [])) (q : ∀ H2, But p H H2 → H2 p = some (.dK [(k, z)]) → Q (.ref p) H2) : rDisp1 p y z H Q := ⟨h, [(k, z)], by rw [e]; rfl, by show 1 ≤ 15; decide, q _ But.upd upd_same⟩
theorem Rch.pre {w : Nat → Nat → Prop} {x y z : Nat} (h : w x y) (r : Rch w y z) : Rch w x z := by
  induction r with
  | base => exact .step .base h
  | step _ hw ih => exact .step ih hw
theorem Rch.rev {w1 w2 : Nat → Nat → Prop} (h : ∀ x y, w1 x y → w2 y x) {b x : Nat} (r : Rch w1 b x) : Rch w2 x b := by
  induction r with
  | base => exact .base
  | step _ hw ih => exact Rch.pre (h _ _ hw) ih
end TT

set_option Elab.async false
set_option linter.all false
set_option maxRecDepth 100000
set_option maxHeartbeats 4000000
namespace TT
open PySem PySem.Spec PyProof.Rows L2
section
variable {K : PySem.W.Frag} {H : Hp} {Q : VK} {n : Nat} {x y : V} {d e : PyData}
theorem a_eqW (hx : Dq K H n x d) (hy : Dq K H n y e) (q : Q (.bl (PyData.eqv d e)) H) (l : n ≤ 64 := by decide) : rEqU K x y H Q := a_eqD hx.dp hy.dp (hx.sm.sh l) (hy.sm.sh l) q
theorem a_neW (hx : Dq K H n x d) (hy : Dq K H n y e) (q : Q (.bl (!PyData.eqv d e)) H) (l : n ≤ 64 := by decide) : rNeU K x y H Q := .inr ⟨_, _, hx.dp, hy.dp, hx.sm.sh l, hy.sm.sh l, q⟩
end
def rNinS : R2 := fun x y H Q => ∃ (c : Nat) (z : Str), x = .str ⟨#[c]⟩ ∧ y = .str z ∧ Q (.bl (!decide (c ∈ z.cps.toList))) H
theorem op_ninSU {X : Cx} : OpR X (compareOp .NotIn) rNinS := op_notIn_sign
theorem a_ninSU {H : Hp} {Q : VK} {c : Nat} {z : Str} (q : Q (.bl (!decide (c ∈ z.cps.toList))) H) : rNinS (.str ⟨#[c]⟩) (.str z) H Q := ⟨c, z, rfl, rfl, q⟩
section
variable {K : PySem.W.Frag} {j : Nat} {σ : L2.St} {H : Hp} {te : TE} {tt : TT} {Q : VK}
theorem cf_s {td : TE} {z : Str} (b : Nat → Bool) (f : Nat → V) (hn : z.cps.size ≤ 100000) (hl : ∀ R : VK, (∀ H1, Same H H1 → R (.str z) H1) → td σ H R)
    (hs : ∀ i c H', z.cps[i]? = some c → Same H H' → (∀ R : Bool → Hp → Prop, (∀ H3, Same H' H3 → R (b i) H3) → tt ((σ.set j none).set j (some (.str ⟨#[c]⟩))) H' R) ∧
      (b i = true → ∀ H3, Same H' H3 → ∀ R : VK, (∀ H4, Same H3 H4 → R (f i) H4) → te ((σ.set j none).set j (some (.str ⟨#[c]⟩))) H3 R))
    (hd : ∀ D H', H D = none → Same H H' → H' D = some (.lst (((List.range z.cps.size).filter b).map f)) → Q (.ref D) H') : tLc (iStr td) (gName j) tt te [j] σ H Q := by
  refine hl _ fun H1 s1 => ⟨z, rfl, lc_f walk_str b f hn (fun _ _ => True.intro) (fun i x H' H2 hi s y => ?_) fun D H' n s e => hd D H' (s1.free n) (s1.trans s) e⟩
  obtain ⟨rfl, c, e, rfl⟩ := y
  exact ⟨Same.refl _, hs i c _ e (s1.trans s)⟩
end
/-! what pairs lead to, round by round -/
inductive RchZ (prs : List Pr) (b : Int) : Int → Prop
  | base : RchZ prs b b
  | step {x y : Int} : RchZ prs b x → (x, y) ∈ prs → RchZ prs b y
def roundZ (prs : List Pr) (found : List Int) : List Int := found ++ (prs.filter fun p => decide (p.1 ∈ found) && decide (p.2 ∉ found)).map (·.2)
def closedZ (prs : List Pr) (found : List Int) : Prop := ∀ p ∈ prs, p.1 ∈ found → p.2 ∈ found
def cntZ (prs : List Pr) (found : List Int) : Nat := (prs.filter fun p => decide (p.2 ∈ found)).length
theorem closed_round {prs : List Pr} {found : List Int} (h : closedZ prs found) : roundZ prs found = found := by
  unfold roundZ
  have : (prs.filter fun p => decide (p.1 ∈ found) && decide (p.2 ∉ found)) = [] := by
    rw [List.filter_eq_nil_iff]
    intro p hp z
    simp only [Bool.and_eq_true, decide_eq_true_eq] at z
    exact z.2 (h p hp z.1)
  rw [this]
  simp
theorem filter_lt {α : Type} {p q : α → Bool} : ∀ {l : List α}, (∀ x ∈ l, p x = true → q x = true) → (∃ x ∈ l, p x = false ∧ q x = true) → (l.filter p).length < (l.filter q).length
  | [], _, ⟨x, hx, _⟩ => by cases hx
  | y :: l, h, ⟨x, hx, h1, h2⟩ => by
    have mono : (l.filter p).length ≤ (l.filter q).length := by
      have := fun x hx => h x (List.mem_cons_of_mem y hx)
      clear h hx h1 h2 x
      induction l with
      | nil => exact Nat.le_refl _
      | cons z l ih =>
        have ih := ih fun x hx => this x (List.mem_cons_of_mem z hx)
        rw [List.filter_cons, List.filter_cons]
        by_cases hp : p z = true
        · rw [if_pos hp, if_pos (this z (List.mem_cons_self ..) hp)]
          simpa using ih
        · rw [if_neg hp]
          split
          · simp; omega
          · exact ih
    rw [List.filter_cons, List.filter_cons]
    rcases List.mem_cons.mp hx with rfl | hx
    · rw [if_neg (by rw [h1]; decide), if_pos h2]
      simp; omega
    · have ih := filter_lt (fun x hx => h x (List.mem_cons_of_mem y hx)) ⟨x, hx, h1, h2⟩
      by_cases hp : p y = true
      · rw [if_pos hp, if_pos (h y (List.mem_cons_self ..) hp)]
        simpa using ih
      · rw [if_neg hp]
        split
        · simp; omega
        · exact ih
theorem round_next {prs : List Pr} {found : List Int} {i : Nat} (h : closedZ prs found ∨ i ≤ cntZ prs found) : closedZ prs (roundZ prs found) ∨ i + 1 ≤ cntZ prs (roundZ prs found) := by
  by_cases c : closedZ prs found
  · rw [closed_round c]
    exact .inl c
  · refine .inr ?_
    rcases h with h | h
    · exact absurd h c
    unfold closedZ at c
    obtain ⟨p, hp⟩ := Classical.not_forall.mp c
    obtain ⟨hm, hp⟩ := Classical.not_forall.mp hp
    obtain ⟨h1, h2⟩ := Classical.not_forall.mp hp
    refine Nat.lt_of_le_of_lt h (filter_lt (fun x _ hx => ?_) ⟨p, hm, decide_eq_false h2, ?_⟩)
    · exact decide_eq_true (List.mem_append_left _ (of_decide_eq_true hx))
    · refine decide_eq_true (List.mem_append_right _ (List.mem_map_of_mem (List.mem_filter.mpr ⟨hm, ?_⟩)))
      simp [h1, h2]
theorem closed_full {prs : List Pr} {found : List Int} (h : closedZ prs found ∨ prs.length ≤ cntZ prs found) : closedZ prs found := by
  rcases h with h | h
  · exact h
  · intro p hp _
    unfold cntZ at h
    have e := List.filter_sublist.eq_of_length_le (l₂ := prs) (by simpa using h)
    rw [← e] at hp
    exact of_decide_eq_true (List.mem_filter.mp hp).2
theorem rchZ_iff {prs : List Pr} {b : Int} {found : List Int} (hb : b ∈ found) (hr : ∀ x ∈ found, RchZ prs b x) (hc : closedZ prs found) (x : Int) : x ∈ found ↔ RchZ prs b x := by
  refine ⟨hr x, fun r => ?_⟩
  induction r with
  | base => exact hb
  | step _ hp ih => exact hc _ hp ih
theorem round_rch {prs : List Pr} {b : Int} {found : List Int} (hr : ∀ x ∈ found, RchZ prs b x) : ∀ x ∈ roundZ prs found, RchZ prs b x := fun x hx => by
  rcases List.mem_append.mp hx with hx | hx
  · exact hr x hx
  · obtain ⟨p, hp, rfl⟩ := List.mem_map.mp hx
    obtain ⟨h1, h2⟩ := List.mem_filter.mp hp
    simp only [Bool.and_eq_true, decide_eq_true_eq] at h2
    exact .step (hr _ h2.1) h1
end TT

set_option Elab.async false
set_option linter.all false
set_option maxRecDepth 100000
set_option maxHeartbeats 4000000
namespace TT
open PySem PySem.Spec PyProof.Rows L2
/-! texts: split, join, truth -/
def rSplit : V → List V → Hp → VK → Prop := fun x xs H Q => ∃ a b, x = .str a ∧ xs = [.str b] ∧ (b.length == 0) = false ∧ a.length + 2 ≤ sizeLine ∧ rNewStrs (Txt.split a b) H Q
def rJoin (K : PySem.W.Frag) : V → List V → Hp → VK → Prop := fun x xs H Q => ∃ a p, ∃ ys : List Str, x = .str a ∧ xs = [.ref p] ∧ (SqL K H p (ys.map V.str) ∨ SqT K H p (ys.map V.str)) ∧ (ys.map (·.length)).sum + ys.length * a.length ≤ 16777216 ∧ Q (.str (Txt.join a ys)) H
def rLenD : List V → Hp → VK → Prop := fun xs H Q => ∃ a kvs, xs = [V.ref a] ∧ H a = some (.dK kvs) ∧ Q (.int kvs.length) H
section
variable {X : Cx} {K : PySem.W.Frag} {o e : Expr} {to te : TE}
theorem pe_splitU {apos pos : Pos} (ho : PE X o to) (he : PE X e te) (hs : starEach [e] X.env = [(false, eval e X.env)] := by rfl) (hbase : attributeBase o "split" X.env (eval o X.env) = eval o X.env := by rfl) (hline : (apos.endLine == pos.line) = true := by rfl) : PE X (.Call (.Attribute o "split" apos) [e] [] pos) (tM1 rSplit to te) := pe_split ho he hs hbase hline
theorem pe_joinU {apos pos : Pos} (hK : X.K = K) (ho : PE X o to) (he : PE X e te) (hs : starEach [e] X.env = [(false, eval e X.env)] := by rfl) (hbase : attributeBase o "join" X.env (eval o X.env) = eval o X.env := by rfl) (hline : (apos.endLine == pos.line) = true := by rfl) : PE X (.Call (.Attribute o "join" apos) [e] [] pos) (tM1 (rJoin K) to te) := by
  subst hK
  exact pe_join ho he hs hbase hline
theorem call_lenDU : CallR X (.builtin "len") rLenD := call_lenD
end
section
variable {K : PySem.W.Frag} {σ : L2.St} {H : Hp} {Q : VK} {to te : TE} {r : V → List V → Hp → VK → Prop}
theorem g_m1 (h : to σ H fun x H1 => (∃ a, x = .str a) ∧ te σ H1 fun y H2 => r x [y] H2 Q) : tM1 r to te σ H Q := h
theorem a_isStr {z : Str} {B : Prop} (h : B) : (∃ a, V.str z = .str a) ∧ B := ⟨⟨z, rfl⟩, h⟩
theorem a_split {a b : Str} (hb : (b.length == 0) = false) (hl : a.length ≤ 100000) (q : ∀ p H2, H p = none → Same H H2 → H2 p = some (.lst ((Txt.split a b).map V.str)) → Q (.ref p) H2) : rSplit (.str a) [.str b] H Q := ⟨a, b, rfl, rfl, hb, by rw [sizeLine_eq]; omega, fun p hp => q p _ hp (same_new hp) upd_same⟩
theorem a_join {a : Str} {p : Addr} {ys : List Str} (h : Seq K H p (ys.map V.str)) (hl : (ys.map (·.length)).sum + ys.length * a.length ≤ 100000) (q : Q (.str (Txt.join a ys)) H) : rJoin K (.str a) [.ref p] H Q := ⟨a, p, ys, rfl, rfl, h, by omega, q⟩
theorem a_lenD {a : Addr} {kvs : List (Key × V)} (h : H a = some (.dK kvs)) (q : Q (.int kvs.length) H) : rLenD [.ref a] H Q := ⟨a, kvs, rfl, h, q⟩
theorem a_truS {z : Str} {R : Bool → Prop} (hl : z.length ≤ 100000) (h : R (decide (z.length ≠ 0))) : ∃ k, TruV K (.str z) H k ∧ R k := ⟨_, ⟨by rw [sizeLine_eq]; omega, rfl⟩, by
  have e : (((z.length : Nat) : Int) != 0) = decide (z.length ≠ 0) := by
    rw [Bool.eq_iff_iff]
    simp
  rw [e]
  exact h⟩
theorem a_catLT {a b : Addr} {xs ys : List V} (h1 : SqT K H a xs) (h2 : SqT K H b ys) (hl : xs.length + ys.length ≤ 100000) (n1 : xs ≠ []) (q : ∀ p H2, Same H H2 → SqT K H2 p (xs ++ ys) → Q (.ref p) H2) : rAddU K (.ref a) (.ref b) H Q :=
  .inr (.inr ⟨a, b, xs, ys, rfl, rfl, h1, h2, Nat.le_trans hl (by decide), fun z => absurd z n1, fun _ z => q a H (Same.refl _) (by rw [z, List.append_nil]; exact h1), fun _ _ p hp => q p _ (same_new hp) (SqT.of upd_same)⟩)
end
theorem app_length (a b : Str) : (a ++ b).length = a.length + b.length := by
  show (a.cps ++ b.cps).size = _
  rw [Array.size_append]
  rfl
theorem sjoin_length (y : Str) : ∀ parts : List Str, (Str.join y parts).length ≤ (parts.map (·.length)).sum + parts.length * y.length
  | [] => by show (Str.join y []).length ≤ _; exact Nat.le_trans (Nat.le_of_eq (by rfl)) (Nat.zero_le _)
  | [x] => by
    show x.length ≤ _
    simp
  | x :: z :: r => by
    show (x ++ y ++ Str.join y (z :: r)).length ≤ _
    have ih := sjoin_length y (z :: r)
    rw [app_length, app_length]
    simp only [List.map_cons, List.sum_cons, List.length_cons, Nat.add_mul, Nat.one_mul] at ih ⊢
    omega
theorem join_length (y : Str) (parts : List Str) : (Txt.join y parts).length ≤ (parts.map (·.length)).sum + parts.length * y.length := by
  rw [TL.join_eq]
  exact sjoin_length y parts
theorem sum_len {m : Nat} : ∀ {ys : List Str}, (∀ x ∈ ys, x.length ≤ m) → (ys.map (·.length)).sum ≤ m * ys.length
  | [], _ => by simp
  | x :: ys, h => by
    have ih := sum_len (ys := ys) fun z hz => h z (List.mem_cons_of_mem _ hz)
    have := h x (List.mem_cons_self ..)
    simp only [List.map_cons, List.sum_cons, List.length_cons, Nat.mul_add, Nat.mul_one]
    omega
theorem mem_sjoin (y : Str) (c : Nat) : ∀ parts : List Str, c ∈ (Str.join y parts).cps.toList → c ∈ y.cps.toList ∨ ∃ x ∈ parts, c ∈ x.cps.toList
  | [], h => by
    have : (Str.join y []).cps.toList = [] := rfl
    rw [this] at h
    cases h
  | [x], h => .inr ⟨x, List.mem_singleton.mpr rfl, h⟩
  | x :: z :: r, h => by
    have e : (Str.join y (x :: z :: r)).cps.toList = x.cps.toList ++ y.cps.toList ++ (Str.join y (z :: r)).cps.toList := by
      show ((x.cps ++ y.cps) ++ (Str.join y (z :: r)).cps).toList = _
      simp
    rw [e] at h
    rcases List.mem_append.mp h with h | h
    · rcases List.mem_append.mp h with h | h
      · exact .inr ⟨x, List.mem_cons_self .., h⟩
      · exact .inl h
    · rcases mem_sjoin y c (z :: r) h with h | ⟨w, hw, h⟩
      · exact .inl h
      · exact .inr ⟨w, List.mem_cons_of_mem _ hw, h⟩
theorem putAll_full (v : V) {ks : List Key} (nd : ks.Nodup) : (putAll v ks).length = ks.length := by
  have : ∀ ks : List Key, ks.Nodup → (putAll v ks).map (·.1) = ks := fun ks => by
    refine revInd (P := fun ks => ks.Nodup → (putAll v ks).map (·.1) = ks) (fun _ => rfl) (fun ks x ih nd => ?_) ks
    rw [List.nodup_append] at nd
    have ih := ih nd.1
    rw [putAll_snoc, putK_keys, ih, if_neg]
    exact fun z => nd.2.2 x z x (by simp) rfl
  have := congrArg List.length (this ks nd)
  rwa [List.length_map] at this
end TT

set_option Elab.async false
set_option linter.all false
set_option maxRecDepth 100000
set_option maxHeartbeats 4000000
namespace TT
open PySem PySem.Spec PyProof.Rows L2
/-! errors held as values -/
def rExv (C : Addr) (sp : Sp) (vs : List V) (H1 : Hp) (Q : VK) : Prop := vs.length ≤ 1000 ∧ ∀ a, H1 a = none → sp (.ref a :: (vs ++ [])) (upd H1 a (exo a C none)) (fun v H2 => v = .non ∧ Q (.ref a) H2) (fun _ _ _ => False)
def tExv (C : Addr) (sp : Sp) (ta : TA) : TE := fun σ H Q => ta σ H fun vs H1 => rExv C sp vs H1 Q
def tExv0 (C : Addr) : TE := fun _ H Q => ∀ a, H a = none → Q (.ref a) (upd H a (exo a C none))
section
variable {X : Cx} {x : Str} {C : Addr} {k j : Nat} {sp : Sp} {e : Expr} {es : List Expr} {ta : TA} {p pos : Pos}
theorem pe_exv (c : Rai X.prog X.w X.K X.mg X.base x C k sp) (hr : Room j X.A) (hk : k + 1 ≤ j) (hg : Gl X x) (ha : PA X (e :: es) ta) (hdb : (x == ("__debug__" : Str)) = false := by decide)
    (he : starEach (e :: es) X.env = (false, eval e X.env) :: starEach es X.env := by rfl) (hpl : (backTo pos (starEach es X.env)).any (·.1) = false := by rfl) : PE X (.Call (.Name x p) (e :: es) [] pos) (tExv C sp ta) := by
  obtain ⟨fI, fd, ps, iC, tI, F1, hb⟩ := c.ex
  have T := c.er.ox
  replace hr := hr.mono hk
  refine ⟨fun pins s σ H Q I h => ?_⟩
  obtain ⟨nm, q, N, bs, bm, sn, sub, ab, col, dd, k0, k1, k2, k3, k5, hC, hbm⟩ := T.cls
  refine wpAny_Call_Name_kw (ld_glob I hg c.at_ ?_ hdb)
  refine PySem.W.callWith_K (h₀ := X.base) I.ok.mod.kin T.kC (thn (ha.run pos pins s σ H _ I h) fun us s1 ⟨vs, H1, I1, r1, hz, q1⟩ => ⟨I1.kIn, ?_⟩) he hpl
  show wpAny _ _ (call (.ref C) us) _ _ _
  obtain ⟨hp, g, dr, tk, os⟩ := s1
  have hsz : hp.objs.size ≤ hp.objs.size + 1 := Nat.le_succ _
  have hn : H1 (hp.objs.size + 1) = none := I1.hok.fresh hsz
  have hq := q1 (hp.objs.size + 1) hn
  have kk : ∀ b o, hp.get? b = some o → ((hp.push (PySem.W.kdv_tup us)).push (PySem.HandSPX.excO C hp.objs.size)).get? b = some o := fun b o e => Heap.get?_push_of_some _ (Heap.get?_push_of_some _ e)
  have hget : ((hp.push (PySem.W.kdv_tup us)).push (PySem.HandSPX.excO C hp.objs.size)).get? (hp.objs.size + 1) = some (PySem.HandSPX.excO C hp.objs.size) := by heap_get
  have I2 : Inv X pins σ (upd H1 (hp.objs.size + 1) (exo (hp.objs.size + 1) C none)) ⟨(hp.push (PySem.W.kdv_tup us)).push (PySem.HandSPX.excO C hp.objs.size), g, dr, tk, os⟩ :=
    I1.laid (t' := tk) (a := hp.objs.size + 1) (o := exo (hp.objs.size + 1) C none) (h' := (hp.push (PySem.W.kdv_tup us)).push (PySem.HandSPX.excO C hp.objs.size)) kk hsz (exo_ok hget)
  have r2 : Vals (V.ref (hp.objs.size + 1) :: (vs ++ [])) (Value.ref (hp.objs.size + 1) :: (us ++ [])) := .cons rfl (r1.append .nil)
  have hl : (Value.ref (hp.objs.size + 1) :: us ++ []).length = ps.length := by
    have e := r2.length
    rw [F1.len _ _ _ _ hq] at e
    exact e.symm
  have hus : us.length ≤ sizeLine := by
    rw [← Paired.length r1, sizeLine_eq]
    omega
  refine wpAny_call (PySem.HandSPX.call_own F.excBase_ValueError (fun Y => PySem.HandSPX.refsVE_contains Y bm hbm) (I1.kIn _ _ hC) (PySem.W.looks_findIn I1.kIn iC) (fun self => PySem.W.bind_fn I1.kIn self tI) hus
    (codeAny_mono (F1.run _ X.stack _ _ ⟨Value.ref (hp.objs.size + 1) :: us, []⟩ (Value.ref (hp.objs.size + 1) :: (us ++ [])) _ _ (fun _ _ _ => False) (hr.make C us []) (I2.env0.make C us []) (show BindsTo _ fd ⟨Value.ref (hp.objs.size + 1) :: us, []⟩ (ps.zip (Value.ref (hp.objs.size + 1) :: (us ++ []))) from hb _ (Value.ref (hp.objs.size + 1) :: us) I2.kIn hl) r2 hq) fun r s' hq' => ?_))
  cases r with
  | error er => exact passF pins σ _ _ er s' I2 hq'
  | ok fl =>
    cases fl with
    | ret u =>
      obtain ⟨v, H2, J, rv, ev, q2⟩ := I2.after hq'
      subst ev
      exact ⟨rv, .ref (hp.objs.size + 1), H2, J, rfl, q2⟩
    | next => exact False.elim hq'
    | brk => exact False.elim hq'
    | cont => exact False.elim hq'
theorem pe_exv0 (c : Rai0 X.K X.mg x C) (hg : Gl X x) (hd : (x == ("__debug__" : Str)) = false := by decide) : PE X (.Call (.Name x p) [] [] pos) (tExv0 C) := by
  refine ⟨fun pins s σ H Q I h => ?_⟩
  refine wpAny_Call_Name_kw (ld_glob I hg c.at_ (PySem.W.callWith_K0 (first := []) I.kIn c.er.ox.kC ?_) hd)
  obtain ⟨bm, N, nm, qn, bs, hdct, sn, sub, ab, col, dd, a0, a1, a2, a3, a5, mN, hC, hN, hni, T⟩ := exc_obj I.kIn c.ei
  refine wpAny_call_exc_subT PySem.F.excBase_ValueError T hC hN hni (fun h' a hm => ?_) (by rw [sizeLine_eq]; exact Nat.zero_le _)
  have hn : H a = none := I.hok.gone hm.new
  obtain ⟨t, ht, _, _⟩ := hm.there
  exact ⟨.ref a, upd H a (exo a C none), I.laidN hm.keeps hm.new hn (exo_ok ht), rfl, h a hn⟩
end
def rXe (K : PySem.W.Frag) (n : Str) (x : V) (H : Hp) (Q : VK) : Prop := ∃ (a C dd : Addr) (fs : List (Str × V)) (v : V), x = .ref a ∧ XfC K C ∧ PySem.W.findIn K (.ref C) n = some none ∧ H a = some (exo a C (some dd)) ∧ H dd = some (exd dd fs) ∧ fs.lookup n = some v ∧ Q v H
def tXe (K : PySem.W.Frag) (n : Str) (te : TE) : TE := fun σ H Q => te σ H fun x H1 => rXe K n x H1 Q
theorem pe_fe {X : Cx} {K : PySem.W.Frag} {e : Expr} {te : TE} {pos : Pos} {n : Str} (hK : X.K = K) (he : PE X e te) (hb : attributeBase e n X.env (eval e X.env) = eval e X.env := by rfl) : PE X (.Attribute e n pos) (tXe K n te) := by
  subst hK
  refine ⟨fun pins s σ H Q I h => ?_⟩
  refine attr_of hb (thn (he.run pins s σ H _ I h) fun u s1 hh => ?_)
  obtain ⟨x, H1, I1, rx, a, C, dd, fs, v, ex, T, hno, ha, hd, l, q⟩ := hh
  subst ex
  obtain rfl : u = Value.ref a := rx
  obtain ⟨t1, hget⟩ := (I1.hok a _ ha).1
  obtain ⟨mA, hns, hr⟩ := (I1.hok dd _ hd).1
  obtain ⟨od, ho, hl⟩ := lookIn_ns hns
  obtain ⟨u, hu, ru⟩ := RelO.some_of (v := v) (o := mA n) (by rw [← l]; exact hr n)
  have J : PySem.W.InstAt s1.heap a _ C (some od) := ⟨hget, rfl, rfl, ho⟩
  exact HandSPX.exc_get I1.kIn J T.ga T.gg T.exC (PySem.W.findObj_own T.hdC hno rfl (by rw [hl, hu])) (handed_of ru) ⟨v, H1, I1.tok _, ru, q⟩
def rIsV (K : PySem.W.Frag) : List V → Hp → VK → Prop := fun xs H Q => ∃ (a D : Addr) (od : Option Addr) (c : V) (cv : Value) (b : Bool), Err K D ∧ xs = [.ref a, c] ∧ H a = some (exo a D od) ∧ (∀ dd, od = some dd → ∃ fs, H dd = some (exd dd fs)) ∧ (∀ u, RelV c u → u = cv) ∧ PySem.W.kitOne K (.ref D) cv = some b ∧ Q (.bl b) H
theorem call_isV {X : Cx} {K : PySem.W.Frag} (hK : X.K = K) : CallR X (.builtin "isinstance") (rIsV K) := by
  subst hK
  intro pins s σ H xs us Q I r h
  obtain ⟨a, D, od, c, cv, b, E, rfl, ha, hdd, hcv, e, q⟩ := h
  cases r with
  | cons rx rr =>
    cases rr with
    | cons rt rr =>
      cases rr
      cases rx
      have ec := hcv _ rt
      subst ec
      obtain ⟨t1, hget⟩ := (I.hok a _ ha).1
      have J : ∃ o od, PySem.W.InstAt s.heap a o D od := by
        cases od with
        | none => exact ⟨_, none, hget, rfl, rfl, trivial⟩
        | some dd =>
          obtain ⟨fs, ed⟩ := hdd dd rfl
          obtain ⟨mA, hns, _⟩ := (I.hok dd _ ed).1
          obtain ⟨o, ho, _⟩ := lookIn_ns hns
          exact ⟨_, some o, hget, rfl, rfl, ho⟩
      obtain ⟨_, od, J⟩ := J
      exact PySem.W.kia_one (PySem.W.kitx_exc E.ic E.xf.ga E.xf.gg E.xf.exC E.ca E.cn E.ct E.cm) I.kIn J e (fun z => nomatch z) fun tk => ⟨.bl b, H, I.kept (t' := tk) fun _ _ z => z, rfl, q⟩
section
variable {K : PySem.W.Frag} {σ : L2.St} {H : Hp} {Q : VK} {C : Addr} {sp : Sp} {ta : TA} {te : TE} {n : Str}
theorem g_exv (h : ta σ H fun vs H1 => rExv C sp vs H1 Q) : tExv C sp ta σ H Q := h
def rExv0 (C : Addr) (H : Hp) (Q : VK) : Prop := ∀ a, H a = none → Q (.ref a) (upd H a (exo a C none))
theorem g_exv0 (h : rExv0 C H Q) : tExv0 C σ H Q := h
theorem g_xe (h : te σ H fun x H1 => rXe K n x H1 Q) : tXe K n te σ H Q := h
theorem a_exv0 (q : ∀ a H', H a = none → Same H H' → H' a = some (exo a C none) → Q (.ref a) H') : rExv0 C H Q := fun a ha => q a _ ha (same_new ha) upd_same
theorem a_exv1 {f : Str} {v : V} (q : ∀ a dd H', H a = none → Same H H' → H' a = some (exo a C (some dd)) → H' dd = some (exd dd [(f, v)]) → Q (.ref a) H') : rExv C (spI1 C f) [v] H Q := by
  refine ⟨by show 1 ≤ 1000; decide, fun a ha => ⟨a, v, rfl, upd_same, fun dx hd ne => ⟨rfl, ?_⟩⟩⟩
  rw [upd_ne ne] at hd
  refine q a dx _ ha (fun c o e => ?_) upd_same (by rw [upd_ne ne, upd_same])
  rw [upd_ne (ne_of_none e ha), upd_ne (ne_of_none e hd), upd_ne (ne_of_none e ha)]
  exact e
theorem a_exv2 {f g : Str} {v w : V} (q : ∀ a dd H', H a = none → Same H H' → H' a = some (exo a C (some dd)) → H' dd = some (exd dd [(g, w), (f, v)]) → Q (.ref a) H') : rExv C (spI2 C f g) [v, w] H Q := by
  refine ⟨by show 2 ≤ 1000; decide, fun a ha => ⟨a, v, w, rfl, upd_same, fun dx hd ne => ⟨rfl, ?_⟩⟩⟩
  rw [upd_ne ne] at hd
  refine q a dx _ ha (fun c o e => ?_) (by rw [upd_ne (Ne.symm ne), upd_same]) upd_same
  rw [upd_ne (ne_of_none e hd), upd_ne (ne_of_none e ha), upd_ne (ne_of_none e hd), upd_ne (ne_of_none e ha)]
  exact e
theorem a_xe {a dd : Addr} {fs : List (Str × V)} {v : V} (x : Err K C) (hn : PySem.W.findIn K (.ref C) n = some none) (h : H a = some (exo a C (some dd))) (hd : H dd = some (exd dd fs)) (l : fs.lookup n = some v) (q : Q v H) : rXe K n (.ref a) H Q := ⟨a, C, dd, fs, v, rfl, x.xf, hn, h, hd, l, q⟩
theorem lk1 (f : Str) (v : V) : ([(f, v)] : List (Str × V)).lookup f = some v := by simp [List.lookup]
end
theorem a_three {u v w : V} {R : V → V → V → Prop} (h : R u v w) : ∃ u' v' w', [u, v, w] = [u', v', w'] ∧ R u' v' w' := ⟨u, v, w, rfl, h⟩
theorem g_par3 {i j l : Nat} {ts : TA} {D : Ends} {σ : L2.St} {H : Hp} (h : ts σ H fun vs H1 => ∃ u v w, vs = [u, v, w] ∧ D.nx (((σ.set i (some u)).set j (some v)).set l (some w)) H1) : tPar3 i j l ts D σ H := h
end TT

set_option Elab.async false
set_option linter.all false
set_option maxRecDepth 100000
set_option maxHeartbeats 4000000
namespace TT
open PySem PySem.Spec PyProof.Rows L2
/-! ### iter(t), t a tuple -/
def ItT (t it : Addr) (i : Nat) : HO := .ext fun h => h.IsTupleIter it t i
theorem itT_ok {P : Program} {w : World} {H : Hp} {h : Heap} {t it : Addr} {i : Nat} (e : h.IsTupleIter it t i) : ObjOk P w H h it (ItT t it i) :=
  ⟨e, (let ⟨o, e, _⟩ := e; ⟨o, e⟩), fun h1 h2 q k => by
    obtain ⟨o, e, r⟩ := q
    exact ⟨o, k _ e, r⟩⟩
def rIterT (K : PySem.W.Frag) : List V → Hp → VK → Prop := fun xs H Q => ∃ (t : Addr) (zs : List V), xs = [.ref t] ∧ SqT K H t zs ∧ ∀ it, H it = none → (∀ b o, H b = some o → b < it) → Q (.ref it) (upd H it (ItT t it 0))
theorem k_iterT {X : Cx} {K : PySem.W.Frag} (hK : X.K = K) : CallR X (.builtin "iter") (rIterT K) := by
  subst hK
  intro pins s σ H xs us Q I r h
  obtain ⟨t, zs, rfl, hq, q⟩ := h
  obtain rfl := Vals.ref1 r
  obtain ⟨its, _, pl, _⟩ := I.tuple hq
  refine Calls.call_function_entry (by decide +kernel) (by decide +kernel) PySem.W.kdk_entry_iter (PySem.W.kdk_args_iter _) ?_
  unfold Builtin.«iter»
  refine wpAny_bind (m := someArgs "iter" 1 2 _) (wpAny_of_eq (a := [Value.ref t]) (by first | rfl | kernel_rfl!) ?_)
  show wpAny _ _ (pyIter (.ref t) >>= _) _ _ _
  refine wpAny_bind (wpAny_pyIter_tuple (show s.heap.IsTuple t its.toArray from pl) (wpAny_pure ⟨_, rfl, ?_⟩))
  exact ⟨.ref s.heap.objs.size, _, I.laid (t' := s.toks) (fun b u e => Heap.get?_push_of_some _ e) (Nat.le_refl _) (itT_ok ⟨_, Heap.get?_push_size _ rfl, rfl, rfl⟩), rfl, q _ (I.hok.fresh (Nat.le_refl _)) fun b o e => by
    cases z : s.heap.get? b with
    | some u => exact Heap.lt_size z
    | none => rw [I.hok.gone z] at e; cases e⟩
end TT

set_option Elab.async false
set_option linter.all false
set_option maxRecDepth 100000
set_option maxHeartbeats 4000000
namespace TT
open PySem PySem.Spec PyProof.Rows L2
structure LstO (K : PySem.W.Frag) (C fi fl : Addr) : Prop where
  it : PySem.W.findIn K (.ref C) "__iter__" = some (some (.ref fi))
  itF : PySem.W.isFn K (.ref fi) = true
  ln : PySem.W.findIn K (.ref C) "__len__" = some (some (.ref fl))
  lnF : PySem.W.isFn K (.ref fl) = true
section
variable {X : Cx} {A : Around} {n : Nat} {pins : List (Addr × Obj)} {σ : L2.St} {H : Hp} {s : Shared} {a C fi fl dx : Addr} {fs : List (Str × V)} {spI spL : Sp} {E : XK}
theorem env_at (sb : Sub X n A) (I : Inv X pins σ H s) : Env0 X.prog X.w X.K X.mg X.base A X.stack s H := by
  have e := I.env0
  exact ⟨by rw [sb.fr]; exact e.frames, e.mod, e.bs, e.bsz, e.funs, e.frf, e.hok, e.bare⟩
theorem hint_o (sb : Sub X (n + 1) A) (c : LstO X.K C fi fl) (FL : FnR X.prog X.w X.K X.mg X.base (L2.CX X.prog X.w) n fl spL) (I : Inv X pins σ H s) (ha : H a = some (.ins C dx fs)) {R : Hp → Prop}
    (q : spL [.ref a] H (fun v H' => ∃ m : Int, v = .int m ∧ 0 ≤ m ∧ m ≤ 100000 ∧ R H') E0) {Q : Bool → Shared → Prop} (k : ∀ b H' s', Inv X pins σ H' s' → R H' → Q b s') :
    wpAny (model X.prog X.w) A (Builtin.List.listLengthHint (.ref a)) Q X.xe s := by
  obtain ⟨mA, O, _⟩ := ins_get I.hok ha
  obtain ⟨od, J, _⟩ := O.look
  obtain ⟨m, hF⟩ := I.fr
  unfold Builtin.List.listLengthHint
  refine wpAny_bind (wpAny_bind (J.type.here ((PySem.W.looks_findIn I.kIn c.ln).here ?_)))
  refine PySem.W.KFB.if_not rfl ?_
  show wpAny _ _ (rule "list.length-hint.len" >>= fun _ => ((call (.builtin "len") [.ref a]).attempt >>= _)) _ _ _
  refine wpAny_bind (wpAny_rule (wpAny_bind (wpAny_attempt ?_)))
  refine PySem.W.len_K hF I.ok.mod.kin J c.ln c.lnF (wpAny_call (codeAny_mono (FL A.in1 X.stack s H [.ref a] [.ref a] _ E0 sb.room.in1 (env_at sb I).in1 (.cons rfl .nil) q) fun r s' hq => ?_))
  rcases r with z | fl'
  · obtain ⟨_, _, _, _, _, _, _, _, _, _, _, _, z⟩ := hq
    exact z.elim
  · cases fl' with
    | ret u =>
      obtain ⟨v, H', I', rv, mm, em, m0, m1, hR⟩ := I.after hq
      subst em
      obtain ⟨tk, e⟩ := (show ∃ t, u = Value.int mm t from rv)
      subst e
      refine ⟨⟨m0, by omega⟩, ?_⟩
      show wpAny _ _ (asInt? (Value.int mm _) >>= _) _ _ _
      refine wpAny_bind (wpAny_of_eq (a := some mm) (by first | rfl | simp [asInt?]) ?_)
      refine PySem.W.KFB.if_not ?_ (wpAny_pure (k _ H' _ (I'.tok _) hR))
      have h0 : mm.toNat ≤ 100000 := by omega
      have hz := sizeLine_eq
      unfold Builtin.List.listTooLong
      simp
      omega
    | next => exact hq.elim
    | brk => exact hq.elim
    | cont => exact hq.elim
end
end TT

set_option Elab.async false
set_option linter.all false
set_option maxRecDepth 100000
set_option maxHeartbeats 4000000
namespace TT
open PySem PySem.Spec PyProof.Rows L2
section
variable {X : Cx} {A1 : Around} {pins : List (Addr × Obj)} {σ : L2.St} {H : Hp} {q it t : Addr} {zs : List V} {Rs : Result → Shared → Prop}
theorem loop_t (hh : A1.in1.handled = none) (hq : H q = none ∨ ∃ xs, H q = some (.lst xs)) (ht : SqT X.K H t zs) (hz : zs.length ≤ 100000) (hit : H it = none) (iq : it ≠ q)
    (fin : ∀ s', Inv X pins σ (upd H q (.lst zs)) s' → Rs (.ok (.ret .none)) s') :
    ∀ (k i : Nat) (s : Shared), k = zs.length - i → i ≤ zs.length → Inv X pins σ (upd H q (.lst (zs.take i))) s → s.heap.IsTupleIter it t i → FpOk X pins (upd H q (.lst (zs.take i))) it →
      codeAny (model X.prog X.w) A1 (.builtin "list.extend.loop" ⟨[.ref q, .ref it, .none], []⟩) Rs s := by
  intro k
  induction k with
  | zero =>
    intro i s hk hi I hI hf
    have hlt : i = zs.length := by omega
    refine codeAny_builtin PySem.F.entry_extend_loop ?_
    rw [Around.under_plainId PySem.F.plain_extend_loop _]
    show wpAny _ A1.in1 (pyNext (.ref it) >>= _) _ _ s
    have ht' : SqT X.K (upd H q (.lst (zs.take i))) t zs := by
      rcases hq with h | ⟨xs, h⟩
      · exact same_t (same_new h) ht
      · exact sqt_but h But.upd ht
    obtain ⟨its, rv, pl, hzz⟩ := I.tuple ht'
    have hl := rv.length
    refine wpAny_bind (wpAny_pyNext_tuple_end hh hI (show s.heap.IsTuple t its.toArray from pl) (by simp; omega) fun h' eb => wpAny_pure ?_)
    have I' : Inv X pins σ (upd H q (.lst (zs.take i))) { s with heap := h' } := I.turnedL (t' := s.toks) (ch := [it]) (fun b o nb e => eb b o (fun z => nb (by rw [z]; exact List.mem_cons_self ..)) e) (fun b hb => by rw [List.mem_singleton] at hb; rw [hb]; exact hf)
    rw [hlt, List.take_length] at I'
    exact fin _ I'
  | succ k ih =>
    intro i s hk hi I hI hf
    have hlt : i < zs.length := by omega
    refine codeAny_builtin PySem.F.entry_extend_loop ?_
    rw [Around.under_plainId PySem.F.plain_extend_loop _]
    show wpAny _ A1.in1 (pyNext (.ref it) >>= _) _ _ s
    have ht' : SqT X.K (upd H q (.lst (zs.take i))) t zs := by
      rcases hq with h | ⟨xs, h⟩
      · exact same_t (same_new h) ht
      · exact sqt_but h But.upd ht
    obtain ⟨its, rv, pl, hzz⟩ := I.tuple ht'
    obtain ⟨u, hu, ru⟩ := rv.get (List.getElem?_eq_getElem hlt)
    refine wpAny_bind (wpAny_pyNext_tuple_item hI (show s.heap.IsTuple t its.toArray from pl) (by simpa using hu) fun h' hI' sb => ?_)
    have I' : Inv X pins σ (upd H q (.lst (zs.take i))) { s with heap := h' } := I.turnedL (t' := s.toks) (ch := [it]) (fun b o nb e => (sb.2 b (fun z => nb (by rw [z]; exact List.mem_cons_self ..))).trans e) (fun b hb => by rw [List.mem_singleton] at hb; rw [hb]; exact hf)
    obtain ⟨z, its2, k2, r2, hl2, e2⟩ := I'.lstM upd_same
    show wpAny _ A1.in1 (updateSeq q (·.push u) >>= _) _ _ _
    refine wpAny_bind (wpAny_updateSeq e2 rfl (wpAny_pure ⟨plainId_quiet PySem.F.plain_extend_loop _, ?_⟩) ?_ ?_)
    · have J := I'.lset (f := (·.push u)) (its' := its2 ++ [u]) (t' := s.toks) upd_same e2 (by simp) (r2.append (.cons ru .nil)) (by rw [List.length_append, List.length_take, List.length_singleton, sizeLine_eq]; omega)
      rw [upd_upd, List.take_append_getElem hlt] at J
      refine ih (i + 1) _ (by omega) (by omega) J ?_ ?_
      · obtain ⟨o, ho, r⟩ := hI'
        exact ⟨o, ((Heap.SameBut.update (a := q) ..).2 it iq).trans ho, r⟩
      · obtain ⟨f1, f2⟩ := hf
        exact ⟨by rw [upd_ne iq]; exact hit, f2⟩
    · have := r2.length
      rw [List.length_take] at this
      rw [List.size_toArray, sizeLine_eq]
      omega
    · have := r2.length
      rw [List.length_take] at this
      show (its2.toArray.push u).size ≤ sizeLine + 1
      rw [Array.size_push, List.size_toArray, sizeLine_eq]
      omega
end
end TT

set_option Elab.async false
set_option linter.all false
set_option maxRecDepth 100000
set_option maxHeartbeats 4000000
namespace TT
open PySem PySem.Spec PyProof.Rows L2
section
variable {X : Cx} {A1 : Around} {n : Nat} {pins : List (Addr × Obj)} {σ : L2.St} {H : Hp} {s : Shared} {a q C fi fl dx : Addr} {fs : List (Str × V)} {spI spL : Sp} {Rs : Result → Shared → Prop}
theorem itT_next {A : Around} {E : Value → Shared → Prop} {Q : Value → Shared → Prop} {t it : Addr} {i : Nat} (hI : s.heap.IsTupleIter it t i) (h : Q (.ref it) s) : PySem.W.OwitIt (model X.prog X.w) A Q E (.ref it) s := by
  unfold PySem.W.OwitIt
  obtain ⟨o, ho, hc, hd⟩ := hI
  refine wpAny_bind (wpAny_typeOf_ref ho ?_)
  rw [hc]
  refine wpAny_of_eq F.slot_tuple_iterator_next.lookup h
end
end TT

set_option Elab.async false
set_option linter.all false
set_option maxRecDepth 100000
set_option maxHeartbeats 4000000
namespace TT
open PySem PySem.Spec PyProof.Rows L2
section
variable {X : Cx} {A1 : Around} {n : Nat} {pins : List (Addr × Obj)} {σ : L2.St} {H : Hp} {s : Shared} {a q t C fi fl dx : Addr} {fs : List (Str × V)} {zs : List V} {spI spL : Sp} {Rs : Result → Shared → Prop}
theorem ext_o (hh : A1.in1.handled = none) (sb : Sub X (n + 1) A1.in1) (c : LstO X.K C fi fl) (FI : FnR X.prog X.w X.K X.mg X.base (L2.CX X.prog X.w) n fi spI) (FL : FnR X.prog X.w X.K X.mg X.base (L2.CX X.prog X.w) n fl spL)
    (hdone : ∀ s', Inv X pins σ (upd H q (.lst zs)) s' → Rs (.ok (.ret .none)) s') (herr : ∀ e s, X.xe e s → Rs (.error e) s)
    (I : Inv X pins σ H s) (ha : H a = some (.ins C dx fs)) (hq : H q = some (.lst [])) (q0 : X.s_0.heap.objs.size ≤ q) (ht : SqT X.K H t zs) (hz : zs.length ≤ 100000)
    (kI : spI [.ref a] H (fun v H' => ∃ it, v = .ref it ∧ H it = none ∧ q < it ∧ H' = upd H it (ItT t it 0)) E0)
    (kL : ∀ it, H it = none → spL [.ref a] (upd H it (ItT t it 0)) (fun v H' => ∃ m : Int, v = .int m ∧ 0 ≤ m ∧ m ≤ 100000 ∧ H' = upd H it (ItT t it 0)) E0) :
    wpAny (model X.prog X.w) A1.in1 (Builtin.List.listExtendWith (.ref q) (.ref a) .none)
      (fun fin s' => match fin with | .done f => Rs (.ok f) s' | .again c' => c'.quiet = true ∧ codeAny (model X.prog X.w) A1 c' Rs s') (fun e s' => Rs (.error e) s') s := by
  have hne : q ≠ a := ne_of hq ha (fun z => nomatch z)
  obtain ⟨mA, J, _⟩ := ins_get I.hok ha
  obtain ⟨od, J, _⟩ := J.look
  obtain ⟨m0, hF⟩ := I.fr
  unfold Builtin.List.listExtendWith
  refine wpAny_bind (J.type.here ?_)
  have h1 : Builtin.List.listSameRef (.ref q) (.ref a) = false := by simp [Builtin.List.listSameRef, hne]
  have h2 : (Value.ref C == Value.type "list") = false := rfl
  have h3 : (Value.ref C == Value.type "tuple") = false := rfl
  simp only [h1, h2, h3, Bool.or_false, Bool.false_eq_true, if_false]
  refine wpAny_bind (PySem.W.owit_iter hF I.ok.mod.kin J c.it c.itF ?_)
  refine wpAny_call (codeAny_mono (FI A1.in1 X.stack s H [.ref a] [.ref a] _ E0 (sb.room.mono (by omega)) (env_at sb I) (.cons rfl .nil) kI) fun r s1 hq' => ?_)
  rcases r with e | fl'
  · obtain ⟨_, _, _, _, _, _, _, _, _, _, _, _, z⟩ := hq'
    exact z.elim
  · cases fl' with
    | next => exact False.elim hq'
    | brk => exact False.elim hq'
    | cont => exact False.elim hq'
    | ret u =>
      obtain ⟨v, H1, I1, rv, it, ev, hit, hlt, eH⟩ := I.after hq'
      subst ev
      rw [eH] at I1
      cases rv
      have iq : it ≠ q := Nat.ne_of_gt hlt
      have hIt : s1.heap.IsTupleIter it t 0 := (I1.hok it _ upd_same).1
      refine itT_next hIt ?_
      have ha1 : upd H it (ItT t it 0) a = some (.ins C dx fs) := by
        rw [upd_ne (ne_of_none ha hit)]
        exact ha
      refine wpAny_bind (wpAny_holding (wpAny_mono (hint_o (R := fun H' => H' = upd H it (ItT t it 0)) sb c FL I1 ha1 (kL it hit) (Q := fun b s' => Inv X pins σ (upd H it (ItT t it 0)) s') (fun b H' s' I' e => by rw [e] at I'; exact I')) (fun b s2 I2 => ?_) fun e s' he => herr e s' he))
      have hIt2 : s2.heap.IsTupleIter it t 0 := (I2.hok it _ upd_same).1
      have I3 := ItX.inv_drop I2 (a := it) upd_same
      have f3 := ItX.inv_fp I2 (a := it) upd_same (Nat.le_trans q0 (Nat.le_of_lt hlt))
      rw [ItX.dropH_upd hit] at I3 f3
      have hH : upd H q (.lst []) = H := by
        funext b
        by_cases hb : b = q
        · rw [hb, upd_same, hq]
        · rw [upd_ne hb]
      obtain ⟨z, its, k, r3, hl3, e3⟩ := I3.lstM hq
      cases r3
      have go : ∀ s4, Inv X pins σ H s4 → s4.heap.IsTupleIter it t 0 → codeAny (model X.prog X.w) A1 (.builtin "list.extend.loop" ⟨[.ref q, .ref it, .none], []⟩) Rs s4 := fun s4 I4 h4 => by
        refine loop_t hh (.inr ⟨_, hq⟩) ht hz hit iq hdone (zs.length - 0) 0 s4 rfl (Nat.zero_le _) ?_ h4 ?_
        · rw [List.take_zero, hH]
          exact I4
        · rw [List.take_zero, hH]
          exact f3
      refine wpAny_ite_split (fun _ => ?_) (fun _ => wpAny_pure ⟨plainId_quiet PySem.F.plain_extend_loop _, go _ I3 hIt2⟩)
      refine wpAny_bind (wpAny_rule ?_)
      refine wpAny_bind ?_
      show wpAny _ _ (updateSeq q (·.push .none) >>= fun _ => updateSeq q (·.pop)) _ _ _
      refine wpAny_bind (wpAny_updateSeq e3 rfl ?_)
      have I5 := I3.lset (f := (·.push Value.none)) (its' := [Value.none]) (ys := [.non]) (t' := s2.toks) hq e3 (by simp) (.cons rfl .nil) (by rw [List.length_singleton, sizeLine_eq]; decide)
      obtain ⟨z4, its4, k4, r4, hl4, e4⟩ := I5.lstM upd_same
      obtain ⟨u4, rfl, ru4⟩ := r4.one
      refine wpAny_updateSeq e4 rfl ?_ (by show 1 ≤ sizeLine; rw [sizeLine_eq]; decide) (by show 0 ≤ sizeLine + 1; exact Nat.zero_le _)
      have I6 := I5.lset (f := (·.pop)) (its := [u4]) (its' := []) (ys := []) (t' := s2.toks) upd_same e4 (by rfl) .nil (Nat.zero_le _)
      rw [upd_upd, hH] at I6
      refine wpAny_pure ⟨plainId_quiet PySem.F.plain_extend_loop _, go _ I6 ?_⟩
      obtain ⟨o, ho, r⟩ := hIt2
      exact ⟨o, ((Heap.SameBut.update (a := q) ..).2 it iq).trans (((Heap.SameBut.update (a := q) ..).2 it iq).trans ho), r⟩
end
/-- list(o): o's class has __iter__ that gives iter(a tuple), and __len__ -/
def rListO (K : PySem.W.Frag) (C : Addr) (spI spL : Sp) : List V → Hp → VK → Prop := fun xs H Q => ∃ (a dx : Addr) (fs : List (Str × V)) (t : Addr) (zs : List V), xs = [.ref a] ∧ H a = some (.ins C dx fs) ∧ SqT K H t zs ∧ zs.length ≤ 100000 ∧
  (∀ H1, Same H H1 → ∀ R : VK, (∀ it, H1 it = none → (∀ b o, H1 b = some o → b < it) → R (.ref it) (upd H1 it (ItT t it 0))) → spI [.ref a] H1 R E0) ∧
  (∀ H1, Same H H1 → ∀ R : VK, (∀ m : Int, 0 ≤ m → m ≤ 100000 → R (.int m) H1) → spL [.ref a] H1 R E0) ∧ ∀ q, H q = none → Q (.ref q) (upd H q (.lst zs))
theorem call_listO {X : Cx} {n k : Nat} {K : PySem.W.Frag} {C fi fl : Addr} {spI spL : Sp} (hK : X.K = K) (hh : X.A.in1.in1.handled = none) (c : LstO K C fi fl) (FI : FnR X.prog X.w K X.mg X.base (L2.CX X.prog X.w) n fi spI) (FL : FnR X.prog X.w K X.mg X.base (L2.CX X.prog X.w) n fl spL) (hr : Room k X.A) (hk : n + 3 ≤ k) : CallR X (.type "list") (rListO K C spI spL) := by
  subst hK
  intro pins s σ H xs us Q I rv h
  obtain ⟨a, dx, fs, t, zs, rfl, ha, ht, hz, kI, kL, hq⟩ := h
  obtain ⟨u, rfl, ru⟩ := rv.one
  cases ru
  have sb : Sub X (n + 1) X.A.in1.in1 := (Sub.in1 (Sub.in1 (⟨hr.mono hk, rfl⟩ : Sub X (n + 1 + 2) X.A)))
  refine callType_codes (Q₁ := fun obj s₁ => obj = .ref s.heap.objs.size ∧ s₁ = { s with heap := s.heap.push { cls := .type "list", data := .seq #[] } }) PySem.F.called_list (PySem.F.typeCall_list_1 _) PySem.F.entry_list_init
    (code_list_new _ ⟨rfl, rfl⟩) fun obj s₁ h₁ => ?_
  obtain ⟨rfl, rfl⟩ := h₁
  have hS : (s.heap.push { cls := .type "list", data := .seq #[] }).get? s.heap.objs.size = some { cls := .type "list", data := .seq #[] } := Heap.get?_push_size _ rfl
  refine ⟨⟨_, hS, rfl⟩, PySem.F.args_list_init_2 _ _, ?_⟩
  have fr : H s.heap.objs.size = none := I.hok.fresh (Nat.le_refl _)
  have I1 : Inv X pins σ (upd H s.heap.objs.size (.lst [])) { s with heap := s.heap.push { cls := .type "list", data := .seq #[] } } := I.lnew (its := []) (t' := s.toks) .nil (Nat.zero_le _)
  show wpAny _ _ (do let old ← Builtin.List.listItems (.ref s.heap.objs.size); Builtin.List.listUpdate (.ref s.heap.objs.size) (fun _ => #[]); letGo old.toList.reverse; Builtin.List.listExtendWith (.ref s.heap.objs.size) (.ref a) .none) _ _ _
  refine wpAny_bind ?_
  unfold Builtin.List.listItems
  refine wpAny_bind (wpAny_seqItems hS rfl (wpAny_pure ?_))
  show wpAny _ _ (updateSeq s.heap.objs.size (fun _ => #[]) >>= fun _ => letGo (#[] : Array Value).toList.reverse >>= fun _ => Builtin.List.listExtendWith (.ref s.heap.objs.size) (.ref a) .none) _ _ _
  refine wpAny_bind (wpAny_updateSeq hS rfl ?_)
  have I2 := I1.lset (f := fun _ => #[]) (its := []) (its' := []) (ys := []) (t' := s.toks) upd_same hS rfl .nil (Nat.zero_le _)
  rw [upd_upd] at I2
  refine wpAny_bind (wpAny_letGo ?_)
  have sm : Same H (upd H s.heap.objs.size (.lst [])) := same_new fr
  refine ext_o (A1 := X.A.in1) (Rs := wants (fun r s₂ => r = .none ∧ EP X pins σ Q (.ref s.heap.objs.size) s₂) X.xe) hh sb c FI FL (fun s' I' => ⟨rfl, .ref s.heap.objs.size, _, I', rfl, ?_⟩) (fun e s' he => he) I2 (sm _ _ ha) upd_same I.sz (same_t sm ht) hz
    (kI _ sm _ fun it hit hlt => ⟨it, rfl, hit, hlt _ _ upd_same, rfl⟩) fun it hit => kL _ (sm.trans (same_new hit)) _ fun m m0 m1 => ⟨m, rfl, m0, m1, rfl⟩
  rw [upd_upd]
  exact hq _ fr
end TT
namespace TT
open PySem PySem.Spec PyProof.Rows L2
theorem call_listW {X : Cx} {k1 k2 j : Nat} {K : PySem.W.Frag} {C : Addr} {spI spL : Sp} (hK : X.K = K) (hc : X.calm = true) (cI : Met X.prog X.w K X.mg X.base C "__iter__" k1 spI) (cL : Met X.prog X.w K X.mg X.base C "__len__" k2 spL) (hr : Room j X.A) (h1 : k1 + 3 ≤ j) (h2 : k2 + 3 ≤ j) : CallR X (.type "list") (rListO K C spI spL) := by
  obtain ⟨fi, mi, FI⟩ := cI.ex
  obtain ⟨fl, ml, FL⟩ := cL.ex
  intro pins s σ H xs us Q I rv h
  exact call_listO (n := max k1 k2) (k := j) hK (I.ok.hd hc) ⟨mi.at_, mi.fn, ml.at_, ml.fn⟩ (FI.mono (by omega)) (FL.mono (by omega)) hr (by omega) pins s σ H xs us Q I rv h
theorem a_listO {K : PySem.W.Frag} {H : Hp} {Q : VK} {C a dx t : Addr} {fs : List (Str × V)} {zs : List V} {spI spL : Sp} (ha : H a = some (.ins C dx fs)) (ht : SqT K H t zs) (hz : zs.length ≤ 100000)
    (kI : ∀ H1, Same H H1 → ∀ R : VK, (∀ it, H1 it = none → (∀ b o, H1 b = some o → b < it) → R (.ref it) (upd H1 it (ItT t it 0))) → spI [.ref a] H1 R E0) (kL : ∀ H1, Same H H1 → ∀ R : VK, (∀ m : Int, 0 ≤ m → m ≤ 100000 → R (.int m) H1) → spL [.ref a] H1 R E0)
    (q : ∀ l H', H l = none → Same H H' → H' l = some (.lst zs) → Q (.ref l) H') : rListO K C spI spL [.ref a] H Q := ⟨a, dx, fs, t, zs, rfl, ha, ht, hz, kI, kL, fun l hl => q l _ hl (same_new hl) upd_same⟩
end TT

set_option Elab.async false
set_option linter.all false
set_option maxRecDepth 100000
set_option maxHeartbeats 4000000
namespace TT
open PySem PySem.Spec PyProof.Rows L2
/-! ### free reduction -/
abbrev Wp := Str × Int
def inv1 (x : Wp) : Wp := (x.1, -x.2)
theorem inv1_inv (x : Wp) : inv1 (inv1 x) = x := by simp [inv1]
def push (f : List Wp) (x : Wp) : List Wp := if f.getLast? = some (inv1 x) then f.dropLast else f ++ [x]
def canc (ws : List Wp) : List Wp := ws.foldl push []
/-- no step beside the same one undone -/
def Red (ws : List Wp) : Prop := ∀ as x y bs, ws = as ++ x :: y :: bs → y ≠ inv1 x
theorem Red.nil : Red [] := fun as x y bs e => by simp at e
theorem red_snoc {f : List Wp} {x : Wp} : Red (f ++ [x]) ↔ Red f ∧ ∀ y, f.getLast? = some y → x ≠ inv1 y := by
  constructor
  · intro h
    refine ⟨fun as a b bs e => h as a b (bs ++ [x]) (by rw [e]; simp), fun y hy => ?_⟩
    rcases List.eq_nil_or_concat f with rfl | ⟨g, z, rfl⟩
    · simp at hy
    · rw [List.concat_eq_append] at hy h
      rw [List.getLast?_concat] at hy
      cases hy
      exact h g y x [] (by simp)
  · rintro ⟨h1, h2⟩ as a b bs e
    rcases List.eq_nil_or_concat bs with rfl | ⟨bs', z, rfl⟩
    · have e' : f ++ [x] = (as ++ [a]) ++ [b] := by rw [e]; simp
      obtain ⟨rfl, e2⟩ := List.append_inj' e' rfl
      cases e2
      exact h2 a (List.getLast?_concat ..)
    · rw [List.concat_eq_append] at e
      have e' : f ++ [x] = (as ++ a :: b :: bs') ++ [z] := by rw [e]; simp
      exact h1 as a b bs' (List.append_inj' e' rfl).1
theorem last_drop {f : List Wp} {y : Wp} (h : f.getLast? = some y) : f.dropLast ++ [y] = f := by
  rcases List.eq_nil_or_concat f with rfl | ⟨g, z, rfl⟩
  · simp at h
  · rw [List.concat_eq_append] at h ⊢
    rw [List.getLast?_concat] at h
    cases h
    rw [List.dropLast_concat]
theorem red_dropLast {f : List Wp} (h : Red f) : Red f.dropLast := by
  rcases List.eq_nil_or_concat f with rfl | ⟨g, y, rfl⟩
  · exact h
  · rw [List.concat_eq_append] at h ⊢
    rw [List.dropLast_concat]
    exact (red_snoc.mp h).1
theorem inv1_swap {x y : Wp} : x = inv1 y ↔ y = inv1 x := ⟨fun h => by rw [h, inv1_inv], fun h => by rw [h, inv1_inv]⟩
theorem push_red {f : List Wp} {x : Wp} (h : Red f) : Red (push f x) := by
  unfold push
  split
  · exact red_dropLast h
  · rename_i c
    exact red_snoc.mpr ⟨h, fun y hy e => c (by rw [hy, inv1_swap.mp e])⟩
theorem fold_red {f ws : List Wp} (h : Red f) : Red (ws.foldl push f) := by
  induction ws generalizing f with
  | nil => exact h
  | cons x ws ih => exact ih (push_red h)
theorem canc_red (ws : List Wp) : Red (canc ws) := fold_red Red.nil
theorem push_of_red {f : List Wp} {x : Wp} (h : Red (f ++ [x])) : push f x = f ++ [x] := by
  unfold push
  rw [if_neg]
  intro c
  exact (red_snoc.mp h).2 _ c (inv1_inv x).symm
/-- a step and the same one undone take nothing away -/
theorem push_inv {f : List Wp} {x : Wp} (h : Red f) : push (push f x) (inv1 x) = f := by
  by_cases c : f.getLast? = some (inv1 x)
  · have e : push f x = f.dropLast := if_pos c
    rw [e]
    have ef : f.dropLast ++ [inv1 x] = f := last_drop c
    rw [push_of_red (by rw [ef]; exact h), ef]
  · have e : push f x = f ++ [x] := if_neg c
    rw [e]
    unfold push
    rw [if_pos (by rw [List.getLast?_concat, inv1_inv]), List.dropLast_concat]
theorem canc_ins (as : List Wp) (x : Wp) (bs : List Wp) : canc (as ++ x :: inv1 x :: bs) = canc (as ++ bs) := by
  unfold canc
  rw [List.foldl_append, List.foldl_append, List.foldl_cons, List.foldl_cons]
  have := push_inv (x := x) (canc_red as)
  unfold canc at this
  rw [this]
theorem canc_snoc (ws : List Wp) (x : Wp) : canc (ws ++ [x]) = push (canc ws) x := by
  unfold canc
  rw [List.foldl_append]
  rfl
theorem canc_of_red : ∀ {ws : List Wp}, Red ws → canc ws = ws := by
  intro ws
  refine revInd (P := fun ws => Red ws → canc ws = ws) (fun _ => rfl) (fun l x ih h => ?_) ws
  rw [canc_snoc, ih (red_snoc.mp h).1, push_of_red h]
theorem canc_canc (ws : List Wp) : canc (canc ws) = canc ws := canc_of_red (canc_red ws)
/-- what can be made of each other -/
inductive Eqw : List Wp → List Wp → Prop
  | refl (ws) : Eqw ws ws
  | ins {ws : List Wp} (as x bs) : Eqw ws (as ++ bs) → Eqw ws (as ++ x :: inv1 x :: bs)
  | del {ws : List Wp} (as x bs) : Eqw ws (as ++ x :: inv1 x :: bs) → Eqw ws (as ++ bs)
theorem Eqw.canc_eq {ws vs : List Wp} (h : Eqw ws vs) : canc ws = canc vs := by
  induction h with
  | refl => rfl
  | ins as x bs _ ih => rw [ih, canc_ins]
  | del as x bs _ ih => rw [ih, canc_ins]
theorem Eqw.trans {a b c : List Wp} (h : Eqw a b) (h' : Eqw b c) : Eqw a c := by
  induction h' with
  | refl => exact h
  | ins as x bs _ ih => exact .ins as x bs ih
  | del as x bs _ ih => exact .del as x bs ih
theorem Eqw.app {a b : List Wp} (c : List Wp) (h : Eqw a b) : Eqw (a ++ c) (b ++ c) := by
  induction h with
  | refl => exact .refl _
  | ins as x bs _ ih =>
    rw [List.append_assoc] at ih
    have := Eqw.ins as x (bs ++ c) ih
    simpa using this
  | del as x bs _ ih =>
    have := Eqw.del (ws := a ++ c) as x (bs ++ c) (by simpa using ih)
    rw [List.append_assoc]
    exact this
theorem eqw_push (f : List Wp) (x : Wp) : Eqw (f ++ [x]) (push f x) := by
  by_cases c : f.getLast? = some (inv1 x)
  · have e : push f x = f.dropLast := if_pos c
    have ef : f.dropLast ++ [inv1 x] = f := last_drop c
    rw [e]
    have : Eqw (f ++ [x]) (f.dropLast ++ inv1 x :: inv1 (inv1 x) :: []) := by
      rw [inv1_inv]
      have e2 : f.dropLast ++ [inv1 x, x] = f ++ [x] := by
        conv => rhs; rw [← ef]
        simp
      rw [e2]
      exact .refl _
    have := Eqw.del f.dropLast (inv1 x) [] this
    simpa using this
  · have e : push f x = f ++ [x] := if_neg c
    rw [e]
    exact .refl _
theorem eqw_canc (ws : List Wp) : Eqw ws (canc ws) := by
  refine revInd (P := fun ws => Eqw ws (canc ws)) (.refl _) (fun l x ih => ?_) ws
  rw [canc_snoc]
  exact (ih.app [x]).trans (eqw_push _ x)
theorem Eqw.rev {a b : List Wp} (h : Eqw a b) : Eqw a.reverse b.reverse := by
  induction h with
  | refl => exact .refl _
  | ins as x bs _ ih =>
    have := Eqw.ins bs.reverse (inv1 x) as.reverse (by simpa using ih)
    rw [inv1_inv] at this
    simpa using this
  | del as x bs _ ih =>
    have := Eqw.del (ws := a.reverse) bs.reverse (inv1 x) as.reverse (by rw [inv1_inv]; simpa using ih)
    simpa using this
theorem Eqw.map {a b : List Wp} (h : Eqw a b) : Eqw (a.map inv1) (b.map inv1) := by
  induction h with
  | refl => exact .refl _
  | ins as x bs _ ih =>
    have := Eqw.ins (as.map inv1) (inv1 x) (bs.map inv1) (by simpa using ih)
    simpa using this
  | del as x bs _ ih =>
    have := Eqw.del (ws := a.map inv1) (as.map inv1) (inv1 x) (bs.map inv1) (by simpa using ih)
    simpa using this
theorem Red.rev {a : List Wp} (h : Red a) : Red a.reverse := fun as x y bs e => by
  have := h bs.reverse y x as.reverse (by
    have := congrArg List.reverse e
    rw [List.reverse_reverse] at this
    rw [this]
    simp)
  exact fun z => this (inv1_swap.mp z)
theorem Red.map {a : List Wp} (h : Red a) : Red (a.map inv1) := fun as x y bs e => by
  obtain ⟨l1, l2, rfl, e1, e2⟩ := List.map_eq_append_iff.mp e
  obtain ⟨u, l3, rfl, rfl, e3⟩ := List.map_eq_cons_iff.mp e2
  obtain ⟨v, l4, rfl, rfl, e4⟩ := List.map_eq_cons_iff.mp e3
  intro z
  have := congrArg inv1 z
  rw [inv1_inv, inv1_inv] at this
  exact h l1 u v l4 rfl this
theorem canc_rev (ws : List Wp) : canc ws.reverse = (canc ws).reverse := by
  rw [(eqw_canc ws).rev.canc_eq, canc_of_red (canc_red ws).rev]
def invW (ws : List Wp) : List Wp := (ws.reverse).map inv1
theorem canc_invW (ws : List Wp) : canc (invW ws) = invW (canc ws) := by
  unfold invW
  rw [(eqw_canc ws).rev.map.canc_eq, canc_of_red (canc_red ws).rev.map]
theorem canc_app (a b : List Wp) : canc (canc a ++ b) = canc (a ++ b) := by
  rw [((eqw_canc a).app b).canc_eq]
theorem canc_app2 (a b : List Wp) : canc (a ++ canc b) = canc (a ++ b) := by
  have e : ∀ a b : List Wp, canc (a ++ b) = (canc (b.reverse ++ a.reverse)).reverse := fun a b => by
    rw [← List.reverse_append, canc_rev, List.reverse_reverse]
  rw [e, ← canc_rev b, canc_app, e a b]
theorem push_ne (f : List Wp) (x : Wp) : push f x ≠ f := by
  intro h
  have hl := congrArg List.length h
  unfold push at hl
  split at hl
  · rename_i c
    rw [List.length_dropLast] at hl
    have : f ≠ [] := fun e => by rw [e] at c; simp at c
    have : 0 < f.length := List.length_pos_iff.mpr this
    omega
  · simp at hl
theorem push_len (f : List Wp) (x : Wp) : (push f x).length ≤ f.length + 1 := by
  unfold push
  split
  · rw [List.length_dropLast]; omega
  · simp
theorem canc_len (ws : List Wp) : (canc ws).length ≤ ws.length := by
  refine revInd (P := fun ws => (canc ws).length ≤ ws.length) (Nat.le_refl _) (fun l x ih => ?_) ws
  rw [canc_snoc, List.length_append]
  have := push_len (canc l) x
  simp
  omega
theorem push_mem {f : List Wp} {x y : Wp} (h : y ∈ push f x) : y ∈ f ∨ y = x := by
  unfold push at h
  split at h
  · exact .inl (List.dropLast_subset _ h)
  · simpa using h
theorem canc_mem {ws : List Wp} {y : Wp} (h : y ∈ canc ws) : y ∈ ws := by
  revert h
  refine revInd (P := fun ws => y ∈ canc ws → y ∈ ws) (fun h => h) (fun l x ih h => ?_) ws
  rw [canc_snoc] at h
  rcases push_mem h with h | h
  · exact List.mem_append_left _ (ih h)
  · exact List.mem_append_right _ (by simp [h])
theorem canc_undo (ws : List Wp) : canc (ws ++ invW ws) = [] := by
  refine revInd (P := fun ws => canc (ws ++ invW ws) = []) rfl (fun l x ih => ?_) ws
  have e : l ++ [x] ++ invW (l ++ [x]) = l ++ x :: inv1 x :: invW l := by simp [invW]
  rw [e, canc_ins]
  exact ih
theorem invW_invW (ws : List Wp) : invW (invW ws) = ws := by
  unfold invW
  rw [← List.map_reverse, List.reverse_reverse, List.map_map]
  have : inv1 ∘ inv1 = id := funext inv1_inv
  rw [this, List.map_id]
theorem canc_undo' (ws : List Wp) : canc (invW ws ++ ws) = [] := by
  have := canc_undo (invW ws)
  rwa [invW_invW] at this
end TT

set_option Elab.async false
set_option linter.all false
set_option maxRecDepth 100000
set_option maxHeartbeats 4000000
namespace TT
open PySem PySem.Spec PyProof.Rows L2
/-! ### x[i] by the class's own __getitem__, where it may raise inside a try -/
section
variable {X : Cx} {C f : Addr} {k j : Nat} {sp : Sp} {a b : Expr} {ta tb : TE} {pos : Pos}
theorem run_s1 {pins : List (Addr × Obj)} {σ : L2.St} {H : Hp} {s : Shared} {E : XK} {Q : VK} {us : List Value} {vs : List V} (F : FnR X.prog X.w X.K X.mg X.base (L2.CX X.prog X.w) k f sp) (hr : Room k X.A.in1) (hx : PassesAt (L2.CX X.prog X.w) X σ E) (I : Inv X pins σ H s) (r : Vals vs us) (h : sp vs H Q E) :
    codeAny (model X.prog X.w) X.A.in1 (.call (.ref f) ⟨us, []⟩) (fun r s' => match r with | .ok (.ret v) => EP X pins σ Q v s' | .ok _ => False | .error e => X.xe e s') s :=
  codeAny_mono (F X.A.in1 X.stack s H us vs Q E hr I.env0.in1 r h) fun r s' q => by
    rcases r with z | fl
    · exact hx pins H s z s' I q
    · cases fl with
      | ret u => exact I.after q
      | next => exact q.elim
      | brk => exact q.elim
      | cont => exact q.elim
def rIxO (C : Addr) (sp : Sp) (E : XK) (x y : V) (H : Hp) (Q : VK) : Prop := ∃ a dx fs, x = .ref a ∧ H a = some (.ins C dx fs) ∧ sp [x, y] H Q E
def tIxS (C : Addr) (sp : Sp) (E : L2.St → XK) (ta tb : TE) : TE := fun σ H Q => ta σ H fun x H1 => tb σ H1 fun y H2 => rIxO C sp (E σ) x y H2 Q
theorem pe_ixS {E : L2.St → XK} (c : Met X.prog X.w X.K X.mg X.base C "__getitem__" k sp) (fi : ∀ g, Meth X.K C "__getitem__" g → PySem.W.fnIn X.K g = true) (hr : Room j X.A) (hk : k + 1 ≤ j) (hx : PassS X E) (ha : PE X a ta) (hb : PE X b tb)
    (hs : ∀ o i, subscripted b true (.ref o) i = runValue (.builtin "lifetime.subscript" ⟨[.ref o, i], []⟩) := by intro _ _; with_unfolding_all rfl) : PE X (.Subscript a b pos) (tIxS C sp E ta tb) := ⟨fun pins s σ H Q I h => by
  obtain ⟨g, hm, F⟩ := c.ex
  have hr2 : Room k X.A.in1 := (show Room (k + 1) X.A from hr.mono hk).in1
  refine Subscript_ (binT ha hb I h fun v u s2 x y H2 I2 rx ry q => ?_)
  obtain ⟨o, dx, fs, rfl, ho, q⟩ := q
  cases (show v = Value.ref o from rx)
  obtain ⟨mA, O, _⟩ := ins_get I2.hok ho
  obtain ⟨od, J, _⟩ := O.look
  obtain ⟨m, hF⟩ := I2.fr
  exact PySem.W.sub_K hF I2.ok.mod.kin J hm.at_ (fi g hm) hm.fn (wpAny_call (run_s1 (us := [.ref o, u]) (vs := [.ref o, y]) F hr2 (hx σ) I2 (.cons rfl (.cons ry .nil)) q)) (hs _ _)⟩
theorem g_ixS {E : L2.St → XK} {σ : L2.St} {H : Hp} {Q : VK} (h : ta σ H fun x H1 => tb σ H1 fun y H2 => rIxO C sp (E σ) x y H2 Q) : tIxS C sp E ta tb σ H Q := h
/-- .. where nothing is caught -/
def tIxN (C : Addr) (sp : Sp) (E : XK) (ta tb : TE) : TE := fun σ H Q => ta σ H fun x H1 => tb σ H1 fun y H2 => rIxO C sp E x y H2 Q
end
/-! ### d.get(k, x) -/
def rGet2 (x : V) (H : Hp) (R : Addr → Prop) : Prop := ∃ a, x = .ref a ∧ IsD H a ∧ R a
def rGetZ (a : Addr) (y z : V) (H : Hp) (Q : VK) : Prop := ∃ o, DGet H a y o ∧ Q (o.getD z) H
section
variable {σ : L2.St} {H : Hp} {Q : VK} {td ty tx : TE} {a : Addr} {kvs : List (Key × V)}
theorem g_dget2 (h : td σ H fun x H1 => rGet2 x H1 fun a => ty σ H1 fun y H2 => tx σ H2 fun z H3 => rGetZ a y z H3 Q) : tDGet2 td ty tx σ H Q := h
theorem a_get2 {R : Addr → Prop} (h : H a = some (.dK kvs)) (q : R a) : rGet2 (.ref a) H R := ⟨a, rfl, .inl ⟨kvs, .inl h⟩, q⟩
theorem a_getZ {s : Str} {z : V} (h : H a = some (.dK kvs)) (q : Q ((valV kvs (.inr s)).getD z) H) : rGetZ a (.str s) z H Q := ⟨_, .inl ⟨kvs, .inr s, .inl h, rfl, rfl⟩, q⟩
end
/-! ### enumerate of a list or a tuple -/
def rEn (K : PySem.W.Frag) (vs : List V) (H1 : Hp) (R : It → Hp → Prop) : Prop := ∃ a, vs = [.ref a] ∧ (((∃ xs, SqL K H1 a xs) ∧ R (Ite K a) H1) ∨ ((∃ xs, SqT K H1 a xs) ∧ R (Iet K a) H1))
def iEs (K : PySem.W.Frag) (ta : TA) : TI := fun σ H R => ta σ H fun vs H1 => rEn K vs H1 R
theorem k_iEs {X : Cx} {K : PySem.W.Frag} {e : Expr} {ta : TA} {p pos tpos : Pos} {elts : List Expr} {kk : Nat} (hK : X.K = K) (hg : Gl X "enumerate") (hm : X.mg "enumerate" = none) (ha : PA X [e] ta) (hs : starEach [e] X.env = [(false, eval e X.env)] := by rfl) :
    PI X (.Tuple elts kk tpos) (.Call (.Name "enumerate" p) [e] [] pos) (iEs K ta) := by
  subst hK
  refine ⟨fun pins s σ H R I h => Call_ (ld_blt I hg hm boot_enumerate (PyProof.Rows.callWith_type1 (thn (ha.run pos pins s σ H _ I h) fun us s1 hh => ?_) hs rfl))⟩
  obtain ⟨vs, H1, I1, r1, a, ex, hh⟩ := hh
  subst ex
  cases r1 with
  | cons r rr =>
    cases rr
    cases r
    rcases hh with ⟨⟨xs, hq⟩, q⟩ | ⟨⟨xs, hq⟩, q⟩
    · obtain ⟨its, rv, p', hz⟩ := I1.list hq
      refine call_enumerate_list p'.isList fun h' he hit hsz hk => wpAny_pyIter_enum he ?_
      have I2 : Inv X pins σ H1 { s1 with heap := h' } := I1.kept (t' := s1.toks) hk
      refine ⟨s1.heap.objs.size + 1, [s1.heap.objs.size + 1, s1.heap.objs.size], _, _, H1, rfl, I2, turn_enum a (s1.heap.objs.size + 1) s1.heap.objs.size, ⟨⟨.none, he⟩, hit, Nat.succ_ne_self _⟩, fun b hb => ?_, q⟩
      have hle : s1.heap.objs.size ≤ b := by
        rcases (show b = s1.heap.objs.size + 1 ∨ b = s1.heap.objs.size by simpa using hb) with rfl | rfl
        · exact Nat.le_add_right _ _
        · exact Nat.le_refl _
      exact I1.fpOk hle (I1.hok.fresh hle)
    · obtain ⟨its, rv, p', hz⟩ := I1.tuple hq
      have la : a < s1.heap.objs.size := by obtain ⟨_, z, _⟩ := p'; exact Heap.lt_size z
      refine tt_enum_tuple p' fun h' he hit hk => wpAny_pyIter_enum he ?_
      have I2 : Inv X pins σ H1 { s1 with heap := h' } := I1.kept (t' := s1.toks) hk
      refine ⟨s1.heap.objs.size + 1, [s1.heap.objs.size + 1, s1.heap.objs.size], _, _, H1, rfl, I2, turn_et a (s1.heap.objs.size + 1) s1.heap.objs.size (Nat.ne_of_lt la),
        ⟨⟨.none, he⟩, hit, Nat.succ_ne_self _, (Nat.ne_of_gt (Nat.lt_succ_of_lt la))⟩, fun b hb => ?_, q⟩
      have hle : s1.heap.objs.size ≤ b := by
        rcases (show b = s1.heap.objs.size + 1 ∨ b = s1.heap.objs.size by simpa using hb) with rfl | rfl
        · exact Nat.le_add_right _ _
        · exact Nat.le_refl _
      exact I1.fpOk hle (I1.hok.fresh hle)
theorem g_iEs {K : PySem.W.Frag} {σ : L2.St} {H : Hp} {ta : TA} {R : It → Hp → Prop} (h : ta σ H fun vs H1 => rEn K vs H1 R) : iEs K ta σ H R := h
theorem a_en {K : PySem.W.Frag} {H : Hp} {a : Addr} {xs : List V} {R : It → Hp → Prop} (h : Seq K H a xs) (q : ∀ J, Walk J xs.length (fun H' => Same H H') (YPair (fun i => some (.int (i : Nat))) (fun i => xs[i]?)) → R J H) : rEn K [.ref a] H R := by
  refine ⟨a, rfl, ?_⟩
  rcases h with h | h
  · exact .inl ⟨⟨xs, h⟩, q _ (walk_enum.mono (fun H' s => same_l s h) fun _ _ _ _ _ _ y => y)⟩
  · exact .inr ⟨⟨xs, h⟩, q _ (walk_et.mono (fun H' s => same_t s h) fun _ _ _ _ _ _ y => y)⟩
/-! ### an empty tuple as a default -/
def etB (K : PySem.W.Frag) (a : Addr) : Bool := match K.lookup a with
  | some ⟨.type c, _, .seq its _, _⟩ => decide (c = "tuple") && decide (its = #[])
  | _ => false
theorem etB_ok {K : PySem.W.Frag} {a : Addr} (h : etB K a = true) (H : Hp) : SqT K H a [] := by
  unfold etB at h
  cases q : K.lookup a with
  | none =>
    rw [q] at h
    cases h
  | some o =>
    obtain ⟨oc, od, dt, osl⟩ := o
    rw [q] at h
    cases oc with
    | type c =>
      cases dt with
      | seq its n =>
        obtain ⟨h1, h2⟩ := Bool.and_eq_true_iff.mp (show (decide (c = "tuple") && decide (its = #[])) = true from h)
        have h2 := of_decide_eq_true h2
        subst h2
        exact .inr ⟨_, #[], n, q, congrArg Value.type (of_decide_eq_true h1), rfl, Nat.zero_le _, .nil⟩
      | _ => cases h
    | _ => cases dt <;> cases h
section
variable {P : Program} {w : World} {K : PySem.W.Frag} {mg : Str → Option Value} {base : Heap} {x q m : Str} {st : Stmt} {f C : Addr} {fd : FuncData} {ps : List Str} {k : Nat} {sp : Sp} {ks : List (Str × V)} {v : V}
/-- a def with one default, written out -/
theorem fnr_of1 (F : FX K x q st [v] ks f fd) (n : Nat) (hn : n = ps.length) (G : FnOk P w K mg base (L2.CX P w) k f fd ps sp)
    (b : ∀ (T : Addr) (kV doc pm : Value) (an : Option Addr) (cdv ct : Value) (us its : List Value), us.length = n → its.length = 1 → ∃ k, bindArgs (PySem.W.fnOf x q (defArgs st) (defBody st) (defScope st) (.ref T) kV doc pm an cdv ct) ⟨us, []⟩ = seqItems? (.ref T) >>= k ∧ k (some its.toArray) = pure (ps.zip (us ++ its.drop 1))) :
    FnR P w K mg base (L2.CX P w) k f sp := by
  obtain ⟨ds, r, hb⟩ := FunD.binds1 F n 1 (by simp) (by simpa using hn) (fun T kV doc pm an cdv ct us its h1 h2 => b T kV doc pm an cdv ct us its h1 (by simpa using h2))
  refine (G.raw hb r).imp fun vs H Q E h => ?_
  show sp (vs ++ []) H Q E
  rw [List.append_nil]
  exact h
/-- .. left out -/
theorem fnr_of0 (F : FX K x q st [v] ks f fd) (n : Nat) (hn : n + 1 = ps.length) (G : FnOk P w K mg base (L2.CX P w) k f fd ps sp)
    (b : ∀ (T : Addr) (kV doc pm : Value) (an : Option Addr) (cdv ct : Value) (us its : List Value), us.length = n → its.length = 1 → ∃ k, bindArgs (PySem.W.fnOf x q (defArgs st) (defBody st) (defScope st) (.ref T) kV doc pm an cdv ct) ⟨us, []⟩ = seqItems? (.ref T) >>= k ∧ k (some its.toArray) = pure (ps.zip (us ++ its.drop 0))) :
    FnR P w K mg base (L2.CX P w) k f (fun vs H Q E => sp (vs ++ [v]) H Q E) := by
  obtain ⟨ds, r, hb⟩ := FunD.binds1 F n 0 (by simp) (by simpa using hn) (fun T kV doc pm an cdv ct us its h1 h2 => b T kV doc pm an cdv ct us its h1 (by simpa using h2))
  exact G.raw hb r
end
end TT

set_option Elab.async false
set_option linter.all false
set_option maxRecDepth 100000
set_option maxHeartbeats 4000000
namespace TT
open PySem PySem.Spec PyProof.Rows L2
/-! ### steps on the heap -/
def StepAt (K : PySem.W.Frag) (H : Hp) (v : V) (x : Wp) : Prop := ∃ q, v = .ref q ∧ SqT K H q [.str x.1, .int x.2]
def stD (x : Wp) : PyData := .tuple [.str x.1, .int x.2]
def StrOk (ws : List Wp) : Prop := ∀ x ∈ ws, PyData.strOk x.1 = true ∧ x.1.cps.size ≤ 1000
section
variable {K : PySem.W.Frag} {H H1 : Hp} {v : V} {x : Wp} {ys : List V} {ws : List Wp}
theorem StepAt.same (h : StepAt K H v x) (s : Same H H1) : StepAt K H1 v x := let ⟨q, e, h⟩ := h; ⟨q, e, same_t s h⟩
theorem StepAt.but {D : Addr} {zs : List V} (hD : H D = some (.lst zs)) (b : But D H H1) (h : StepAt K H v x) : StepAt K H1 v x := let ⟨q, e, h⟩ := h; ⟨q, e, sqt_but hD b h⟩
theorem StepAt.butI {D C dx : Addr} {fs : List (Str × V)} (hD : H D = some (.ins C dx fs)) (b : But D H H1) (h : StepAt K H v x) : StepAt K H1 v x := let ⟨q, e, h⟩ := h; ⟨q, e, sqt_butI hD b h⟩
theorem StepAt.dq {n : Nat} (h : StepAt K H v x) (o : PyData.strOk x.1 = true) : Dq K H (n + 2) v (stD x) := by
  obtain ⟨q, rfl, h⟩ := h
  exact .tup h (.cons (.str _ o) (.cons (.int _) .nil))
theorem eqv_st (x y : Wp) : PyData.eqv (stD x) (stD y) = decide (x = y) := by
  obtain ⟨a, i⟩ := x
  obtain ⟨b, j⟩ := y
  unfold stD
  simp only [PyData.eqv, PyData.eqvAll, Bool.and_true]
  by_cases h1 : a = b
  · subst h1
    by_cases h2 : i = j
    · subst h2
      simp
    · simp [h2]
  · have : (a == b) = false := by
      rw [beq_eq_false_iff_ne]
      exact h1
    simp [h1, this]
theorem ParS.same (h : Par (StepAt K H) ys ws) (s : Same H H1) : Par (StepAt K H1) ys ws := h.mono fun v x z => z.same s
theorem ParS.but {D : Addr} {zs : List V} (h : Par (StepAt K H) ys ws) (hD : H D = some (.lst zs)) (b : But D H H1) : Par (StepAt K H1) ys ws := h.mono fun v x z => z.but hD b
theorem ParS.dq {n : Nat} (h : Par (StepAt K H) ys ws) (o : StrOk ws) : DqA K H (n + 2) ys (ws.map stD) := by
  refine dqa stD h.1 fun k v x a b => (h.2 k v x a b).dq (o x (List.mem_of_getElem? b)).1
theorem Par.reverse {α β : Type} {R : α → β → Prop} {ys : List α} {xs : List β} (h : Par R ys xs) : Par R ys.reverse xs.reverse := ⟨by simp [h.1], fun k v x a b => by
  have hk := (List.getElem?_eq_some_iff.mp a).1
  rw [List.length_reverse] at hk
  rw [List.getElem?_reverse hk] at a
  rw [List.getElem?_reverse (by rw [← h.1]; exact hk), ← h.1] at b
  exact h.2 _ v x a b⟩
theorem Par.dropLast {α β : Type} {R : α → β → Prop} {ys : List α} {xs : List β} (h : Par R ys xs) : Par R ys.dropLast xs.dropLast := by
  rw [List.dropLast_eq_take, List.dropLast_eq_take, h.1]
  exact h.take _
theorem Par.getD {α β : Type} {R : α → β → Prop} {ys : List α} {xs : List β} (h : Par R ys xs) {k : Nat} {v : α} (hv : ys[k]? = some v) : ∃ x, xs[k]? = some x ∧ R v x := by
  have hk : k < xs.length := by rw [← h.1]; exact (List.getElem?_eq_some_iff.mp hv).1
  exact ⟨xs[k], List.getElem?_eq_getElem hk, h.2 k v _ hv (List.getElem?_eq_getElem hk)⟩
theorem StrOk.canc (h : StrOk ws) : StrOk (canc ws) := fun x hx => h x (canc_mem hx)
theorem StrOk.app {a b : List Wp} (h : StrOk a) (h' : StrOk b) : StrOk (a ++ b) := fun x hx => (List.mem_append.mp hx).elim (h x) (h' x)
theorem StrOk.rev (h : StrOk ws) : StrOk ws.reverse := fun x hx => h x (List.mem_reverse.mp hx)
theorem StrOk.inv (h : StrOk ws) : StrOk (invW ws) := fun x hx => by
  obtain ⟨y, hy, rfl⟩ := List.mem_map.mp hx
  exact h y (List.mem_reverse.mp hy)
/-- found[-1] -/
theorem atI_lst {α : Type} {f : List α} {x : α} (h : f.getLast? = some x) : atI f (-1) = some x := by
  rcases List.eq_nil_or_concat f with rfl | ⟨g, z, rfl⟩
  · simp at h
  · rw [List.concat_eq_append] at h ⊢
    rw [List.getLast?_concat] at h
    cases h
    exact L2.atI_last g x
end
/-! ### walks over a list or a tuple that stays while new objects change -/
section
variable {K : PySem.W.Frag} {H H0 : Hp} {a : Addr} {xs : List V} {R : It → Hp → Prop}
theorem a_iter0 (h : Seq K H0 a xs) (s : Same H0 H) (q : ∀ J, Walk J xs.length (fun H' => Same H0 H') (YAt xs) → R J H) : rIter K (.ref a) H R := by
  refine ⟨a, rfl, ?_⟩
  rcases h with h | h
  · exact .inl ⟨⟨xs, same_l s h⟩, q _ (walk_list.mono (fun H' s => same_l s h) fun _ _ _ _ _ _ y => y)⟩
  · exact .inr ⟨⟨xs, same_t s h⟩, q _ (walk_tup.mono (fun H' s => same_t s h) fun _ _ _ _ _ _ y => y)⟩
def rItT (K : PySem.W.Frag) (x : V) (H1 : Hp) (R : It → Hp → Prop) : Prop := ∃ a, x = .ref a ∧ (∃ xs, SqT K H1 a xs) ∧ R (Itt K a) H1
theorem a_itT0 (h : SqT K H0 a xs) (s : Same H0 H) (q : Walk (Itt K a) xs.length (fun H' => Same H0 H') (YAt xs) → R (Itt K a) H) : ∃ b, V.ref a = .ref b ∧ (∃ xs, SqT K H b xs) ∧ R (Itt K b) H :=
  ⟨a, rfl, ⟨xs, same_t s h⟩, q (walk_tup.mono (fun H' s => same_t s h) fun _ _ _ _ _ _ y => y)⟩
theorem a_itL0 (h : SqL K H0 a xs) (s : Same H0 H) (q : Walk (Itl K a) xs.length (fun H' => Same H0 H') (YAt xs) → R (Itl K a) H) : ∃ b, V.ref a = .ref b ∧ (∃ xs, SqL K H b xs) ∧ R (Itl K b) H :=
  ⟨a, rfl, ⟨xs, same_l s h⟩, q (walk_list.mono (fun H' s => same_l s h) fun _ _ _ _ _ _ y => y)⟩
end
theorem a_pop0 {H : Hp} {Q : VK} {p : Addr} {L : List V} {y : V} (h : H p = some (.lst L)) (hy : L.getLast? = some y) (q : ∀ H2, But p H H2 → H2 p = some (.lst L.dropLast) → Q y H2) : rPop (.ref p) [] H Q :=
  ⟨p, L, y, rfl, rfl, h, by rw [List.getLast?_eq_getElem?] at hy; exact hy, q _ But.upd upd_same⟩
theorem take_snoc {α : Type} {ws : List α} {i : Nat} {x : α} (h : ws[i]? = some x) : ws.take (i + 1) = ws.take i ++ [x] := by
  rw [List.take_add_one, h]
  rfl
/-! ### counts -/
def cget (kvs : List (Key × V)) (k : Key) : Int := match valV kvs k with | some (.int n) => n | _ => 0
def addC (kvs : List (Key × V)) (x : Wp) : List (Key × V) := putK kvs (.inr x.1) (.int (cget kvs (.inr x.1) + x.2))
def cntK (ws : List Wp) : List (Key × V) := ws.foldl addC []
def IntD (kvs : List (Key × V)) : Prop := (kvs.map (·.1)).Nodup ∧ ∀ k v, valV kvs k = some v → ∃ n : Int, v = .int n
theorem IntD.nil : IntD [] := ⟨List.nodup_nil, fun k v h => by cases h⟩
theorem IntD.get {kvs : List (Key × V)} (h : IntD kvs) (k : Key) : (valV kvs k).getD (.int 0) = .int (cget kvs k) := by
  unfold cget
  cases e : valV kvs k with
  | none => rfl
  | some v =>
    obtain ⟨n, rfl⟩ := h.2 k v e
    rfl
theorem IntD.add {kvs : List (Key × V)} (h : IntD kvs) (x : Wp) : IntD (addC kvs x) := ⟨putK_nodup _ _ h.1, fun k v e => by
  unfold addC at e
  rw [valV_put] at e
  split at e
  · exact ⟨_, (Option.some.inj e).symm⟩
  · exact h.2 k v e⟩
theorem cntK_int (ws : List Wp) : IntD (cntK ws) := by
  refine revInd (P := fun ws => IntD (cntK ws)) IntD.nil (fun l x ih => ?_) ws
  unfold cntK
  rw [List.foldl_append]
  exact ih.add x
theorem cntK_snoc (ws : List Wp) (x : Wp) : cntK (ws ++ [x]) = addC (cntK ws) x := by
  unfold cntK
  rw [List.foldl_append]
  rfl
theorem cntK_len (ws : List Wp) : (cntK ws).length ≤ ws.length := by
  refine revInd (P := fun ws => (cntK ws).length ≤ ws.length) (Nat.le_refl _) (fun l x ih => ?_) ws
  rw [cntK_snoc, List.length_append]
  unfold addC
  have := length_putK (cntK l) (.inr x.1) (V.int (cget (cntK l) (.inr x.1) + x.2))
  simp only [List.length_singleton]
  omega
theorem valV_mem {kvs : List (Key × V)} : (kvs.map (·.1)).Nodup → ∀ p ∈ kvs, valV kvs p.1 = some p.2 := by
  induction kvs with
  | nil => intro _ p hp; cases hp
  | cons q r ih =>
    intro h p hp
    rw [List.map_cons, List.nodup_cons] at h
    rcases List.mem_cons.mp hp with rfl | hp
    · exact valV_pos rfl
    · have ne : ¬ q.1 = p.1 := fun e => h.1 (e ▸ List.mem_map_of_mem hp)
      rw [valV_neg ne]
      exact ih h.2 p hp
theorem IntD.flat {kvs : List (Key × V)} (h : IntD kvs) : ∀ p ∈ kvs, valV kvs p.1 = some p.2 ∧ flatB p.2 = true := fun p hp => by
  have e := valV_mem h.1 p hp
  refine ⟨e, ?_⟩
  obtain ⟨n, hn⟩ := h.2 _ _ e
  rw [hn]
  rfl
def rNeDict : R2 := fun x y H Q => ∃ a b ks ls, x = .ref a ∧ y = .ref b ∧ H a = some (.dK ks) ∧ H b = some (.dK ls) ∧ ks.length = ls.length ∧ (∀ p ∈ ks, valV ls p.1 = some p.2 ∧ flatB p.2 = true) ∧ Q (.bl false) H
theorem op_neDict {X : Cx} {j : Nat} (hr : Room j X.A) : OpR X (compareOp .NotEq) rNeDict := op_ne_dictA hr.units0
theorem a_neDict {H : Hp} {Q : VK} {a b : Addr} {kvs : List (Key × V)} (ha : H a = some (.dK kvs)) (hb : H b = some (.dK kvs)) (h : IntD kvs) (q : Q (.bl false) H) : rNeDict (.ref a) (.ref b) H Q := ⟨a, b, kvs, kvs, rfl, rfl, ha, hb, rfl, h.flat, q⟩
end TT

set_option Elab.async false
set_option linter.all false
set_option maxRecDepth 100000
set_option maxHeartbeats 4000000
namespace TT
open PySem PySem.Spec PyProof.Rows L2 HT
section
variable {prog : Program} {w : World} {A : Around} {E : Value → Shared → Prop} {s : Shared}
theorem adjust_rev (n : Nat) : Builtin.Slice.sliceAdjust none none (-1) (n : Int) = ((n : Int) - 1, -1) := by
  unfold Builtin.Slice.sliceAdjust
  rfl
theorem places_rev (n : Nat) : Builtin.Slice.slicePlaces ((n : Int) - 1) (-1) (-1) = n := by
  unfold Builtin.Slice.slicePlaces
  have h1 : ¬ ((-1 : Int) > 0) := by omega
  rw [if_neg h1]
  split
  · rw [show (-(-1 : Int)) = 1 from rfl, Int.ediv_one]
    omega
  · omega
theorem applied_rev {sl : Addr} {vl vu vs : Value} {n : Nat} {Q : Int × Int × Nat → Shared → Prop} (hs : s.heap.IsSliceOf sl vl vu vs) (pl : IsPart vl none) (pu : IsPart vu none) (ps : IsPart vs (some (-1)))
    (h : Q ((n : Int) - 1, -1, n) s) : wpAny (model prog w) A (Builtin.Slice.sliceApplied (.ref sl) (pure (n : Int))) Q E s := by
  obtain ⟨os, hos, hcs, hds⟩ := id hs
  unfold Builtin.Slice.sliceApplied Builtin.Slice.sliceFields
  refine wpAny_bind (wpAny_bind (wpAny_field hos hds (x := vl) rfl (wpAny_bind (wpAny_field hos hds (x := vu) rfl (wpAny_bind (wpAny_field hos hds (x := vs) rfl (wpAny_pure ?_)))))))
  refine wpAny_bind (slicePart_ ps ?_)
  show wpAny _ _ (if ((-1 : Int) == 0) = true then _ else _) _ _ s
  rw [if_neg (by decide)]
  refine wpAny_bind (slicePart_ pl (wpAny_bind (slicePart_ pu (wpAny_bind (wpAny_pure ?_)))))
  show wpAny _ _ (match Builtin.Slice.sliceAdjust none none (-1) (n : Int) with | (lo, hi) => pure (lo, (-1 : Int), Builtin.Slice.slicePlaces lo hi (-1))) _ _ s
  rw [adjust_rev n]
  show wpAny _ _ (pure ((n : Int) - 1, (-1 : Int), Builtin.Slice.slicePlaces ((n : Int) - 1) (-1) (-1))) _ _ s
  rw [places_rev]
  exact wpAny_pure h
theorem fm_congr {α β : Type} {f g : α → Option β} : ∀ {l : List α}, (∀ x ∈ l, f x = g x) → l.filterMap f = l.filterMap g
  | [], _ => rfl
  | x :: l, h => by
    rw [List.filterMap_cons, List.filterMap_cons, h x (List.mem_cons_self ..), fm_congr (l := l) fun y hy => h y (List.mem_cons_of_mem _ hy)]
theorem pick_rev (xs : Array Value) : ((List.range xs.size).filterMap fun (m : Nat) => xs[((xs.size : Int) - 1 + (m : Int) * (-1)).toNat]?).toArray = xs.toList.reverse.toArray := by
  congr 1
  have e : ((List.range xs.size).filterMap fun (m : Nat) => xs[((xs.size : Int) - 1 + (m : Int) * (-1)).toNat]?) = (List.range xs.size).filterMap fun m => xs.toList.reverse[m]? := by
    refine fm_congr fun m hm => ?_
    have hm := List.mem_range.mp hm
    rw [List.getElem?_reverse (by simpa using hm), Array.getElem?_toList, Array.length_toList]
    congr 1
    omega
  rw [e]
  have hl : xs.size = xs.toList.reverse.length := by simp
  rw [hl]
  generalize xs.toList.reverse = l
  refine revInd (P := fun l => (List.range l.length).filterMap (fun m => l[m]?) = l) rfl (fun l x ih => ?_) l
  rw [List.length_append, List.length_singleton, List.range_succ, List.filterMap_append]
  have e1 : (List.range l.length).filterMap (fun m => (l ++ [x])[m]?) = (List.range l.length).filterMap (fun m => l[m]?) := by
    refine fm_congr fun m hm => ?_
    rw [List.getElem?_append_left (List.mem_range.mp hm)]
  rw [e1, ih]
  simp
theorem getItem_tuple_rev {t sl : Addr} {items : Array Value} {vl vu vs : Value} {Q : Value → Shared → Prop} (ht : IsTup s.heap t items) (hs : s.heap.IsSliceOf sl vl vu vs) (pl : IsPart vl none) (pu : IsPart vu none) (ps : IsPart vs (some (-1)))
    (h : Q (.ref s.heap.objs.size) { s with heap := s.heap.push { cls := .type "tuple", data := .seq items.toList.reverse.toArray } })
    (hsz : items.size ≤ sizeLine) : wpAny (model prog w) A (getItem (.ref t) (.ref sl)) Q E s := by
  have htake : sizeOk (.seq items.toList.reverse.toArray) := by
    show items.toList.reverse.toArray.size ≤ sizeLine
    rw [List.size_toArray, List.length_reverse, Array.length_toList]
    exact hsz
  obtain ⟨os, hos, hcs, hds⟩ := id hs
  have hTs : s.TypeIs (.ref sl) "slice" := ⟨os, hos, hcs⟩
  unfold getItem
  try with_reducible refine wpAny_holding ?_
  first | refine wpAny_bind (wpAny_pure ?_) | skip
  refine wpAny_bind (wpAny_sequenceKey ht.typeIs (by decide) ?_)
  refine wpAny_bind (wpAny_callSpecial?_slot (name := Str.ofString "__getitem__") ht.typeIs PyProof.Rows.slot_tuple_getitem
    (wpAny_call_entry PyProof.Rows.slot_tuple_getitem ht.typeIs entry_tuple_getitem ?_ (args_tuple_getitem _ _)))
  show wpAny _ _ (Builtin.Tuple.tupleItemsOf (.ref t) >>= _) _ _ s
  refine wpAny_bind (tupleItemsOf_ ht ?_)
  refine wpAny_bind (wpAny_typeOf hTs ?_)
  rw [if_pos (by decide)]
  refine wpAny_bind (applied_rev hs pl pu ps ?_)
  have hno : ¬ ((((items.size : Int) - 1) == 0 && (-1 : Int) == 1 && items.size == items.size) = true) := by
    intro q
    rw [Bool.and_eq_true, Bool.and_eq_true] at q
    exact absurd (eq_of_beq q.1.2) (by decide)
  show wpAny _ _ (if (((items.size : Int) - 1) == 0 && (-1 : Int) == 1 && items.size == items.size) = true then _ else _) _ _ s
  rw [if_neg hno, pick_rev]
  first
    | exact wpAny_bind (m := Builtin.Tuple.tupleExact _) (wpAny_newObj_type (wpAny_pure ⟨_, rfl, wpAny_pure h⟩) htake)
    | exact wpAny_bind (m := Builtin.Tuple.tupleExact _) (wpAny_newObj_type (wpAny_bind (wpAny_pure (wpAny_pure ⟨_, rfl, wpAny_pure h⟩))) htake)
    | exact wpAny_bind (wpAny_bind (m := Builtin.Tuple.tupleExact _) (wpAny_newObj_type (wpAny_pure (wpAny_pure ⟨_, rfl, wpAny_pure h⟩)) htake))
    | exact wpAny_bind (wpAny_bind (m := Builtin.Tuple.tupleExact _) (wpAny_newObj_type (wpAny_pure ⟨_, rfl, wpAny_pure h⟩) htake))
end
/-- x[::-1], x a list or a tuple -/
def rRevU (K : PySem.W.Frag) (x : V) (H : Hp) (Q : VK) : Prop := ∃ a xs, x = .ref a ∧ ((SqL K H a xs ∧ ∀ p, H p = none → Q (.ref p) (upd H p (.lst xs.reverse))) ∨ (SqT K H a xs ∧ ∀ p, H p = none → Q (.ref p) (upd H p (.tup xs.reverse))))
def tRevU (K : PySem.W.Frag) (te : TE) : TE := fun σ H Q => te σ H fun x H1 => rRevU K x H1 Q
theorem k_rev {X : Cx} {K : PySem.W.Frag} {e : Expr} {te : TE} {k : Nat} {p1 p2 p3 pos : Pos} (hK : X.K = K) (he : PE X e te) : PE X (.Subscript e (.Slice none none (some (.UnaryOp .USub (.Constant (.int 1) k p1) p2)) p3) pos) (tRevU K te) := by
  subst hK
  refine ⟨fun pins s σ H Q I h => ?_⟩
  refine Subscript_ (thn (he.run pins s σ H _ I h) fun v s1 ⟨x, H1, I1, r1, q1⟩ => ?_)
  obtain ⟨a, xs, ex, hh⟩ := q1
  subst ex
  cases r1
  have hst : PO X (some (.UnaryOp .USub (.Constant (.int 1) k p1) p2)) (tPart (tUn (rU fun i => .int (-i)) (tC (.int 1)))) := po_some (pe_un un_neg pe_int)
  refine wpAny_Slice (thn (po_none.run pins s1 σ H1 (fun o H2 => o = none ∧ H2 = H1) I1 ⟨rfl, rfl⟩) fun vl s2 ⟨l, H2, I2, pl, el, e2⟩ => ?_)
  subst el e2
  refine thn (po_none.run pins s2 σ H2 (fun o H3 => o = none ∧ H3 = H2) I2 ⟨rfl, rfl⟩) fun vu s3 ⟨u, H3, I3, pu, eu, e3⟩ => ?_
  subst eu e3
  refine thn (hst.run pins s3 σ H3 (fun o H4 => o = some (-1) ∧ H4 = H3) I3 ⟨1, rfl, -1, rfl, rfl, rfl⟩) fun vs s4 ⟨o, H4, I4, ps, eo, e4⟩ => ?_
  subst eo e4
  have I5 : Inv X pins σ H4 { s4 with heap := s4.heap.push { cls := .type "slice", data := .fields #[vl, vu, vs] } } := I4.kept (t' := s4.toks) fun b ob q => Heap.get?_push_of_some _ q
  show wpAny (model X.prog X.w) X.A (subscriptTail e (.Slice none none (some (.UnaryOp .USub (.Constant (.int 1) k p1) p2)) p3) (.ref a) (.ref s4.heap.objs.size)) (EP X pins σ Q) X.xe { s4 with heap := s4.heap.push { cls := .type "slice", data := .fields #[vl, vu, vs] } }
  rcases hh with ⟨hx, q⟩ | ⟨hx, q⟩
  · obtain ⟨its, r, ht, hz⟩ := I5.list hx
    have hlen := r.length
    refine tail_any (ops := [.ref a, .ref s4.heap.objs.size]) ht.isList.typeIs (PySem.slot_list_getitem.lookup) ?_ (by with_unfolding_all rfl)
    refine wpAny_getItem_list_slice ht.isList (Heap.IsSliceOf.new _ vl vu vs) pl pu ps (by decide) ?_ (by rw [List.size_toArray]; omega)
    rw [PySem.W.krv_pick]
    refine ⟨.ref _, _, I5.laid (t' := s4.toks) (o := .lst xs.reverse) (fun b ob q => Heap.get?_push_of_some _ q) (Nat.le_refl _) ?_, rfl, q _ (I5.hok.fresh (Nat.le_refl _))⟩
    exact ⟨by rw [List.length_reverse]; exact hz, _, 0, r.reverse, Heap.get?_push_size _ rfl⟩
  · obtain ⟨its, r, ht, hz⟩ := I5.tuple hx
    have hlen := r.length
    refine tail_any (ops := [.ref a, .ref s4.heap.objs.size]) ht.typeIs (PyProof.Rows.slot_tuple_getitem.lookup) ?_ (by with_unfolding_all rfl)
    refine getItem_tuple_rev ht (Heap.IsSliceOf.new _ vl vu vs) pl pu ps ?_ (by rw [List.size_toArray]; omega)
    refine ⟨.ref _, _, I5.laid (t' := s4.toks) (o := .tup xs.reverse) (fun b ob q => Heap.get?_push_of_some _ q) (Nat.le_refl _) ?_, rfl, q _ (I5.hok.fresh (Nat.le_refl _))⟩
    exact ⟨by rw [List.length_reverse]; exact hz, _, r.reverse, ⟨_, Heap.get?_push_size _ rfl, rfl, 0, rfl⟩⟩
section
variable {K : PySem.W.Frag} {σ : L2.St} {H : Hp} {Q : VK} {te : TE} {a : Addr} {xs : List V}
theorem g_rev (h : te σ H fun x H1 => rRevU K x H1 Q) : tRevU K te σ H Q := h
theorem a_revL (h : SqL K H a xs) (q : ∀ p H2, H p = none → Same H H2 → H2 p = some (.lst xs.reverse) → Q (.ref p) H2) : rRevU K (.ref a) H Q := ⟨a, xs, rfl, .inl ⟨h, fun p hp => q p _ hp (same_new hp) upd_same⟩⟩
theorem a_revT (h : SqT K H a xs) (q : ∀ p H2, H p = none → Same H H2 → H2 p = some (.tup xs.reverse) → Q (.ref p) H2) : rRevU K (.ref a) H Q := ⟨a, xs, rfl, .inr ⟨h, fun p hp => q p _ hp (same_new hp) upd_same⟩⟩
end
end TT

set_option Elab.async false
set_option linter.all false
set_option maxRecDepth 100000
set_option maxHeartbeats 4000000
namespace TT
open PySem PySem.Spec PyProof.Rows L2
/-- code that is not come to -/
def tOff : TE := fun _ _ _ => False
theorem pe_off {X : Cx} {e : Expr} : PE X e tOff := ⟨fun _ _ _ _ _ _ h => h.elim⟩
/-! ### what stands, lifted to a later heap -/
section
variable {K : PySem.W.Frag} {H H1 : Hp} {a D : Addr} {o : HO} {xs : List V}
def IsLst (H : Hp) (a : Addr) : Prop := ∃ zs, H a = some (.lst zs)
theorem IsLst.of (h : H a = some (.lst xs)) : IsLst H a := ⟨xs, h⟩
theorem Same.ap (s : Same H H1) (h : H a = some o) : H1 a = some o := s _ _ h
theorem But.ap (b : But D H H1) (n : a ≠ D) (h : H a = some o) : H1 a = some o := b _ _ n h
theorem Same.nn (s : Same H H1) (h : H1 a = none) : H a = none := s.free h
theorem SqL.up (s : Same H H1) (h : SqL K H a xs) : SqL K H1 a xs := same_l s h
theorem SqT.up (s : Same H H1) (h : SqT K H a xs) : SqT K H1 a xs := same_t s h
theorem Seq.up (s : Same H H1) (h : Seq K H a xs) : Seq K H1 a xs := h.same s
theorem SqT.upB (b : But D H H1) (i : IsLst H D) (h : SqT K H a xs) : SqT K H1 a xs := let ⟨_, e⟩ := i; sqt_but e b h
theorem SqL.upB (b : But D H H1) (n : a ≠ D) (h : SqL K H a xs) : SqL K H1 a xs := by
  rcases h with (h | ⟨o, h⟩) | h
  · exact .inl (.inl (b _ _ n h))
  · exact .inl (.inr ⟨o, b _ _ n h⟩)
  · exact .inr h
theorem IsLst.up (s : Same H H1) (h : IsLst H a) : IsLst H1 a := let ⟨z, e⟩ := h; ⟨z, s _ _ e⟩
theorem IsLst.upB (b : But D H H1) (n : a ≠ D) (h : IsLst H a) : IsLst H1 a := let ⟨z, e⟩ := h; ⟨z, b _ _ n e⟩
theorem ParS.up {ys : List V} {ws : List Wp} (s : Same H H1) (h : Par (StepAt K H) ys ws) : Par (StepAt K H1) ys ws := ParS.same h s
theorem ParS.upB {ys : List V} {ws : List Wp} (b : But D H H1) (i : IsLst H D) (h : Par (StepAt K H) ys ws) : Par (StepAt K H1) ys ws := let ⟨_, e⟩ := i; ParS.but h e b
theorem StepAt.up {v : V} {x : Wp} (s : Same H H1) (h : StepAt K H v x) : StepAt K H1 v x := h.same s
theorem StepAt.upB {v : V} {x : Wp} (b : But D H H1) (i : IsLst H D) (h : StepAt K H v x) : StepAt K H1 v x := let ⟨_, e⟩ := i; h.but e b
theorem Dq.up {n : Nat} {v : V} {d : PyData} (s : Same H H1) (h : Dq K H n v d) : Dq K H1 n v d := h.same s
end
/-! ### tuple + tuple -/
theorem a_catTT {K : PySem.W.Frag} {H : Hp} {Q : VK} {a b : Addr} {xs ys : List V} (h1 : SqT K H a xs) (h2 : SqT K H b ys) (hl : xs.length + ys.length ≤ 100000) (q : ∀ p H2, Same H H2 → SqT K H2 p (xs ++ ys) → Q (.ref p) H2) : rAddU K (.ref a) (.ref b) H Q :=
  .inr (.inr ⟨a, b, xs, ys, rfl, rfl, h1, h2, Nat.le_trans hl (by decide), fun z => q b H (Same.refl _) (by rw [z]; exact h2), fun _ z => q a H (Same.refl _) (by rw [z, List.append_nil]; exact h1), fun _ _ p hp => q p _ (same_new hp) (SqT.of upd_same)⟩)
/-! ### comprehensions in general -/
section
variable {J : It} {n : Nat} {G : Hp → Prop} {Y : Nat → Hp → V → Hp → Prop} {g : TG} {tt : TT} {te : TE} {vs : List Nat} {σ : L2.St} {H1 : Hp} {Q : VK}
theorem g_lc {wi : TI} {H : Hp} (h : wi σ H fun J H1 => ∀ D, H1 D = none → ∃ W : Nat → Nat → Hp → Prop, (∃ m, W 0 m (upd H1 D (.lst []))) ∧ ∀ i m H, W i m H →
      (J.stop i H ∧ Q (.ref D) H) ∨ (J.go i H ∧ ∃ Nx : Hp → Prop, (∀ H', Nx H' → ∃ m', m' < m ∧ W (i + 1) m' H') ∧ ∀ x H', J.yld i H x H' → g x (wipe σ vs) H' fun σ2 H2 => wipe σ2 vs = wipe σ vs ∧ tt σ2 H2 fun b H3 =>
        if b = true then te σ2 H3 fun y H4 => ∃ acc, H4 D = some (.lst acc) ∧ acc.length < sizeLine ∧ Nx (upd H4 D (.lst (acc ++ [y]))) else Nx H3)) : tLc wi g tt te vs σ H Q := h
/-- Pv by the turn, what was found, the list's place and the heap -/
def PvE (Pv : Nat → List V → Addr → Hp → Prop) (i : Nat) (D : Addr) (H : Hp) : Prop := ∃ acc, H D = some (.lst acc) ∧ Pv i acc D H
theorem lc_w {Qd : Addr → Hp → Prop} (w : Walk J n G Y) (Pv : Nat → List V → Addr → Hp → Prop) (h0 : ∀ D, H1 D = none → Pv 0 [] D (upd H1 D (.lst []))) (hG : ∀ i acc D H, Pv i acc D H → G H)
    (hs : ∀ D i x acc H H', H1 D = none → i < n → Pv i acc D H → H D = some (.lst acc) → Y i H x H' → g x (wipe σ vs) H' fun σ2 H2 => wipe σ2 vs = wipe σ vs ∧ tt σ2 H2 fun b H3 =>
      if b = true then te σ2 H3 fun y H4 => ∃ acc, H4 D = some (.lst acc) ∧ acc.length < sizeLine ∧ PvE Pv (i + 1) D (upd H4 D (.lst (acc ++ [y]))) else PvE Pv (i + 1) D H3)
    (hd : ∀ D acc H, H1 D = none → H D = some (.lst acc) → Pv n acc D H → Qd D H) :
    ∀ D, H1 D = none → ∃ W : Nat → Nat → Hp → Prop, (∃ m, W 0 m (upd H1 D (.lst []))) ∧ ∀ i m H, W i m H →
      (J.stop i H ∧ Qd D H) ∨ (J.go i H ∧ ∃ Nx : Hp → Prop, (∀ H', Nx H' → ∃ m', m' < m ∧ W (i + 1) m' H') ∧ ∀ x H', J.yld i H x H' → g x (wipe σ vs) H' fun σ2 H2 => wipe σ2 vs = wipe σ vs ∧ tt σ2 H2 fun b H3 =>
        if b = true then te σ2 H3 fun y H4 => ∃ acc, H4 D = some (.lst acc) ∧ acc.length < sizeLine ∧ Nx (upd H4 D (.lst (acc ++ [y]))) else Nx H3) := by
  intro D hD
  refine lc_it w (fun i H' => PvE Pv i D H') ⟨[], upd_same, h0 D hD⟩ (fun i H' _ ⟨_, _, q⟩ => hG _ _ _ _ q) ?_ fun H' ⟨acc, q1, q2⟩ => hd D acc H' hD q1 q2
  rintro i x H' H2 hi ⟨acc, q1, q2⟩ hy
  exact hs D i x acc H' H2 hD hi q2 q1 hy
theorem lc_y {Pv : Nat → List V → Addr → Hp → Prop} {i : Nat} {D : Addr} {H4 : Hp} {acc : List V} {y : V} (h : H4 D = some (.lst acc)) (hl : acc.length < 100000) (k : ∀ H5, But D H4 H5 → H5 D = some (.lst (acc ++ [y])) → Pv i (acc ++ [y]) D H5) : ∃ acc, H4 D = some (.lst acc) ∧ acc.length < sizeLine ∧ PvE Pv i D (upd H4 D (.lst (acc ++ [y]))) :=
  ⟨acc, h, szl hl, acc ++ [y], upd_same, k _ But.upd upd_same⟩
theorem lc_n {Pv : Nat → List V → Addr → Hp → Prop} {i : Nat} {D : Addr} {H4 : Hp} {acc : List V} (h : H4 D = some (.lst acc)) (k : Pv i acc D H4) : PvE Pv i D H4 := ⟨acc, h, k⟩
/-- all items told by a list, each in its place; nothing else changes -/
theorem lc_fl {β : Type} {Qd : Addr → Hp → Prop} (w : Walk J n G Y) (R : Hp → V → β → Prop) (fl : Nat → List β) (rs : ∀ {H H' v y}, Same H H' → R H v y → R H' v y) (rb : ∀ {H H' v y D}, But D H H' → IsLst H D → R H v y → R H' v y) (f0 : fl 0 = []) (fn : ∀ i, i ≤ n → (fl i).length ≤ i) (hn : n < 100000) (hG : ∀ H', Same H1 H' → G H')
    (hs : ∀ D i x H H', H1 D = none → i < n → Same H1 H → IsLst H D → Y i H x H' → Same H H' ∧ ∀ (k : VK) (k0 : Hp → Prop), (∀ v y H4, fl (i + 1) = fl i ++ [y] → Same H' H4 → R H4 v y → k v H4) → (∀ H4, Same H' H4 → fl (i + 1) = fl i → k0 H4) → g x (wipe σ vs) H' fun σ2 H2 => wipe σ2 vs = wipe σ vs ∧ tt σ2 H2 fun b H3 => if b = true then te σ2 H3 k else k0 H3)
    (hd : ∀ D acc H, H1 D = none → Same H1 H → H D = some (.lst acc) → Par (R H) acc (fl n) → Qd D H) :
    ∀ D, H1 D = none → ∃ W : Nat → Nat → Hp → Prop, (∃ m, W 0 m (upd H1 D (.lst []))) ∧ ∀ i m H, W i m H →
      (J.stop i H ∧ Qd D H) ∨ (J.go i H ∧ ∃ Nx : Hp → Prop, (∀ H', Nx H' → ∃ m', m' < m ∧ W (i + 1) m' H') ∧ ∀ x H', J.yld i H x H' → g x (wipe σ vs) H' fun σ2 H2 => wipe σ2 vs = wipe σ vs ∧ tt σ2 H2 fun b H3 =>
        if b = true then te σ2 H3 fun y H4 => ∃ acc, H4 D = some (.lst acc) ∧ acc.length < sizeLine ∧ Nx (upd H4 D (.lst (acc ++ [y]))) else Nx H3) := by
  refine lc_w w (fun i acc D H => i ≤ n ∧ H1 D = none ∧ Same H1 H ∧ Par (R H) acc (fl i)) (fun D hD => ⟨Nat.zero_le _, hD, same_new hD, by rw [f0]; exact .nil⟩) (fun i acc D H h => hG H h.2.2.1) ?_ fun D acc H hD hl ⟨_, _, h1, h2⟩ => hd D acc H hD h1 hl h2
  rintro D i x acc H H' hD hi ⟨_, _, s1, h2⟩ hl hy
  obtain ⟨s2, h⟩ := hs D i x H H' hD hi s1 ⟨_, hl⟩ hy
  refine h _ _ (fun v y H4 e s4 r => ?_) (fun H4 s4 e => ?_)
  · have hl4 := s4 _ _ (s2 _ _ hl)
    have := fn i (by omega)
    refine lc_y hl4 (by rw [h2.1]; omega) fun H5 b5 h5 => ⟨hi, hD, fun a o e => b5 a o (ne_of_none e hD) (s4 _ _ (s2 _ _ (s1 _ _ e))), ?_⟩
    rw [e]
    exact (h2.mono fun v x z => rb b5 ⟨_, hl4⟩ (rs s4 (rs s2 z))).snoc (rb b5 ⟨_, hl4⟩ r)
  · refine lc_n (s4 _ _ (s2 _ _ hl)) ⟨hi, hD, (s1.trans s2).trans s4, ?_⟩
    rw [e]
    exact h2.mono fun v x z => rs s4 (rs s2 z)
end
end TT
namespace TT
open PySem PySem.Spec PyProof.Rows L2
theorem a_revS {K : PySem.W.Frag} {H : Hp} {Q : VK} {a : Addr} {xs : List V} (h : Seq K H a xs) (q : ∀ p H2, Same H H2 → Seq K H2 p xs.reverse → Q (.ref p) H2) : rRevU K (.ref a) H Q := by
  rcases h with h | h
  · exact a_revL h fun p H2 n s e => q p H2 s (.inl (SqL.of e))
  · exact a_revT h fun p H2 n s e => q p H2 s (.inr (SqT.of e))
theorem g_yesE {te : TE} {σ : L2.St} {H : Hp} {k : VK} {k0 : Hp → Prop} (h : te σ H k) : tYes σ H fun b H3 => if b = true then te σ H3 k else k0 H3 := h
theorem walkL0 {K : PySem.W.Frag} {H0 : Hp} {a : Addr} {xs : List V} (h : SqL K H0 a xs) : Walk (Itl K a) xs.length (fun H' => Same H0 H') (YAt xs) := walk_list.mono (fun H' s => same_l s h) fun _ _ _ _ _ _ y => y
theorem walkT0 {K : PySem.W.Frag} {H0 : Hp} {a : Addr} {xs : List V} (h : SqT K H0 a xs) : Walk (Itt K a) xs.length (fun H' => Same H0 H') (YAt xs) := walk_tup.mono (fun H' s => same_t s h) fun _ _ _ _ _ _ y => y
end TT

set_option Elab.async false
set_option linter.all false
set_option maxRecDepth 100000
set_option maxHeartbeats 4000000
namespace TT
open PySem PySem.Spec PyProof.Rows L2
/-! ### powers of words -/
def rp (n : Nat) (w : List Wp) : List Wp := (List.replicate n w).flatten
theorem rp_zero (w : List Wp) : rp 0 w = [] := rfl
theorem rp_succ (n : Nat) (w : List Wp) : rp (n + 1) w = w ++ rp n w := by
  unfold rp
  rw [List.replicate_succ, List.flatten_cons]
theorem rp_add (m n : Nat) (w : List Wp) : rp (m + n) w = rp m w ++ rp n w := by
  unfold rp
  rw [← List.flatten_append, List.replicate_append_replicate]
theorem rp_snoc (n : Nat) (w : List Wp) : rp (n + 1) w = rp n w ++ w := by
  rw [rp_add]
  simp [rp]
theorem rp_len (n : Nat) (w : List Wp) : (rp n w).length = n * w.length := by
  induction n with
  | zero => simp [rp]
  | succ n ih => rw [rp_succ, List.length_append, ih, Nat.add_mul, Nat.one_mul, Nat.add_comm]
theorem invW_app (a b : List Wp) : invW (a ++ b) = invW b ++ invW a := by simp [invW]
theorem invW_rp (n : Nat) (w : List Wp) : invW (rp n w) = rp n (invW w) := by
  induction n with
  | zero => rfl
  | succ n ih => rw [rp_succ, invW_app, ih, rp_snoc]
def pwW (w : List Wp) (e : Int) : List Wp := canc (if 0 ≤ e then rp e.toNat w else rp (-e).toNat (invW w))
theorem pw_pos {w : List Wp} (n : Nat) : pwW w (n : Int) = canc (rp n w) := by
  unfold pwW
  rw [if_pos (by omega)]
  rfl
theorem pw_negN {w : List Wp} (n : Nat) : pwW w (-(n : Int)) = canc (rp n (invW w)) := by
  unfold pwW
  by_cases h : n = 0
  · subst h
    rfl
  · rw [if_neg (by omega)]
    congr 2
    omega
theorem int_cases (e : Int) : (∃ n : Nat, e = n) ∨ ∃ n : Nat, e = -(n : Int) := by
  rcases Int.le_total 0 e with h | h
  · exact .inl ⟨e.toNat, by omega⟩
  · exact .inr ⟨(-e).toNat, by omega⟩
theorem pw_neg (w : List Wp) (e : Int) : pwW w (-e) = invW (pwW w e) := by
  rcases int_cases e with ⟨n, rfl⟩ | ⟨n, rfl⟩
  · rw [pw_negN, pw_pos, ← invW_rp, canc_invW]
  · rw [Int.neg_neg, pw_pos, pw_negN, ← invW_rp, canc_invW, invW_invW]
theorem canc_mid (a b c : List Wp) (h : canc b = []) : canc (a ++ b ++ c) = canc (a ++ c) := by
  rw [← canc_app (a ++ b), ← canc_app2 a b, h, List.append_nil, canc_app]
theorem rp_undo (m k : Nat) (w : List Wp) : canc (rp m w ++ rp k (invW w)) = pwW w ((m : Int) - k) := by
  by_cases h : k ≤ m
  · have e : (m : Int) - k = ((m - k : Nat) : Int) := by omega
    have e2 : rp m w = rp (m - k) w ++ rp k w := by rw [← rp_add, Nat.sub_add_cancel h]
    rw [e, pw_pos, e2, ← invW_rp, List.append_assoc, ← canc_app2, canc_undo, List.append_nil]
  · have e : (m : Int) - k = -((k - m : Nat) : Int) := by omega
    have e2 : rp k (invW w) = rp m (invW w) ++ rp (k - m) (invW w) := by rw [← rp_add, Nat.add_sub_cancel' (by omega)]
    rw [e, pw_negN, e2, ← List.append_assoc, ← canc_app, ← invW_rp m, canc_undo, List.nil_append]
theorem rp_undo' (m k : Nat) (w : List Wp) : canc (rp k (invW w) ++ rp m w) = pwW w ((m : Int) - k) := by
  by_cases h : k ≤ m
  · have e : (m : Int) - k = ((m - k : Nat) : Int) := by omega
    have e2 : rp m w = rp k w ++ rp (m - k) w := by rw [← rp_add, Nat.add_sub_cancel' h]
    rw [e, pw_pos, e2, ← invW_rp, ← List.append_assoc, ← canc_app, canc_undo', List.nil_append]
  · have e : (m : Int) - k = -((k - m : Nat) : Int) := by omega
    have e2 : rp k (invW w) = rp (k - m) (invW w) ++ rp m (invW w) := by rw [← rp_add, Nat.sub_add_cancel (by omega)]
    rw [e, pw_negN, e2, List.append_assoc, ← canc_app2, ← invW_rp m, canc_undo', List.append_nil]
theorem pw_add (w : List Wp) (a b : Int) : canc (pwW w a ++ pwW w b) = pwW w (a + b) := by
  rcases int_cases a with ⟨m, rfl⟩ | ⟨m, rfl⟩ <;> rcases int_cases b with ⟨k, rfl⟩ | ⟨k, rfl⟩
  · rw [pw_pos, pw_pos, canc_app, canc_app2, ← rp_add, ← pw_pos]
    congr 1
  · rw [pw_pos, pw_negN, canc_app, canc_app2, rp_undo]
    congr 1
  · rw [pw_pos, pw_negN, canc_app, canc_app2, rp_undo']
    congr 1
    omega
  · rw [pw_negN, pw_negN, canc_app, canc_app2, ← rp_add, ← pw_negN]
    congr 1
    omega
/-! ### the tail -/
def Mt (ws : List Wp) (k : Nat) : Prop := ∃ x, ws[k]? = some x ∧ ws[ws.length - 1 - k]? = some (inv1 x)
structure TailOk (ws : List Wp) (c : Nat) : Prop where
  mt : ∀ k, k < c → Mt ws k
  lt : 2 * c < ws.length
  no : 2 * c + 1 < ws.length → ¬ Mt ws c
theorem TailOk.uniq {ws : List Wp} {c d : Nat} (h : TailOk ws c) (h' : TailOk ws d) : c = d := by
  rcases Nat.lt_trichotomy c d with z | z | z
  · have := h'.lt
    exact absurd (h'.mt c z) (h.no (by omega))
  · exact z
  · have := h.lt
    exact absurd (h.mt d z) (h'.no (by omega))
theorem red_at {ws : List Wp} (h : Red ws) {i : Nat} {x y : Wp} (hx : ws[i]? = some x) (hy : ws[i + 1]? = some y) : y ≠ inv1 x := by
  have hi := (List.getElem?_eq_some_iff.mp hy).1
  refine h (ws.take i) x y (ws.drop (i + 2)) ?_
  have e1 : ws.drop i = x :: ws.drop (i + 1) := by
    rw [List.drop_eq_getElem_cons (by omega)]
    congr 1
    exact Option.some.inj ((List.getElem?_eq_getElem (by omega)).symm.trans hx)
  have e2 : ws.drop (i + 1) = y :: ws.drop (i + 2) := by
    rw [List.drop_eq_getElem_cons hi]
    congr 1
    exact Option.some.inj ((List.getElem?_eq_getElem hi).symm.trans hy)
  rw [← e2, ← e1, List.take_append_drop]
theorem red_of {ws : List Wp} (h : ∀ i x y, ws[i]? = some x → ws[i + 1]? = some y → y ≠ inv1 x) : Red ws := fun as x y bs e => by
  refine h as.length x y ?_ ?_
  · rw [e]
    simp
  · rw [e]
    simp
theorem tail_step {ws : List Wp} {c : Nat} (r : Red ws) (h1 : 2 * c + 1 < ws.length) (h2 : Mt ws c) : 2 * (c + 1) < ws.length := by
  rcases Nat.lt_or_ge (2 * (c + 1)) ws.length with z | z
  · exact z
  · obtain ⟨x, hx, hy⟩ := h2
    have : ws.length - 1 - c = c + 1 := by omega
    rw [this] at hy
    exact absurd rfl (red_at r hx hy)
theorem tail_end {ws : List Wp} {c : Nat} (h : ∀ k, k < c → Mt ws k) (hc : 2 * c ≤ ws.length) : ws.drop (ws.length - c) = invW (ws.take c) := by
  refine List.ext_getElem? fun j => ?_
  by_cases hj : j < c
  · obtain ⟨x, hx, hy⟩ := h (c - 1 - j) (by omega)
    rw [List.getElem?_drop, show ws.length - c + j = ws.length - 1 - (c - 1 - j) by omega, hy]
    unfold invW
    rw [List.getElem?_map, List.getElem?_reverse (by rw [List.length_take]; omega), List.length_take, List.getElem?_take, if_pos (by omega), show min c ws.length - 1 - j = c - 1 - j by omega, hx]
    rfl
  · rw [List.getElem?_eq_none (by rw [List.length_drop]; omega), List.getElem?_eq_none (by unfold invW; rw [List.length_map, List.length_reverse, List.length_take]; omega)]
/-- the middle -/
def core (ws : List Wp) (c : Nat) : List Wp := (ws.drop c).take (ws.length - 2 * c)
theorem split3 {ws : List Wp} {c : Nat} (hc : 2 * c ≤ ws.length) : ws = ws.take c ++ core ws c ++ ws.drop (ws.length - c) := by
  unfold core
  have e : ws.drop (ws.length - c) = (ws.drop c).drop (ws.length - 2 * c) := by
    rw [List.drop_drop]
    congr 1
    omega
  rw [e, List.append_assoc, List.take_append_drop, List.take_append_drop]
theorem core_len {ws : List Wp} {c : Nat} (hc : 2 * c ≤ ws.length) : (core ws c).length = ws.length - 2 * c := by
  unfold core
  rw [List.length_take, List.length_drop]
  omega
theorem red_app {a b : List Wp} (ha : Red a) (hb : Red b) (h : ∀ x y, a.getLast? = some x → b.head? = some y → y ≠ inv1 x) : Red (a ++ b) := by
  refine red_of fun i x y hx hy => ?_
  by_cases h1 : i + 1 < a.length
  · rw [List.getElem?_append_left (by omega)] at hx
    rw [List.getElem?_append_left h1] at hy
    exact red_at ha hx hy
  · by_cases h2 : i < a.length
    · rw [List.getElem?_append_left h2] at hx
      rw [List.getElem?_append_right (by omega), show i + 1 - a.length = 0 by omega] at hy
      refine h x y ?_ ?_
      · rw [List.getLast?_eq_getElem?, show a.length - 1 = i by omega]
        exact hx
      · rw [List.head?_eq_getElem?]
        exact hy
    · rw [List.getElem?_append_right (by omega)] at hx
      rw [List.getElem?_append_right (by omega), show i + 1 - a.length = (i - a.length) + 1 by omega] at hy
      exact red_at hb hx hy
theorem red_left {a b : List Wp} (h : Red (a ++ b)) : Red a := fun as x y bs e => h as x y (bs ++ b) (by rw [e]; simp)
theorem red_right {a b : List Wp} (h : Red (a ++ b)) : Red b := fun as x y bs e => h (a ++ as) x y bs (by rw [e]; simp)
theorem red_join {a b : List Wp} (h : Red (a ++ b)) {x y : Wp} (hx : a.getLast? = some x) (hy : b.head? = some y) : y ≠ inv1 x := by
  have e1 := last_drop hx
  cases b with
  | nil => cases hy
  | cons z b =>
    cases hy
    refine h a.dropLast x y b ?_
    have : a ++ y :: b = (a.dropLast ++ [x]) ++ y :: b := by rw [e1]
    rw [this]
    simp
def NoT (w : List Wp) : Prop := ∀ x ∈ w, x.2 ≠ 0
theorem red_rp {v : List Wp} (r : Red v) (hj : ∀ x y, v.getLast? = some x → v.head? = some y → y ≠ inv1 x) : ∀ n, Red (rp n v) ∧ (∀ x, (rp n v).getLast? = some x → v.getLast? = some x) ∧ (∀ x, (rp n v).head? = some x → v.head? = some x)
  | 0 => ⟨Red.nil, fun x h => by simp [rp] at h, fun x h => by simp [rp] at h⟩
  | n + 1 => by
    obtain ⟨h1, h2, h3⟩ := red_rp r hj n
    refine ⟨?_, ?_, ?_⟩
    · rw [rp_succ]
      exact red_app r h1 fun x y hx hy => hj x y hx (h3 y hy)
    · intro x hx
      rw [rp_snoc, List.getLast?_append] at hx
      cases e : v.getLast? with
      | none =>
        rw [List.getLast?_eq_none_iff] at e
        subst e
        have := h2 x (by simpa using hx)
        cases this
      | some z =>
        rw [e] at hx
        simpa using hx
    · intro x hx
      rw [rp_succ, List.head?_append] at hx
      cases e : v.head? with
      | none =>
        rw [List.head?_eq_none_iff] at e
        subst e
        have := h3 x (by simpa using hx)
        cases this
      | some z =>
        rw [e] at hx
        simpa using hx
/-- what a power is made of -/
def powS (ws : List Wp) (c n : Nat) : List Wp := ws.take c ++ rp n (core ws c) ++ ws.drop (ws.length - c)
theorem powS_canc {ws : List Wp} {c : Nat} (h : ∀ k, k < c → Mt ws k) (hc : 2 * c ≤ ws.length) (n : Nat) : canc (powS ws c n) = canc (rp n ws) := by
  have e := tail_end h hc
  have e3 := split3 hc
  rw [e] at e3
  unfold powS
  rw [e]
  generalize ws.take c = u at e3
  generalize core ws c = v at e3
  induction n with
  | zero =>
    rw [rp_zero, rp_zero, List.append_nil, canc_undo]
    rfl
  | succ n ih =>
    rw [rp_succ n ws, ← canc_app2 ws, ← ih, canc_app2]
    conv => rhs; rw [e3]
    rw [rp_succ]
    have : u ++ v ++ invW u ++ (u ++ rp n v ++ invW u) = (u ++ v) ++ (invW u ++ u) ++ (rp n v ++ invW u) := by simp
    rw [this, canc_mid _ _ _ (canc_undo' u)]
    simp
theorem powS_len {ws : List Wp} {c : Nat} (hc : 2 * c ≤ ws.length) (n : Nat) : (powS ws c n).length = 2 * c + n * (ws.length - 2 * c) := by
  unfold powS
  rw [List.length_append, List.length_append, rp_len, core_len hc, List.length_take, List.length_drop]
  omega
theorem powS_red {ws : List Wp} {c : Nat} (r : Red ws) (nt : NoT ws) (t : TailOk ws c) {n : Nat} (hn : 0 < n) : Red (powS ws c n) := by
  have hc : 2 * c ≤ ws.length := by have := t.lt; omega
  have e3 := split3 hc
  have hl := core_len hc
  have r1 : Red (ws.take c ++ core ws c ++ ws.drop (ws.length - c)) := by rw [← e3]; exact r
  have rv : Red (core ws c) := red_right (red_left r1)
  have h0 : (core ws c).head? = ws[c]? := by
    unfold core
    rw [List.head?_eq_getElem?, List.getElem?_take, if_pos (by have := t.lt; omega), List.getElem?_drop]
    rfl
  have h9 : (core ws c).getLast? = ws[ws.length - 1 - c]? := by
    rw [List.getLast?_eq_getElem?, hl]
    unfold core
    have := t.lt
    rw [List.getElem?_take, if_pos (by omega), List.getElem?_drop]
    congr 1
    omega
  have hj : ∀ x y, (core ws c).getLast? = some x → (core ws c).head? = some y → y ≠ inv1 x := fun x y hx hy z => by
    rw [h9] at hx
    rw [h0] at hy
    have := t.lt
    by_cases one : 2 * c + 1 < ws.length
    · exact t.no one ⟨y, hy, by rw [hx, z, inv1_inv]⟩
    · have e : ws.length - 1 - c = c := by omega
      rw [e, hy] at hx
      cases hx
      have := nt x (List.mem_of_getElem? hy)
      have := congrArg Prod.snd z
      simp [inv1] at this
      omega
  obtain ⟨k1, k2, k3⟩ := red_rp rv hj n
  unfold powS
  have nev : core ws c ≠ [] := fun z => by rw [z] at hl; have := t.lt; simp at hl; omega
  refine red_app (red_app (red_left (red_left r1)) k1 fun x y hx hy => red_join (red_left r1) hx (k3 y hy)) (red_right r1) fun x y hx hy => ?_
  refine red_join (a := ws.take c ++ core ws c) r1 ?_ hy
  rw [List.getLast?_append] at hx ⊢
  cases e : (rp n (core ws c)).getLast? with
  | none =>
    rw [List.getLast?_eq_none_iff] at e
    have := congrArg List.length e
    rw [rp_len] at this
    have : 0 < (core ws c).length := List.length_pos_iff.mpr nev
    have : 0 < n * (core ws c).length := Nat.mul_pos hn this
    simp at *
    omega
  | some z =>
    rw [e] at hx
    rw [k2 z e]
    simpa using hx
theorem Mt.inv {ws : List Wp} {k : Nat} (h : Mt ws k) : Mt (invW ws) k := by
  obtain ⟨x, hx, hy⟩ := h
  have h1 := (List.getElem?_eq_some_iff.mp hx).1
  refine ⟨x, ?_, ?_⟩
  · unfold invW
    rw [List.getElem?_map, List.getElem?_reverse h1, hy]
    simp [inv1_inv]
  · unfold invW
    rw [List.getElem?_map, List.length_map, List.length_reverse, List.getElem?_reverse (by omega), show ws.length - 1 - (ws.length - 1 - k) = k by omega, hx]
    rfl
theorem TailOk.inv {ws : List Wp} {c : Nat} (t : TailOk ws c) : TailOk (invW ws) c := by
  have e : (invW ws).length = ws.length := by simp [invW]
  exact ⟨fun k hk => (t.mt k hk).inv, by rw [e]; exact t.lt, fun h z => t.no (by rw [e] at h; exact h) (by have := z.inv; rwa [invW_invW] at this)⟩
end TT

set_option Elab.async false
set_option linter.all false
set_option maxRecDepth 100000
set_option maxHeartbeats 4000000
namespace TT
open PySem PySem.Spec PyProof.Rows L2
/-! ### tuple * int -/
theorem tuple_mul1 (l : Addr) (items : Array Value) (n : Nat) (dd : Option Addr) (sl : Array (Option Value)) (u : Tok) (c1 : (items.isEmpty || (1 : Int) == 1) = true) :
    Meets (Builtin.«tuple.__mul__» ⟨[.ref l, .int 1 u], []⟩) (fun _ R s => s.heap.get? l = some { cls := .type "tuple", dict := dd, data := .seq items n, slots := sl } ∧ R (.ok (.ret (Value.ref l))) s) :=
  .of_wp fun prog w A R s h => by
    obtain ⟨hp, g, d, tk, os⟩ := s
    obtain ⟨hl, h⟩ := h
    have f1 := AutoSeq1.idx_int
    wp_walk using wpAny_loadPart' hl
    repeat (first
      | (refine wpAny_ite_false (decide_eq_false (by decide)) ?_; wp_walk using wpAny_loadPart' hl)
      | (refine wpAny_ite_true (decide_eq_true (by rw [c1])) ?_; wp_walk using wpAny_loadPart' hl))
    exact ⟨_, rfl, h⟩
def rRepU (K : PySem.W.Frag) : R2 := fun x y H Q => ∃ (l : Addr) (k : Nat) (xs : List V), x = .ref l ∧ y = .int (k : Nat) ∧ SqT K H l xs ∧ xs ≠ [] ∧ 1 ≤ k ∧ k * xs.length ≤ 100000 ∧ (k = 1 → Q (.ref l) H) ∧ (2 ≤ k → ∀ p, H p = none → Q (.ref p) (upd H p (.tup (List.replicate k xs).flatten)))
section
variable {X : Cx}
theorem op_repU : OpR X (binaryOp .Mult) (rRepU X.K) := by
  intro pins s σ H x y v u Q I rx ry h
  obtain ⟨l, k, xs, rfl, rfl, hT, hne, h1, hz, q1, q⟩ := h
  cases rx
  obtain ⟨t, rfl⟩ := ry
  obtain ⟨its, r, ⟨⟨cls, dd, data, sl⟩, ho, hc, n, hd⟩, hs⟩ := I.tuple hT
  simp only at hc hd
  subst hc hd
  have hle : its.length = xs.length := r.length.symm
  have hn : its ≠ [] := fun e => hne (by
    rw [e] at hle
    exact List.eq_nil_of_length_eq_zero hle.symm)
  have hi : its.toArray.isEmpty = false := by
    cases its with
    | nil => exact absurd rfl hn
    | cons a b => rfl
  have hsz0 : its.toArray.size = xs.length := by rw [List.size_toArray, hle]
  by_cases k1 : k = 1
  · subst k1
    refine wpAny_binaryOp_repeat_ref (T := "tuple") (U := "int") (by decide) ⟨_, ho, rfl⟩ (fun s' => typeIs_int s' ((1 : Nat) : Int) t) noFill_tuple_mul F.fills_int_mul F.slot_int_rmul repeat_tuple F.slot_int_index.lookup
      (call_meets F.slot_int_rmul (typeIs_int s ((1 : Nat) : Int) t) F.entry_int_rmul (F.args_int_rmul_2 _ _) (int_rmul_tuple ((1 : Nat) : Int) t l its.toArray n dd sl)
        ⟨ho, rfl, ⟨_, ho, rfl⟩, call_meets F.slot_tuple_mul ⟨_, ho, rfl⟩ F.entry_tuple_mul (F.args_tuple_mul_2 _ _) (tuple_mul1 l its.toArray n dd sl t (by rw [hi]; rfl)) ⟨ho, ?_⟩⟩)
    exact ⟨.ref l, _, I, rfl, q1 rfl⟩
  · have hx1 : 1 ≤ xs.length := List.length_pos_iff.mpr hne
    have hk : k ≤ 100000 := Nat.le_trans (Nat.le_mul_of_pos_right k hx1) hz
    have hm : ((its.toArray.size : Nat) : Int) * (k : Int) ≤ 100000 := by
      rw [hsz0, Int.mul_comm, ← Int.natCast_mul]
      omega
    have flen : (List.replicate k its).flatten.length ≤ sizeLine := by
      rw [PyProof.Rows.lm_len_rep_flat, hle, sizeLine_eq]
      omega
    have ek : ((k : Nat) : Int).toNat = k := by omega
    have c0 : (decide ((k : Int) < -(2 ^ 63)) || decide ((k : Int) ≥ 2 ^ 63)) = false := by
      rw [decide_eq_false (by omega), decide_eq_false (by omega)] <;> rfl
    have c1 : (its.toArray.isEmpty || (k : Int) == 1) = false := by
      rw [hi, Bool.false_or]
      exact beq_eq_false_iff_ne.mpr (by omega)
    have c2 : (decide ((k : Int) ≤ 0) || its.toArray.isEmpty) = false := by
      rw [hi, Bool.or_false]
      exact decide_eq_false (by omega)
    have c4 : Builtin.Tuple.tupleTooMany (((its.toArray.size : Nat) : Int) * (k : Int)) = false := by
      unfold Builtin.Tuple.tupleTooMany
      rw [sizeLine_eq]
      exact decide_eq_false (by omega)
    refine wpAny_binaryOp_repeat_ref (T := "tuple") (U := "int") (by decide) ⟨_, ho, rfl⟩ (fun s' => typeIs_int s' (k : Int) t) noFill_tuple_mul F.fills_int_mul F.slot_int_rmul repeat_tuple F.slot_int_index.lookup
      (call_meets F.slot_int_rmul (typeIs_int s (k : Int) t) F.entry_int_rmul (F.args_int_rmul_2 _ _) (int_rmul_tuple (k : Int) t l its.toArray n dd sl)
        ⟨ho, rfl, ⟨_, ho, rfl⟩, call_meets F.slot_tuple_mul ⟨_, ho, rfl⟩ F.entry_tuple_mul (F.args_tuple_mul_2 _ _) (tuple_mulW l its.toArray n dd sl (k : Int) t c0 c1 c2 (by omega) c4 (by rw [size_rep, List.size_toArray, ek]; exact flen)) ⟨ho, ?_⟩⟩)
    rw [size_rep, ek]
    refine ⟨.ref s.heap.objs.size, _, I.laid (t' := s.toks) (o := .tup (List.replicate k xs).flatten) (fun b ob q => Heap.get?_push_of_some _ q) (Nat.le_refl _) ?_, rfl, q (by omega) _ (I.hok.fresh (Nat.le_refl _))⟩
    exact ⟨by rw [PyProof.Rows.lm_len_rep_flat, sizeLine_eq]; omega, _, r.rep k, IsTup.new _ _⟩
end
theorem a_repU {K : PySem.W.Frag} {H : Hp} {Q : VK} {l : Addr} {xs : List V} {k : Nat} (h : SqT K H l xs) (hne : xs ≠ []) (h1 : 1 ≤ k) (hz : k * xs.length ≤ 100000) (q : ∀ p H2, Same H H2 → SqT K H2 p (List.replicate k xs).flatten → Q (.ref p) H2) : rRepU K (.ref l) (.int (k : Nat)) H Q :=
  ⟨l, k, xs, rfl, rfl, h, hne, h1, hz, fun e => q l H (Same.refl _) (by subst e; simpa using h), fun _ p hp => q p _ (same_new hp) (SqT.of upd_same)⟩
theorem k_repU {X : Cx} {K : PySem.W.Frag} (hK : X.K = K) : OpR X (binaryOp .Mult) (rRepU K) := hK ▸ op_repU
/-! ### tuple slices -/
theorem a_slT {K : PySem.W.Frag} {H : Hp} {Q : VK} {p : Addr} {xs : List V} {lo hi : Option Int} (h : SqT K H p xs) (q : ∀ l H2, Same H H2 → SqT K H2 l (cutV xs lo hi) → Q (.ref l) H2) : rSlU K (.ref p) lo hi H Q :=
  .inr ⟨p, xs, rfl, h, fun z => q p H (Same.refl _) (by unfold cutV; rw [z.1, z.2]; simpa using h), fun _ l hl => q l _ (same_new hl) (SqT.of upd_same)⟩
theorem cut_mid {β : Type} {xs : List β} {i j : Nat} (hi : i ≤ xs.length) (hj : j ≤ xs.length) : cut xs (some (i : Int)) (some (j : Int)) = (xs.drop i).take (j - i) := by
  unfold cut
  rw [HT.sIx_nat, HT.sIx_nat, Nat.min_eq_left hi, Nat.min_eq_left hj]
end TT

namespace TT
open PySem PySem.Spec PyProof.Rows L2
local macro_rules | `(tactic| walk_at "tt") => `(tactic| first
  | with_reducible refine g_seq ?_
  | with_reducible refine g_yesE ?_
  | with_reducible refine g_raise ?_
  | with_reducible refine g_cos ?_
  | with_reducible refine g_gone ?_
  | with_reducible refine g_r0 ?_
  | with_reducible refine g_oex ?_
  | with_reducible refine g_try ?_
  | with_reducible refine g_FS ?_
  | with_reducible refine g_MS ?_
  | with_reducible refine g_KS ?_
  | with_reducible refine g_SS ?_
  | with_reducible refine g_BS ?_
  | with_reducible refine g_set ?_
  | with_reducible refine g_c ?_
  | ((with_reducible show tVar _ _ _ _); refine g_var rfl ?_)
  | with_reducible refine g_op ?_
  | with_reducible refine g_un ?_
  | with_reducible refine g_nil ?_
  | with_reducible refine g_cons ?_
  | with_reducible refine g_cb ?_
  | with_reducible refine g_if ?_
  | with_reducible refine g_ife ?_
  | with_reducible refine g_test ?_
  | with_reducible refine a_bl ?_
  | with_reducible refine g_tr ?_
  | with_reducible refine g_not ?_
  | with_reducible refine g_or ?_
  | with_reducible refine g_and ?_
  | with_reducible refine g_F ?_
  | with_reducible refine g_S ?_
  | with_reducible refine g_lst ?_
  | with_reducible refine g_tup ?_
  | with_reducible refine g_fld ?_
  | with_reducible refine g_sfld ?_
  | with_reducible refine g_methR ?_
  | with_reducible refine g_andV ?_
  | with_reducible refine g_orV ?_
  | with_reducible refine g_notT ?_
  | with_reducible refine g_chain ?_
  | with_reducible refine g_bm ?_
  | with_reducible refine g_bm0 ?_
  | with_reducible refine g_sl ?_
  | with_reducible refine g_nop ?_
  | with_reducible refine g_part ?_
  | with_reducible refine g_ret ?_
  | with_reducible refine g_drop ?_
  | with_reducible refine g_next ?_
  | with_reducible refine g_asg ?_
  | with_reducible refine g_sub ?_
  | with_reducible refine g_par ?_
  | with_reducible refine g_for ?_
  | with_reducible refine g_iSeq ?_
  | with_reducible refine g_iTup ?_
  | with_reducible refine g_iList ?_
  | with_reducible refine g_iRng ?_
  | with_reducible refine g_iEt ?_
  | with_reducible refine g_iEn ?_
  | with_reducible refine g_mk ?_
  | with_reducible refine g_lrg ?_
  | with_reducible refine g_rg1 ?_
  | with_reducible refine a_truB ?_
  | with_reducible refine a_truI ?_
  | with_reducible refine g_gcons ?_
  | with_reducible refine g_gnil ?_
  | with_reducible refine g_gname ?_
  | ((with_reducible show gTup _ _ _ (V.ref _) _ _ _); refine g_gtup (SqT.of (by assumption)) rfl ?_)
  | with_reducible refine g_co ?_
  | with_reducible refine a_two ?_
  | with_reducible refine g_dget ?_
  | with_reducible refine g_din ?_
  | with_reducible refine g_dnin ?_
  | with_reducible refine g_dput ?_
  | with_reducible refine g_dnew ?_
  | with_reducible refine g_dnewT ?_
  | with_reducible refine g_tB ?_
  | with_reducible refine g_iKeys ?_
  | with_reducible refine g_iEs ?_
  | with_reducible refine g_ixS ?_
  | with_reducible refine g_rev ?_
  | with_reducible refine g_dget2 ?_
  | with_reducible refine g_iStr ?_
  | with_reducible refine g_trg ?_
  | with_reducible refine g_par3 ?_
  | with_reducible refine a_three ?_
  | with_reducible refine g_exv ?_
  | with_reducible refine g_exv0 ?_
  | with_reducible refine g_xe ?_
  | with_reducible refine g_m1 ?_
  | with_reducible refine a_isStr ?_
  | ((with_reducible show tAug _ _ _ _ _ _); refine g_aug rfl ?_)
  | with_reducible refine a_max2 ?_
  | with_reducible refine a_min2 ?_
  | with_reducible refine a_inSU ?_
  | with_reducible refine a_int ?_
  | with_reducible refine a_addI ?_
  | with_reducible refine a_I0 ?_
  | with_reducible refine a_U ?_
  | with_reducible refine a_ipI ?_
  | with_reducible refine a_int1 ?_
  | ((with_reducible refine a_eq ?_ ?_); (exact rfl))
  | ((with_reducible refine a_ne ?_ ?_); (exact rfl))
  | ((with_reducible show rIx _ (V.ref _) (V.int _) _ _); refine a_ixL (SqL.of (by assumption)) rfl ?_)
  | ((with_reducible show rLenU _ [V.ref _] _ _); refine a_lenL (SqL.of (by assumption)) ?_)
  | ((with_reducible show rLenU _ [V.ref _] _ _); refine a_lenT (SqT.of (by assumption)) ?_)
  | ((with_reducible refine a_mulI ?_ ?_); (dsimp only [CMul]; omega))
  | ((with_reducible refine a_I ?_ ?_); ((try dsimp only [CDiv, CPow, CMul]); omega)))
local macro_rules | `(tactic| walk_at "go") => `(tactic| (repeat walk_at "tt"))
local macro_rules | `(tactic| walk_at "if") => `(tactic| ((repeat ((fail_if_success (with_reducible show tSeq (tIfS _ _ _) _ _ _ _)); walk_at "tt")); (with_reducible show tSeq (tIfS _ _ _) _ _ _ _)))

def top (i : Nat) : Stmt := PySem.Challenge.pw_triedtells_k10_whole_values_of_schemes.main.body.getD i (.Pass ⟨0, 0, 0, 0⟩)
abbrev s__wall : Stmt := top 0
abbrev s_BadStep_init : Stmt := inClass (top 3) 0
abbrev s_NoStep_init : Stmt := inClass (top 4) 0
abbrev s_BadScheme_init : Stmt := inClass (top 5) 0
abbrev s_WrongLength_init : Stmt := inClass (top 6) 0
abbrev s_BadTable_init : Stmt := inClass (top 7) 0
abbrev s_OtherSize_init : Stmt := inClass (top 8) 0
abbrev s_NoPoint_init : Stmt := inClass (top 9) 0
abbrev s_fits_name : Stmt := top 14
abbrev s_cancelled_steps : Stmt := top 15
abbrev s_inverse_steps : Stmt := top 16
abbrev s_Word_init : Stmt := inClass (top 17) 0
abbrev s_Word_len : Stmt := inClass (top 17) 1
abbrev s_Word_iter : Stmt := inClass (top 17) 2
abbrev s_Word_eq : Stmt := inClass (top 17) 3
abbrev s_Word_getitem : Stmt := inClass (top 17) 4
abbrev s_Word_mul : Stmt := inClass (top 17) 5
abbrev s_Word_invert : Stmt := inClass (top 17) 6
abbrev s_Word_power : Stmt := inClass (top 17) 7
abbrev s_Word_tail : Stmt := inClass (top 17) 8
abbrev s_Word_counts : Stmt := inClass (top 17) 9
abbrev s_Scheme_init : Stmt := inClass (top 21) 0
abbrev s_Scheme_word : Stmt := inClass (top 21) 1
abbrev s_Scheme_value : Stmt := inClass (top 21) 2
abbrev s_check_size : Stmt := top 24
abbrev s_Table_init : Stmt := inClass (top 25) 0
abbrev s_Table_len : Stmt := inClass (top 25) 1
abbrev s_Table_call : Stmt := inClass (top 25) 2
abbrev s_Table_mul : Stmt := inClass (top 25) 3
abbrev s_Table_invert : Stmt := inClass (top 25) 4
abbrev s_Table_power : Stmt := inClass (top 25) 5
abbrev s_Table_eq : Stmt := inClass (top 25) 6
abbrev s_Table_order : Stmt := inClass (top 25) 7
abbrev s_Table_neutral : Stmt := inClass (top 25) 8
abbrev s__law_start : Stmt := top 27
abbrev s__law_draw : Stmt := top 28
abbrev s__law_name : Stmt := top 29
abbrev s__law_names : Stmt := top 30
abbrev s__law_steps : Stmt := top 31
abbrev s__law_reduced : Stmt := top 32
abbrev s__law_turned : Stmt := top 33
abbrev s__law_image : Stmt := top 34
abbrev s__law_lines : Stmt := top 35
abbrev s__law_word_value : Stmt := top 36
abbrev s__law_back : Stmt := top 37
abbrev s__law_table_value : Stmt := top 38
abbrev s__law_wrong : Stmt := top 39
abbrev s__law_kept : Stmt := top 40
abbrev s_law : Stmt := top 41
structure Txt (K : PySem.W.Frag) (mg : Str → Option Value) : Prop where
  b_ValueError : mg "ValueError" = none
  b_range : mg "range" = none
  b_list : mg "list" = none
  b_all : mg "all" = none
  b_enumerate : mg "enumerate" = none
  b_tuple : mg "tuple" = none
  b_len : mg "len" = none
  b_iter : mg "iter" = none
  b_isinstance : mg "isinstance" = none
  b_int : mg "int" = none
  b_sum : mg "sum" = none
  b_max : mg "max" = none
  b_min : mg "min" = none
  k_LETTERS : ∃ u, mg "LETTERS" = some u ∧ RelV (.str "abcdefghijklmnopqrstuvwxyz") u
  k_MOST : ∃ u, mg "MOST" = some u ∧ RelV (.int 20000) u
  k_LINES : ∃ u, mg "LINES" = some u ∧ RelV (.int 20000) u
  k_PAIRS : ∃ u, mg "PAIRS" = some u ∧ RelV (.int 8) u
  k_MOST_POINTS : ∃ u, mg "MOST_POINTS" = some u ∧ RelV (.int 3300) u
  g_TriedError : mg "TriedError" = some (.ref (He.ga K "TriedError"))
  g_BadStep : mg "BadStep" = some (.ref (He.ga K "BadStep"))
  g_NoStep : mg "NoStep" = some (.ref (He.ga K "NoStep"))
  g_BadScheme : mg "BadScheme" = some (.ref (He.ga K "BadScheme"))
  g_WrongLength : mg "WrongLength" = some (.ref (He.ga K "WrongLength"))
  g_BadTable : mg "BadTable" = some (.ref (He.ga K "BadTable"))
  g_OtherSize : mg "OtherSize" = some (.ref (He.ga K "OtherSize"))
  g_NoPoint : mg "NoPoint" = some (.ref (He.ga K "NoPoint"))
  g_TooGreat : mg "TooGreat" = some (.ref (He.ga K "TooGreat"))
  g_Word : mg "Word" = some (.ref (He.ga K "Word"))
  o_Word : Own K (He.ga K "Word")
  mk_Word : Mk K (He.ga K "Word") (He.ma K (He.ga K "Word") "__init__")
  n_Word_steps : NoAttr K (He.ga K "Word") "steps"
  m_Word_len : Meth K (He.ga K "Word") "__len__" (He.ma K (He.ga K "Word") "__len__")
  m_Word_iter : Meth K (He.ga K "Word") "__iter__" (He.ma K (He.ga K "Word") "__iter__")
  m_Word_eq : Meth K (He.ga K "Word") "__eq__" (He.ma K (He.ga K "Word") "__eq__")
  m_Word_getitem : Meth K (He.ga K "Word") "__getitem__" (He.ma K (He.ga K "Word") "__getitem__")
  m_Word_mul : Meth K (He.ga K "Word") "__mul__" (He.ma K (He.ga K "Word") "__mul__")
  m_Word_invert : Meth K (He.ga K "Word") "__invert__" (He.ma K (He.ga K "Word") "__invert__")
  m_Word_power : Meth K (He.ga K "Word") "power" (He.ma K (He.ga K "Word") "power")
  m_Word_tail : Meth K (He.ga K "Word") "tail" (He.ma K (He.ga K "Word") "tail")
  m_Word_counts : Meth K (He.ga K "Word") "counts" (He.ma K (He.ga K "Word") "counts")
  g_Scheme : mg "Scheme" = some (.ref (He.ga K "Scheme"))
  o_Scheme : Own K (He.ga K "Scheme")
  mk_Scheme : Mk K (He.ga K "Scheme") (He.ma K (He.ga K "Scheme") "__init__")
  n_Scheme_sources : NoAttr K (He.ga K "Scheme") "sources"
  n_Scheme_lines : NoAttr K (He.ga K "Scheme") "lines"
  m_Scheme_word : Meth K (He.ga K "Scheme") "word" (He.ma K (He.ga K "Scheme") "word")
  m_Scheme_value : Meth K (He.ga K "Scheme") "value" (He.ma K (He.ga K "Scheme") "value")
  g_Table : mg "Table" = some (.ref (He.ga K "Table"))
  o_Table : Own K (He.ga K "Table")
  mk_Table : Mk K (He.ga K "Table") (He.ma K (He.ga K "Table") "__init__")
  n_Table_image : NoAttr K (He.ga K "Table") "image"
  m_Table_len : Meth K (He.ga K "Table") "__len__" (He.ma K (He.ga K "Table") "__len__")
  m_Table_call : Meth K (He.ga K "Table") "__call__" (He.ma K (He.ga K "Table") "__call__")
  m_Table_mul : Meth K (He.ga K "Table") "__mul__" (He.ma K (He.ga K "Table") "__mul__")
  m_Table_invert : Meth K (He.ga K "Table") "__invert__" (He.ma K (He.ga K "Table") "__invert__")
  m_Table_power : Meth K (He.ga K "Table") "power" (He.ma K (He.ga K "Table") "power")
  m_Table_eq : Meth K (He.ga K "Table") "__eq__" (He.ma K (He.ga K "Table") "__eq__")
  m_Table_order : Meth K (He.ga K "Table") "order" (He.ma K (He.ga K "Table") "order")
  s_Table_neutral : StaF K (He.ga K "Table") "neutral" (He5.wf K (He.ga K "Table") "staticmethod" "neutral")
  x_BadStep : Err K (He.ga K "BadStep")
  nx_BadStep_number : PySem.W.findIn K (.ref (He.ga K "BadStep")) "number" = some none
  xi_BadStep : PySem.W.findIn K (.ref (He.ga K "BadStep")) "__init__" = some (some (.ref (He.ma K (He.ga K "BadStep") "__init__")))
  xt_BadStep : PySem.W.typeIn K (.ref (He.ma K (He.ga K "BadStep") "__init__")) = some (.type "function")
  x_NoStep : Err K (He.ga K "NoStep")
  nx_NoStep_number : PySem.W.findIn K (.ref (He.ga K "NoStep")) "number" = some none
  xi_NoStep : PySem.W.findIn K (.ref (He.ga K "NoStep")) "__init__" = some (some (.ref (He.ma K (He.ga K "NoStep") "__init__")))
  xt_NoStep : PySem.W.typeIn K (.ref (He.ma K (He.ga K "NoStep") "__init__")) = some (.type "function")
  x_TooGreat : Err K (He.ga K "TooGreat")
  r_TooGreat : Rai0 K mg "TooGreat" (He.ga K "TooGreat")
  x_BadScheme : Err K (He.ga K "BadScheme")
  nx_BadScheme_line : PySem.W.findIn K (.ref (He.ga K "BadScheme")) "line" = some none
  xi_BadScheme : PySem.W.findIn K (.ref (He.ga K "BadScheme")) "__init__" = some (some (.ref (He.ma K (He.ga K "BadScheme") "__init__")))
  xt_BadScheme : PySem.W.typeIn K (.ref (He.ma K (He.ga K "BadScheme") "__init__")) = some (.type "function")
  x_WrongLength : Err K (He.ga K "WrongLength")
  nx_WrongLength_wanted : PySem.W.findIn K (.ref (He.ga K "WrongLength")) "wanted" = some none
  nx_WrongLength_length : PySem.W.findIn K (.ref (He.ga K "WrongLength")) "length" = some none
  xi_WrongLength : PySem.W.findIn K (.ref (He.ga K "WrongLength")) "__init__" = some (some (.ref (He.ma K (He.ga K "WrongLength") "__init__")))
  xt_WrongLength : PySem.W.typeIn K (.ref (He.ma K (He.ga K "WrongLength") "__init__")) = some (.type "function")
  ki_WrongLength_TriedError : PySem.W.kitOne K (.ref (He.ga K "WrongLength")) (.ref (He.ga K "TriedError")) = some true
  xm_WrongLength_WrongLength : PySem.W.exmOne K (.ref (He.ga K "WrongLength")) (.ref (He.ga K "WrongLength")) = some true
  g_fits_name : mg "fits_name" = some (.ref (He.ga K "fits_name"))
  g_cancelled_steps : mg "cancelled_steps" = some (.ref (He.ga K "cancelled_steps"))
  g_inverse_steps : mg "inverse_steps" = some (.ref (He.ga K "inverse_steps"))
  g_check_size : mg "check_size" = some (.ref (He.ga K "check_size"))
  g__law_start : mg "_law_start" = some (.ref (He.ga K "_law_start"))
  g__law_draw : mg "_law_draw" = some (.ref (He.ga K "_law_draw"))
  g__law_name : mg "_law_name" = some (.ref (He.ga K "_law_name"))
  g__law_names : mg "_law_names" = some (.ref (He.ga K "_law_names"))
  g__law_steps : mg "_law_steps" = some (.ref (He.ga K "_law_steps"))
  g__law_reduced : mg "_law_reduced" = some (.ref (He.ga K "_law_reduced"))
  g__law_turned : mg "_law_turned" = some (.ref (He.ga K "_law_turned"))
  g__law_image : mg "_law_image" = some (.ref (He.ga K "_law_image"))
  g__law_lines : mg "_law_lines" = some (.ref (He.ga K "_law_lines"))
  g__law_word_value : mg "_law_word_value" = some (.ref (He.ga K "_law_word_value"))
  g__law_back : mg "_law_back" = some (.ref (He.ga K "_law_back"))
  g__law_table_value : mg "_law_table_value" = some (.ref (He.ga K "_law_table_value"))
  g__law_wrong : mg "_law_wrong" = some (.ref (He.ga K "_law_wrong"))
  g__law_kept : mg "_law_kept" = some (.ref (He.ga K "_law_kept"))
  g_law : mg "law" = some (.ref (He.ga K "law"))
  i_Word : PySem.W.kitOne K (.ref (He.ga K "Word")) (.ref (He.ga K "Word")) = some true
  it_Word : PySem.W.kitOne K (.type "tuple") (.ref (He.ga K "Word")) = some false
  il_Word : PySem.W.kitOne K (.type "list") (.ref (He.ga K "Word")) = some false
  nf_Word : PySem.W.notFirst K (He.ga K "Word") (.ref (He.ga K "Word")) = true
  nft_Word : PySem.W.notFirst K (He.ga K "Word") (.type "tuple") = true
  nfl_Word : PySem.W.notFirst K (He.ga K "Word") (.type "list") = true
  et_Word : etB K (He.dflAt ("Word", some "__init__") 0 K) = true
  i_Table : PySem.W.kitOne K (.ref (He.ga K "Table")) (.ref (He.ga K "Table")) = some true
  it_Table : PySem.W.kitOne K (.type "tuple") (.ref (He.ga K "Table")) = some false
  nf_Table : PySem.W.notFirst K (He.ga K "Table") (.ref (He.ga K "Table")) = true
  nft_Table : PySem.W.notFirst K (He.ga K "Table") (.type "tuple") = true
def facts : List (PySem.W.Frag → Bool) := [
  fun K => (He.Fa.free "ValueError").ok K,
  fun K => (He.Fa.free "range").ok K,
  fun K => (He.Fa.free "list").ok K,
  fun K => (He.Fa.free "all").ok K,
  fun K => (He.Fa.free "enumerate").ok K,
  fun K => (He.Fa.free "tuple").ok K,
  fun K => (He.Fa.free "len").ok K,
  fun K => (He.Fa.free "iter").ok K,
  fun K => (He.Fa.free "isinstance").ok K,
  fun K => (He.Fa.free "int").ok K,
  fun K => (He.Fa.free "sum").ok K,
  fun K => (He.Fa.free "max").ok K,
  fun K => (He.Fa.free "min").ok K,
  fun K => (He.Fa.str "LETTERS" "abcdefghijklmnopqrstuvwxyz").ok K,
  fun K => (He.Fa.int "MOST" 20000).ok K,
  fun K => (He.Fa.int "LINES" 20000).ok K,
  fun K => (He.Fa.int "PAIRS" 8).ok K,
  fun K => (He.Fa.int "MOST_POINTS" 3300).ok K,
  fun K => (He.Fa.glo "TriedError").ok K,
  fun K => (He.Fa.glo "BadStep").ok K,
  fun K => (He.Fa.glo "NoStep").ok K,
  fun K => (He.Fa.glo "BadScheme").ok K,
  fun K => (He.Fa.glo "WrongLength").ok K,
  fun K => (He.Fa.glo "BadTable").ok K,
  fun K => (He.Fa.glo "OtherSize").ok K,
  fun K => (He.Fa.glo "NoPoint").ok K,
  fun K => (He.Fa.glo "TooGreat").ok K,
  fun K => (He.Fa.glo "Word").ok K,
  fun K => ownB K (He.ga K "Word"),
  fun K => (He.Fa.mkr "Word").ok K,
  fun K => (He.Fa.noat "Word" "steps").ok K,
  fun K => (He.Fa.meth "Word" "__len__").ok K,
  fun K => (He.Fa.meth "Word" "__iter__").ok K,
  fun K => (He.Fa.meth "Word" "__eq__").ok K,
  fun K => (He.Fa.meth "Word" "__getitem__").ok K,
  fun K => (He.Fa.meth "Word" "__mul__").ok K,
  fun K => (He.Fa.meth "Word" "__invert__").ok K,
  fun K => (He.Fa.meth "Word" "power").ok K,
  fun K => (He.Fa.meth "Word" "tail").ok K,
  fun K => (He.Fa.meth "Word" "counts").ok K,
  fun K => (He.Fa.glo "Scheme").ok K,
  fun K => ownB K (He.ga K "Scheme"),
  fun K => (He.Fa.mkr "Scheme").ok K,
  fun K => (He.Fa.noat "Scheme" "sources").ok K,
  fun K => (He.Fa.noat "Scheme" "lines").ok K,
  fun K => (He.Fa.meth "Scheme" "word").ok K,
  fun K => (He.Fa.meth "Scheme" "value").ok K,
  fun K => (He.Fa.glo "Table").ok K,
  fun K => ownB K (He.ga K "Table"),
  fun K => (He.Fa.mkr "Table").ok K,
  fun K => (He.Fa.noat "Table" "image").ok K,
  fun K => (He.Fa.meth "Table" "__len__").ok K,
  fun K => (He.Fa.meth "Table" "__call__").ok K,
  fun K => (He.Fa.meth "Table" "__mul__").ok K,
  fun K => (He.Fa.meth "Table" "__invert__").ok K,
  fun K => (He.Fa.meth "Table" "power").ok K,
  fun K => (He.Fa.meth "Table" "__eq__").ok K,
  fun K => (He.Fa.meth "Table" "order").ok K,
  fun K => staB K (He.ga K "Table") "neutral",
  fun K => errB K (He.ga K "BadStep"),
  fun K => He.eqO (PySem.W.findIn K (.ref (He.ga K "BadStep")) "number") (some none),
  fun K => He.eqO (PySem.W.findIn K (.ref (He.ga K "BadStep")) "__init__") (some (some (.ref (He.ma K (He.ga K "BadStep") "__init__")))),
  fun K => PySem.W.typeIn K (.ref (He.ma K (He.ga K "BadStep") "__init__")) == some (.type "function"),
  fun K => errB K (He.ga K "NoStep"),
  fun K => He.eqO (PySem.W.findIn K (.ref (He.ga K "NoStep")) "number") (some none),
  fun K => He.eqO (PySem.W.findIn K (.ref (He.ga K "NoStep")) "__init__") (some (some (.ref (He.ma K (He.ga K "NoStep") "__init__")))),
  fun K => PySem.W.typeIn K (.ref (He.ma K (He.ga K "NoStep") "__init__")) == some (.type "function"),
  fun K => errB K (He.ga K "TooGreat"),
  fun K => PySem.W.excIn K (He.ga K "TooGreat") [.type "ValueError", .type "Exception", .type "BaseException", .type "object"] "ValueError.__new__",
  fun K => errB K (He.ga K "BadScheme"),
  fun K => He.eqO (PySem.W.findIn K (.ref (He.ga K "BadScheme")) "line") (some none),
  fun K => He.eqO (PySem.W.findIn K (.ref (He.ga K "BadScheme")) "__init__") (some (some (.ref (He.ma K (He.ga K "BadScheme") "__init__")))),
  fun K => PySem.W.typeIn K (.ref (He.ma K (He.ga K "BadScheme") "__init__")) == some (.type "function"),
  fun K => errB K (He.ga K "WrongLength"),
  fun K => He.eqO (PySem.W.findIn K (.ref (He.ga K "WrongLength")) "wanted") (some none),
  fun K => He.eqO (PySem.W.findIn K (.ref (He.ga K "WrongLength")) "length") (some none),
  fun K => He.eqO (PySem.W.findIn K (.ref (He.ga K "WrongLength")) "__init__") (some (some (.ref (He.ma K (He.ga K "WrongLength") "__init__")))),
  fun K => PySem.W.typeIn K (.ref (He.ma K (He.ga K "WrongLength") "__init__")) == some (.type "function"),
  fun K => decide (PySem.W.kitOne K (.ref (He.ga K "WrongLength")) (.ref (He.ga K "TriedError")) = some true),
  fun K => decide (PySem.W.exmOne K (.ref (He.ga K "WrongLength")) (.ref (He.ga K "WrongLength")) = some true),
  fun K => (He.Fa.glo "fits_name").ok K,
  fun K => (He.Fa.glo "cancelled_steps").ok K,
  fun K => (He.Fa.glo "inverse_steps").ok K,
  fun K => (He.Fa.glo "check_size").ok K,
  fun K => (He.Fa.glo "_law_start").ok K,
  fun K => (He.Fa.glo "_law_draw").ok K,
  fun K => (He.Fa.glo "_law_name").ok K,
  fun K => (He.Fa.glo "_law_names").ok K,
  fun K => (He.Fa.glo "_law_steps").ok K,
  fun K => (He.Fa.glo "_law_reduced").ok K,
  fun K => (He.Fa.glo "_law_turned").ok K,
  fun K => (He.Fa.glo "_law_image").ok K,
  fun K => (He.Fa.glo "_law_lines").ok K,
  fun K => (He.Fa.glo "_law_word_value").ok K,
  fun K => (He.Fa.glo "_law_back").ok K,
  fun K => (He.Fa.glo "_law_table_value").ok K,
  fun K => (He.Fa.glo "_law_wrong").ok K,
  fun K => (He.Fa.glo "_law_kept").ok K,
  fun K => (He.Fa.glo "law").ok K,
  fun K => decide (PySem.W.kitOne K (.ref (He.ga K "Word")) (.ref (He.ga K "Word")) = some true),
  fun K => decide (PySem.W.kitOne K (.type "tuple") (.ref (He.ga K "Word")) = some false),
  fun K => decide (PySem.W.kitOne K (.type "list") (.ref (He.ga K "Word")) = some false),
  fun K => PySem.W.notFirst K (He.ga K "Word") (.ref (He.ga K "Word")),
  fun K => PySem.W.notFirst K (He.ga K "Word") (.type "tuple"),
  fun K => PySem.W.notFirst K (He.ga K "Word") (.type "list"),
  fun K => etB K (He.dflAt ("Word", some "__init__") 0 K),
  fun K => decide (PySem.W.kitOne K (.ref (He.ga K "Table")) (.ref (He.ga K "Table")) = some true),
  fun K => decide (PySem.W.kitOne K (.type "tuple") (.ref (He.ga K "Table")) = some false),
  fun K => PySem.W.notFirst K (He.ga K "Table") (.ref (He.ga K "Table")),
  fun K => PySem.W.notFirst K (He.ga K "Table") (.type "tuple")]
def fbs (K : PySem.W.Frag) : Bool := facts.all fun f => f K
structure FbsOk (K : PySem.W.Frag) : Prop where
  ok : fbs K = true
theorem FbsOk.fact {K : PySem.W.Frag} (c : FbsOk K) (i : Nat) {f : PySem.W.Frag → Bool} (h : facts[i]? = some f := by rfl) : f K = true := List.all_eq_true.mp c.ok f (List.mem_of_getElem? h)
theorem txt_of {K : PySem.W.Frag} {h : Heap} {mg : Str → Option Value} (X : K.In h) (G : h.Ns mainGlobals mg) (c : FbsOk K) : Txt K mg where
    b_ValueError := He.free_ok X G (c.fact 0)
    b_range := He.free_ok X G (c.fact 1)
    b_list := He.free_ok X G (c.fact 2)
    b_all := He.free_ok X G (c.fact 3)
    b_enumerate := He.free_ok X G (c.fact 4)
    b_tuple := He.free_ok X G (c.fact 5)
    b_len := He.free_ok X G (c.fact 6)
    b_iter := He.free_ok X G (c.fact 7)
    b_isinstance := He.free_ok X G (c.fact 8)
    b_int := He.free_ok X G (c.fact 9)
    b_sum := He.free_ok X G (c.fact 10)
    b_max := He.free_ok X G (c.fact 11)
    b_min := He.free_ok X G (c.fact 12)
    k_LETTERS := (let ⟨t, h⟩ := He.str_ok X G (c.fact 13); ⟨_, h, ⟨t, rfl⟩⟩)
    k_MOST := (let ⟨t, h⟩ := He.int_ok X G (c.fact 14); ⟨_, h, ⟨t, rfl⟩⟩)
    k_LINES := (let ⟨t, h⟩ := He.int_ok X G (c.fact 15); ⟨_, h, ⟨t, rfl⟩⟩)
    k_PAIRS := (let ⟨t, h⟩ := He.int_ok X G (c.fact 16); ⟨_, h, ⟨t, rfl⟩⟩)
    k_MOST_POINTS := (let ⟨t, h⟩ := He.int_ok X G (c.fact 17); ⟨_, h, ⟨t, rfl⟩⟩)
    g_TriedError := He.glo_ok X G (c.fact 18)
    g_BadStep := He.glo_ok X G (c.fact 19)
    g_NoStep := He.glo_ok X G (c.fact 20)
    g_BadScheme := He.glo_ok X G (c.fact 21)
    g_WrongLength := He.glo_ok X G (c.fact 22)
    g_BadTable := He.glo_ok X G (c.fact 23)
    g_OtherSize := He.glo_ok X G (c.fact 24)
    g_NoPoint := He.glo_ok X G (c.fact 25)
    g_TooGreat := He.glo_ok X G (c.fact 26)
    g_Word := He.glo_ok X G (c.fact 27)
    o_Word := ownB_ok (c.fact 28)
    mk_Word := He.mkr_ok (c.fact 29)
    n_Word_steps := He.noat_ok (c.fact 30)
    m_Word_len := He.meth_ok (c.fact 31)
    m_Word_iter := He.meth_ok (c.fact 32)
    m_Word_eq := He.meth_ok (c.fact 33)
    m_Word_getitem := He.meth_ok (c.fact 34)
    m_Word_mul := He.meth_ok (c.fact 35)
    m_Word_invert := He.meth_ok (c.fact 36)
    m_Word_power := He.meth_ok (c.fact 37)
    m_Word_tail := He.meth_ok (c.fact 38)
    m_Word_counts := He.meth_ok (c.fact 39)
    g_Scheme := He.glo_ok X G (c.fact 40)
    o_Scheme := ownB_ok (c.fact 41)
    mk_Scheme := He.mkr_ok (c.fact 42)
    n_Scheme_sources := He.noat_ok (c.fact 43)
    n_Scheme_lines := He.noat_ok (c.fact 44)
    m_Scheme_word := He.meth_ok (c.fact 45)
    m_Scheme_value := He.meth_ok (c.fact 46)
    g_Table := He.glo_ok X G (c.fact 47)
    o_Table := ownB_ok (c.fact 48)
    mk_Table := He.mkr_ok (c.fact 49)
    n_Table_image := He.noat_ok (c.fact 50)
    m_Table_len := He.meth_ok (c.fact 51)
    m_Table_call := He.meth_ok (c.fact 52)
    m_Table_mul := He.meth_ok (c.fact 53)
    m_Table_invert := He.meth_ok (c.fact 54)
    m_Table_power := He.meth_ok (c.fact 55)
    m_Table_eq := He.meth_ok (c.fact 56)
    m_Table_order := He.meth_ok (c.fact 57)
    s_Table_neutral := staB_ok (c.fact 58)
    x_BadStep := errB_ok (c.fact 59)
    nx_BadStep_number := He.eqO_ok (c.fact 60)
    xi_BadStep := He.eqO_ok (c.fact 61)
    xt_BadStep := eq_of_beq (c.fact 62)
    x_NoStep := errB_ok (c.fact 63)
    nx_NoStep_number := He.eqO_ok (c.fact 64)
    xi_NoStep := He.eqO_ok (c.fact 65)
    xt_NoStep := eq_of_beq (c.fact 66)
    x_TooGreat := errB_ok (c.fact 67)
    r_TooGreat := ⟨He.glo_ok X G (c.fact 26), errB_ok (c.fact 67), (c.fact 68)⟩
    x_BadScheme := errB_ok (c.fact 69)
    nx_BadScheme_line := He.eqO_ok (c.fact 70)
    xi_BadScheme := He.eqO_ok (c.fact 71)
    xt_BadScheme := eq_of_beq (c.fact 72)
    x_WrongLength := errB_ok (c.fact 73)
    nx_WrongLength_wanted := He.eqO_ok (c.fact 74)
    nx_WrongLength_length := He.eqO_ok (c.fact 75)
    xi_WrongLength := He.eqO_ok (c.fact 76)
    xt_WrongLength := eq_of_beq (c.fact 77)
    ki_WrongLength_TriedError := of_decide_eq_true (c.fact 78)
    xm_WrongLength_WrongLength := of_decide_eq_true (c.fact 79)
    g_fits_name := He.glo_ok X G (c.fact 80)
    g_cancelled_steps := He.glo_ok X G (c.fact 81)
    g_inverse_steps := He.glo_ok X G (c.fact 82)
    g_check_size := He.glo_ok X G (c.fact 83)
    g__law_start := He.glo_ok X G (c.fact 84)
    g__law_draw := He.glo_ok X G (c.fact 85)
    g__law_name := He.glo_ok X G (c.fact 86)
    g__law_names := He.glo_ok X G (c.fact 87)
    g__law_steps := He.glo_ok X G (c.fact 88)
    g__law_reduced := He.glo_ok X G (c.fact 89)
    g__law_turned := He.glo_ok X G (c.fact 90)
    g__law_image := He.glo_ok X G (c.fact 91)
    g__law_lines := He.glo_ok X G (c.fact 92)
    g__law_word_value := He.glo_ok X G (c.fact 93)
    g__law_back := He.glo_ok X G (c.fact 94)
    g__law_table_value := He.glo_ok X G (c.fact 95)
    g__law_wrong := He.glo_ok X G (c.fact 96)
    g__law_kept := He.glo_ok X G (c.fact 97)
    g_law := He.glo_ok X G (c.fact 98)
    i_Word := of_decide_eq_true (c.fact 99)
    it_Word := of_decide_eq_true (c.fact 100)
    il_Word := of_decide_eq_true (c.fact 101)
    nf_Word := (c.fact 102)
    nft_Word := (c.fact 103)
    nfl_Word := (c.fact 104)
    et_Word := (c.fact 105)
    i_Table := of_decide_eq_true (c.fact 106)
    it_Table := of_decide_eq_true (c.fact 107)
    nf_Table := (c.fact 108)
    nft_Table := (c.fact 109)
theorem sc_BadStep_init : FnScope ["self", "number"] ["self", "number"] (defScope s_BadStep_init) := ⟨rfl, rfl, rfl, by decide +kernel, rfl, by decide +kernel, by decide +kernel⟩
theorem ok_BadStep {P : Program} {w : World} {K : PySem.W.Frag} {mg : Str → Option Value} {base : Heap} {f : Addr} {fd : FuncData} (F : FX K "__init__" "BadStep.__init__" s_BadStep_init [] [] f fd) (T : Txt K mg) : FnOk P w K mg base (L2.CX P w) 1 f fd ["self", "number"] (spI1 (He.ga K "BadStep") "number") := by
  refine F.ok sc_BadStep_init (fun vs H Q E h => ?_) (fun cdv A outer s H vs Q E hr h => ?_)
  · obtain ⟨a, v, rfl, _⟩ := h
    rfl
  · obtain ⟨a, v, rfl, ha, k⟩ := h
    refine ⟨_, PSs.nox (pss_one (ps_ost (pv 0) (pv 1))), ?_⟩
    exact ⟨_, rfl, _, rfl, a, He.ga K "BadStep", rfl, T.x_BadStep.ox, T.nx_BadStep_number, .inl ⟨ha, k⟩⟩
theorem sc_NoStep_init : FnScope ["self", "number"] ["self", "number"] (defScope s_NoStep_init) := ⟨rfl, rfl, rfl, by decide +kernel, rfl, by decide +kernel, by decide +kernel⟩
theorem ok_NoStep {P : Program} {w : World} {K : PySem.W.Frag} {mg : Str → Option Value} {base : Heap} {f : Addr} {fd : FuncData} (F : FX K "__init__" "NoStep.__init__" s_NoStep_init [] [] f fd) (T : Txt K mg) : FnOk P w K mg base (L2.CX P w) 1 f fd ["self", "number"] (spI1 (He.ga K "NoStep") "number") := by
  refine F.ok sc_NoStep_init (fun vs H Q E h => ?_) (fun cdv A outer s H vs Q E hr h => ?_)
  · obtain ⟨a, v, rfl, _⟩ := h
    rfl
  · obtain ⟨a, v, rfl, ha, k⟩ := h
    refine ⟨_, PSs.nox (pss_one (ps_ost (pv 0) (pv 1))), ?_⟩
    exact ⟨_, rfl, _, rfl, a, He.ga K "NoStep", rfl, T.x_NoStep.ox, T.nx_NoStep_number, .inl ⟨ha, k⟩⟩
theorem sc_WrongLength_init : FnScope ["self", "wanted", "length"] ["self", "wanted", "length"] (defScope s_WrongLength_init) := ⟨rfl, rfl, rfl, by decide +kernel, rfl, by decide +kernel, by decide +kernel⟩
theorem ok_WrongLength {P : Program} {w : World} {K : PySem.W.Frag} {mg : Str → Option Value} {base : Heap} {f : Addr} {fd : FuncData} (F : FX K "__init__" "WrongLength.__init__" s_WrongLength_init [] [] f fd) (T : Txt K mg) : FnOk P w K mg base (L2.CX P w) 1 f fd ["self", "wanted", "length"] (spI2 (He.ga K "WrongLength") "wanted" "length") := by
  refine F.ok sc_WrongLength_init (fun vs H Q E h => ?_) (fun cdv A outer s H vs Q E hr h => ?_)
  · obtain ⟨a, v, w, rfl, _⟩ := h
    rfl
  · obtain ⟨a, v, w, rfl, ha, k⟩ := h
    refine ⟨_, PSs.nox (pss_cons (ps_ost (pv 0) (pv 1)) (pss_one (ps_ost (pv 0) (pv 2)))), ?_⟩
    refine ⟨_, rfl, _, rfl, a, He.ga K "WrongLength", rfl, T.x_WrongLength.ox, T.nx_WrongLength_wanted, .inl ⟨ha, fun dx hd ne => ?_⟩⟩
    exact ⟨_, rfl, _, rfl, a, He.ga K "WrongLength", rfl, T.x_WrongLength.ox, T.nx_WrongLength_length, .inr ⟨dx, _, upd_same, by rw [upd_ne ne, upd_same], by show 1 ≤ 900; decide, k dx hd ne⟩⟩

/-! ### the pen: what the law draws from -/
structure Pen (H : Hp) (p sc : Addr) (n : Nat) : Prop where
  ex : ∃ (ns : List Int) (a c k : Int), H p = some (.lst [.ref sc, .int a, .int c, .int k]) ∧ H sc = some (.lst (ns.map V.int)) ∧ sc ≠ p ∧ 0 ≤ a ∧ 0 ≤ k ∧ k + (n : Int) ≤ 1000000000
theorem Pen.le {H : Hp} {p sc : Addr} {n m : Nat} (h : Pen H p sc n) (l : m ≤ n) : Pen H p sc m := by
  obtain ⟨ns, a, c, k, h1, h2, h3, h4, h5, h6⟩ := h.ex
  exact ⟨ns, a, c, k, h1, h2, h3, h4, h5, by omega⟩
/-- the pen stands where both its lists stand -/
theorem Pen.mv {H H1 : Hp} {p sc : Addr} {n : Nat} (h : Pen H p sc n) (s : ∀ a o, a = p ∨ a = sc → H a = some o → H1 a = some o) : Pen H1 p sc n := by
  obtain ⟨ns, a, c, k, h1, h2, h3⟩ := h.ex
  exact ⟨ns, a, c, k, s _ _ (.inl rfl) h1, s _ _ (.inr rfl) h2, h3⟩
theorem Pen.same {H H1 : Hp} {p sc : Addr} {n : Nat} (h : Pen H p sc n) (s : Same H H1) : Pen H1 p sc n := h.mv fun a o _ e => s a o e
/-- .. where one other list has changed -/
theorem Pen.but {H H1 : Hp} {p sc q : Addr} {n : Nat} (h : Pen H p sc n) (s : But q H H1) (n1 : p ≠ q) (n2 : sc ≠ q) : Pen H1 p sc n := h.mv fun a o e => s a o (by rcases e with rfl | rfl <;> assumption)
theorem Pen.at_ {H : Hp} {p sc : Addr} {n : Nat} (h : Pen H p sc n) : (∃ xs, H p = some (.lst xs)) ∧ ∃ ys, H sc = some (.lst ys) := by
  obtain ⟨ns, a, c, k, h1, h2, _⟩ := h.ex
  exact ⟨⟨_, h1⟩, _, h2⟩
theorem Pen.ne {H : Hp} {p sc q : Addr} {n : Nat} (h : Pen H p sc n) (hq : H q = none) : p ≠ q ∧ sc ≠ q := by
  obtain ⟨⟨_, h1⟩, _, h2⟩ := h.at_
  exact ⟨ne_of_none h1 hq, ne_of_none h2 hq⟩
theorem Pen.free {H H1 : Hp} {p sc q : Addr} {n : Nat} (h : Pen H1 p sc n) (b : But p H H1) (hq : H1 q = none) : H q = none := by
  cases e : H q with
  | none => rfl
  | some o =>
    have := b q o (Ne.symm (h.ne hq).1) e
    rw [hq] at this
    cases this
def spStart (K : PySem.W.Frag) : Sp := fun vs H Q _ => ∃ (a : Addr) (ns : List Int), vs = [.ref a] ∧ SqL K H a (ns.map V.int) ∧
  ∀ p sc H', H p = none → H sc = none → Same H H' → Pen H' p sc 1000000000 → Q (.ref p) H'
def spDraw : Sp := fun vs H Q _ => ∃ (p sc : Addr) (m : Int) (n : Nat), vs = [.ref p, .int m] ∧ Pen H p sc (n + 1) ∧ 0 < m ∧ m < 1073741824 ∧
  ∀ (r : Int) H', 0 ≤ r → r < m → But p H H' → Pen H' p sc n → Q (.int r) H'
section
variable {P : Program} {w : World} {K : PySem.W.Frag} {mg : Str → Option Value} {base : Heap}
theorem sc__law_draw : FnScope ["_law_pen", "_law_many", "_law_drawn", "_law_seed", "_law_mixed"] ["_law_pen", "_law_many"] (defScope s__law_draw) := ⟨rfl, rfl, rfl, by decide +kernel, rfl, by decide +kernel, by decide +kernel⟩
theorem ok_draw {f : Addr} {fd : FuncData} (F : FX K "_law_draw" "_law_draw" s__law_draw [] [] f fd) (T : Txt K mg) : FnOk P w K mg base (L2.CX P w) 2 f fd ["_law_pen", "_law_many"] spDraw := by
  refine F.ok sc__law_draw (fun vs H Q E h => ?_) (fun cdv A outer s H vs Q E hr h => ?_)
  · obtain ⟨p, sc, m, n, rfl, _⟩ := h
    rfl
  · obtain ⟨p, sc, m, n, rfl, hp, m0, m1, k⟩ := h
    refine ⟨_, PSs.nox ((pss_cons (ps_if (pt_cmpR op_ge (pe_ix (k_ix (K := K) rfl) (pv 0) pe_int (fun _ _ => rfl)) (pe_op op_pow pe_int pe_int) (nomark _)) (pss_cons (ps_set (i := 2) sc__law_draw.nd rfl (Or.inl rfl) (pe_op op_mod (pe_callTy call_int1U (by rfl) T.b_int (by decide +kernel) (pa_cons (pe_ix (k_ix (K := K) rfl) (pv 0) pe_int (fun _ _ => rfl)) pa_nil)) (pv 1))) 
      (pss_cons (ps_asg (pe_op op_fdiv (pe_ix (k_ix (K := K) rfl) (pv 0) pe_int (fun _ _ => rfl)) (pv 1)) (pg_sub (pv 0) pe_int set_list)) (pss_one (ps_ret (pv 2))))) pss_nil) 
      (pss_cons (ps_asg (pe_op (k_add (K := K) rfl) (pe_ix (k_ix (K := K) rfl) (pv 0) pe_int (fun _ _ => rfl)) pe_int) (pg_sub (pv 0) pe_int set_list)) 
      (pss_cons (ps_set (i := 3) sc__law_draw.nd rfl (Or.inl rfl) (pe_op (k_add (K := K) rfl) (pe_op (k_add (K := K) rfl) (pe_op op_mod (pe_callTy call_int1U (by rfl) T.b_int (by decide +kernel) (pa_cons (pe_ix (k_ix (K := K) rfl) (pv 0) pe_int (fun _ _ => rfl)) pa_nil)) pe_int) (pe_op (k_mul (K := K) rfl) pe_int (pe_ix (k_ix (K := K) rfl) (pv 0) pe_int (fun _ _ => rfl)))) pe_int)) 
      (pss_cons (ps_set (i := 4) sc__law_draw.nd rfl (Or.inl rfl) (pe_op op_mod (pe_op op_pow (pv 3) pe_int) pe_int)) 
      (pss_cons (ps_if (pt_cmpR op_lt (pe_ix (k_ix (K := K) rfl) (pv 0) pe_int (fun _ _ => rfl)) (pe_callB (k_len (K := K) rfl) (by rfl) T.b_len PySem.boot_len (pa_cons (pe_ix (k_ix (K := K) rfl) (pv 0) pe_int (fun _ _ => rfl)) pa_nil)) (nomark _)) (pss_cons (ps_asg (pe_ix (k_ix (K := K) rfl) (pe_ix (k_ix (K := K) rfl) (pv 0) pe_int (fun _ _ => rfl)) (pe_ix (k_ix (K := K) rfl) (pv 0) pe_int (fun _ _ => rfl)) (fun _ _ => rfl)) (pg_sub (pv 0) pe_int set_list)) (pss_one (ps_asg (pe_op (k_add (K := K) rfl) (pe_ix (k_ix (K := K) rfl) (pv 0) pe_int (fun _ _ => rfl)) pe_int) (pg_sub (pv 0) pe_int set_list)))) pss_nil) (pss_one (ps_ret (pe_op op_mod (pe_op op_fdiv (pe_callTy call_int1U (by rfl) T.b_int (by decide +kernel) (pa_cons (pv 4) pa_nil)) pe_int) (pv 1)))))))))), ?_⟩
    try dsimp only [cxOf]
    obtain ⟨ns, a, c, n2, h1, h2, hne, a0, k0, k1⟩ := hp.ex
    walk_at "go"
    refine a_ite (fun hc => ?_) (fun hc => ?_)
    · walk_at "go"
      refine a_setB h1 rfl fun H2 b1 g1 => ?_
      walk_at "go"
      exact k _ _ (Int.emod_nonneg _ (by omega)) (Int.emod_lt_of_pos _ m0) b1 ⟨ns, a, _, n2, g1, b1 _ _ hne h2, hne, a0, k0, by omega⟩
    · walk_at "go"
      refine a_setB h1 rfl fun H2 b1 g1 => ?_
      replace h2 := b1 _ _ hne h2
      walk_at "go"
      refine a_ite (fun hl => ?_) (fun hl => ?_)
      · rw [List.length_map] at hl
        obtain ⟨j, rfl⟩ : ∃ j : Nat, a = (j : Int) := ⟨a.toNat, by omega⟩
        have hj : j < ns.length := by omega
        walk_at "go"
        refine a_ixL (SqL.of h2) (atI_of (j := j) (z := V.int ns[j]) rfl (by rw [List.getElem?_map, List.getElem?_eq_getElem hj]; rfl)) ?_
        walk_at "go"
        refine a_setB g1 rfl fun H3 b2 g2 => ?_
        replace h2 := b2 _ _ hne h2
        walk_at "go"
        refine a_setB g2 rfl fun H4 b3 g3 => ?_
        replace h2 := b3 _ _ hne h2
        walk_at "go"
        exact k _ _ (Int.emod_nonneg _ (by omega)) (Int.emod_lt_of_pos _ m0) ((b1.trans b2).trans b3) ⟨ns, _, _, _, g3, h2, hne, by omega, by omega, by omega⟩
      · walk_at "go"
        exact k _ _ (Int.emod_nonneg _ (by omega)) (Int.emod_lt_of_pos _ m0) b1 ⟨ns, _, _, _, g1, h2, hne, a0, by omega, by omega⟩
theorem sc__law_start : FnScope ["_law_script", "_law_first"] ["_law_script"] (defScope s__law_start) := ⟨rfl, rfl, rfl, by decide +kernel, rfl, by decide +kernel, by decide +kernel⟩
theorem ok_start {f : Addr} {fd : FuncData} (F : FX K "_law_start" "_law_start" s__law_start [] [] f fd) (T : Txt K mg) : FnOk P w K mg base (L2.CX P w) 2 f fd ["_law_script"] (spStart K) := by
  refine F.ok sc__law_start (fun vs H Q E h => ?_) (fun cdv A outer s H vs Q E hr h => ?_)
  · obtain ⟨a, ns, rfl, _⟩ := h
    rfl
  · obtain ⟨a, ns, rfl, hs, k⟩ := h
    refine ⟨_, PSs.nox ((pss_cons (ps_set (i := 1) sc__law_start.nd rfl (Or.inl rfl) pe_int) 
      (pss_cons (ps_if (pt_cmpR op_gt (pe_callB (k_len (K := K) rfl) (by rfl) T.b_len PySem.boot_len (pa_cons (pv 0) pa_nil)) pe_int (nomark _)) (pss_one (ps_set (i := 1) sc__law_start.nd rfl (Or.inl rfl) (pe_ix (k_ix (K := K) rfl) (pv 0) pe_int (fun _ _ => rfl)))) pss_nil) (pss_one (ps_ret (pe_lst (pa_cons (pe_callTy (k_list (K := K) rfl) (by rfl) T.b_list (by decide +kernel) (pa_cons (pv 0) pa_nil)) (pa_cons pe_int (pa_cons (pv 1) (pa_cons pe_int pa_nil)))))))))), ?_⟩
    try dsimp only [cxOf]
    have fin : ∀ c : Int, tRet (tLst (tCons (tCB (rListU K) (tCons (tVar 0) tNil)) (tCons (tC (.int 1)) (tCons (tVar 1) (tCons (tC (.int 0)) tNil))))) { nx := fun _ H' => Q .non H', rt := Q } [some (.ref a), some (.int c)] H := fun c => by
      walk_at "go"
      refine a_list (.inl hs) fun l H2 n2 s2 h2 => ?_
      walk_at "go"
      refine a_newL (by show 4 ≤ 100000; decide) fun p H3 n3 s3 h3 => ?_
      exact k p l H3 (s2.free n3) n2 (s2.trans s3) ⟨ns, 1, c, 0, h3, s3 _ _ h2, ne_of_none h2 n3, by omega, by omega, by omega⟩
    walk_at "go"
    refine a_lenL hs ?_
    walk_at "go"
    refine a_ite (fun hl => ?_) (fun hl => ?_)
    · have hj : 0 < ns.length := by
        rw [List.length_map] at hl
        omega
      walk_at "go"
      refine a_ixL hs (atI_of (j := 0) (z := V.int ns[0]) rfl (by rw [List.getElem?_map, List.getElem?_eq_getElem hj]; rfl)) ?_
      exact fin _
    · exact fin _
end

def spFits : Sp := fun vs H Q _ => ∃ z : Str, vs = [.str z] ∧ z.cps.size ≤ 1000 ∧ ∀ H', Same H H' → Q (.bl (fitsN z)) H'
section
variable {P : Program} {w : World} {K : PySem.W.Frag} {mg : Str → Option Value} {base : Heap} {f : Addr} {fd : FuncData}
theorem sc_fits_name : FnScope ["text", "letter"] ["text"] (defScope s_fits_name) := ⟨rfl, rfl, rfl, by decide +kernel, rfl, by decide +kernel, by decide +kernel⟩
theorem ok_fits (F : FX K "fits_name" "fits_name" s_fits_name [] [] f fd) (T : Txt K mg) : FnOk P w K mg base (L2.CX P w) 2 f fd ["text"] spFits := by
  refine F.ok sc_fits_name (fun vs H Q E h => ?_) (fun cdv A outer s H vs Q E hr h => ?_)
  · obtain ⟨z, rfl, _⟩ := h
    rfl
  · obtain ⟨z, rfl, hz, k⟩ := h
    refine ⟨_, PSs.nox ((pss_one (ps_ret (pe_and (pe_chain op_le op_le pe_int (pe_callB call_lenSU (by rfl) T.b_len PySem.boot_len (pa_cons (pv 0) pa_nil)) pe_int) (pe_one (pe_callB (k_all (K := K) rfl rfl) (by rfl) T.b_all (by decide +kernel) (pa_cons (by exact (pe_lc (own := [("letter", 1)]) rfl sc_fits_name.nd (pi_str (pv 0)) (blkOk_by (own := [("letter", 1)]) (N := ["text", "letter"]) (sc := defScope s_fits_name) (by decide +kernel)) (fun _ _ _ _ _ => by exact (pg_name (i := 1) sc_fits_name.nd rfl (Or.inl rfl))) (fun _ _ _ _ _ => by exact pts_nil) (fun _ _ _ _ _ => by exact (pe_cmpR op_inSU (pv 1) (pe_gv rfl T.k_LETTERS) rfl)))) pa_nil))))))), ?_⟩
    try dsimp only [cxOf]
    walk_at "go"
    refine a_lenSU (by omega) ?_
    have kk : ∀ b H', Same H H' → b = fitsN z → Q (.bl b) H' := fun b H' s e => e ▸ k H' s
    walk_at "go"
    refine a_ite (fun h1 => ?_) (fun h1 => ?_)
    · walk_at "go"
      refine a_ite (fun h2 => ?_) (fun h2 => ?_)
      · walk_at "go"
        refine c_s (z := z) (fun i => V.bl (decide (z.cps.getD i 0 ∈ ("abcdefghijklmnopqrstuvwxyz" : Str).cps.toList))) (by omega) ?_ ?_ ?_
        · intro R r
          walk_at "go"
          exact r _ (Same.refl _)
        · intro i c H' hc s' R r
          walk_at "go"
          have := r _ (Same.refl _)
          rw [Array.getD_eq_getD_getElem?, hc] at this
          exact this
        intro D H1 nD s1 hD
        walk_at "go"
        have e0 : (List.range z.cps.size).map (fun i => V.bl (decide (z.cps.getD i 0 ∈ ("abcdefghijklmnopqrstuvwxyz" : Str).cps.toList))) = (z.cps.toList.map fun c => decide (c ∈ ("abcdefghijklmnopqrstuvwxyz" : Str).cps.toList)).map V.bl := by
          refine List.ext_getElem (by simp) fun i p1 p2 => ?_
          have : i < z.cps.size := by simpa using p1
          simp [this]
        rw [e0] at hD
        refine a_all (SqL.of hD) (kk _ _ s1 ?_)
        unfold fitsN
        rw [decide_eq_true (by omega), decide_eq_true (by omega), List.all_map]
        rfl
      · refine kk _ _ (Same.refl _) ?_
        unfold fitsN
        rw [decide_eq_false (p := z.cps.size ≤ 3) (by omega)]
        simp
    · walk_at "go"
      refine a_F rfl ?_
      refine kk _ _ (Same.refl _) ?_
      unfold fitsN
      rw [decide_eq_false (p := 1 ≤ z.cps.size) (by omega)]
      rfl
end

/-! ### the law's own names -/
def nameS (n : Nat) : Str := if n < 26 then ⟨#[97 + n]⟩ else if n < 702 then ⟨#[97 + (n / 26 - 1), 97 + n % 26]⟩ else ⟨#[97 + (n - 702) / 676, 97 + (n - 702) / 26 % 26, 97 + (n - 702) % 26]⟩
theorem nameS_inj {m n : Nat} (hm : m < 18278) (hn : n < 18278) (e : nameS m = nameS n) : m = n := by
  unfold nameS at e
  have e1 : ∀ {a b : Str}, a = b → a.cps.toList = b.cps.toList := fun h => by rw [h]
  by_cases a1 : m < 26
  · by_cases b1 : n < 26
    · rw [if_pos a1, if_pos b1] at e
      have := e1 e
      simp at this
      exact this
    · by_cases b2 : n < 702
      · rw [if_pos a1, if_neg b1, if_pos b2] at e
        have := e1 e
        simp at this
      · rw [if_pos a1, if_neg b1, if_neg b2] at e
        have := e1 e
        simp at this
  · by_cases a2 : m < 702
    · by_cases b1 : n < 26
      · rw [if_neg a1, if_pos a2, if_pos b1] at e
        have := e1 e
        simp at this
      · by_cases b2 : n < 702
        · rw [if_neg a1, if_pos a2, if_neg b1, if_pos b2] at e
          have := e1 e
          simp at this
          omega
        · rw [if_neg a1, if_pos a2, if_neg b1, if_neg b2] at e
          have := e1 e
          simp at this
    · by_cases b1 : n < 26
      · rw [if_neg a1, if_neg a2, if_pos b1] at e
        have := e1 e
        simp at this
      · by_cases b2 : n < 702
        · rw [if_neg a1, if_neg a2, if_neg b1, if_pos b2] at e
          have := e1 e
          simp at this
        · rw [if_neg a1, if_neg a2, if_neg b1, if_neg b2] at e
          have := e1 e
          simp at this
          omega
theorem nameS_ok {n : Nat} (h : n < 18278) : PyData.strOk (nameS n) = true := by
  unfold nameS PyData.strOk
  split
  · simp; omega
  · split
    · simp; omega
    · simp; omega
theorem letters_at : ∀ k, k < 26 → ("abcdefghijklmnopqrstuvwxyz" : Str).cps.toList[k]? = some (97 + k) := by decide +kernel
theorem letters_len : ("abcdefghijklmnopqrstuvwxyz" : Str).length = 26 := by decide +kernel
theorem letters_llen : ("abcdefghijklmnopqrstuvwxyz" : Str).cps.toList.length = 26 := by decide +kernel
theorem a_letter {K : PySem.W.Frag} {H : Hp} {Q : VK} {i : Int} {k : Nat} (e : i = (k : Int)) (hk : k < 26) (q : Q (.str ⟨#[97 + k]⟩) H) : rIx K (.str "abcdefghijklmnopqrstuvwxyz") (.int i) H Q :=
  .inr (.inr ⟨_, i, 97 + k, rfl, rfl, by rw [letters_len]; decide, atI_of e (letters_at k hk), q⟩)
theorem letter_in {c : Nat} (h1 : 97 ≤ c) (h2 : c < 123) : c ∈ ("abcdefghijklmnopqrstuvwxyz" : Str).cps.toList := by
  have := letters_at (c - 97) (by omega)
  rw [show 97 + (c - 97) = c by omega] at this
  exact List.mem_of_getElem? this
theorem nameS_fits {n : Nat} (h : n < 18278) : fitsN (nameS n) = true := by
  have all : ∀ l : List Nat, (∀ c ∈ l, 97 ≤ c ∧ c < 123) → (l.all fun c => decide (c ∈ ("abcdefghijklmnopqrstuvwxyz" : Str).cps.toList)) = true := fun l hl => by
    rw [List.all_eq_true]
    exact fun c hc => decide_eq_true (letter_in (hl c hc).1 (hl c hc).2)
  unfold nameS fitsN
  split
  · rw [all _ (by intro c hc; simp at hc; omega)]
    rfl
  · split
    · rw [all _ (by intro c hc; simp at hc; omega)]
      rfl
    · rw [all _ (by intro c hc; simp at hc; omega)]
      rfl
def spName : Sp := fun vs H Q _ => ∃ n : Nat, vs = [.int (n : Nat)] ∧ n < 18278 ∧ Q (.str (nameS n)) H
def spNames : Sp := fun vs H Q _ => ∃ (p sc : Addr) (m n : Nat), vs = [.ref p, .int (m : Nat)] ∧ Pen H p sc (n + 2) ∧ m ≤ 26 ∧
  ∀ r (ns : List Str) H', H r = none → But p H H' → Pen H' p sc n → H' r = some (.lst (ns.map V.str)) → ns.length = m → ns.Nodup → (∀ x ∈ ns, fitsN x = true) → Q (.ref r) H'
section
variable {P : Program} {w : World} {K : PySem.W.Frag} {mg : Str → Option Value} {base : Heap} {f : Addr} {fd : FuncData}
theorem sc__law_name : FnScope ["_law_number", "_law_letters", "_law_rest"] ["_law_number"] (defScope s__law_name) := ⟨rfl, rfl, rfl, by decide +kernel, rfl, by decide +kernel, by decide +kernel⟩
theorem ok_name (F : FX K "_law_name" "_law_name" s__law_name [] [] f fd) (T : Txt K mg) : FnOk P w K mg base (L2.CX P w) 1 f fd ["_law_number"] spName := by
  refine F.ok sc__law_name (fun vs H Q E h => ?_) (fun cdv A outer s H vs Q E hr h => ?_)
  · obtain ⟨n, rfl, _⟩ := h
    rfl
  · obtain ⟨n, rfl, hn, k⟩ := h
    refine ⟨_, PSs.nox ((pss_cons (ps_set (i := 1) sc__law_name.nd rfl (Or.inl rfl) pe_str) 
      (pss_cons (ps_if (pt_cmpR op_lt (pv 0) pe_int (nomark _)) (pss_one (ps_ret (pe_ix (k_ix (K := K) rfl) (pv 1) (pv 0) (fun _ _ => rfl)))) pss_nil) 
      (pss_cons (ps_if (pt_cmpR op_lt (pv 0) pe_int (nomark _)) (pss_one (ps_ret (pe_op op_add_str (pe_ix (k_ix (K := K) rfl) (pv 1) (pe_op op_sub (pe_op op_fdiv (pv 0) pe_int) pe_int) (fun _ _ => rfl)) (pe_ix (k_ix (K := K) rfl) (pv 1) (pe_op op_mod (pv 0) pe_int) (fun _ _ => rfl))))) pss_nil) 
      (pss_cons (ps_set (i := 2) sc__law_name.nd rfl (Or.inl rfl) (pe_op op_sub (pv 0) pe_int)) (pss_one (ps_ret (pe_op op_add_str (pe_op op_add_str (pe_ix (k_ix (K := K) rfl) (pv 1) (pe_op op_fdiv (pv 2) pe_int) (fun _ _ => rfl)) (pe_ix (k_ix (K := K) rfl) (pv 1) (pe_op op_mod (pe_op op_fdiv (pv 2) pe_int) pe_int) (fun _ _ => rfl))) (pe_ix (k_ix (K := K) rfl) (pv 1) (pe_op op_mod (pv 2) pe_int) (fun _ _ => rfl)))))))))), ?_⟩
    try dsimp only [cxOf]
    walk_at "go"
    refine a_ite (fun c1 => ?_) (fun c1 => ?_)
    · walk_at "go"
      refine a_letter (k := n) rfl (by omega) ?_
      have := k
      unfold nameS at this
      rw [if_pos (by omega)] at this
      exact this
    · walk_at "go"
      refine a_ite (fun c2 => ?_) (fun c2 => ?_)
      · walk_at "go"
        refine a_letter (k := n / 26 - 1) (by omega) (by omega) ?_
        walk_at "go"
        refine a_letter (k := n % 26) (by omega) (by omega) ?_
        refine ⟨_, _, rfl, rfl, (by show _ ≤ 16777216; first | (show 1 + 1 ≤ _; omega) | (show 2 + 1 ≤ _; omega)), ?_⟩
        have := k
        unfold nameS at this
        rw [if_neg (by omega), if_pos (by omega)] at this
        exact this
      · walk_at "go"
        refine a_letter (k := (n - 702) / 676) (by omega) (by omega) ?_
        walk_at "go"
        refine a_letter (k := (n - 702) / 26 % 26) (by omega) (by omega) ?_
        refine ⟨_, _, rfl, rfl, (by show _ ≤ 16777216; show 1 + 1 ≤ _; omega), ?_⟩
        walk_at "go"
        refine a_letter (k := (n - 702) % 26) (by omega) (by omega) ?_
        refine ⟨_, _, rfl, rfl, (by show _ ≤ 16777216; first | (show 1 + 1 ≤ _; omega) | (show 2 + 1 ≤ _; omega)), ?_⟩
        have := k
        unfold nameS at this
        rw [if_neg (by omega), if_neg (by omega)] at this
        exact this
theorem names_nd {first step many : Nat} (hs : step = 1 ∨ step = 27 ∨ step = 677 ∨ step = 5) (hm : many ≤ 26) : ((List.range many).map fun k => nameS ((first + k * step) % 18278)).Nodup := by
  unfold List.Nodup
  rw [List.pairwise_map]
  refine List.Pairwise.imp_of_mem (fun {i j} hi hj h z => ?_) (List.pairwise_lt_range (n := many))
  have hi := List.mem_range.mp hi
  have hj := List.mem_range.mp hj
  have := nameS_inj (Nat.mod_lt _ (by decide)) (Nat.mod_lt _ (by decide)) z
  rcases hs with rfl | rfl | rfl | rfl <;> omega
theorem sc__law_names : FnScope ["_law_pen", "_law_many", "_law_first", "_law_step", "_law_k"] ["_law_pen", "_law_many"] (defScope s__law_names) := ⟨rfl, rfl, rfl, by decide +kernel, rfl, by decide +kernel, by decide +kernel⟩
theorem ok_names (F : FX K "_law_names" "_law_names" s__law_names [] [] f fd) (T : Txt K mg) (c__law_draw : Cal P w K mg base "_law_draw" 2 spDraw) (c__law_name : Cal P w K mg base "_law_name" 1 spName) : FnOk P w K mg base (L2.CX P w) 4 f fd ["_law_pen", "_law_many"] spNames := by
  refine F.ok sc__law_names (fun vs H Q E h => ?_) (fun cdv A outer s H vs Q E hr h => ?_)
  · obtain ⟨p, sc, m, n, rfl, _⟩ := h
    rfl
  · obtain ⟨p, sc, m, n, rfl, hp, hm, k⟩ := h
    refine ⟨_, PSs.nox ((pss_cons (ps_set (i := 2) sc__law_names.nd rfl (Or.inr rfl) (pe_f c__law_draw hr (by decide) rfl passL (pa_cons (pv 0) (pa_cons pe_int pa_nil)))) 
      (pss_cons (ps_set (i := 3) sc__law_names.nd rfl (Or.inr rfl) (pe_ix (k_ix (K := K) rfl) (pe_lst (pa_cons pe_int (pa_cons pe_int (pa_cons pe_int (pa_cons pe_int pa_nil))))) (pe_f c__law_draw hr (by decide) rfl passL (pa_cons (pv 0) (pa_cons pe_int pa_nil))) (fun _ _ => rfl))) (pss_one (ps_ret (by exact (pe_lc (own := [("_law_k", 4)]) rfl sc__law_names.nd (pi_range1 (by rfl) T.b_range (pa_cons (pv 1) pa_nil)) (blkOk_by (own := [("_law_k", 4)]) (N := ["_law_pen", "_law_many", "_law_first", "_law_step", "_law_k"]) (sc := defScope s__law_names) (by decide +kernel)) (fun _ _ _ _ _ => by exact (pg_name (i := 4) sc__law_names.nd rfl (Or.inl rfl))) (fun _ _ _ _ _ => by exact pts_nil) (fun _ _ _ _ _ => by exact (pe_f c__law_name hr (by decide) rfl passL (pa_cons (pe_op op_mod (pe_callTy call_int1U (by rfl) T.b_int (by decide +kernel) (pa_cons (pe_op (k_add (K := K) rfl) (pv 2) (pe_op (k_mul (K := K) rfl) (pv 4) (pv 3))) pa_nil)) pe_int) pa_nil)))))))))), ?_⟩
    try dsimp only [cxOf]
    walk_at "go"
    refine ⟨p, sc, 18278, n + 1, rfl, hp, by omega, by omega, fun r H1 r0 r1 b1 hp1 => ?_⟩
    obtain ⟨first, rfl⟩ : ∃ k : Nat, r = (k : Int) := ⟨r.toNat, by omega⟩
    walk_at "go"
    refine a_newL (by show 4 ≤ 100000; decide) fun l H2 nl s2 h2 => ?_
    walk_at "go"
    refine ⟨p, sc, 4, n, rfl, hp1.same s2, by omega, by omega, fun r2 H3 q0 q1 b3 hp3 => ?_⟩
    obtain ⟨j, rfl⟩ : ∃ k : Nat, r2 = (k : Int) := ⟨r2.toNat, by omega⟩
    have hl3 : H3 l = some (.lst [.int 1, .int 27, .int 677, .int 5]) := b3 _ _ (Ne.symm (hp1.ne nl).1) h2
    obtain ⟨step, hst, ej⟩ : ∃ step : Nat, (step = 1 ∨ step = 27 ∨ step = 677 ∨ step = 5) ∧ ([.int 1, .int 27, .int 677, .int 5] : List V)[j]? = some (.int (step : Nat)) := by
      match j, q1 with
      | 0, _ => exact ⟨1, by omega, rfl⟩
      | 1, _ => exact ⟨27, by omega, rfl⟩
      | 2, _ => exact ⟨677, by omega, rfl⟩
      | 3, _ => exact ⟨5, by omega, rfl⟩
      | (j + 4), h => exact absurd h (by omega)
    walk_at "go"
    refine a_ixL (SqL.of hl3) (atI_of rfl ej) ?_
    walk_at "go"
    refine c_r (k := m) (fun k => V.str (nameS ((first + k * step) % 18278))) (by omega) ?_ ?_ ?_
    · intro R r
      walk_at "go"
      exact r _ (Same.refl _)
    · intro i H' hi s' R r
      walk_at "go"
      refine ⟨(first + i * step) % 18278, ?_, Nat.mod_lt _ (by decide), ?_⟩
      · congr 2
      · exact r _ (Same.refl _)
    intro D H4 hD s4 h4
    have e0 : (List.range m).map (fun k => V.str (nameS ((first + k * step) % 18278))) = ((List.range m).map fun k => nameS ((first + k * step) % 18278)).map V.str := by
      rw [List.map_map]
      rfl
    rw [e0] at h4
    have bb : But p H H3 := (b1.trans (But.of s2)).trans b3
    refine k D _ H4 ?_ (bb.trans (But.of s4)) (hp3.same s4) h4 (by rw [List.length_map, List.length_range]) (names_nd hst hm) ?_
    · exact hp3.free bb hD
    · intro x hx
      obtain ⟨i, _, rfl⟩ := List.mem_map.mp hx
      exact nameS_fits (Nat.mod_lt _ (by decide))
end

theorem letters_small : ∀ c ∈ ("abcdefghijklmnopqrstuvwxyz" : Str).cps.toList, c < 0x110000 := by decide +kernel
theorem fits_strOk {z : Str} (h : fitsN z = true) : PyData.strOk z = true := by
  unfold fitsN at h
  simp only [Bool.and_eq_true, List.all_eq_true, decide_eq_true_eq] at h
  unfold PyData.strOk
  rw [← Array.all_toList, List.all_eq_true]
  intro c hc
  exact decide_eq_true (letters_small c (h.2 c hc))
theorem dqs {K : PySem.W.Frag} {H : Hp} {n : Nat} : ∀ ss : List Str, (∀ x ∈ ss, PyData.strOk x = true) → DqA K H (n + 1) (ss.map V.str) (ss.map PyData.str)
  | [], _ => .nil
  | x :: ss, h => .cons (.str x (h x (List.mem_cons_self ..))) (dqs ss fun y hy => h y (List.mem_cons_of_mem _ hy))

/-! ### words -/
abbrev wDfl (K : PySem.W.Frag) : Addr := He.dflAt ("Word", some "__init__") 0 K
abbrev eC (K : PySem.W.Frag) (x : Str) : Value := .ref (He.ga K x)
def okS (x : Wp) : Prop := fitsN x.1 = true ∧ (x.2 = 1 ∨ x.2 = -1)
def OkSs (ws : List Wp) : Prop := ∀ x ∈ ws, okS x
def OkR (ws : List Wp) : Prop := OkSs ws ∧ Red ws
def WordAt (K : PySem.W.Frag) (H : Hp) (p : Addr) (ws : List Wp) : Prop := ∃ dx t ys, H p = some (.ins (He.ga K "Word") dx [("steps", .ref t)]) ∧ SqT K H t ys ∧ Par (StepAt K H) ys ws ∧ OkR ws ∧ ws.length ≤ 20000
theorem WordAt.same {K : PySem.W.Frag} {H H1 : Hp} {p : Addr} {ws : List Wp} (h : WordAt K H p ws) (s : Same H H1) : WordAt K H1 p ws := let ⟨dx, t, ys, h1, h2, h3, h4⟩ := h; ⟨dx, t, ys, s _ _ h1, same_t s h2, ParS.same h3 s, h4⟩
theorem WordAt.but {K : PySem.W.Frag} {H H1 : Hp} {p D : Addr} {ws : List Wp} {zs : List V} (h : WordAt K H p ws) (hD : H D = some (.lst zs)) (b : But D H H1) : WordAt K H1 p ws := let ⟨dx, t, ys, h1, h2, h3, h4⟩ := h; ⟨dx, t, ys, b _ _ (ne_of h1 hD (by intro z; cases z)) h1, sqt_but hD b h2, ParS.but h3 hD b, h4⟩
theorem st_look (t : V) : ([(("steps" : Str), t)] : List (Str × V)).lookup ("steps" : Str) = some t := by simp [List.lookup]
def FstBadS (ws : List Wp) (i : Nat) : Prop := (∃ x, ws[i]? = some x ∧ ¬ okS x) ∧ ∀ (k : Nat) y, k < i → ws[k]? = some y → okS y
theorem okS_str {x : Wp} (h : okS x) : PyData.strOk x.1 = true ∧ x.1.cps.size ≤ 1000 := by
  refine ⟨fits_strOk h.1, ?_⟩
  have := h.1
  unfold fitsN at this
  simp only [Bool.and_eq_true, decide_eq_true_eq] at this
  omega
theorem OkSs.str {ws : List Wp} (h : OkSs ws) : StrOk ws := fun x hx => okS_str (h x hx)
theorem OkSs.canc {ws : List Wp} (h : OkSs ws) : OkSs (canc ws) := fun x hx => h x (canc_mem hx)
theorem OkSs.app {a b : List Wp} (h : OkSs a) (h' : OkSs b) : OkSs (a ++ b) := fun x hx => (List.mem_append.mp hx).elim (h x) (h' x)
theorem OkSs.rev {ws : List Wp} (h : OkSs ws) : OkSs ws.reverse := fun x hx => h x (List.mem_reverse.mp hx)
theorem OkSs.inv {ws : List Wp} (h : OkSs ws) : OkSs (invW ws) := fun x hx => by
  obtain ⟨y, hy, rfl⟩ := List.mem_map.mp hx
  obtain ⟨h1, h2⟩ := h y (List.mem_reverse.mp hy)
  exact ⟨h1, by unfold inv1; dsimp only; omega⟩
theorem OkSs.no {ws : List Wp} (h : OkSs ws) {i : Nat} (f : FstBadS ws i) : False := by
  obtain ⟨⟨x, e, n⟩, _⟩ := f
  exact n (h x (List.mem_of_getElem? e))
theorem OkR.str {ws : List Wp} (h : OkR ws) : StrOk ws := h.1.str
theorem OkR.canc {ws : List Wp} (h : OkSs ws) : OkR (canc ws) := ⟨h.canc, canc_red ws⟩
def spCanc (K : PySem.W.Frag) : Sp := fun vs H Q _ => ∃ (x : Addr) (ws : List Wp) (ys : List V), vs = [.ref x] ∧ Seq K H x ys ∧ Par (StepAt K H) ys ws ∧ StrOk ws ∧ ws.length ≤ 50000 ∧
  ∀ r zs H', H r = none → Same H H' → H' r = some (.lst zs) → Par (StepAt K H') zs (canc ws) → Q (.ref r) H'
def spWInitX (K : PySem.W.Frag) : Sp := fun vs H Q E => ∃ (p x dx : Addr) (ws : List Wp) (ys : List V), vs = [.ref p, .ref x] ∧ H p = some (.ins (He.ga K "Word") dx []) ∧ Seq K H x ys ∧ Par (StepAt K H) ys ws ∧ StrOk ws ∧ ws.length ≤ 50000 ∧
  (∀ (i : Nat) d H', FstBadS ws i → But p H H' → H' d = some (.xd [("number", .int (i : Nat))]) → E (eC K "BadStep") (some d) H') ∧
  (OkSs ws → ((canc ws).length ≤ 20000 → ∀ H', But p H H' → WordAt K H' p (canc ws) → Q .non H') ∧ (20000 < (canc ws).length → ∀ H', But p H H' → E (eC K "TooGreat") none H'))
def spWInit (K : PySem.W.Frag) : Sp := fun vs H Q _ => ∃ (p x dx : Addr) (ws : List Wp) (ys : List V), vs = [.ref p, .ref x] ∧ H p = some (.ins (He.ga K "Word") dx []) ∧ Seq K H x ys ∧ Par (StepAt K H) ys ws ∧ OkSs ws ∧ ws.length ≤ 50000 ∧ (canc ws).length ≤ 20000 ∧
  ∀ H', But p H H' → WordAt K H' p (canc ws) → Q .non H'
def spWInit0 (K : PySem.W.Frag) : Sp := fun vs H Q _ => ∃ (p dx : Addr), vs = [.ref p] ∧ H p = some (.ins (He.ga K "Word") dx []) ∧ ∀ H', But p H H' → WordAt K H' p [] → Q .non H'
def spWLen (K : PySem.W.Frag) : Sp := fun vs H Q _ => ∃ (p : Addr) (ws : List Wp), vs = [.ref p] ∧ WordAt K H p ws ∧ Q (.int ws.length) H
def spWIter (K : PySem.W.Frag) : Sp := fun vs H Q _ => ∃ (p dx t : Addr) (ys : List V), vs = [.ref p] ∧ H p = some (.ins (He.ga K "Word") dx [("steps", .ref t)]) ∧ SqT K H t ys ∧ ∀ it, H it = none → (∀ b o, H b = some o → b < it) → Q (.ref it) (upd H it (ItT t it 0))
def spWEq (K : PySem.W.Frag) : Sp := fun vs H Q _ => ∃ (p q : Addr) (a : List Wp), vs = [.ref p, .ref q] ∧ WordAt K H p a ∧ ((∃ b, WordAt K H q b ∧ Q (.bl (decide (a = b))) H) ∨ ((∃ xs, Seq K H q xs) ∧ Q (.bl false) H))
def spWItem (K : PySem.W.Frag) : Sp := fun vs H Q E => ∃ (p : Addr) (ws : List Wp) (z : Int), vs = [.ref p, .int z] ∧ WordAt K H p ws ∧ (∀ (i : Nat) x v, z = i → ws[i]? = some x → StepAt K H v x → Q v H) ∧
  ((z < 0 ∨ (ws.length : Int) ≤ z) → ∀ d H', Same H H' → H' d = some (.xd [("number", .int z)]) → E (eC K "NoStep") (some d) H')
def spWCnt (K : PySem.W.Frag) : Sp := fun vs H Q _ => ∃ (p : Addr) (ws : List Wp), vs = [.ref p] ∧ WordAt K H p ws ∧ ∀ r H', H r = none → Same H H' → H' r = some (.dK (cntK ws)) → Q (.ref r) H'
theorem a_notin2 {K : PySem.W.Frag} {H : Hp} {p : Addr} {s : Int} {Q : VK} (h : SqT K H p [.int 1, .int (-1)]) (q : Q (.bl (!decide (s = 1 ∨ s = -1))) H) : rIn K true (.int s) (.ref p) H Q := by
  refine ⟨p, _, rfl, .inr h, rfl, rfl, ?_⟩
  have e : inV (.int s) [.int 1, .int (-1)] = decide (s = 1 ∨ s = -1) := by
    unfold inV
    by_cases h1 : s = 1
    · subst h1
      decide
    · by_cases h2 : s = -1
      · subst h2
        decide
      · simp [eqV, h1, h2, Ne.symm h1, Ne.symm h2]
  rw [if_pos rfl, e]
  exact q
theorem last_get {α : Type} {l : List α} {x : α} (h : l.getLast? = some x) : l[l.length - 1]? = some x := by
  rw [List.getLast?_eq_getElem?] at h
  exact h
theorem Par.last {α β : Type} {R : α → β → Prop} {ys : List α} {xs : List β} (h : Par R ys xs) {y : α} (hy : ys.getLast? = some y) : ∃ x, xs.getLast? = some x ∧ R y x := by
  obtain ⟨x, e, r⟩ := h.getD (last_get hy)
  refine ⟨x, ?_, r⟩
  rw [List.getLast?_eq_getElem?, ← h.1]
  exact e
section
variable {P : Program} {w : World} {K : PySem.W.Frag} {mg : Str → Option Value} {base : Heap} {f : Addr} {fd : FuncData}
theorem sc_cancelled_steps : FnScope ["steps", "found", "name", "sign"] ["steps"] (defScope s_cancelled_steps) := ⟨rfl, rfl, rfl, by decide +kernel, rfl, by decide +kernel, by decide +kernel⟩
theorem ok_canc (F : FX K "cancelled_steps" "cancelled_steps" s_cancelled_steps [] [] f fd) (T : Txt K mg) : FnOk P w K mg base (L2.CX P w) 2 f fd ["steps"] (spCanc K) := by
  refine F.ok sc_cancelled_steps (fun vs H Q E h => ?_) (fun cdv A outer s H vs Q E hr h => ?_)
  · obtain ⟨x, ws, ys, rfl, _⟩ := h
    rfl
  · obtain ⟨x, ws, ys, rfl, hx, hw, ok, hl, k⟩ := h
    refine ⟨_, PSs.nox ((pss_cons (ps_set (i := 1) sc_cancelled_steps.nd rfl (Or.inl rfl) (pe_lst pa_nil)) 
      (pss_cons (ps_for PassesOwn.never rfl (pi_seq (K := K) rfl (pv 0)) (k_gtup (K := K) (n := 2) rfl (by rfl) (pgs_cons (pg_name (i := 2) sc_cancelled_steps.nd rfl (Or.inl rfl)) (pgs_cons (pg_name (i := 3) sc_cancelled_steps.nd rfl (Or.inl rfl)) pgs_nil))) (pss_one (ps_if (PW.pt (pw_and (k_tr (K := K) rfl (pv 1)) (pw_and1 (pt_cmpR (k_eq (K := K) rfl hr.units) (pe_ix (k_ix (K := K) rfl) (pv 1) (pe_un un_neg pe_int) (fun _ _ => rfl)) (pe_tup (pa_cons (pv 2) (pa_cons (pe_un un_neg (pv 3)) pa_nil))) (nomark _))))) (pss_one (ps_expr (k_bm0 (K := K) rfl PySem.F.plainAttrs_list PySem.F.slot_list_pop PySem.F.type_list_pop mt_pop (pv 1)))) (pss_one (ps_expr (k_bm (K := K) rfl PySem.F.plainAttrs_list PySem.F.slot_list_append PySem.F.type_list_append mt_append (pv 1) (pa_cons (pe_tup (pa_cons (pv 2) (pa_cons (pv 3) pa_nil))) pa_nil))))))) (pss_one (ps_ret (pv 1)))))), ?_⟩
    try dsimp only [cxOf]
    walk_at "go"
    refine a_newL (by show 0 ≤ 100000; decide) fun D H1 nD s1 h1 => ?_
    walk_at "go"
    refine a_iter0 hx s1 fun J wk => ?_
    refine for_it wk (fun i σ H' => ∃ v2 v3 zs, σ = [some (.ref x), some (.ref D), v2, v3] ∧ Same H H' ∧ H' D = some (.lst zs) ∧ Par (StepAt K H') zs (canc (ws.take i)))
      ⟨none, none, [], rfl, s1, h1, .nil⟩ (fun i σ H' _ ⟨_, _, zs, _, s', _⟩ => s') ?_ ?_
    · rintro i y σ H3 H2 hi ⟨v2, v3, zs, rfl, s2, h2, p2⟩ ⟨rfl, ey⟩
      obtain ⟨x1, ex, q, rfl, hq⟩ := (ParS.same hw s2).getD ey
      have hlz : (canc (ws.take i)).length ≤ 50000 := Nat.le_trans (canc_len _) (by rw [List.length_take]; omega)
      have okf : StrOk (canc (ws.take i)) := fun y hy => ok y (List.mem_of_mem_take (canc_mem hy))
      have okx := ok x1 (List.mem_of_getElem? ex)
      refine ⟨q, _, rfl, hq, rfl, _, _, rfl, _, _, rfl, rfl, ?_⟩
      have fin : ∀ H4 zs', Same H H4 → H4 D = some (.lst zs') → Par (StepAt K H4) zs' (push (canc (ws.take i)) x1) → ∃ v2 v3 zs, [some (V.ref x), some (V.ref D), some (.str x1.1), some (.int x1.2)] = [some (V.ref x), some (V.ref D), v2, v3] ∧ Same H H4 ∧ H4 D = some (.lst zs) ∧ Par (StepAt K H4) zs (canc (ws.take (i + 1))) := fun H4 zs' s4 h4 p4 => by
        refine ⟨_, _, zs', rfl, s4, h4, ?_⟩
        rw [take_snoc ex, canc_snoc]
        exact p4
      walk_at "go"
      refine a_truP (SqL.of h2) ?_
      refine a_ite (fun c1 => ?_) (fun c1 => ?_)
      · obtain ⟨y0, ey0⟩ : ∃ y0, zs.getLast? = some y0 := by
          cases e : zs.getLast? with
          | none => exact absurd (List.getLast?_eq_none_iff.mp e) c1
          | some y0 => exact ⟨y0, rfl⟩
        obtain ⟨x0, ex0, hx0⟩ := p2.last ey0
        walk_at "go"
        refine a_ixL (SqL.of h2) (atI_lst ey0) ?_
        walk_at "go"
        refine a_newT (by show 2 ≤ 100000; decide) fun t1 H4 n4 s4 h4 => ?_
        have d1 : Dq K H4 2 y0 (stD x0) := (hx0.same s4).dq (okf x0 (List.mem_of_getLast? ex0)).1
        have d2 : Dq K H4 2 (.ref t1) (stD (inv1 x1)) := StepAt.dq (x := inv1 x1) ⟨t1, rfl, SqT.of h4⟩ okx.1
        refine a_eqW d1 d2 ?_
        rw [eqv_st]
        walk_at "go"
        refine a_ite (fun c2 => ?_) (fun c2 => ?_)
        · walk_at "go"
          refine a_ty (s4 _ _ h2) ?_
          refine a_pop0 (s4 _ _ h2) ey0 fun H5 b5 h5 => ?_
          walk_at "go"
          refine fin H5 _ (fun a o e => b5 a o (ne_of_none e nD) (s4 _ _ (s2 _ _ e))) h5 ?_
          rw [show push (canc (ws.take i)) x1 = (canc (ws.take i)).dropLast from if_pos (by rw [ex0, c2])]
          exact (ParS.but (ParS.same p2 s4) (s4 _ _ h2) b5).dropLast
        · walk_at "go"
          refine a_ty (s4 _ _ h2) ?_
          walk_at "go"
          refine a_newT (by show 2 ≤ 100000; decide) fun t2 H5 n5 s5 h5 => ?_
          walk_at "go"
          have s25 : Same H2 H5 := s4.trans s5
          refine a_app (s25 _ _ h2) (szl (by rw [p2.1]; omega)) fun H6 b6 h6 => ?_
          walk_at "go"
          refine fin H6 _ (fun a o e => b6 a o (ne_of_none e nD) (s25 _ _ (s2 _ _ e))) h6 ?_
          rw [show push (canc (ws.take i)) x1 = canc (ws.take i) ++ [x1] from if_neg (fun z => c2 (by rw [ex0] at z; exact Option.some.inj z))]
          exact (ParS.but (ParS.same p2 s25) (s25 _ _ h2) b6).snoc ⟨t2, rfl, SqT.of (b6 _ _ (ne_of h5 (s25 _ _ h2) (by intro z; cases z)) h5)⟩
      · have e0 : canc (ws.take i) = [] := List.eq_nil_of_length_eq_zero (by rw [← p2.1, Classical.not_not.mp c1]; rfl)
        refine a_F rfl ?_
        walk_at "go"
        refine a_ty (h2) ?_
        walk_at "go"
        refine a_newT (by show 2 ≤ 100000; decide) fun t2 H5 n5 s5 h5 => ?_
        walk_at "go"
        have s25 : Same H2 H5 := s5
        refine a_app (s25 _ _ h2) (szl (by rw [p2.1]; omega)) fun H6 b6 h6 => ?_
        walk_at "go"
        refine fin H6 _ (fun a o e => b6 a o (ne_of_none e nD) (s25 _ _ (s2 _ _ e))) h6 ?_
        rw [show push (canc (ws.take i)) x1 = canc (ws.take i) ++ [x1] from if_neg (by rw [e0]; simp)]
        exact (ParS.but (ParS.same p2 s25) (s25 _ _ h2) b6).snoc ⟨t2, rfl, SqT.of (b6 _ _ (ne_of h5 (s25 _ _ h2) (by intro z; cases z)) h5)⟩
    · rintro σ H2 ⟨v2, v3, zs, rfl, s2, h2, p2⟩
      walk_at "go"
      rw [← hw.1.symm, List.take_length] at p2
      exact k D zs H2 nD s2 h2 p2
theorem sc_Word_init : FnScope ["self", "steps", "number", "name", "sign"] ["self", "steps"] (defScope s_Word_init) := ⟨rfl, rfl, rfl, by decide +kernel, rfl, by decide +kernel, by decide +kernel⟩
theorem xok_Winit (F : FX K "__init__" "Word.__init__" s_Word_init [.ref (wDfl K)] [] f fd) (T : Txt K mg) (c_fits_name : Cal P w K mg base "fits_name" 2 spFits) (c_cancelled_steps : Cal P w K mg base "cancelled_steps" 2 (spCanc K)) (c_BadStep : Rai P w K mg base "BadStep" (He.ga K "BadStep") 1 (spI1 (He.ga K "BadStep") "number")) : FnOk P w K mg base (L2.CX P w) 4 f fd ["self", "steps"] (spWInitX K) := by
  refine F.ok sc_Word_init (fun vs H Q E h => ?_) (fun cdv A outer s H vs Q E hr h => ?_)
  · obtain ⟨p, x, dx, ws, ys, rfl, _⟩ := h
    rfl
  · obtain ⟨p, x, dx, ws, ys, rfl, hp, hx, hw, ok, hl, kB, kS⟩ := h
    refine ⟨_, ((pss_cons (ps_for (passes_of rfl) rfl (k_iEs (K := K) rfl (by rfl) T.b_enumerate (pa_cons (pv 1) pa_nil)) (k_gtup (K := K) (n := 2) rfl (by rfl) (pgs_cons (pg_name (i := 2) sc_Word_init.nd rfl (Or.inl rfl)) (pgs_cons (k_gtup (K := K) (n := 2) rfl (by rfl) (pgs_cons (pg_name (i := 3) sc_Word_init.nd rfl (Or.inl rfl)) (pgs_cons (pg_name (i := 4) sc_Word_init.nd rfl (Or.inl rfl)) pgs_nil))) pgs_nil))) (pss_one (ps_if (PW.pt (pw_or (pt_not (k_tr (K := K) rfl (pe_f c_fits_name hr (by decide) rfl (passes_call (E := E) (takes_of rfl rfl rfl rfl) (fun _ _ _ _ h => h)) (pa_cons (pv 3) pa_nil)))) (pw_or1 (pt_cmpR (k_notin (K := K) rfl) (pv 4) (pe_tup (pa_cons pe_int (pa_cons (pe_un un_neg pe_int) pa_nil))) rfl)))) (pss_one (ps_rs rfl (takes_of rfl rfl rfl rfl) (pmk_r c_BadStep hr (by decide) rfl (pa_cons (pv 2) pa_nil)))) pss_nil))) 
      (pss_cons (k_put (K := K) rfl (pv 0) (pe_callTy (k_tuple (K := K) rfl) (by rfl) T.b_tuple (by decide +kernel) (pa_cons (pe_f c_cancelled_steps hr (by decide) rfl (passes_call (E := E) (takes_of rfl rfl rfl rfl) (fun _ _ _ _ h => h)) (pa_cons (pv 1) pa_nil)) pa_nil))) (pss_one (ps_if (pt_cmpR op_gt (pe_callB (k_len (K := K) rfl) (by rfl) T.b_len PySem.boot_len (pa_cons (k_fld (K := K) rfl (pv 0)) pa_nil)) (pe_gv rfl T.k_MOST) (nomark _)) (pss_one (ps_rs rfl (takes_of rfl rfl rfl rfl) (pmk_n T.r_TooGreat rfl))) pss_nil))))), ?_⟩
    try dsimp only [cxOf]
    walk_at "go"
    refine a_en hx fun J wk => ?_
    refine for_it wk (fun i σ H' => ∃ v2 v3 v4, σ = [some (.ref p), some (.ref x), v2, v3, v4] ∧ Same H H' ∧ ∀ (k : Nat) y, k < i → ws[k]? = some y → okS y)
      ⟨none, none, none, rfl, Same.refl _, fun k y hk => absurd hk (Nat.not_lt_zero _)⟩ (fun i σ H' _ ⟨_, _, _, _, s', _⟩ => s') ?_ ?_
    · rintro i y σ H' H2 hi ⟨v2, v3, v4, rfl, s', ok'⟩ ⟨q, a1, z, rfl, nq, hH, e1, ez⟩
      cases Option.some.inj e1
      have s2 : Same H' H2 := by rw [hH]; exact same_new nq
      have hq : H2 q = some (.tup [.int (i : Nat), z]) := by rw [hH]; exact upd_same
      clear hH
      have s3 := s'.trans s2
      obtain ⟨x1, ex, qq, rfl, hqq⟩ := (ParS.same hw s3).getD ez
      have bad : ¬ okS x1 → ∀ H4, Same H H4 → rOex (He.ga K "BadStep") (spI1 (He.ga K "BadStep") "number") [.int (i : Nat)] H4 E := fun nb H4 s4 => a_oex1 fun d H5 hd s5 h5 => kB i d H5 ⟨⟨_, ex, nb⟩, ok'⟩ (But.of (s4.trans s5)) h5
      refine ⟨q, _, rfl, SqT.of hq, rfl, _, _, rfl, ?_⟩
      refine ⟨_, _, rfl, qq, _, rfl, hqq, rfl, _, _, rfl, _, _, rfl, rfl, rfl, ?_⟩
      walk_at "go"
      refine ⟨x1.1, rfl, (ok x1 (List.mem_of_getElem? ex)).2, fun H3 s4 => ?_⟩
      walk_at "go"
      cases hf : fitsN x1.1 with
      | false =>
        refine a_T rfl (a_T rfl ?_)
        walk_at "go"
        exact bad (fun z => by rw [z.1] at hf; cases hf) _ (s3.trans s4)
      | true =>
        refine a_F rfl ?_
        walk_at "go"
        refine a_newT (by show 2 ≤ 100000; decide) fun t1 H6 n6 s6 h6 => ?_
        refine a_notin2 (SqT.of h6) ?_
        walk_at "go"
        refine a_nite (fun c3 => ?_) (fun c3 => ?_)
        · walk_at "go"
          exact bad (fun z => c3 z.2) _ ((s3.trans s4).trans s6)
        · walk_at "go"
          refine ⟨_, _, _, rfl, (s3.trans s4).trans s6, fun k u hk ek => ?_⟩
          by_cases hkm : k < i
          · exact ok' k u hkm ek
          · have : k = i := by omega
            subst this
            rw [ex] at ek
            cases Option.some.inj ek
            exact ⟨hf, c3⟩
    · rintro σ H2 ⟨v2, v3, v4, rfl, s2, ok2⟩
      have oks : OkSs ws := fun y hy => by
        obtain ⟨n, hn, e⟩ := List.getElem_of_mem hy
        exact ok2 n y (by rw [hw.1]; exact hn) (by rw [List.getElem?_eq_getElem hn, e])
      obtain ⟨kQ, kT⟩ := kS oks
      walk_at "go"
      refine ⟨x, ws, ys, rfl, hx.same s2, ParS.same hw s2, ok, hl, fun r zs H3 nr s3 h3 p3 => ?_⟩
      walk_at "go"
      refine a_tupL (SqL.of h3) fun t H4 n4 s4 h4 => ?_
      walk_at "go"
      have hp4 := s4 _ _ (s3 _ _ (s2 _ _ hp))
      refine a_put hp4 T.o_Word.cl T.n_Word_steps (by show 0 < 1000; decide) fun H5 b5 h5 => ?_
      have ht5 : SqT K H5 t zs := sqt_butI hp4 b5 (SqT.of h4)
      have p5 : Par (StepAt K H5) zs (canc ws) := (ParS.same p3 s4).mono fun v x z => z.butI hp4 b5
      have bb : But p H H5 := (But.of ((s2.trans s3).trans s4)).trans b5
      walk_at "go"
      refine a_fld h5 T.o_Word.cl T.n_Word_steps (st_look _) ?_
      walk_at "go"
      refine a_lenT ht5 ?_
      rw [p5.1]
      walk_at "go"
      refine a_ite (fun c => ?_) (fun c => ?_)
      · walk_at "go"
        exact kT (by omega) H5 bb
      · walk_at "go"
        exact kQ (by omega) H5 bb ⟨dx, t, zs, h5, ht5, p5, OkR.canc oks, by omega⟩
theorem weak_Winit {K : PySem.W.Frag} (vs : List V) (H : Hp) (Q : VK) (E : XK) (h : spWInit K vs H Q E) : spWInitX K vs H Q E := by
  obtain ⟨p, x, dx, ws, ys, rfl, h1, h2, h3, h4, h5, h6, k⟩ := h
  exact ⟨p, x, dx, ws, ys, rfl, h1, h2, h3, h4.str, h5, fun i d H' f => (h4.no f).elim, fun _ => ⟨fun _ => k, fun z => by omega⟩⟩
theorem weak_Winit0 {K : PySem.W.Frag} {mg : Str → Option Value} (T : Txt K mg) (vs : List V) (H : Hp) (Q : VK) (E : XK) (h : spWInit0 K vs H Q E) : spWInitX K (vs ++ [.ref (wDfl K)]) H Q E := by
  obtain ⟨p, dx, rfl, h1, k⟩ := h
  refine weak_Winit _ _ _ _ ⟨p, wDfl K, dx, [], [], rfl, h1, .inr (etB_ok T.et_Word H), .nil, (fun x hx => by cases hx), by decide, by decide, k⟩
/-- Word(x), where it makes one -/
theorem a_mkW {K : PySem.W.Frag} {H : Hp} {x : Addr} {ws : List Wp} {ys : List V} {Q : VK} {E : XK} (h : Seq K H x ys) (hw : Par (StepAt K H) ys ws) (ok : OkSs ws) (hl : ws.length ≤ 50000) (hc : (canc ws).length ≤ 20000)
    (q : ∀ r H', H r = none → Same H H' → WordAt K H' r (canc ws) → Q (.ref r) H') : rMk (He.ga K "Word") (spWInit K) E [.ref x] H Q := by
  refine a_mk fun r dx H1 hr s1 h1 => ⟨r, x, dx, ws, ys, rfl, h1, h.same s1, ParS.same hw s1, ok, hl, hc, fun H' b ta => ⟨rfl, q r H' hr (fun c o e => b c o (ne_of_none e hr) (s1 c o e)) ta⟩⟩
theorem a_mkW0 {K : PySem.W.Frag} {H : Hp} {Q : VK} {E : XK} (q : ∀ r H', H r = none → Same H H' → WordAt K H' r [] → Q (.ref r) H') : rMk (He.ga K "Word") (spWInit0 K) E [] H Q := by
  refine a_mk fun r dx H1 hr s1 h1 => ⟨r, dx, rfl, h1, fun H' b ta => ⟨rfl, q r H' hr (fun c o e => b c o (ne_of_none e hr) (s1 c o e)) ta⟩⟩
theorem sc_Word_len : FnScope ["self"] ["self"] (defScope s_Word_len) := ⟨rfl, rfl, rfl, by decide +kernel, rfl, by decide +kernel, by decide +kernel⟩
theorem ok_Wlen (F : FX K "__len__" "Word.__len__" s_Word_len [] [] f fd) (T : Txt K mg) : FnOk P w K mg base (L2.CX P w) 1 f fd ["self"] (spWLen K) := by
  refine F.ok sc_Word_len (fun vs H Q E h => ?_) (fun cdv A outer s H vs Q E hr h => ?_)
  · obtain ⟨p, ws, rfl, _⟩ := h
    rfl
  · obtain ⟨p, ws, rfl, ⟨dx, t, ys, h1, h2, h3, h4, h5⟩, k⟩ := h
    refine ⟨_, PSs.nox ((pss_one (ps_ret (pe_callB (k_len (K := K) rfl) (by rfl) T.b_len PySem.boot_len (pa_cons (k_fld (K := K) rfl (pv 0)) pa_nil))))), ?_⟩
    try dsimp only [cxOf]
    walk_at "go"
    refine a_fld h1 T.o_Word.cl T.n_Word_steps (st_look _) ?_
    walk_at "go"
    refine a_lenT h2 ?_
    rw [h3.1]
    exact k
theorem sc_Word_iter : FnScope ["self"] ["self"] (defScope s_Word_iter) := ⟨rfl, rfl, rfl, by decide +kernel, rfl, by decide +kernel, by decide +kernel⟩
theorem ok_Witer (F : FX K "__iter__" "Word.__iter__" s_Word_iter [] [] f fd) (T : Txt K mg) : FnOk P w K mg base (L2.CX P w) 1 f fd ["self"] (spWIter K) := by
  refine F.ok sc_Word_iter (fun vs H Q E h => ?_) (fun cdv A outer s H vs Q E hr h => ?_)
  · obtain ⟨p, dx, t, ys, rfl, _⟩ := h
    rfl
  · obtain ⟨p, dx, t, ys, rfl, h1, h2, k⟩ := h
    refine ⟨_, PSs.nox ((pss_one (ps_ret (pe_callB (k_iterT (K := K) rfl) (by rfl) T.b_iter (by decide +kernel) (pa_cons (k_fld (K := K) rfl (pv 0)) pa_nil))))), ?_⟩
    try dsimp only [cxOf]
    walk_at "go"
    refine a_fld h1 T.o_Word.cl T.n_Word_steps (st_look _) ?_
    walk_at "go"
    exact ⟨t, ys, rfl, h2, k⟩
theorem ty_lS {K : PySem.W.Frag} {H : Hp} {a : Addr} {xs : List V} (h : SqL K H a xs) : TyX K H (.ref a) (.type "list") := by
  rcases h with (h | ⟨o, h⟩) | ⟨o, its, n, h, c, _⟩
  · exact .base (.lst h)
  · exact .base (.frz h)
  · exact .kList h c
theorem eqv_sts : ∀ a b : List Wp, PyData.eqvAll (a.map stD) (b.map stD) = decide (a = b)
  | [], [] => by simp [PyData.eqvAll]
  | [], _ :: _ => by simp [PyData.eqvAll]
  | _ :: _, [] => by simp [PyData.eqvAll]
  | x :: a, y :: b => by
    have ih := eqv_sts a b
    simp only [List.map_cons, PyData.eqvAll]
    rw [ih, eqv_st]
    by_cases h : x = y
    · subst h
      simp
    · simp [h]
theorem sc_Word_eq : FnScope ["self", "other"] ["self", "other"] (defScope s_Word_eq) := ⟨rfl, rfl, rfl, by decide +kernel, rfl, by decide +kernel, by decide +kernel⟩
theorem ok_Weq (F : FX K "__eq__" "Word.__eq__" s_Word_eq [] [] f fd) (T : Txt K mg) : FnOk P w K mg base (L2.CX P w) 2 f fd ["self", "other"] (spWEq K) := by
  refine F.ok sc_Word_eq (fun vs H Q E h => ?_) (fun cdv A outer s H vs Q E hr h => ?_)
  · obtain ⟨p, q, a, rfl, _⟩ := h
    rfl
  · obtain ⟨p, q, a, rfl, ⟨dx, t, ys, h1, h2, h3, h4, h5⟩, k⟩ := h
    refine ⟨_, PSs.nox ((pss_one (ps_ret (pe_and (pe_callB (k_isi (K := K) rfl) (by rfl) T.b_isinstance (by decide +kernel) (pa_cons (pv 1) (pa_cons (pe_gv (v := .ref (He.ga K "Word")) rfl ⟨_, T.g_Word, rfl⟩) pa_nil))) (pe_one (pe_cmpR (k_eq (K := K) rfl hr.units) (k_fld (K := K) rfl (pv 0)) (k_fld (K := K) rfl (pv 1)) (nomark _))))))), ?_⟩
    try dsimp only [cxOf]
    walk_at "go"
    rcases k with ⟨b, ⟨dy, u, zs, g1, g2, g3, g4, g5⟩, k⟩ | ⟨⟨xs, g⟩, k⟩
    · refine a_isi (.own _) (T.o_Word.ty g1) T.i_Word ?_
      refine ⟨true, rfl, ?_⟩
      refine a_T rfl ?_
      walk_at "go"
      refine a_fld h1 T.o_Word.cl T.n_Word_steps (st_look _) ?_
      walk_at "go"
      refine a_fld g1 T.o_Word.cl T.n_Word_steps (st_look _) ?_
      have d1 : Dq K H 3 (.ref t) (.tuple (a.map stD)) := .tup h2 (ParS.dq h3 h4.str)
      have d2 : Dq K H 3 (.ref u) (.tuple (b.map stD)) := .tup g2 (ParS.dq g3 g4.str)
      refine a_eqW d1 d2 ?_
      rw [show PyData.eqv (.tuple (a.map stD)) (.tuple (b.map stD)) = decide (a = b) by simp only [PyData.eqv]; exact eqv_sts a b]
      exact k
    · rcases g with g | g
      · refine a_isi (.own _) (ty_lS g) T.il_Word ?_
        refine ⟨false, rfl, ?_⟩
        exact a_F rfl k
      · refine a_isi (.own _) (ty_t g) T.it_Word ?_
        refine ⟨false, rfl, ?_⟩
        exact a_F rfl k
theorem sc_Word_getitem : FnScope ["self", "number"] ["self", "number"] (defScope s_Word_getitem) := ⟨rfl, rfl, rfl, by decide +kernel, rfl, by decide +kernel, by decide +kernel⟩
theorem ok_Witem (F : FX K "__getitem__" "Word.__getitem__" s_Word_getitem [] [] f fd) (T : Txt K mg) (c_NoStep : Rai P w K mg base "NoStep" (He.ga K "NoStep") 1 (spI1 (He.ga K "NoStep") "number")) : FnOk P w K mg base (L2.CX P w) 3 f fd ["self", "number"] (spWItem K) := by
  refine F.ok sc_Word_getitem (fun vs H Q E h => ?_) (fun cdv A outer s H vs Q E hr h => ?_)
  · obtain ⟨p, ws, z, rfl, _⟩ := h
    rfl
  · obtain ⟨p, ws, z, rfl, ⟨dx, t, ys, h1, h2, h3, h4, h5⟩, kQ, kE⟩ := h
    refine ⟨_, ((pss_cons (ps_if (PW.pt (pw_or (pt_cmpR op_lt (pv 1) pe_int (nomark _)) (pw_or1 (pt_cmpR op_ge (pv 1) (pe_callB (k_len (K := K) rfl) (by rfl) T.b_len PySem.boot_len (pa_cons (k_fld (K := K) rfl (pv 0)) pa_nil)) (nomark _))))) (pss_one (ps_rs rfl (takes_of rfl rfl rfl rfl) (pmk_r c_NoStep hr (by decide) rfl (pa_cons (pv 1) pa_nil)))) pss_nil) (pss_one (ps_ret (pe_ix (k_ix (K := K) rfl) (k_fld (K := K) rfl (pv 0)) (pv 1) (fun _ _ => rfl)))))), ?_⟩
    try dsimp only [cxOf]
    walk_at "go"
    refine a_ite (fun c1 => ?_) (fun c1 => ?_)
    · refine a_T rfl ?_
      walk_at "go"
      exact a_oex1 fun d H' hd s' h' => kE (by omega) d H' s' h'
    · walk_at "go"
      refine a_fld h1 T.o_Word.cl T.n_Word_steps (st_look _) ?_
      walk_at "go"
      refine a_lenT h2 ?_
      rw [h3.1]
      walk_at "go"
      refine a_ite (fun c2 => ?_) (fun c2 => ?_)
      · walk_at "go"
        exact a_oex1 fun d H' hd s' h' => kE (by omega) d H' s' h'
      · walk_at "go"
        refine a_fld h1 T.o_Word.cl T.n_Word_steps (st_look _) ?_
        walk_at "go"
        obtain ⟨i, ei⟩ : ∃ i : Nat, z = (i : Int) := ⟨z.toNat, by omega⟩
        have hi : i < ws.length := by omega
        obtain ⟨v, ev, sv⟩ := h3.get hi
        exact a_ixT h2 (atI_of ei ev) (kQ i _ v ei (List.getElem?_eq_getElem hi) sv)
/-- word == word, word == another thing -/
theorem a_eqWd {H : Hp} {Q : VK} {E : XK} {p q : Addr} {a b : List Wp} (T : Txt K mg) (ha : WordAt K H p a) (hb : WordAt K H q b) (k : Q (.bl (decide (a = b))) H) : rOwnC K (He.ga K "Word") (spWEq K) E (.ref p) (.ref q) H Q := by
  obtain ⟨dx, t, ys, h1, _⟩ := id ha
  obtain ⟨dy, u, zs, g1, _⟩ := id hb
  exact ⟨p, dx, _, _, rfl, h1, T.o_Word.ty g1, T.nf_Word, p, q, a, rfl, ha, .inl ⟨b, hb, k⟩⟩
theorem a_eqWs {H : Hp} {Q : VK} {E : XK} {p q : Addr} {a : List Wp} {xs : List V} (T : Txt K mg) (ha : WordAt K H p a) (hb : Seq K H q xs) (k : Q (.bl false) H) : rOwnC K (He.ga K "Word") (spWEq K) E (.ref p) (.ref q) H Q := by
  obtain ⟨dx, t, ys, h1, _⟩ := id ha
  rcases hb with hb | hb
  · exact ⟨p, dx, _, _, rfl, h1, ty_lS hb, T.nfl_Word, p, q, a, rfl, ha, .inr ⟨⟨xs, .inl hb⟩, k⟩⟩
  · exact ⟨p, dx, _, _, rfl, h1, ty_t hb, T.nft_Word, p, q, a, rfl, ha, .inr ⟨⟨xs, .inr hb⟩, k⟩⟩
theorem a_lenWd {H : Hp} {Q : VK} {E : XK} {p : Addr} {a : List Wp} (ha : WordAt K H p a) (k : Q (.int a.length) H) : rOwnL (He.ga K "Word") (spWLen K) E [.ref p] H Q := by
  obtain ⟨dx, t, ys, h1, h2, h3, h4, h5⟩ := id ha
  exact ⟨p, dx, _, rfl, h1, p, a, rfl, ha, _, rfl, by omega, by omega, k⟩
end
theorem dq2 {K : PySem.W.Frag} {H : Hp} {n : Nat} {r : Addr} {s : Str} {v : V} {d : PyData} (h : H r = some (.tup [.str s, v])) (hs : PyData.strOk s = true) (hv : Dq K H (n + 1) v d) : Dq K H (n + 2) (.ref r) (.tuple [.str s, d]) := .tup (SqT.of h) (.cons (.str s hs) (.cons hv .nil))
theorem dq3 {K : PySem.W.Frag} {H : Hp} {n : Nat} {r : Addr} {s : Str} {v w : V} {d e : PyData} (h : H r = some (.tup [.str s, v, w])) (hs : PyData.strOk s = true) (hv : Dq K H (n + 1) v d) (hw : Dq K H (n + 1) w e) : Dq K H (n + 2) (.ref r) (.tuple [.str s, d, e]) := .tup (SqT.of h) (.cons (.str s hs) (.cons hv (.cons hw .nil)))
/-- list(word) -/
theorem a_listWd {K : PySem.W.Frag} {H : Hp} {p : Addr} {ws : List Wp} {Q : VK} (h : WordAt K H p ws) (q : ∀ l zs H', H l = none → Same H H' → H' l = some (.lst zs) → Par (StepAt K H') zs ws → Q (.ref l) H') : rListO K (He.ga K "Word") (spWIter K) (spWLen K) [.ref p] H Q := by
  obtain ⟨dx, t, ys, h1, h2, h3, h4, h5⟩ := id h
  refine a_listO h1 h2 (by rw [h3.1]; omega) (fun H1 s1 R r => ⟨p, dx, t, ys, rfl, s1 _ _ h1, same_t s1 h2, r⟩) (fun H1 s1 R r => ⟨p, ws, rfl, h.same s1, r _ (by omega) (by omega)⟩) fun l H' nl s' hl => q l ys H' nl s' hl (ParS.same h3 s')

/-! ### what stands, lifted -/
theorem WordAt.up {K : PySem.W.Frag} {H H1 : Hp} {p : Addr} {ws : List Wp} (s : Same H H1) (h : WordAt K H p ws) : WordAt K H1 p ws := h.same s
theorem WordAt.upB {K : PySem.W.Frag} {H H1 : Hp} {p D : Addr} {ws : List Wp} (b : But D H H1) (i : IsLst H D) (h : WordAt K H p ws) : WordAt K H1 p ws := let ⟨_, e⟩ := i; h.but e b
theorem Pen.up {H H1 : Hp} {p sc : Addr} {n : Nat} (s : Same H H1) (h : Pen H p sc n) : Pen H1 p sc n := h.same s
theorem Pen.lst {H : Hp} {p sc : Addr} {n : Nat} (h : Pen H p sc n) : IsLst H p := h.at_.1
local macro_rules | `(tactic| walk_at "ne") => `(tactic| first | with_reducible assumption | (with_reducible apply Ne.symm; with_reducible assumption))
local macro_rules | `(tactic| walk_at "lf") => `(tactic| first
  | with_reducible assumption
  | (with_reducible apply Same.ap; with_reducible assumption; walk_at "lf")
  | (with_reducible apply But.ap; with_reducible assumption; walk_at "ne"; walk_at "lf")
  | (with_reducible apply WordAt.up; with_reducible assumption; walk_at "lf")
  | (with_reducible apply WordAt.upB; with_reducible assumption; walk_at "lf"; walk_at "lf")
  | (with_reducible apply ParS.up; with_reducible assumption; walk_at "lf")
  | (with_reducible apply ParS.upB; with_reducible assumption; walk_at "lf"; walk_at "lf")
  | (with_reducible apply StepAt.up; with_reducible assumption; walk_at "lf")
  | (with_reducible apply StepAt.upB; with_reducible assumption; walk_at "lf"; walk_at "lf")
  | (with_reducible apply SqT.up; with_reducible assumption; walk_at "lf")
  | (with_reducible apply SqT.upB; with_reducible assumption; walk_at "lf"; walk_at "lf")
  | (with_reducible apply SqL.up; with_reducible assumption; walk_at "lf")
  | (with_reducible apply SqL.upB; with_reducible assumption; walk_at "ne"; walk_at "lf")
  | (with_reducible apply IsLst.up; with_reducible assumption; walk_at "lf")
  | (with_reducible apply IsLst.upB; with_reducible assumption; walk_at "ne"; walk_at "lf")
  | (with_reducible apply Seq.up; with_reducible assumption; walk_at "lf")
  | (with_reducible apply Pen.up; with_reducible assumption; walk_at "lf")
  | (with_reducible apply Dq.up; with_reducible assumption; walk_at "lf")
  | ((with_reducible apply Pen.lst); with_reducible assumption)
  | ((with_reducible apply IsLst.of); walk_at "lf")
  | ((with_reducible refine SqL.of ?_); walk_at "lf")
  | ((with_reducible refine SqT.of ?_); walk_at "lf"))
/-! ### inverses and products of words -/
def spInvS (K : PySem.W.Frag) : Sp := fun vs H Q _ => ∃ (x : Addr) (ws : List Wp) (ys : List V), vs = [.ref x] ∧ Seq K H x ys ∧ Par (StepAt K H) ys ws ∧ ws.length ≤ 50000 ∧
  ∀ r zs H', H r = none → Same H H' → H' r = some (.lst zs) → Par (StepAt K H') zs (invW ws) → Q (.ref r) H'
def spWMulX (K : PySem.W.Frag) : Sp := fun vs H Q E => ∃ (p q : Addr) (a b : List Wp), vs = [.ref p, .ref q] ∧ WordAt K H p a ∧ WordAt K H q b ∧
  ((canc (a ++ b)).length ≤ 20000 → ∀ r H', H r = none → Same H H' → WordAt K H' r (canc (a ++ b)) → Q (.ref r) H') ∧ (20000 < (canc (a ++ b)).length → ∀ H', Same H H' → E (eC K "TooGreat") none H')
def spWMul (K : PySem.W.Frag) : Sp := fun vs H Q _ => ∃ (p q : Addr) (a b : List Wp), vs = [.ref p, .ref q] ∧ WordAt K H p a ∧ WordAt K H q b ∧ (canc (a ++ b)).length ≤ 20000 ∧
  ∀ r H', H r = none → Same H H' → WordAt K H' r (canc (a ++ b)) → Q (.ref r) H'
def spWInv (K : PySem.W.Frag) : Sp := fun vs H Q _ => ∃ (p : Addr) (a : List Wp), vs = [.ref p] ∧ WordAt K H p a ∧ ∀ r H', H r = none → Same H H' → WordAt K H' r (invW a) → Q (.ref r) H'
def rowS (row : List Str) : List Wp := row.map fun x => (x, 1)
def spRowWX (K : PySem.W.Frag) : Sp := fun vs H Q E => ∃ (x : Addr) (row : List Str), vs = [.ref x] ∧ Seq K H x (row.map V.str) ∧ (∀ z ∈ row, z.cps.size ≤ 1000) ∧ row.length ≤ 50000 ∧
  (∀ (i : Nat) z d H', row[i]? = some z → fitsN z = false → (∀ (k : Nat) y, k < i → row[k]? = some y → fitsN y = true) → Same H H' → H' d = some (.xd [("name", .str z)]) → E (eC K "BadName") (some d) H') ∧
  ((∀ z ∈ row, fitsN z = true) → (row.length ≤ 20000 → ∀ r H', H r = none → Same H H' → WordAt K H' r (rowS row) → Q (.ref r) H') ∧ (20000 < row.length → ∀ H', Same H H' → E (eC K "TooGreat") none H'))
def spRowW (K : PySem.W.Frag) : Sp := fun vs H Q _ => ∃ (x : Addr) (row : List Str), vs = [.ref x] ∧ Seq K H x (row.map V.str) ∧ (∀ z ∈ row, fitsN z = true) ∧ row.length ≤ 20000 ∧
  ∀ r H', H r = none → Same H H' → WordAt K H' r (rowS row) → Q (.ref r) H'
theorem invW_len (a : List Wp) : (invW a).length = a.length := by simp [invW]
theorem invW_red {a : List Wp} (h : Red a) : Red (invW a) := h.rev.map
theorem inv_take (ws : List Wp) {i : Nat} {x : Wp} (h : ws.reverse[i]? = some x) : ((ws.reverse.take (i + 1)).map inv1) = (ws.reverse.take i).map inv1 ++ [inv1 x] := by
  rw [take_snoc h, List.map_append]
  rfl
theorem fitsN_len {z : Str} (h : fitsN z = true) : z.cps.size ≤ 1000 := (okS_str (x := (z, 1)) ⟨h, .inl rfl⟩).2
theorem rowS_ok {row : List Str} (h : ∀ z ∈ row, fitsN z = true) : OkSs (rowS row) := fun x hx => by
  obtain ⟨z, hz, rfl⟩ := List.mem_map.mp hx
  exact ⟨h z hz, .inl rfl⟩
theorem rowS_red (row : List Str) : Red (rowS row) := fun as x y bs e z => by
  have hx : x ∈ rowS row := by rw [e]; simp
  have hy : y ∈ rowS row := by rw [e]; simp
  obtain ⟨_, _, rfl⟩ := List.mem_map.mp hx
  obtain ⟨_, _, rfl⟩ := List.mem_map.mp hy
  have := congrArg Prod.snd z
  simp [inv1] at this
section
variable {P : Program} {w : World} {K : PySem.W.Frag} {mg : Str → Option Value} {base : Heap} {f : Addr} {fd : FuncData}
theorem sc_inverse_steps : FnScope ["steps", "name", "sign"] ["steps"] (defScope s_inverse_steps) := ⟨rfl, rfl, rfl, by decide +kernel, rfl, by decide +kernel, by decide +kernel⟩
theorem ok_invS (F : FX K "inverse_steps" "inverse_steps" s_inverse_steps [] [] f fd) (T : Txt K mg) : FnOk P w K mg base (L2.CX P w) 2 f fd ["steps"] (spInvS K) := by
  refine F.ok sc_inverse_steps (fun vs H Q E h => ?_) (fun cdv A outer s H vs Q E hr h => ?_)
  · obtain ⟨x, ws, ys, rfl, _⟩ := h
    rfl
  · obtain ⟨x, ws, ys, rfl, hx, hw, hl, k⟩ := h
    refine ⟨_, PSs.nox ((pss_one (ps_ret (by exact (pe_lc (own := [("name", 1), ("sign", 2)]) rfl sc_inverse_steps.nd (pi_seq (K := K) rfl (k_rev (K := K) rfl (pv 0))) (blkOk_by (own := [("name", 1), ("sign", 2)]) (N := ["steps", "name", "sign"]) (sc := defScope s_inverse_steps) (by decide +kernel)) (fun _ _ _ _ _ => by exact (k_gtup (K := K) (n := 2) rfl (by rfl) (pgs_cons (pg_name (i := 1) sc_inverse_steps.nd rfl (Or.inl rfl)) (pgs_cons (pg_name (i := 2) sc_inverse_steps.nd rfl (Or.inl rfl)) pgs_nil)))) (fun _ _ _ _ _ => by exact pts_nil) (fun _ _ _ _ _ => by exact (pe_tup (pa_cons (pv 1) (pa_cons (pe_un un_neg (pv 2)) pa_nil))))))))), ?_⟩
    try dsimp only [cxOf]
    walk_at "go"
    refine g_lc ?_
    walk_at "go"
    refine a_revS hx fun y H1 s1 hy => ?_
    have hw1 : Par (StepAt K H1) ys.reverse ws.reverse := (ParS.up s1 hw).reverse
    refine a_iter hy fun J wk => ?_
    refine lc_fl wk (StepAt K) (fun i => (ws.reverse.take i).map inv1) (fun s z => z.same s) (fun b i z => StepAt.upB b i z) rfl (fun i _ => by rw [List.length_map, List.length_take]; omega) (by rw [hw1.1, List.length_reverse]; omega) (fun H' s => s) ?_ ?_
    · rintro D i x1 H2 H3 nD hi s2 _ ⟨rfl, ex⟩
      refine ⟨Same.refl _, fun k1 k0 kk _ => ?_⟩
      obtain ⟨y1, ey, q, rfl, hq⟩ := (ParS.up s2 hw1).getD ex
      refine ⟨q, _, rfl, hq, rfl, _, _, rfl, _, _, rfl, rfl, rfl, ?_⟩
      walk_at "go"
      refine a_newT (by show 2 ≤ 100000; decide) fun t1 H4 n4 s4 h4 => ?_
      exact kk _ (inv1 y1) H4 (inv_take ws ey) s4 ⟨t1, rfl, SqT.of h4⟩
    · intro D acc H2 nD s2 h2 p2
      refine k D acc H2 (s1.free nD) (s1.trans s2) h2 ?_
      have e : ys.reverse.length = ws.reverse.length := hw1.1
      rw [e, List.take_length] at p2
      exact p2
theorem sc_Word_mul : FnScope ["self", "other"] ["self", "other"] (defScope s_Word_mul) := ⟨rfl, rfl, rfl, by decide +kernel, rfl, by decide +kernel, by decide +kernel⟩
theorem xok_Wmul (F : FX K "__mul__" "Word.__mul__" s_Word_mul [] [] f fd) (T : Txt K mg) (c_Word_init : Mak P w K mg base "Word" (He.ga K "Word") 4 (spWInitX K)) : FnOk P w K mg base (L2.CX P w) 6 f fd ["self", "other"] (spWMulX K) := by
  refine F.ok sc_Word_mul (fun vs H Q E h => ?_) (fun cdv A outer s H vs Q E hr h => ?_)
  · obtain ⟨p, q, a, b, rfl, _⟩ := h
    rfl
  · obtain ⟨p, q, a, b, rfl, ⟨dx, t, ys, h1, h2, h3, h4, h5⟩, ⟨dy, u, zs, g1, g2, g3, g4, g5⟩, kQ, kE⟩ := h
    refine ⟨_, ((pss_cons (ps_if (pt_not (k_tr (K := K) rfl (pe_callB (k_isi (K := K) rfl) (by rfl) T.b_isinstance (by decide +kernel) (pa_cons (pv 1) (pa_cons (pe_gv (v := .ref (He.ga K "Word")) rfl ⟨_, T.g_Word, rfl⟩) pa_nil))))) (pss_one (ps_ret (pe_off))) pss_nil) (pss_one (ps_ret (pe_k c_Word_init hr (by decide) rfl (passes_call (E := E) (takes_of rfl rfl rfl rfl) (fun _ _ _ _ h => h)) (pa_cons (pe_op (k_add (K := K) rfl) (k_fld (K := K) rfl (pv 0)) (k_fld (K := K) rfl (pv 1))) pa_nil)))))), ?_⟩
    try dsimp only [cxOf]
    walk_at "go"
    refine a_isi (.own _) (T.o_Word.ty g1) T.i_Word ?_
    walk_at "go"
    refine a_F rfl ?_
    walk_at "go"
    refine a_fld h1 T.o_Word.cl T.n_Word_steps (st_look _) ?_
    walk_at "go"
    refine a_fld g1 T.o_Word.cl T.n_Word_steps (st_look _) ?_
    refine a_catTT h2 g2 (by rw [h3.1, g3.1]; omega) fun l H1 s1 hl => ?_
    walk_at "go"
    refine a_mk fun r dz H2 nr s2 h2' => ⟨r, l, dz, a ++ b, _, rfl, h2', .inr (SqT.up s2 hl), (ParS.up s2 (ParS.up s1 (h3.append g3))), h4.str.app g4.str, by rw [List.length_append]; omega, (fun i d H' fb => ((h4.1.app g4.1).no fb).elim), fun _ => ⟨fun hc H' bb wd => ⟨rfl, kQ hc r H' (s1.free nr) (fun c o e => bb c o (ne_of_none e (s1.free nr)) (s2 c o (s1 c o e))) wd⟩, fun hc H' bb => kE hc H' (fun c o e => bb c o (ne_of_none e (s1.free nr)) (s2 c o (s1 c o e)))⟩⟩
theorem weak_Wmul {K : PySem.W.Frag} (vs : List V) (H : Hp) (Q : VK) (E : XK) (h : spWMul K vs H Q E) : spWMulX K vs H Q E := by
  obtain ⟨p, q, a, b, rfl, h1, h2, h3, k⟩ := h
  exact ⟨p, q, a, b, rfl, h1, h2, fun _ => k, fun z => by omega⟩
theorem sc_Word_invert : FnScope ["self"] ["self"] (defScope s_Word_invert) := ⟨rfl, rfl, rfl, by decide +kernel, rfl, by decide +kernel, by decide +kernel⟩
theorem ok_Winv (F : FX K "__invert__" "Word.__invert__" s_Word_invert [] [] f fd) (T : Txt K mg) (c_Word_init : Mak P w K mg base "Word" (He.ga K "Word") 4 (spWInit K)) (c_inverse_steps : Cal P w K mg base "inverse_steps" 2 (spInvS K)) : FnOk P w K mg base (L2.CX P w) 6 f fd ["self"] (spWInv K) := by
  refine F.ok sc_Word_invert (fun vs H Q E h => ?_) (fun cdv A outer s H vs Q E hr h => ?_)
  · obtain ⟨p, a, rfl, _⟩ := h
    rfl
  · obtain ⟨p, a, rfl, ⟨dx, t, ys, h1, h2, h3, h4, h5⟩, k⟩ := h
    refine ⟨_, PSs.nox ((pss_one (ps_ret (pe_k c_Word_init hr (by decide) rfl passL (pa_cons (pe_f c_inverse_steps hr (by decide) rfl passL (pa_cons (k_fld (K := K) rfl (pv 0)) pa_nil)) pa_nil))))), ?_⟩
    try dsimp only [cxOf]
    walk_at "go"
    refine a_fld h1 T.o_Word.cl T.n_Word_steps (st_look _) ?_
    walk_at "go"
    refine ⟨t, a, ys, rfl, .inr h2, h3, by omega, fun r zs H1 nr s1 hr1 p1 => ?_⟩
    walk_at "go"
    have e : canc (invW a) = invW a := canc_of_red (invW_red h4.2)
    refine a_mkW (.inl (SqL.of hr1)) p1 h4.1.inv (by rw [invW_len]; omega) (by rw [e, invW_len]; omega) fun r2 H2 n2 s2 wd => ?_
    rw [e] at wd
    exact k r2 H2 (s1.free n2) (s1.trans s2) wd
/-- word * word, ~word -/
theorem a_mulWd {H : Hp} {Q : VK} {E : XK} {p q : Addr} {a b : List Wp} (ha : WordAt K H p a) (hb : WordAt K H q b) (hl : (canc (a ++ b)).length ≤ 20000) (k : ∀ r H', H r = none → Same H H' → WordAt K H' r (canc (a ++ b)) → Q (.ref r) H') : rOwnB (He.ga K "Word") (spWMul K) E (.ref p) (.ref q) H Q := by
  obtain ⟨dx, t, ys, h1, _⟩ := id ha
  obtain ⟨dy, u, zs, g1, _⟩ := id hb
  exact ⟨p, dx, _, q, dy, _, rfl, rfl, h1, g1, p, q, a, b, rfl, ha, hb, hl, k⟩
theorem a_invWd {H : Hp} {Q : VK} {E : XK} {p : Addr} {a : List Wp} (ha : WordAt K H p a) (k : ∀ r H', H r = none → Same H H' → WordAt K H' r (invW a) → Q (.ref r) H') : rOwnU (He.ga K "Word") (spWInv K) E (.ref p) H Q := by
  obtain ⟨dx, t, ys, h1, _⟩ := id ha
  exact ⟨p, dx, _, rfl, h1, p, a, rfl, ha, k⟩
end

theorem eqv_nil {K : PySem.W.Frag} {H : Hp} {zs : List V} {ws : List Wp} (h : Par (StepAt K H) zs ws) : PyData.eqv (.list (ws.map stD)) (.list []) = decide (zs = []) := by
  have e : (zs = []) = (ws = []) := by
    rw [← List.length_eq_zero_iff, ← List.length_eq_zero_iff, h.1]
  cases ws with
  | nil => simp [PyData.eqv, PyData.eqvAll, List.length_eq_zero_iff.mp h.1]
  | cons x ws =>
    simp only [List.map_cons, PyData.eqv, PyData.eqvAll]
    have : zs ≠ [] := fun z => by rw [z] at h; cases h.1
    simp [this]
section
variable {P : Program} {w : World} {K : PySem.W.Frag} {mg : Str → Option Value} {base : Heap} {f : Addr} {fd : FuncData}
theorem sc__law_reduced : FnScope ["_law_steps_here", "_law_found", "_law_name_here", "_law_sign"] ["_law_steps_here"] (defScope s__law_reduced) := ⟨rfl, rfl, rfl, by decide +kernel, rfl, by decide +kernel, by decide +kernel⟩
theorem ok_reduced (F : FX K "_law_reduced" "_law_reduced" s__law_reduced [] [] f fd) (T : Txt K mg) : FnOk P w K mg base (L2.CX P w) 2 f fd ["_law_steps_here"] (spCanc K) := by
  refine F.ok sc__law_reduced (fun vs H Q E h => ?_) (fun cdv A outer s H vs Q E hr h => ?_)
  · obtain ⟨x, ws, ys, rfl, _⟩ := h
    rfl
  · obtain ⟨x, ws, ys, rfl, hx, hw, ok, hl, k⟩ := h
    refine ⟨_, PSs.nox ((pss_cons (ps_set (i := 1) sc__law_reduced.nd rfl (Or.inl rfl) (pe_lst pa_nil)) 
      (pss_cons (ps_for PassesOwn.never rfl (pi_seq (K := K) rfl (pv 0)) (k_gtup (K := K) (n := 2) rfl (by rfl) (pgs_cons (pg_name (i := 2) sc__law_reduced.nd rfl (Or.inl rfl)) (pgs_cons (pg_name (i := 3) sc__law_reduced.nd rfl (Or.inl rfl)) pgs_nil))) (pss_one (ps_if (PW.pt (pw_and (pt_cmpR (k_ne (K := K) rfl hr.units) (pv 1) (pe_lst pa_nil) (nomark _)) (pw_and1 (pt_cmpR (k_eq (K := K) rfl hr.units) (pe_ix (k_ix (K := K) rfl) (pv 1) (pe_un un_neg pe_int) (fun _ _ => rfl)) (pe_tup (pa_cons (pv 2) (pa_cons (pe_un un_neg (pv 3)) pa_nil))) (nomark _))))) (pss_one (ps_expr (k_bm0 (K := K) rfl PySem.F.plainAttrs_list PySem.F.slot_list_pop PySem.F.type_list_pop mt_pop (pv 1)))) (pss_one (ps_expr (k_bm (K := K) rfl PySem.F.plainAttrs_list PySem.F.slot_list_append PySem.F.type_list_append mt_append (pv 1) (pa_cons (pe_tup (pa_cons (pv 2) (pa_cons (pv 3) pa_nil))) pa_nil))))))) (pss_one (ps_ret (pv 1)))))), ?_⟩
    try dsimp only [cxOf]
    walk_at "go"
    refine a_newL (by show 0 ≤ 100000; decide) fun D H1 nD s1 h1 => ?_
    walk_at "go"
    refine a_iter0 hx s1 fun J wk => ?_
    refine for_it wk (fun i σ H' => ∃ v2 v3 zs, σ = [some (.ref x), some (.ref D), v2, v3] ∧ Same H H' ∧ H' D = some (.lst zs) ∧ Par (StepAt K H') zs (canc (ws.take i)))
      ⟨none, none, [], rfl, s1, h1, .nil⟩ (fun i σ H' _ ⟨_, _, zs, _, s', _⟩ => s') ?_ ?_
    · rintro i y σ H3 H2 hi ⟨v2, v3, zs, rfl, s2, h2, p2⟩ ⟨rfl, ey⟩
      obtain ⟨x1, ex, q, rfl, hq⟩ := (ParS.same hw s2).getD ey
      have hlz : (canc (ws.take i)).length ≤ 50000 := Nat.le_trans (canc_len _) (by rw [List.length_take]; omega)
      have okf : StrOk (canc (ws.take i)) := fun y hy => ok y (List.mem_of_mem_take (canc_mem hy))
      have okx := ok x1 (List.mem_of_getElem? ex)
      refine ⟨q, _, rfl, hq, rfl, _, _, rfl, _, _, rfl, rfl, ?_⟩
      have fin : ∀ H4 zs', Same H H4 → H4 D = some (.lst zs') → Par (StepAt K H4) zs' (push (canc (ws.take i)) x1) → ∃ v2 v3 zs, [some (V.ref x), some (V.ref D), some (.str x1.1), some (.int x1.2)] = [some (V.ref x), some (V.ref D), v2, v3] ∧ Same H H4 ∧ H4 D = some (.lst zs) ∧ Par (StepAt K H4) zs (canc (ws.take (i + 1))) := fun H4 zs' s4 h4 p4 => by
        refine ⟨_, _, zs', rfl, s4, h4, ?_⟩
        rw [take_snoc ex, canc_snoc]
        exact p4
      walk_at "go"
      refine a_newL (by show 0 ≤ 100000; decide) fun e1 H2' n2' s2' h2' => ?_
      replace p2 := ParS.same p2 s2'
      replace h2 := s2' _ _ h2
      replace s2 := s2.trans s2'
      refine a_neW (n := 3) (.lst (SqL.of h2) (ParS.dq p2 okf)) (.lst (SqL.of h2') .nil) ?_
      rw [show PyData.eqv (.list ((canc (ws.take i)).map stD)) (.list []) = decide (zs = []) from eqv_nil p2]
      walk_at "go"
      refine a_nite (fun c1 => ?_) (fun c1 => ?_)
      · obtain ⟨y0, ey0⟩ : ∃ y0, zs.getLast? = some y0 := by
          cases e : zs.getLast? with
          | none => exact absurd (List.getLast?_eq_none_iff.mp e) c1
          | some y0 => exact ⟨y0, rfl⟩
        obtain ⟨x0, ex0, hx0⟩ := p2.last ey0
        walk_at "go"
        refine a_ixL (SqL.of h2) (atI_lst ey0) ?_
        walk_at "go"
        refine a_newT (by show 2 ≤ 100000; decide) fun t1 H4 n4 s4 h4 => ?_
        have d1 : Dq K H4 2 y0 (stD x0) := (hx0.same s4).dq (okf x0 (List.mem_of_getLast? ex0)).1
        have d2 : Dq K H4 2 (.ref t1) (stD (inv1 x1)) := StepAt.dq (x := inv1 x1) ⟨t1, rfl, SqT.of h4⟩ okx.1
        refine a_eqW d1 d2 ?_
        rw [eqv_st]
        walk_at "go"
        refine a_ite (fun c2 => ?_) (fun c2 => ?_)
        · walk_at "go"
          refine a_ty (s4 _ _ h2) ?_
          refine a_pop0 (s4 _ _ h2) ey0 fun H5 b5 h5 => ?_
          walk_at "go"
          refine fin H5 _ (fun a o e => b5 a o (ne_of_none e nD) (s4 _ _ (s2 _ _ e))) h5 ?_
          rw [show push (canc (ws.take i)) x1 = (canc (ws.take i)).dropLast from if_pos (by rw [ex0, c2])]
          exact (ParS.but (ParS.same p2 s4) (s4 _ _ h2) b5).dropLast
        · walk_at "go"
          refine a_ty (s4 _ _ h2) ?_
          walk_at "go"
          refine a_newT (by show 2 ≤ 100000; decide) fun t2 H5 n5 s5 h5 => ?_
          walk_at "go"
          have s25 : Same H2' H5 := s4.trans s5
          refine a_app (s25 _ _ h2) (szl (by rw [p2.1]; omega)) fun H6 b6 h6 => ?_
          walk_at "go"
          refine fin H6 _ (fun a o e => b6 a o (ne_of_none e nD) (s25 _ _ (s2 _ _ e))) h6 ?_
          rw [show push (canc (ws.take i)) x1 = canc (ws.take i) ++ [x1] from if_neg (fun z => c2 (by rw [ex0] at z; exact Option.some.inj z))]
          exact (ParS.but (ParS.same p2 s25) (s25 _ _ h2) b6).snoc ⟨t2, rfl, SqT.of (b6 _ _ (ne_of h5 (s25 _ _ h2) (by intro z; cases z)) h5)⟩
      · have e0 : canc (ws.take i) = [] := List.eq_nil_of_length_eq_zero (by rw [← p2.1, c1]; rfl)
        refine a_F rfl ?_
        walk_at "go"
        refine a_ty (h2) ?_
        walk_at "go"
        refine a_newT (by show 2 ≤ 100000; decide) fun t2 H5 n5 s5 h5 => ?_
        walk_at "go"
        have s25 : Same H2' H5 := s5
        refine a_app (s25 _ _ h2) (szl (by rw [p2.1]; omega)) fun H6 b6 h6 => ?_
        walk_at "go"
        refine fin H6 _ (fun a o e => b6 a o (ne_of_none e nD) (s25 _ _ (s2 _ _ e))) h6 ?_
        rw [show push (canc (ws.take i)) x1 = canc (ws.take i) ++ [x1] from if_neg (by rw [e0]; simp)]
        exact (ParS.but (ParS.same p2 s25) (s25 _ _ h2) b6).snoc ⟨t2, rfl, SqT.of (b6 _ _ (ne_of h5 (s25 _ _ h2) (by intro z; cases z)) h5)⟩
    · rintro σ H2 ⟨v2, v3, zs, rfl, s2, h2, p2⟩
      walk_at "go"
      rw [← hw.1.symm, List.take_length] at p2
      exact k D zs H2 nD s2 h2 p2
end

section
variable {P : Program} {w : World} {K : PySem.W.Frag} {mg : Str → Option Value} {base : Heap} {f : Addr} {fd : FuncData}
theorem sc__law_turned : FnScope ["_law_steps_here", "_law_name_here", "_law_sign"] ["_law_steps_here"] (defScope s__law_turned) := ⟨rfl, rfl, rfl, by decide +kernel, rfl, by decide +kernel, by decide +kernel⟩
theorem ok_turned (F : FX K "_law_turned" "_law_turned" s__law_turned [] [] f fd) (T : Txt K mg) : FnOk P w K mg base (L2.CX P w) 2 f fd ["_law_steps_here"] (spInvS K) := by
  refine F.ok sc__law_turned (fun vs H Q E h => ?_) (fun cdv A outer s H vs Q E hr h => ?_)
  · obtain ⟨x, ws, ys, rfl, _⟩ := h
    rfl
  · obtain ⟨x, ws, ys, rfl, hx, hw, hl, k⟩ := h
    refine ⟨_, PSs.nox ((pss_one (ps_ret (by exact (pe_lc (own := [("_law_name_here", 1), ("_law_sign", 2)]) rfl sc__law_turned.nd (pi_seq (K := K) rfl (k_rev (K := K) rfl (pv 0))) (blkOk_by (own := [("_law_name_here", 1), ("_law_sign", 2)]) (N := ["_law_steps_here", "_law_name_here", "_law_sign"]) (sc := defScope s__law_turned) (by decide +kernel)) (fun _ _ _ _ _ => by exact (k_gtup (K := K) (n := 2) rfl (by rfl) (pgs_cons (pg_name (i := 1) sc__law_turned.nd rfl (Or.inl rfl)) (pgs_cons (pg_name (i := 2) sc__law_turned.nd rfl (Or.inl rfl)) pgs_nil)))) (fun _ _ _ _ _ => by exact pts_nil) (fun _ _ _ _ _ => by exact (pe_tup (pa_cons (pv 1) (pa_cons (pe_un un_neg (pv 2)) pa_nil))))))))), ?_⟩
    try dsimp only [cxOf]
    walk_at "go"
    refine g_lc ?_
    walk_at "go"
    refine a_revS hx fun y H1 s1 hy => ?_
    have hw1 : Par (StepAt K H1) ys.reverse ws.reverse := (ParS.up s1 hw).reverse
    refine a_iter hy fun J wk => ?_
    refine lc_fl wk (StepAt K) (fun i => (ws.reverse.take i).map inv1) (fun s z => z.same s) (fun b i z => StepAt.upB b i z) rfl (fun i _ => by rw [List.length_map, List.length_take]; omega) (by rw [hw1.1, List.length_reverse]; omega) (fun H' s => s) ?_ ?_
    · rintro D i x1 H2 H3 nD hi s2 _ ⟨rfl, ex⟩
      refine ⟨Same.refl _, fun k1 k0 kk _ => ?_⟩
      obtain ⟨y1, ey, q, rfl, hq⟩ := (ParS.up s2 hw1).getD ex
      refine ⟨q, _, rfl, hq, rfl, _, _, rfl, _, _, rfl, rfl, rfl, ?_⟩
      walk_at "go"
      refine a_newT (by show 2 ≤ 100000; decide) fun t1 H4 n4 s4 h4 => ?_
      exact kk _ (inv1 y1) H4 (inv_take ws ey) s4 ⟨t1, rfl, SqT.of h4⟩
    · intro D acc H2 nD s2 h2 p2
      refine k D acc H2 (s1.free nD) (s1.trans s2) h2 ?_
      have e : ys.reverse.length = ws.reverse.length := hw1.1
      rw [e, List.take_length] at p2
      exact p2
end

/-! ### the law's steps -/
def spSteps : Sp := fun vs H Q _ => ∃ (p sc l : Addr) (ns : List Str) (m n : Nat), vs = [.ref p, .ref l, .int (m : Nat)] ∧ Pen H p sc (n + 200) ∧ H l = some (.lst (ns.map V.str)) ∧ l ≠ p ∧ ns ≠ [] ∧ ns.length ≤ 26 ∧ (∀ x ∈ ns, fitsN x = true) ∧ m ≤ 60 ∧
  ∀ r zs ws H', H r = none → But p H H' → Pen H' p sc n → H' r = some (.lst zs) → (∀ K, Par (StepAt K H') zs ws) → OkSs ws → (∀ x ∈ ws, x.1 ∈ ns) → ws.length ≤ m → Q (.ref r) H'
section
variable {P : Program} {w : World} {K : PySem.W.Frag} {mg : Str → Option Value} {base : Heap} {f : Addr} {fd : FuncData}
theorem sc__law_steps : FnScope ["_law_pen", "_law_names_here", "_law_most", "_law_found", "_law_k"] ["_law_pen", "_law_names_here", "_law_most"] (defScope s__law_steps) := ⟨rfl, rfl, rfl, by decide +kernel, rfl, by decide +kernel, by decide +kernel⟩
theorem ok_steps (F : FX K "_law_steps" "_law_steps" s__law_steps [] [] f fd) (T : Txt K mg) (c__law_draw : Cal P w K mg base "_law_draw" 2 spDraw) : FnOk P w K mg base (L2.CX P w) 4 f fd ["_law_pen", "_law_names_here", "_law_most"] spSteps := by
  refine F.ok sc__law_steps (fun vs H Q E h => ?_) (fun cdv A outer s H vs Q E hr h => ?_)
  · obtain ⟨p, sc, l, ns, m, n, rfl, _⟩ := h
    rfl
  · obtain ⟨p, sc, l, ns, m, n, rfl, hp, hl, hlp, ne, hn, hf, hm, k⟩ := h
    refine ⟨_, PSs.nox ((pss_cons (ps_set (i := 3) sc__law_steps.nd rfl (Or.inl rfl) (pe_lst pa_nil)) 
      (pss_cons (ps_for PassesOwn.never rfl (pi_range1 (by rfl) T.b_range (pa_cons (pe_f c__law_draw hr (by decide) rfl passL (pa_cons (pv 0) (pa_cons (pe_op (k_add (K := K) rfl) (pv 2) pe_int) pa_nil))) pa_nil)) (pg_name (i := 4) sc__law_steps.nd rfl (Or.inl rfl)) (pss_one (ps_expr (k_bm (K := K) rfl PySem.F.plainAttrs_list PySem.F.slot_list_append PySem.F.type_list_append mt_append (pv 3) (pa_cons (pe_tup (pa_cons (pe_ix (k_ix (K := K) rfl) (pv 1) (pe_f c__law_draw hr (by decide) rfl passL (pa_cons (pv 0) (pa_cons (pe_callB (k_len (K := K) rfl) (by rfl) T.b_len PySem.boot_len (pa_cons (pv 1) pa_nil)) pa_nil))) (fun _ _ => rfl)) (pa_cons (pe_op op_sub pe_int (pe_op (k_mul (K := K) rfl) pe_int (pe_f c__law_draw hr (by decide) rfl passL (pa_cons (pv 0) (pa_cons pe_int pa_nil))))) pa_nil))) pa_nil))))) (pss_one (ps_ret (pv 3)))))), ?_⟩
    try dsimp only [cxOf]
    walk_at "go"
    refine a_newL (by show 0 ≤ 100000; decide) fun D H1 nD s1 h1 => ?_
    have nDp := hp.ne nD
    walk_at "go"
    refine ⟨p, sc, _, n + 199, rfl, hp.same s1, by omega, by omega, fun r H2 r0 r1 b2 hp2 => ?_⟩
    obtain ⟨c, rfl⟩ : ∃ c : Nat, r = (c : Int) := ⟨r.toNat, by omega⟩
    walk_at "go"
    refine ⟨c, rfl, by omega, by omega, ?_⟩
    have h2 : H2 D = some (.lst []) := b2 _ _ (Ne.symm nDp.1) h1
    have hl2 : H2 l = some (.lst (ns.map V.str)) := b2 _ _ hlp (s1 _ _ hl)
    have nlD : l ≠ D := ne_of_none hl nD
    refine for_range (fun i σ H' => ∃ v4 zs ws, σ = [some (.ref p), some (.ref l), some (.int (m : Nat)), some (.ref D), v4] ∧ But p H H' ∧ Pen H' p sc (n + 199 - 2 * i) ∧ H' D = some (.lst zs) ∧ H' l = some (.lst (ns.map V.str)) ∧ (∀ K, Par (StepAt K H') zs ws) ∧ OkSs ws ∧ (∀ x ∈ ws, x.1 ∈ ns) ∧ ws.length = i)
      ⟨none, [], [], rfl, fun a o n e => b2 a o n (s1 a o e), hp2, h2, hl2, fun K => .nil, (fun x hx => by cases hx), (fun x hx => by cases hx), rfl⟩ ?_ ?_
    · rintro i σ H3 hi ⟨v4, zs, ws, rfl, b3, hp3, h3, hl3, pw, okw, inw, hw⟩
      have hi' : i < m + 1 := by
        have : (c : Int) < (m : Int) + 1 := r1
        omega
      walk_at "go"
      refine a_ty h3 ?_
      walk_at "go"
      have hnl : 0 < ns.length := List.length_pos_iff.mpr ne
      rw [List.length_map]
      obtain ⟨⟨px, hpx⟩, _⟩ := hp3.at_
      refine ⟨p, sc, _, n + 198 - 2 * i, rfl, hp3.le (by omega), by omega, by omega, fun r2 H4 q0 q1 b4 hp4 => ?_⟩
      obtain ⟨j, rfl⟩ : ∃ c : Nat, r2 = (c : Int) := ⟨r2.toNat, by omega⟩
      have hj : j < ns.length := by omega
      have hl4 := b4 _ _ hlp hl3
      have h4 := b4 _ _ (Ne.symm nDp.1) h3
      walk_at "go"
      refine a_ixL (SqL.of hl4) (atI_of (z := V.str ns[j]) rfl (by rw [List.getElem?_map, List.getElem?_eq_getElem hj]; rfl)) ?_
      walk_at "go"
      obtain ⟨⟨px2, hpx2⟩, _⟩ := hp4.at_
      refine ⟨p, sc, 2, n + 197 - 2 * i, rfl, hp4.le (by omega), by omega, by omega, fun r3 H5 q20 q21 b5 hp5 => ?_⟩
      have hl5 := b5 _ _ hlp hl4
      have h5 := b5 _ _ (Ne.symm nDp.1) h4
      walk_at "go"
      refine a_newT (by show 2 ≤ 100000; decide) fun t H6 n6 s6 h6 => ?_
      walk_at "go"
      refine a_app (s6 _ _ h5) (szl (by rw [(pw K).1, hw]; omega)) fun H7 b7 h7 => ?_
      have ntD : t ≠ D := Ne.symm (ne_of_none h5 n6)
      refine ⟨_, zs ++ [.ref t], ws ++ [(ns[j], 1 - 2 * r3)], rfl, fun a o ne e => ?_, ?_, h7, ?_, ?_, ?_, ?_, ?_⟩
      · refine b7 a o (ne_of_none e nD) (s6 _ _ (b5 a o ne (b4 a o ne (b3 a o ne e))))
      · exact ((hp5.same s6).but b7 nDp.1 nDp.2).le (by omega)
      · exact b7 _ _ nlD (s6 _ _ hl5)
      · intro K
        refine Par.snoc ?_ ⟨t, rfl, SqT.of (b7 _ _ ntD h6)⟩
        exact ParS.but (ParS.same (ParS.but (ParS.but (pw K) hpx b4) hpx2 b5) s6) (s6 _ _ h5) b7
      · intro x hx
        rcases List.mem_append.mp hx with hx | hx
        · exact okw x hx
        · rw [List.mem_singleton] at hx
          subst hx
          exact ⟨hf _ (List.getElem_mem hj), by dsimp only; omega⟩
      · intro x hx
        rcases List.mem_append.mp hx with hx | hx
        · exact inw x hx
        · rw [List.mem_singleton] at hx
          subst hx
          exact List.getElem_mem hj
      · rw [List.length_append, hw]
        rfl
    · rintro σ H3 ⟨v4, zs, ws, rfl, b3, hp3, h3, hl3, pw, okw, inw, hw⟩
      walk_at "go"
      have hcm : c ≤ m := by
        have : (c : Int) < (m : Int) + 1 := r1
        omega
      exact k D zs ws H3 nD b3 (hp3.le (by omega)) h3 pw okw inw (by omega)
end

/-! ### lists of steps, lists of words -/
def LotAt (K : PySem.W.Frag) (N : Addr → Prop) (H : Hp) (v : V) (ws : List Wp) : Prop := ∃ a ys, v = .ref a ∧ N a ∧ H a = some (.lst ys) ∧ Par (StepAt K H) ys ws
theorem LotAt.up {K : PySem.W.Frag} {N : Addr → Prop} {H H1 : Hp} {v : V} {ws : List Wp} (s : Same H H1) (h : LotAt K N H v ws) : LotAt K N H1 v ws := let ⟨a, ys, e, n, h1, h2⟩ := h; ⟨a, ys, e, n, s _ _ h1, ParS.up s h2⟩
theorem LotAt.upB {K : PySem.W.Frag} {N : Addr → Prop} {H H1 : Hp} {D : Addr} {v : V} {ws : List Wp} (b : But D H H1) (i : IsLst H D) (nD : ∀ a, N a → a ≠ D) (h : LotAt K N H v ws) : LotAt K N H1 v ws := let ⟨a, ys, e, n, h1, h2⟩ := h; ⟨a, ys, e, n, b _ _ (nD a n) h1, ParS.upB b i h2⟩
theorem LotAt.wk {K : PySem.W.Frag} {N M : Addr → Prop} {H : Hp} {v : V} {ws : List Wp} (m : ∀ a, N a → M a) (h : LotAt K N H v ws) : LotAt K M H v ws := let ⟨a, ys, e, n, h1, h2⟩ := h; ⟨a, ys, e, m a n, h1, h2⟩
theorem LotsAt.up {K : PySem.W.Frag} {N : Addr → Prop} {H H1 : Hp} {zs : List V} {lots : List (List Wp)} (s : Same H H1) (h : Par (LotAt K N H) zs lots) : Par (LotAt K N H1) zs lots := h.mono fun _ _ z => z.up s
theorem LotsAt.upB {K : PySem.W.Frag} {N : Addr → Prop} {H H1 : Hp} {D : Addr} {zs : List V} {lots : List (List Wp)} (b : But D H H1) (i : IsLst H D) (nD : ∀ a, N a → a ≠ D) (h : Par (LotAt K N H) zs lots) : Par (LotAt K N H1) zs lots := h.mono fun _ _ z => z.upB b i nD
def WdAt (K : PySem.W.Frag) (H : Hp) (v : V) (ws : List Wp) : Prop := ∃ a, v = .ref a ∧ WordAt K H a ws
theorem WdsAt.up {K : PySem.W.Frag} {H H1 : Hp} {zs : List V} {lots : List (List Wp)} (s : Same H H1) (h : Par (WdAt K H) zs lots) : Par (WdAt K H1) zs lots := h.mono fun _ _ ⟨a, e, z⟩ => ⟨a, e, z.up s⟩
theorem WdsAt.upB {K : PySem.W.Frag} {H H1 : Hp} {D : Addr} {zs : List V} {lots : List (List Wp)} (b : But D H H1) (i : IsLst H D) (h : Par (WdAt K H) zs lots) : Par (WdAt K H1) zs lots := h.mono fun _ _ ⟨a, e, z⟩ => ⟨a, e, z.upB b i⟩
local macro_rules | `(tactic| walk_at "lf") => `(tactic| first
  | (with_reducible apply LotsAt.up; with_reducible assumption; walk_at "lf")
  | (with_reducible apply LotsAt.upB; with_reducible assumption; walk_at "lf"; (first | with_reducible exact fun _ h => h | with_reducible exact fun _ h => And.left h | with_reducible exact fun _ h => And.right h); walk_at "lf")
  | (with_reducible apply WdsAt.up; with_reducible assumption; walk_at "lf")
  | (with_reducible apply WdsAt.upB; with_reducible assumption; walk_at "lf"; walk_at "lf"))
def OkLots (lots : List (List Wp)) (n : Nat) : Prop := ∀ ws ∈ lots, OkSs ws ∧ ws.length ≤ n
theorem flat_len {n : Nat} : ∀ {lots : List (List Wp)}, OkLots lots n → lots.flatten.length ≤ lots.length * n
  | [], _ => by simp
  | ws :: lots, h => by
    have := flat_len (lots := lots) fun x hx => h x (List.mem_cons_of_mem _ hx)
    have := (h ws (List.mem_cons_self ..)).2
    rw [List.flatten_cons, List.length_append, List.length_cons, Nat.add_mul]
    omega
theorem flat_ok {n : Nat} {lots : List (List Wp)} (h : OkLots lots n) : OkSs lots.flatten := fun x hx => by
  obtain ⟨ws, h1, h2⟩ := List.mem_flatten.mp hx
  exact (h ws h1).1 x h2
theorem OkLots.take {n : Nat} {lots : List (List Wp)} (h : OkLots lots n) (i : Nat) : OkLots (lots.take i) n := fun x hx => h x (List.mem_of_mem_take hx)

/-- a draw, as a natural number -/
theorem a_draw {H : Hp} {p sc : Addr} {m : Int} {n k : Nat} {Q : VK} {E : XK} (hp : Pen H p sc k) (hk : n + 1 ≤ k) (m0 : 0 < m) (m1 : m < 1073741824) (q : ∀ (c : Nat) H', (c : Int) < m → But p H H' → Pen H' p sc n → Q (.int c) H') : spDraw [.ref p, .int m] H Q E :=
  ⟨p, sc, m, n, rfl, hp.le hk, m0, m1, fun r H' r0 r1 b hp' => by
    obtain ⟨c, rfl⟩ : ∃ c : Nat, r = (c : Int) := ⟨r.toNat, by omega⟩
    exact q c H' r1 b hp'⟩
theorem a_neSt {K : PySem.W.Frag} {H : Hp} {Q : VK} {a b : Addr} {zs us : List V} {ws : List Wp} (h1 : H a = some (.lst zs)) (p1 : Par (StepAt K H) zs ws) (h2 : H b = some (.lst us)) (p2 : Par (StepAt K H) us ws) (ok : StrOk ws) (q : Q (.bl false) H) : rNeU K (.ref a) (.ref b) H Q :=
  a_neQ (n := 4) (.lst (SqL.of h1) (ParS.dq p1 ok)) (.lst (SqL.of h2) (ParS.dq p2 ok)) q
theorem str_at {ns : List Str} {j : Nat} (h : j < ns.length) : (ns.map V.str)[j]? = some (V.str ns[j]) := by rw [List.getElem?_map, List.getElem?_eq_getElem h]; rfl
/-- a if c else b, whose ways meet -/
theorem a_ifM {c : Prop} [Decidable c] {ta tb : TE} {σ : L2.St} {H : Hp} {Q : VK} (J : V → Hp → Prop) (h1 : c → ∀ R : VK, (∀ v H', J v H' → R v H') → ta σ H R) (h2 : ¬ c → ∀ R : VK, (∀ v H', J v H' → R v H') → tb σ H R) (fin : ∀ v H', J v H' → Q v H') : if decide c = true then ta σ H Q else tb σ H Q := a_ite (fun h => h1 h Q fin) fun h => h2 h Q fin

/-! ### schemes -/
theorem sc_BadScheme_init : FnScope ["self", "line"] ["self", "line"] (defScope s_BadScheme_init) := ⟨rfl, rfl, rfl, by decide +kernel, rfl, by decide +kernel, by decide +kernel⟩
theorem ok_BadScheme {P : Program} {w : World} {K : PySem.W.Frag} {mg : Str → Option Value} {base : Heap} {f : Addr} {fd : FuncData} (F : FX K "__init__" "BadScheme.__init__" s_BadScheme_init [] [] f fd) (T : Txt K mg) : FnOk P w K mg base (L2.CX P w) 1 f fd ["self", "line"] (spI1 (He.ga K "BadScheme") "line") := by
  refine F.ok sc_BadScheme_init (fun vs H Q E h => ?_) (fun cdv A outer s H vs Q E hr h => ?_)
  · obtain ⟨a, v, rfl, _⟩ := h
    rfl
  · obtain ⟨a, v, rfl, ha, k⟩ := h
    refine ⟨_, PSs.nox (pss_one (ps_ost (pv 0) (pv 1))), ?_⟩
    exact ⟨_, rfl, _, rfl, a, He.ga K "BadScheme", rfl, T.x_BadScheme.ox, T.nx_BadScheme_line, .inl ⟨ha, k⟩⟩
def prOk (src : Int) (i : Nat) (x : Pr) : Prop := (x.2 = 1 ∨ x.2 = -1) ∧ 0 ≤ x.1 ∧ x.1 < src + i
def lineOk (src : Int) (i : Nat) (ps : List Pr) : Prop := 1 ≤ ps.length ∧ ps.length ≤ 8 ∧ ∀ x ∈ ps, prOk src i x
def LsOk (src : Int) (ls : List (List Pr)) : Prop := ∀ (i : Nat) ps, ls[i]? = some ps → lineOk src i ps
def FstBad (src : Int) (ls : List (List Pr)) (i : Nat) : Prop := (∃ ps, ls[i]? = some ps ∧ ¬ lineOk src i ps) ∧ ∀ (k : Nat) ps, k < i → ls[k]? = some ps → lineOk src k ps
def TLines (K : PySem.W.Frag) (H : Hp) (zs : List V) (ls : List (List Pr)) : Prop := zs.length = ls.length ∧ ∀ (k : Nat) v x, zs[k]? = some v → ls[k]? = some x → ∃ q ys, v = .ref q ∧ SqT K H q ys ∧ PairsIn K H ys x
def SchAt (K : PySem.W.Frag) (H : Hp) (p : Addr) (src : Int) (ls : List (List Pr)) : Prop := ∃ dx t zs, H p = some (.ins (He.ga K "Scheme") dx [("sources", .int src), ("lines", .ref t)]) ∧ SqT K H t zs ∧ TLines K H zs ls
theorem TLines.same {K : PySem.W.Frag} {H H1 : Hp} {zs : List V} {ls : List (List Pr)} (h : TLines K H zs ls) (s : Same H H1) : TLines K H1 zs ls := ⟨h.1, fun k v x a b => let ⟨q, ys, e, h1, h2⟩ := h.2 k v x a b; ⟨q, ys, e, same_t s h1, h2.same s⟩⟩
theorem SchAt.same {K : PySem.W.Frag} {H H1 : Hp} {p : Addr} {src : Int} {ls : List (List Pr)} (h : SchAt K H p src ls) (s : Same H H1) : SchAt K H1 p src ls := let ⟨dx, t, zs, h1, h2, h3⟩ := h; ⟨dx, t, zs, s _ _ h1, same_t s h2, h3.same s⟩
theorem TLines.dq {K : PySem.W.Frag} {H : Hp} {zs : List V} {ls : List (List Pr)} {n : Nat} (h : TLines K H zs ls) : DqA K H (n + 3) zs (lsD ls) := dqa (fun ps => .tuple (psD ps)) h.1 fun k v x a b => by
  obtain ⟨q, ys, rfl, h1, h2⟩ := h.2 k v x a b
  exact .tup h1 h2.dq
theorem sch_l1 (src : V) (t : V) : ([(("sources" : Str), src), ("lines", t)] : List (Str × V)).lookup ("lines" : Str) = some t := by simp [List.lookup]; rfl
theorem sch_l2 (src : V) (t : V) : ([(("sources" : Str), src), ("lines", t)] : List (Str × V)).lookup ("sources" : Str) = some src := by simp [List.lookup]
def spSInitX (K : PySem.W.Frag) : Sp := fun vs H Q E => ∃ (p x dx : Addr) (src : Int) (ls : List (List Pr)) (ys : List V), vs = [.ref p, .int src, .ref x] ∧ H p = some (.ins (He.ga K "Scheme") dx []) ∧ Seq K H x ys ∧ LinesIn K H ys ls ∧ (20000 < ls.length → E (eC K "TooGreat") none H) ∧
  (ls.length ≤ 20000 → (∀ (i : Nat) d H', FstBad src ls i → Same H H' → H' d = some (.xd [("line", .int (i : Nat))]) → E (eC K "BadScheme") (some d) H') ∧ (LsOk src ls → ∀ H', But p H H' → SchAt K H' p src ls → Q .non H'))
section
variable {P : Program} {w : World} {K : PySem.W.Frag} {mg : Str → Option Value} {base : Heap} {f : Addr} {fd : FuncData}
theorem sc_Scheme_init : FnScope ["self", "sources", "lines", "line", "pairs", "number", "sign", "pair"] ["self", "sources", "lines"] (defScope s_Scheme_init) := ⟨rfl, rfl, rfl, by decide +kernel, rfl, by decide +kernel, by decide +kernel⟩
theorem xok_Sinit (F : FX K "__init__" "Scheme.__init__" s_Scheme_init [] [] f fd) (T : Txt K mg) (c_BadScheme : Rai P w K mg base "BadScheme" (He.ga K "BadScheme") 1 (spI1 (He.ga K "BadScheme") "line")) : FnOk P w K mg base (L2.CX P w) 3 f fd ["self", "sources", "lines"] (spSInitX K) := by
  refine F.ok sc_Scheme_init (fun vs H Q E h => ?_) (fun cdv A outer s H vs Q E hr h => ?_)
  · obtain ⟨p, x, dx, src, ls, ys, rfl, _⟩ := h
    rfl
  · obtain ⟨p, x, dx, src, ls, ys, rfl, hp, hx, hls, kG, kS⟩ := h
    refine ⟨_, ((pss_cons (ps_if (pt_cmpR op_gt (pe_callB (k_len (K := K) rfl) (by rfl) T.b_len PySem.boot_len (pa_cons (pv 2) pa_nil)) (pe_gv rfl T.k_LINES) (nomark _)) (pss_one (ps_rs rfl (takes_of rfl rfl rfl rfl) (pmk_n T.r_TooGreat rfl))) pss_nil) 
      (pss_cons (ps_for (passes_of rfl) rfl (k_iEs (K := K) rfl (by rfl) T.b_enumerate (pa_cons (pv 2) pa_nil)) (k_gtup (K := K) (n := 2) rfl (by rfl) (pgs_cons (pg_name (i := 3) sc_Scheme_init.nd rfl (Or.inl rfl)) (pgs_cons (pg_name (i := 4) sc_Scheme_init.nd rfl (Or.inl rfl)) pgs_nil))) (pss_cons (ps_if (pt_not (pt_chain op_le op_le pe_int (pe_callB (k_len (K := K) rfl) (by rfl) T.b_len PySem.boot_len (pa_cons (pv 4) pa_nil)) (pe_gv rfl T.k_PAIRS))) (pss_one (ps_rs rfl (takes_of rfl rfl rfl rfl) (pmk_r c_BadScheme hr (by decide) rfl (pa_cons (pv 3) pa_nil)))) pss_nil) (pss_one (ps_for (passes_of rfl) rfl (pi_seq (K := K) rfl (pv 4)) (k_gtup (K := K) (n := 2) rfl (by rfl) (pgs_cons (pg_name (i := 5) sc_Scheme_init.nd rfl (Or.inl rfl)) (pgs_cons (pg_name (i := 6) sc_Scheme_init.nd rfl (Or.inl rfl)) pgs_nil))) (pss_one (ps_if (PW.pt (pw_or (pt_cmpR (k_notin (K := K) rfl) (pv 6) (pe_tup (pa_cons pe_int (pa_cons (pe_un un_neg pe_int) pa_nil))) rfl) (pw_or1 (pt_not (pt_chain op_le op_lt pe_int (pv 5) (pe_op (k_add (K := K) rfl) (pv 1) (pv 3))))))) (pss_one (ps_rs rfl (takes_of rfl rfl rfl rfl) (pmk_r c_BadScheme hr (by decide) rfl (pa_cons (pv 3) pa_nil)))) pss_nil)))))) 
      (pss_cons (k_put (K := K) rfl (pv 0) (pv 1)) (pss_one (k_put (K := K) rfl (pv 0) (pe_callTy (k_tuple (K := K) rfl) (by rfl) T.b_tuple (by decide +kernel) (pa_cons (by exact (pe_lc (own := [("pairs", 4)]) rfl sc_Scheme_init.nd (pi_seq (K := K) rfl (pv 2)) (blkOk_by (own := [("pairs", 4)]) (N := ["self", "sources", "lines", "line", "pairs", "number", "sign", "pair"]) (sc := defScope s_Scheme_init) (by decide +kernel)) (fun _ _ _ _ _ => by exact (pg_name (i := 4) sc_Scheme_init.nd rfl (Or.inl rfl))) (fun _ _ _ _ _ => by exact pts_nil) (fun _ _ _ _ _ => by exact (pe_callTy (k_tuple (K := K) rfl) (by rfl) T.b_tuple (by decide +kernel) (pa_cons (by exact (pe_lc (own := [("pair", 7)]) rfl sc_Scheme_init.nd (pi_seq (K := K) rfl (pv 4)) (blkOk_by (own := [("pair", 7)]) (by first | rfl | kernel_rfl)) (fun _ _ _ _ _ => by exact (pg_name (i := 7) sc_Scheme_init.nd rfl (Or.inl rfl))) (fun _ _ _ _ _ => by exact pts_nil) (fun _ _ _ _ _ => by exact (pe_callTy (k_tuple (K := K) rfl) (by rfl) T.b_tuple (by decide +kernel) (pa_cons (pv 7) pa_nil))))) pa_nil))))) pa_nil)))))))), ?_⟩
    try dsimp only [cxOf]
    walk_at "go"
    refine a_lenS hx ?_
    walk_at "go"
    refine a_ite (fun c => ?_) (fun c => ?_)
    · walk_at "go"
      exact kG (by rw [← hls.1]; omega)
    · have hl : ls.length ≤ 20000 := by rw [← hls.1]; omega
      obtain ⟨kB, kQ⟩ := kS hl
      walk_at "go"
      refine a_en hx fun J wk => ?_
      refine for_it wk (fun i σ H' => ∃ v3 v4 v5 v6 v7 : Option V, σ = [some (.ref p), some (.int src), some (.ref x), v3, v4, v5, v6, v7] ∧ Same H H' ∧ ∀ (k : Nat) ps, k < i → ls[k]? = some ps → lineOk src k ps)
        ⟨none, none, none, none, none, rfl, Same.refl _, fun k ps hk => absurd hk (Nat.not_lt_zero _)⟩ (fun i σ H' _ ⟨_, _, _, _, _, _, s', _⟩ => s') ?_ ?_
      · rintro i v σ H' H2 hi ⟨v3, v4, v5, v6, v7, rfl, s', ok'⟩ ⟨q, y, z, rfl, nq, rfl, ey, ez⟩
        cases Option.some.inj ey
        have hil : i < ls.length := by rw [← hls.1]; exact hi
        have el : ls[i]? = some ls[i] := List.getElem?_eq_getElem hil
        have s2 : Same H' (upd H' q (.tup [.int (i : Nat), z])) := same_new nq
        have s3 := s'.trans s2
        obtain ⟨pq, zs, rfl, hpq, hps⟩ := (hls.2 i z _ ez el).same s3
        generalize hH : upd H' q (.tup [.int (i : Nat), .ref pq]) = H3 at *
        have hq3 : H3 q = some (.tup [.int (i : Nat), .ref pq]) := by rw [← hH]; exact upd_same
        have bad : ¬ lineOk src i ls[i] → ∀ H4, Same H H4 → rOex (He.ga K "BadScheme") (spI1 (He.ga K "BadScheme") "line") [.int (i : Nat)] H4 E := fun nb H4 s4 => a_oex1 fun d H5 hd s5 h5 => kB i d H5 ⟨⟨_, el, nb⟩, ok'⟩ (s4.trans s5) h5
        refine ⟨q, _, rfl, SqT.of hq3, rfl, _, _, rfl, _, _, rfl, rfl, ?_⟩
        walk_at "go"
        refine a_lenS hpq ?_
        rw [hps.1]
        walk_at "go"
        refine a_ite (fun c1 => ?_) (fun c1 => ?_)
        · walk_at "go"
          refine a_nite (fun c2 => ?_) (fun c2 => ?_)
          · walk_at "go"
            exact bad (fun z => c2 (by have := z.2.1; omega)) _ s3
          · walk_at "go"
            refine a_iter hpq fun J wk => ?_
            refine for_it wk (fun m σ H' => ∃ v5 v6 : Option V, σ = [some (.ref p), some (.int src), some (.ref x), some (.int i), some (.ref pq), v5, v6, v7] ∧ Same H3 H' ∧ ∀ (k : Nat) u, k < m → ls[i][k]? = some u → prOk src i u)
              ⟨v5, v6, rfl, Same.refl _, fun k ps hk => absurd hk (Nat.not_lt_zero _)⟩ (fun m σ H' _ ⟨_, _, _, s4, _⟩ => s4) ?_ ?_
            · rintro m u σ H4 H5 hm ⟨u5, u6, rfl, s4, ok4⟩ ⟨rfl, eu⟩
              have hml : m < ls[i].length := by rw [← hps.1]; exact hm
              have em : ls[i][m]? = some ls[i][m] := List.getElem?_eq_getElem hml
              obtain ⟨qq, rfl, hqq⟩ := (hps.2 m u _ eu em).same s4
              have bad2 : ¬ prOk src i ls[i][m] → ∀ H6, Same H5 H6 → rOex (He.ga K "BadScheme") (spI1 (He.ga K "BadScheme") "line") [.int (i : Nat)] H6 E := fun nb H6 s6 => bad (fun z => nb (z.2.2 _ (List.getElem_mem hml))) H6 ((s3.trans s4).trans s6)
              refine ⟨qq, _, rfl, hqq, rfl, _, _, rfl, _, _, rfl, rfl, ?_⟩
              walk_at "go"
              refine a_newT (by show 2 ≤ 100000; decide) fun t1 H6 n6 s6 h6 => ?_
              refine a_notin2 (SqT.of h6) ?_
              walk_at "go"
              refine a_nite (fun c3 => ?_) (fun c3 => ?_)
              · refine a_T rfl ?_
                walk_at "go"
                exact bad2 (fun z => c3 z.1) _ s6
              · walk_at "go"
                refine a_ite (fun c4 => ?_) (fun c4 => ?_)
                · walk_at "go"
                  refine a_nite (fun c5 => ?_) (fun c5 => ?_)
                  · walk_at "go"
                    exact bad2 (fun z => c5 z.2.2) _ s6
                  · walk_at "go"
                    refine ⟨_, _, rfl, s4.trans s6, fun k u hk ek => ?_⟩
                    by_cases hkm : k < m
                    · exact ok4 k u hkm ek
                    · have : k = m := by omega
                      subst this
                      rw [em] at ek
                      cases Option.some.inj ek
                      exact ⟨c3, c4, c5⟩
                · walk_at "go"
                  refine a_T rfl ?_
                  walk_at "go"
                  exact bad2 (fun z => c4 z.2.1) _ s6
            · rintro σ H4 ⟨u5, u6, rfl, s4, ok4⟩
              refine ⟨_, _, _, _, _, rfl, s3.trans s4, fun k ps hk ek => ?_⟩
              by_cases hki : k < i
              · exact ok' k ps hki ek
              · have : k = i := by omega
                subst this
                rw [el] at ek
                cases Option.some.inj ek
                refine ⟨by omega, by omega, fun u hu => ?_⟩
                obtain ⟨m, hm, em⟩ := List.getElem_of_mem hu
                exact ok4 m u (by rw [hps.1]; exact hm) (by rw [List.getElem?_eq_getElem hm, em])
        · walk_at "go"
          refine a_T rfl ?_
          walk_at "go"
          exact bad (fun z => c1 (by have := z.1; omega)) _ s3
      · rintro σ H' ⟨v3, v4, v5, v6, v7, rfl, s', ok'⟩
        have lok : LsOk src ls := fun k ps ek => ok' k ps (by rw [hls.1]; exact (List.getElem?_eq_some_iff.mp ek).1) ek
        walk_at "go"
        refine a_put (s' _ _ hp) T.o_Scheme.cl T.n_Scheme_sources (by show 0 < 1000; decide) fun H2 b2 hp2 => ?_
        have hx2 : Seq K H2 x ys := (hx.same s').elim (fun h => .inl (sql_but (s' _ _ hp) b2 h)) (fun h => .inr (sqt_butI (s' _ _ hp) b2 h))
        have hls2 : LinesIn K H2 ys ls := (hls.same s').but (s' _ _ hp) b2
        walk_at "go"
        refine c_sp (P := fun D k v H' => ∀ ps, ls[k]? = some ps → ∃ q ys, v = .ref q ∧ SqT K H' q ys ∧ PairsIn K H' ys ps) ⟨fun s' h ps e => let ⟨q, ys, e1, h1, h2⟩ := h ps e; ⟨q, ys, e1, same_t s' h1, h2.same s'⟩, fun hD b h ps e => let ⟨q, ys, e1, h1, h2⟩ := h ps e; ⟨q, ys, e1, sqt_but hD b h1, h2.but hD b⟩⟩ (by rw [hls.1]; omega) ?_ ?_ ?_
        · intro R r
          walk_at "go"
          exact r _ _ (Same.refl _) hx2
        · intro D acc i z H3 hD hz s3 hacc R r
          have hil : i < ls.length := by rw [← hls.1]; exact (List.getElem?_eq_some_iff.mp hz).1
          obtain ⟨pq, zs, rfl, hpq, hps⟩ := (hls2.2 i z _ hz (List.getElem?_eq_getElem hil)).same s3
          walk_at "go"
          refine c_sp (xs := zs) (P := fun D k v H' => ∀ u, ls[i][k]? = some u → PairAt K H' v u) ⟨fun s' h u e => (h u e).same s', fun hD b h u e => (h u e).but hD b⟩ ?_ ?_ ?_ ?_
          · rw [hps.1]
            have := (lok i _ (List.getElem?_eq_getElem hil)).2.1
            omega
          · intro R r
            walk_at "go"
            exact r _ _ (Same.refl _) hpq
          · intro D2 acc2 k u H4 hD2 hu s4 hacc2 R2 r2
            have hkl : k < ls[i].length := by rw [← hps.1]; exact (List.getElem?_eq_some_iff.mp hu).1
            obtain ⟨qq, rfl, hqq⟩ := (hps.2 k u _ hu (List.getElem?_eq_getElem hkl)).same s4
            walk_at "go"
            refine a_tupT hqq (r2 _ H4 (Same.refl _) fun u' e' => ?_)
            rw [List.getElem?_eq_getElem hkl] at e'
            cases Option.some.inj e'
            exact ⟨qq, rfl, hqq⟩
          · intro D2 acc2 H4 hD2 s4 h4 hl2 hP
            walk_at "go"
            refine a_tupL (SqL.of h4) fun t H5 nt s5 h5 => r _ H5 (s4.trans s5) fun ps e => ?_
            rw [List.getElem?_eq_getElem hil] at e
            cases Option.some.inj e
            exact ⟨t, acc2, rfl, SqT.of h5, by rw [hl2, hps.1], fun k v u a b => (hP k v a u b).same s5⟩
        · intro D acc H3 hD s3 h3 hla hP
          walk_at "go"
          refine a_tupL (SqL.of h3) fun t H4 nt s4 h4 => ?_
          walk_at "go"
          refine a_put (s4 _ _ (s3 _ _ hp2)) T.o_Scheme.cl T.n_Scheme_lines (by show 1 < 1000; decide) fun H5 b5 hp5 => ?_
          have hp4 := s4 _ _ (s3 _ _ hp2)
          refine kQ lok H5 (((But.of s').trans b2).trans ((But.of (s3.trans s4)).trans b5)) ⟨dx, t, acc, hp5, sqt_butI hp4 b5 (SqT.of h4), by rw [hla, hls.1], fun k v ps a b => ?_⟩
          obtain ⟨q, zs, e1, h1, h2⟩ := hP k v a ps b
          exact ⟨q, zs, e1, sqt_butI hp4 b5 (same_t s4 h1), (h2.same s4).butI hp4 b5⟩
end

/-! ### the value of a scheme over words -/
theorem SchAt.up {K : PySem.W.Frag} {H H1 : Hp} {p : Addr} {src : Int} {ls : List (List Pr)} (s : Same H H1) (h : SchAt K H p src ls) : SchAt K H1 p src ls := h.same s
def thingW (gs : List (List Wp)) (x : Pr) : List Wp := if x.2 = 1 then gs.getD x.1.toNat [] else invW (gs.getD x.1.toNat [])
def stepW (gs : List (List Wp)) (m : Option (List Wp)) (x : Pr) : Option (List Wp) := match m with
  | none => some (thingW gs x)
  | some g => some (canc (g ++ thingW gs x))
def lineW (gs : List (List Wp)) (ps : List Pr) : Option (List Wp) := ps.foldl (stepW gs) none
theorem lineW_snoc (gs : List (List Wp)) (ps : List Pr) (x : Pr) : lineW gs (ps ++ [x]) = stepW gs (lineW gs ps) x := by
  unfold lineW
  rw [List.foldl_append]
  rfl
def valsW (gs : List (List Wp)) (ls : List (List Pr)) : List (List Wp) := ls.foldl (fun gs ps => gs ++ [(lineW gs ps).getD []]) gs
theorem valsW_snoc (gs : List (List Wp)) (ls : List (List Pr)) (ps : List Pr) : valsW gs (ls ++ [ps]) = valsW gs ls ++ [(lineW (valsW gs ls) ps).getD []] := by
  unfold valsW
  rw [List.foldl_append]
  rfl
theorem valsW_len (gs : List (List Wp)) : ∀ ls : List (List Pr), (valsW gs ls).length = gs.length + ls.length := fun ls => by
  have : ∀ (ls : List (List Pr)) (gs : List (List Wp)), (ls.foldl (fun gs ps => gs ++ [(lineW gs ps).getD []]) gs).length = gs.length + ls.length := by
    intro ls
    induction ls with
    | nil => intro gs; rfl
    | cons p ls ih =>
      intro gs
      rw [List.foldl_cons, ih, List.length_append]
      show _ + 1 + _ = _ + (ls.length + 1)
      omega
  exact this ls gs
/-- no product is too great -/
def BndW (gs : List (List Wp)) (ls : List (List Pr)) : Prop := ∀ (i : Nat) ps (m : Nat) g, ls[i]? = some ps → lineW (valsW gs (ls.take i)) (ps.take m) = some g → g.length ≤ 20000
def spValWX (K : PySem.W.Frag) : Sp := fun vs H Q E => ∃ (p x o : Addr) (src : Int) (ls : List (List Pr)) (gs : List (List Wp)) (ys : List V), vs = [.ref p, .ref x, .ref o] ∧ SchAt K H p src ls ∧ LsOk src ls ∧ ls.length ≤ 20000 ∧ gs.length ≤ 20000 ∧ Seq K H x ys ∧ Par (WdAt K H) ys gs ∧
  (src ≠ (gs.length : Nat) → ∀ d H', Same H H' → H' d = some (.xd [("length", .int (gs.length : Nat)), ("wanted", .int src)]) → E (eC K "WrongLength") (some d) H') ∧
  (src = (gs.length : Nat) → BndW gs ls ∧ (ls = [] → ∀ H', Same H H' → Q (.ref o) H') ∧ (ls ≠ [] → ∀ r g H', Same H H' → (valsW gs ls)[gs.length + ls.length - 1]? = some g → WordAt K H' r g → Q (.ref r) H'))
section
variable {P : Program} {w : World} {K : PySem.W.Frag} {mg : Str → Option Value} {base : Heap} {f : Addr} {fd : FuncData}
theorem sc_Scheme_value : FnScope ["self", "results", "one", "values", "pairs", "made", "number", "sign", "thing"] ["self", "results", "one"] (defScope s_Scheme_value) := ⟨rfl, rfl, rfl, by decide +kernel, rfl, by decide +kernel, by decide +kernel⟩
theorem xok_valW (F : FX K "value" "Scheme.value" s_Scheme_value [] [] f fd) (T : Txt K mg) (c_WrongLength : Rai P w K mg base "WrongLength" (He.ga K "WrongLength") 1 (spI2 (He.ga K "WrongLength") "wanted" "length")) (c_Word_mul : Met P w K mg base (He.ga K "Word") "__mul__" 6 (spWMul K)) (c_Word_invert : Met P w K mg base (He.ga K "Word") "__invert__" 6 (spWInv K)) : FnOk P w K mg base (L2.CX P w) 8 f fd ["self", "results", "one"] (spValWX K) := by
  refine F.ok sc_Scheme_value (fun vs H Q E h => ?_) (fun cdv A outer s H vs Q E hr h => ?_)
  · obtain ⟨p, x, o, src, ls, gs, ys, rfl, _⟩ := h
    rfl
  · obtain ⟨p, x, o, src, ls, gs, ys, rfl, ⟨dx, t, zs, h1, h2, h3⟩, lok, hl, hg, hx, hys, kE, kQ⟩ := h
    refine ⟨_, ((pss_cons (ps_if (pt_cmpR (k_ne (K := K) rfl hr.units) (pe_callB (k_len (K := K) rfl) (by rfl) T.b_len PySem.boot_len (pa_cons (pv 1) pa_nil)) (k_fld (K := K) rfl (pv 0)) (nomark _)) (pss_one (ps_rs rfl (takes_of rfl rfl rfl rfl) (pmk_r c_WrongLength hr (by decide) rfl (pa_cons (k_fld (K := K) rfl (pv 0)) (pa_cons (pe_callB (k_len (K := K) rfl) (by rfl) T.b_len PySem.boot_len (pa_cons (pv 1) pa_nil)) pa_nil))))) pss_nil) 
      (pss_cons (ps_set (i := 3) sc_Scheme_value.nd rfl (Or.inl rfl) (pe_callTy (k_list (K := K) rfl) (by rfl) T.b_list (by decide +kernel) (pa_cons (pv 1) pa_nil))) 
      (pss_cons (ps_for (passes_of rfl) rfl (k_iT (K := K) rfl (k_fld (K := K) rfl (pv 0))) (pg_name (i := 4) sc_Scheme_value.nd rfl (Or.inl rfl)) (pss_cons (ps_set (i := 5) sc_Scheme_value.nd rfl (Or.inl rfl) pe_non) 
      (pss_cons (ps_for (passes_of rfl) rfl (k_iT (K := K) rfl (pv 4)) (k_gtup (K := K) (n := 2) rfl (by rfl) (pgs_cons (pg_name (i := 6) sc_Scheme_value.nd rfl (Or.inl rfl)) (pgs_cons (pg_name (i := 7) sc_Scheme_value.nd rfl (Or.inl rfl)) pgs_nil))) (pss_cons (ps_set (i := 8) sc_Scheme_value.nd rfl (Or.inl rfl) (pe_ifExp (pt_cmpR (k_eq (K := K) rfl hr.units) (pv 7) pe_int (nomark _)) (pe_ix (k_ix (K := K) rfl) (pv 3) (pv 6) (fun _ _ => rfl)) (pe_un (un_invO c_Word_invert hr (by decide) passL) (pe_ix (k_ix (K := K) rfl) (pv 3) (pv 6) (fun _ _ => rfl))))) (pss_one (ps_set (i := 5) sc_Scheme_value.nd rfl (Or.inl rfl) (pe_ifExp (pt_cmpR op_isNU (pv 5) pe_non (nomark _)) (pv 8) (pe_op (op_mulO T.o_Word c_Word_mul hr (by decide) passL) (pv 5) (pv 8))))))) (pss_one (ps_expr (k_bm (K := K) rfl PySem.F.plainAttrs_list PySem.F.slot_list_append PySem.F.type_list_append mt_append (pv 3) (pa_cons (pv 5) pa_nil))))))) (pss_one (ps_ret (pe_ifExp (k_tr (K := K) rfl (k_fld (K := K) rfl (pv 0))) (pe_ix (k_ix (K := K) rfl) (pv 3) (pe_op op_sub (pe_callB (k_len (K := K) rfl) (by rfl) T.b_len PySem.boot_len (pa_cons (pv 3) pa_nil)) pe_int) (fun _ _ => rfl)) (pv 2)))))))), ?_⟩
    try dsimp only [cxOf]
    walk_at "go"
    refine a_lenS hx ?_
    walk_at "go"
    refine a_fld h1 T.o_Scheme.cl T.n_Scheme_sources (sch_l2 _ _) ?_
    rw [hys.1]
    walk_at "go"
    by_cases hsrc : src = (gs.length : Nat)
    case neg =>
      refine a_T (by simp [Ne.symm hsrc]) ?_
      walk_at "go"
      refine a_fld h1 T.o_Scheme.cl T.n_Scheme_sources (sch_l2 _ _) ?_
      walk_at "go"
      refine a_lenS hx ?_
      rw [hys.1]
      walk_at "go"
      exact a_oex2 fun d H' nd s' hd => kE hsrc d H' s' hd
    case pos =>
      subst hsrc
      obtain ⟨bnd, k0, k1⟩ := kQ rfl
      refine a_nyes rfl ?_
      walk_at "go"
      refine a_list hx fun L H1 nL s1 hL => ?_
      walk_at "go"
      refine a_fld (s1 _ _ h1) T.o_Scheme.cl T.n_Scheme_lines (sch_l1 _ _) ?_
      refine ⟨t, rfl, ⟨_, same_t s1 h2⟩, ?_⟩
      refine for_tup (K := K) (a := t) (xs := zs) (fun i σ H' => ∃ (v4 v5 v6 v7 v8 : Option V) (us : List V), σ = [some (.ref p), some (.ref x), some (.ref o), some (.ref L), v4, v5, v6, v7, v8] ∧ Same H H' ∧ H' L = some (.lst us) ∧ Par (WdAt K H') us (valsW gs (ls.take i)))
        ⟨none, none, none, none, none, ys, rfl, s1, hL, WdsAt.up s1 hys⟩ (fun i σ H' _ ⟨_, _, _, _, _, _, _, s', _⟩ => same_t s' h2) ?_ ?_
      · rintro i y σ H2 hy ⟨v4, v5, v6, v7, v8, us, rfl, s2, hL2, hus⟩
        have hil : i < ls.length := by rw [← h3.1]; exact (List.getElem?_eq_some_iff.mp hy).1
        have lo := lok i _ (List.getElem?_eq_getElem hil)
        have bi := bnd i ls[i]
        obtain ⟨pq, qs, rfl, hq, hps⟩ := (h3.same s2).2 i y _ hy (List.getElem?_eq_getElem hil)
        have hvl : (valsW gs (ls.take i)).length = gs.length + i := by rw [valsW_len, List.length_take]; omega
        generalize hvs : valsW gs (ls.take i) = vs at hus hvl bi
        show tSeq _ _ _ _ _
        walk_at "go"
        refine ⟨pq, rfl, ⟨_, hq⟩, ?_⟩
        refine for_tup (K := K) (a := pq) (xs := qs) (fun m σ H' => ∃ (v6 v7 v8 : Option V) (w5 : V), σ = [some (.ref p), some (.ref x), some (.ref o), some (.ref L), some (.ref pq), some w5, v6, v7, v8] ∧ Same H2 H' ∧ (match lineW vs (ls[i].take m) with | none => w5 = .non | some g => WdAt K H' w5 g) ∧ (lineW vs (ls[i].take m) = none → m = 0))
          ⟨v6, v7, v8, .non, rfl, Same.refl _, rfl, fun _ => rfl⟩ (fun m σ H' _ ⟨_, _, _, _, _, s', _⟩ => same_t s' hq) ?_ ?_
        · rintro m y σ H3 hy3 ⟨u6, u7, u8, w5, rfl, s3, hm, hz⟩
          have hml : m < ls[i].length := by rw [← hps.1]; exact (List.getElem?_eq_some_iff.mp hy3).1
          have em : ls[i][m]? = some ls[i][m] := List.getElem?_eq_getElem hml
          obtain ⟨qq, rfl, hqq⟩ := (hps.2 m y _ hy3 em).same s3
          obtain ⟨sg, n0, n1⟩ := lo.2.2 _ (List.getElem_mem hml)
          obtain ⟨j, ej⟩ : ∃ j : Nat, ls[i][m].1 = (j : Int) := ⟨ls[i][m].1.toNat, by omega⟩
          have hj : j < vs.length := by omega
          obtain ⟨v, ev, o1, rfl, t1⟩ := Par.get hus hj
          refine ⟨qq, _, rfl, hqq, rfl, _, _, rfl, _, _, rfl, rfl, ?_⟩
          have hL3 := s3 _ _ hL2
          have t3 := t1.up s3
          have eg : vs.getD ls[i][m].1.toNat [] = vs[j] := by
            rw [ej, Int.toNat_natCast, List.getD_eq_getElem?_getD, List.getElem?_eq_getElem hj]
            rfl
          have et : lineW vs (ls[i].take (m + 1)) = stepW vs (lineW vs (ls[i].take m)) ls[i][m] := by
            rw [← List.take_append_getElem hml, lineW_snoc]
          walk_at "go"
          refine a_ifM (fun v H' => ∃ o2, v = V.ref o2 ∧ Same H3 H' ∧ WordAt K H' o2 (thingW vs ls[i][m])) (fun c R kk => ?h1) (fun c R kk => ?h2) ?fin
          case h2 =>
            walk_at "go"
            refine a_ixL (SqL.of hL3) (atI_of (j := j) ej ev) ?_
            refine a_invWd t3 fun o2 H4 n4 s4 t4 => ?_
            refine kk _ H4 ⟨o2, rfl, s4, ?_⟩
            unfold thingW
            rw [if_neg (fun z => c (by rw [z])), eg]
            exact t4
          case h1 =>
            walk_at "go"
            refine a_ixL (SqL.of hL3) (atI_of (j := j) ej ev) ?_
            refine kk _ H3 ⟨o1, rfl, Same.refl _, ?_⟩
            unfold thingW
            rw [if_pos (V.int.inj c), eg]
            exact t3
          case fin =>
            rintro _ H4 ⟨o2, rfl, s4, t4⟩
            try dsimp only
            walk_at "go"
            refine ⟨rfl, ?_⟩
            walk_at "go"
            cases hm0 : lineW vs (ls[i].take m) with
            | none =>
              rw [hm0] at hm
              obtain rfl : w5 = .non := hm
              refine a_yes rfl ?_
              walk_at "go"
              refine ⟨_, _, _, .ref o2, rfl, s3.trans s4, ?_, ?_⟩
              · rw [et, hm0]
                exact ⟨o2, rfl, t4⟩
              · rw [et, hm0]
                intro z
                cases z
            | some g =>
              rw [hm0] at hm
              obtain ⟨o3, rfl, t5⟩ := hm
              have e1 : lineW vs (ls[i].take (m + 1)) = some (canc (g ++ thingW vs ls[i][m])) := by rw [et, hm0]; rfl
              refine a_no (by intro z; cases z) ?_
              walk_at "go"
              refine a_mulWd (t5.up s4) t4 (bi (m + 1) _ (List.getElem?_eq_getElem hil) e1) fun o4 H5 n5 s5 t6 => ?_
              refine ⟨_, _, _, .ref o4, rfl, (s3.trans s4).trans s5, ?_, ?_⟩
              · rw [e1]
                exact ⟨o4, rfl, t6⟩
              · rw [e1]
                intro z
                cases z
        · rintro σ H3 ⟨u6, u7, u8, w5, rfl, s3, hm, hz⟩
          rw [hps.1, List.take_length] at hm hz
          have hL3 := s3 _ _ hL2
          cases hm0 : lineW vs ls[i] with
          | none =>
            have := hz hm0
            have := lo.1
            omega
          | some g =>
            rw [hm0] at hm
            obtain ⟨o3, rfl, t5⟩ := hm
            walk_at "go"
            refine a_ty hL3 ?_
            walk_at "go"
            refine a_app hL3 (by rw [hus.1, hvl]; exact szl (by omega)) fun H4 b4 h4 => ?_
            have ev : valsW gs (ls.take (i + 1)) = vs ++ [g] := by
              rw [← List.take_append_getElem hil, valsW_snoc, hvs, hm0]
              rfl
            have iL : IsLst H3 L := ⟨_, hL3⟩
            refine ⟨_, _, _, _, _, us ++ [.ref o3], rfl, fun c o' z => b4 c o' (ne_of_none z nL) (s3 c o' (s2 c o' z)), h4, ?_⟩
            rw [ev]
            exact (WdsAt.upB b4 iL (WdsAt.up s3 hus)).snoc ⟨o3, rfl, t5.upB b4 iL⟩
      · rintro σ H2 ⟨v4, v5, v6, v7, v8, us, rfl, s2, hL2, hus⟩
        rw [h3.1, List.take_length] at hus
        walk_at "go"
        refine a_fld (s2 _ _ h1) T.o_Scheme.cl T.n_Scheme_lines (sch_l1 _ _) ?_
        refine a_truT (same_t s2 h2) ?_
        by_cases hz : ls = []
        · have : zs = [] := List.eq_nil_of_length_eq_zero (by rw [h3.1, hz]; rfl)
          subst this
          refine a_F rfl ?_
          walk_at "go"
          exact k0 hz H2 s2
        · have hlp : 0 < ls.length := List.length_pos_iff.mpr hz
          have hzs : zs ≠ [] := fun z => by
            have := h3.1
            rw [z] at this
            simp at this
            omega
          refine a_T (by cases zs with | nil => exact absurd rfl hzs | cons _ _ => rfl) ?_
          walk_at "go"
          have hvl := valsW_len gs ls
          have hlt : gs.length + ls.length - 1 < (valsW gs ls).length := by omega
          obtain ⟨v, ev, o1, rfl, t1⟩ := Par.get hus hlt
          refine a_ixL (SqL.of hL2) (atI_of (j := gs.length + ls.length - 1) (by rw [hus.1, hvl]; omega) ev) ?_
          exact k1 hz o1 _ H2 s2 (List.getElem?_eq_getElem hlt) t1
end
def spSWordX (K : PySem.W.Frag) : Sp := fun vs H Q E => ∃ (p x : Addr) (src : Int) (ls : List (List Pr)) (gs : List (List Wp)) (ys : List V), vs = [.ref p, .ref x] ∧ SchAt K H p src ls ∧ LsOk src ls ∧ ls.length ≤ 20000 ∧ gs.length ≤ 20000 ∧ Seq K H x ys ∧ Par (WdAt K H) ys gs ∧
  (src ≠ (gs.length : Nat) → ∀ d H', Same H H' → H' d = some (.xd [("length", .int (gs.length : Nat)), ("wanted", .int src)]) → E (eC K "WrongLength") (some d) H') ∧
  (src = (gs.length : Nat) → BndW gs ls ∧ ∀ r H', Same H H' → WordAt K H' r (if ls = [] then [] else ((valsW gs ls)[gs.length + ls.length - 1]?).getD []) → Q (.ref r) H')
section
variable {P : Program} {w : World} {K : PySem.W.Frag} {mg : Str → Option Value} {base : Heap} {f : Addr} {fd : FuncData}
theorem sc_Scheme_word : FnScope ["self", "words"] ["self", "words"] (defScope s_Scheme_word) := ⟨rfl, rfl, rfl, by decide +kernel, rfl, by decide +kernel, by decide +kernel⟩
theorem xok_Sword (F : FX K "word" "Scheme.word" s_Scheme_word [] [] f fd) (T : Txt K mg) (c_Scheme_value : Met P w K mg base (He.ga K "Scheme") "value" 8 (spValWX K)) (c_Word_init0 : Mak P w K mg base "Word" (He.ga K "Word") 4 (spWInit0 K)) : FnOk P w K mg base (L2.CX P w) 10 f fd ["self", "words"] (spSWordX K) := by
  refine F.ok sc_Scheme_word (fun vs H Q E h => ?_) (fun cdv A outer s H vs Q E hr h => ?_)
  · obtain ⟨p, x, src, ls, gs, ys, rfl, _⟩ := h
    rfl
  · obtain ⟨p, x, src, ls, gs, ys, rfl, hs, lok, hl, hg, hx, hys, kE, kQ⟩ := h
    refine ⟨_, ((pss_one (ps_ret (pe_m c_Scheme_value hr (by decide) (passes_call (E := E) (takes_of rfl rfl rfl rfl) (fun _ _ _ _ h => h)) (pv 0) (pa_cons (pv 1) (pa_cons (pe_k0 c_Word_init0 hr (by decide) rfl (passes_call (E := E) (takes_of rfl rfl rfl rfl) (fun _ _ _ _ h => h))) pa_nil)))))), ?_⟩
    try dsimp only [cxOf]
    obtain ⟨dx, t, zs, h1, _⟩ := id hs
    walk_at "go"
    refine ⟨p, dx, _, rfl, h1, rfl, ?_⟩
    walk_at "go"
    refine a_mkW0 fun o H1 no s1 wo => ?_
    walk_at "go"
    refine ⟨p, x, o, src, ls, gs, ys, rfl, hs.same s1, lok, hl, hg, hx.same s1, WdsAt.up s1 hys, fun z d H' s' hd => kE z d H' (s1.trans s') hd, fun z => ⟨(kQ z).1, fun e H' s' => ?_, fun e r g H' s' eg wg => ?_⟩⟩
    · have := (kQ z).2 o H' (s1.trans s')
      rw [if_pos e] at this
      exact this (wo.up s')
    · have := (kQ z).2 r H' (s1.trans s')
      rw [if_neg e, eg] at this
      exact this wg
end

/-! ### tables -/
def TabAt (K : PySem.W.Frag) (H : Hp) (p : Addr) (a : List Nat) : Prop := ∃ dx t, H p = some (.ins (He.ga K "Table") dx [("image", .ref t)]) ∧ SqT K H t (vi a)
theorem TabAt.same {K : PySem.W.Frag} {H H1 : Hp} {p : Addr} {a : List Nat} (h : TabAt K H p a) (s : Same H H1) : TabAt K H1 p a := by
  obtain ⟨dx, t, h1, h2⟩ := h
  exact ⟨dx, t, s _ _ h1, same_t s h2⟩
theorem img_look (v : V) : ([(("image" : Str), v)] : List (Str × V)).lookup ("image" : Str) = some v := by simp [List.lookup]
def spCheck : Sp := fun vs H Q _ => ∃ n : Int, vs = [.int n] ∧ n ≤ 3300 ∧ Q .non H
def spTInit (K : PySem.W.Frag) : Sp := fun vs H Q _ => ∃ (p x dx : Addr) (a : List Nat), vs = [.ref p, .ref x] ∧ H p = some (.ins (He.ga K "Table") dx []) ∧ Seq K H x (vi a) ∧ OkImg a ∧ a.length ≤ 3300 ∧
  ∀ H', But p H H' → TabAt K H' p a → Q .non H'
def spTLen (K : PySem.W.Frag) : Sp := fun vs H Q _ => ∃ (p : Addr) (a : List Nat), vs = [.ref p] ∧ TabAt K H p a ∧ Q (.int (a.length : Nat)) H
def spTCall (K : PySem.W.Frag) : Sp := fun vs H Q _ => ∃ (p : Addr) (a : List Nat) (i : Nat) (hi : i < a.length), vs = [.ref p, .int (i : Nat)] ∧ TabAt K H p a ∧ Q (.int (a[i] : Nat)) H
def spTMul (K : PySem.W.Frag) : Sp := fun vs H Q _ => ∃ (p q : Addr) (a b : List Nat), vs = [.ref p, .ref q] ∧ TabAt K H p a ∧ TabAt K H q b ∧ OkImg a ∧ OkImg b ∧ a.length = b.length ∧ a.length ≤ 3300 ∧
  ∀ r H', H r = none → Same H H' → TabAt K H' r (comp a b) → Q (.ref r) H'
def spTInv (K : PySem.W.Frag) : Sp := fun vs H Q _ => ∃ (p : Addr) (a : List Nat), vs = [.ref p] ∧ TabAt K H p a ∧ OkImg a ∧ a.length ≤ 3300 ∧ ∀ r H', H r = none → Same H H' → TabAt K H' r (inv a) → Q (.ref r) H'
def spTEq (K : PySem.W.Frag) : Sp := fun vs H Q _ => ∃ (p q : Addr) (a : List Nat), vs = [.ref p, .ref q] ∧ TabAt K H p a ∧ ((∃ b, TabAt K H q b ∧ Q (.bl (decide (a = b))) H) ∨ ((∃ xs, SqT K H q xs) ∧ Q (.bl false) H))
def spTNeu (K : PySem.W.Frag) : Sp := fun vs H Q _ => ∃ (n : Nat), vs = [.int (n : Nat)] ∧ n ≤ 3300 ∧ ∀ r H', H r = none → Same H H' → TabAt K H' r (List.range n) → Q (.ref r) H'
/-- Table(x) where it is made -/
theorem a_mkT {K : PySem.W.Frag} {H : Hp} {x : Addr} {a : List Nat} {Q : VK} {E : XK} (h : Seq K H x (vi a)) (ok : OkImg a) (hl : a.length ≤ 3300) (q : ∀ r H', H r = none → Same H H' → TabAt K H' r a → Q (.ref r) H') :
    rMk (He.ga K "Table") (spTInit K) E [.ref x] H Q := by
  intro r dx hr hd ne
  have s1 : Same H (upd (upd H dx (.own r)) r (.ins (He.ga K "Table") dx [])) := same_mut (same_new hd) hr
  exact ⟨r, x, dx, a, rfl, upd_same, h.same s1, ok, hl, fun H' b ht => ⟨rfl, q r H' hr (fun c o e => b c o (ne_of_none e hr) (s1 c o e)) ht⟩⟩
theorem a_mulT {K : PySem.W.Frag} {H : Hp} {o1 o2 : Addr} {a b : List Nat} {Q : VK} {E : XK} (h1 : TabAt K H o1 a) (h2 : TabAt K H o2 b) (oa : OkImg a) (ob : OkImg b) (e : a.length = b.length) (hl : a.length ≤ 3300) (q : ∀ r H', H r = none → Same H H' → TabAt K H' r (comp a b) → Q (.ref r) H') :
    rOwnB (He.ga K "Table") (spTMul K) E (.ref o1) (.ref o2) H Q := by
  obtain ⟨dx, t, g1, g2⟩ := id h1
  obtain ⟨dy, u, g3, g4⟩ := id h2
  exact ⟨o1, dx, _, o2, dy, _, rfl, rfl, g1, g3, o1, o2, a, b, rfl, h1, h2, oa, ob, e, hl, q⟩
theorem a_invT {K : PySem.W.Frag} {H : Hp} {o1 : Addr} {a : List Nat} {Q : VK} {E : XK} (h1 : TabAt K H o1 a) (oa : OkImg a) (hl : a.length ≤ 3300) (q : ∀ r H', H r = none → Same H H' → TabAt K H' r (inv a) → Q (.ref r) H') :
    rOwnU (He.ga K "Table") (spTInv K) E (.ref o1) H Q := by
  obtain ⟨dx, t, g1, g2⟩ := id h1
  exact ⟨o1, dx, _, rfl, g1, o1, a, rfl, h1, oa, hl, q⟩
theorem a_eqT {K : PySem.W.Frag} {mg : Str → Option Value} {H : Hp} {o1 o2 : Addr} {a b : List Nat} {Q : VK} {E : XK} (T : Txt K mg) (h1 : TabAt K H o1 a) (h2 : TabAt K H o2 b) (q : Q (.bl (decide (a = b))) H) :
    rOwnC K (He.ga K "Table") (spTEq K) E (.ref o1) (.ref o2) H Q := by
  obtain ⟨dx, t, g1, g2⟩ := id h1
  obtain ⟨dy, u, g3, g4⟩ := id h2
  exact ⟨o1, dx, _, _, rfl, g1, T.o_Table.ty g3, T.nf_Table, o1, o2, a, rfl, h1, .inl ⟨b, h2, q⟩⟩
theorem a_eqTt {K : PySem.W.Frag} {mg : Str → Option Value} {H : Hp} {o1 o2 : Addr} {a : List Nat} {xs : List V} {Q : VK} {E : XK} (T : Txt K mg) (h1 : TabAt K H o1 a) (h2 : SqT K H o2 xs) (q : Q (.bl false) H) :
    rOwnC K (He.ga K "Table") (spTEq K) E (.ref o1) (.ref o2) H Q := by
  obtain ⟨dx, t, g1, g2⟩ := id h1
  exact ⟨o1, dx, _, _, rfl, g1, ty_t h2, T.nft_Table, o1, o2, a, rfl, h1, .inr ⟨⟨xs, h2⟩, q⟩⟩
/-- the list of what was seen -/
def seenV (a : List Nat) (i n : Nat) : List V := (List.range n).map fun j => V.bl (decide (j ∈ a.take i))
theorem seenV_len (a : List Nat) (i n : Nat) : (seenV a i n).length = n := by unfold seenV; rw [List.length_map, List.length_range]
theorem seenV_at (a : List Nat) (i n j : Nat) (h : j < n) : (seenV a i n)[j]? = some (.bl (decide (j ∈ a.take i))) := by
  unfold seenV
  rw [List.getElem?_map, List.getElem?_range h]
  rfl
theorem seenV_set (a : List Nat) (i n : Nat) (hi : i < a.length) : (seenV a i n).set a[i] (.bl true) = seenV a (i + 1) n := by
  refine List.ext_getElem (by rw [List.length_set, seenV_len, seenV_len]) fun j h1 h2 => ?_
  rw [seenV_len] at h2
  rw [List.getElem_set]
  simp only [seenV, List.getElem_map, List.getElem_range]
  have e2 := List.take_append_getElem hi
  by_cases e : a[i] = j
  · subst e
    rw [if_pos rfl, decide_eq_true]
    rw [← e2]
    exact List.mem_append_right _ (List.mem_singleton.mpr rfl)
  · rw [if_neg e]
    congr 1
    rw [decide_eq_decide, ← e2, List.mem_append, List.mem_singleton]
    exact ⟨.inl, fun h => h.elim id fun h => absurd h.symm e⟩
theorem not_seen {a : List Nat} (nd : a.Nodup) {i : Nat} (hi : i < a.length) : ¬ a[i] ∈ a.take i := fun h => by
  obtain ⟨j, hj, e⟩ := List.getElem_of_mem h
  rw [List.length_take] at hj
  rw [List.getElem_take] at e
  have := nd_inj nd (by omega) hi e
  omega
/-- the list that __invert__ fills -/
def backV (a : List Nat) (i : Nat) : List V := (List.range a.length).map fun j => V.int ((if j ∈ a.take i then a.idxOf j else 0 : Nat) : Int)
theorem backV_len (a : List Nat) (i : Nat) : (backV a i).length = a.length := by unfold backV; rw [List.length_map, List.length_range]
theorem backV_0 (a : List Nat) : (List.range a.length).map (fun _ => V.int 0) = backV a 0 := by
  unfold backV
  simp
theorem backV_n {a : List Nat} (h : OkImg a) : backV a a.length = vi (inv a) := by
  refine List.ext_getElem (by rw [backV_len, vi_len, inv_len]) fun j h1 h2 => ?_
  rw [backV_len] at h1
  have := h.has h1
  simp [backV, vi, inv, this]
theorem backV_set {a : List Nat} (nd : a.Nodup) {i : Nat} (hi : i < a.length) : (backV a i).set a[i] (.int (i : Nat)) = backV a (i + 1) := by
  refine List.ext_getElem (by rw [List.length_set, backV_len, backV_len]) fun j h1 h2 => ?_
  rw [backV_len] at h2
  rw [List.getElem_set]
  simp only [backV, List.getElem_map, List.getElem_range]
  have e2 := List.take_append_getElem hi
  by_cases e : a[i] = j
  · subst e
    rw [if_pos rfl, if_pos (by rw [← e2]; exact List.mem_append_right _ (List.mem_singleton.mpr rfl)), idx_uniq nd hi rfl]
  · rw [if_neg e]
    have : (j ∈ a.take (i + 1)) ↔ (j ∈ a.take i) := by
      rw [← e2, List.mem_append, List.mem_singleton]
      exact ⟨fun h => h.elim id fun h => absurd h.symm e, .inl⟩
    simp only [this]
theorem ixN_of {n j : Nat} (h : j < n) : ixN n (j : Int) = some j := by
  unfold ixN
  rw [if_pos (by omega), if_pos (by omega)]
  rfl
section
variable {P : Program} {w : World} {K : PySem.W.Frag} {mg : Str → Option Value} {base : Heap} {f : Addr} {fd : FuncData}
theorem sc_check_size : FnScope ["size"] ["size"] (defScope s_check_size) := ⟨rfl, rfl, rfl, by decide +kernel, rfl, by decide +kernel, by decide +kernel⟩
theorem ok_check (F : FX K "check_size" "check_size" s_check_size [] [] f fd) (T : Txt K mg) : FnOk P w K mg base (L2.CX P w) 1 f fd ["size"] spCheck := by
  refine F.ok sc_check_size (fun vs H Q E h => ?_) (fun cdv A outer s H vs Q E hr h => ?_)
  · obtain ⟨n, rfl, _⟩ := h
    rfl
  · obtain ⟨n, rfl, hn, k⟩ := h
    refine ⟨_, PSs.nox ((pss_one (ps_if (pt_cmpR op_gt (pv 0) (pe_gv rfl T.k_MOST_POINTS) (nomark _)) (pss_one ps_never) pss_nil))), ?_⟩
    try dsimp only [cxOf]
    walk_at "go"
    exact a_no (by omega) k
theorem sc_Table_init : FnScope ["self", "image", "seen", "point"] ["self", "image"] (defScope s_Table_init) := ⟨rfl, rfl, rfl, by decide +kernel, rfl, by decide +kernel, by decide +kernel⟩
theorem ok_Tinit (F : FX K "__init__" "Table.__init__" s_Table_init [] [] f fd) (T : Txt K mg) (c_check_size : Cal P w K mg base "check_size" 1 spCheck) : FnOk P w K mg base (L2.CX P w) 3 f fd ["self", "image"] (spTInit K) := by
  refine F.ok sc_Table_init (fun vs H Q E h => ?_) (fun cdv A outer s H vs Q E hr h => ?_)
  · obtain ⟨p, x, dx, a, rfl, _⟩ := h
    rfl
  · obtain ⟨p, x, dx, a, rfl, hp, hx, ok, hl, k⟩ := h
    refine ⟨_, PSs.nox ((pss_cons (ps_expr (pe_f c_check_size hr (by decide) rfl passL (pa_cons (pe_callB (k_len (K := K) rfl) (by rfl) T.b_len PySem.boot_len (pa_cons (pv 1) pa_nil)) pa_nil))) 
      (pss_cons (k_put (K := K) rfl (pv 0) (pe_callTy (k_tuple (K := K) rfl) (by rfl) T.b_tuple (by decide +kernel) (pa_cons (pv 1) pa_nil))) 
      (pss_cons (ps_setLc (i := 2) (own := [("point", 3)]) rfl sc_Table_init.nd rfl rfl (sw_true rfl rfl rfl (by decide +kernel)) (k_iT (K := K) rfl (k_fld (K := K) rfl (pv 0))) (blkOk_by (own := [("point", 3)]) (N := ["self", "image", "seen", "point"]) (sc := defScope s_Table_init) (by decide +kernel)) (fun _ _ _ _ _ => by exact (pg_name (i := 3) sc_Table_init.nd rfl (Or.inl rfl))) (fun _ _ _ _ _ => by exact pts_nil) (fun _ _ _ _ _ => by exact pe_bl)) (pss_one (ps_for PassesOwn.never rfl (k_iT (K := K) rfl (k_fld (K := K) rfl (pv 0))) (pg_name (i := 3) sc_Table_init.nd rfl (Or.inl rfl)) (pss_cons (ps_if (PW.pt (pw_or (pt_not (pt_chain op_le op_lt pe_int (pv 3) (pe_callB (k_len (K := K) rfl) (by rfl) T.b_len PySem.boot_len (pa_cons (pv 2) pa_nil)))) (pw_or1 (k_tr (K := K) rfl (pe_ix (k_ix (K := K) rfl) (pv 2) (pv 3) (fun _ _ => rfl)))))) (pss_one ps_never) pss_nil) (pss_one (ps_asg pe_bl (pg_sub (pv 2) (pv 3) set_list)))))))))), ?_⟩
    try dsimp only [cxOf]
    walk_at "go"
    refine a_lenS hx ?_
    walk_at "go"
    rw [vi_len]
    refine ⟨_, rfl, by omega, ?_⟩
    walk_at "go"
    refine a_tup hx fun t H1 s1 ht => ?_
    walk_at "go"
    refine a_put (s1 _ _ hp) T.o_Table.cl T.n_Table_image (by show 0 < 1000; decide) fun H2 b1 hp2 => ?_
    have b2 : But p H H2 := (But.of s1).trans b1
    have ht2 : SqT K H2 t (vi a) := by
      rcases ht with (h | ⟨o, h⟩) | h
      · exact .inl (.inl (b1 _ _ (ne_of h (s1 _ _ hp) (by intro z; cases z)) h))
      · exact .inl (.inr ⟨o, b1 _ _ (ne_of h (s1 _ _ hp) (by intro z; cases z)) h⟩)
      · exact .inr h
    walk_at "go"
    refine c_t (xs := vi a) (fun _ => V.bl false) (by rw [vi_len]; omega) ?_ ?_ ?_
    · intro R r
      walk_at "go"
      exact a_fld (hp2) T.o_Table.cl T.n_Table_image (img_look _) (r _ _ (Same.refl _) ht2)
    · intro i z H' hz s' R r
      exact r H' (Same.refl _)
    intro D H3 hD s3 hD3
    have e0 : (List.range (vi a).length).map (fun _ => V.bl false) = seenV a 0 a.length := by
      unfold seenV
      rw [vi_len]
      simp
    rw [e0] at hD3
    walk_at "go"
    refine a_fld (s3 _ _ hp2) T.o_Table.cl T.n_Table_image (img_look _) ⟨t, rfl, ⟨_, same_t s3 ht2⟩, ?_⟩
    refine for_tup (K := K) (a := t) (xs := vi a) (fun i σ H' => ∃ v : Option V, σ = [some (.ref p), some (.ref x), some (.ref D), v] ∧ Same H2 H' ∧ H' D = some (.lst (seenV a i a.length)))
      ⟨none, rfl, s3, hD3⟩ (fun i σ H' _ ⟨_, _, s', _⟩ => same_t s' ht2) ?_ ?_
    · rintro i y σ H' hy ⟨v, rfl, s', hD'⟩
      obtain ⟨hi, rfl⟩ := vi_get hy
      have hlt : a[i] < a.length := ok.lt _ (List.getElem_mem hi)
      show tIfS _ _ _ _ _ _
      walk_at "go"
      refine a_yes (by omega) ?_
      walk_at "go"
      rw [seenV_len]
      walk_at "go"
      refine a_nyes (by omega) ?_
      walk_at "go"
      refine a_ixL (SqL.of hD') (atI_of rfl (seenV_at a i a.length a[i] hlt)) ?_
      refine a_truB ?_
      refine a_no (not_seen ok.nd hi) ?_
      walk_at "go"
      refine a_setB hD' (by rw [seenV_len]; exact ixN_of hlt) fun H4 b4 h4 => ?_
      refine ⟨_, rfl, fun c o e => b4 c o (ne_of_none e hD) (s' c o e), ?_⟩
      rw [h4, seenV_set a i a.length hi]
    · rintro σ H' ⟨v, rfl, s', hD'⟩
      exact k H' (b2.trans (But.of s')) ⟨dx, t, s' _ _ hp2, same_t s' ht2⟩
theorem sc_Table_len : FnScope ["self"] ["self"] (defScope s_Table_len) := ⟨rfl, rfl, rfl, by decide +kernel, rfl, by decide +kernel, by decide +kernel⟩
theorem ok_Tlen (F : FX K "__len__" "Table.__len__" s_Table_len [] [] f fd) (T : Txt K mg) : FnOk P w K mg base (L2.CX P w) 1 f fd ["self"] (spTLen K) := by
  refine F.ok sc_Table_len (fun vs H Q E h => ?_) (fun cdv A outer s H vs Q E hr h => ?_)
  · obtain ⟨p, a, rfl, _⟩ := h
    rfl
  · obtain ⟨p, a, rfl, ⟨dx, t, h1, h2⟩, k⟩ := h
    refine ⟨_, PSs.nox ((pss_one (ps_ret (pe_callB (k_len (K := K) rfl) (by rfl) T.b_len PySem.boot_len (pa_cons (k_fld (K := K) rfl (pv 0)) pa_nil))))), ?_⟩
    try dsimp only [cxOf]
    walk_at "go"
    refine a_fld (h1) T.o_Table.cl T.n_Table_image (img_look _) ?_
    walk_at "go"
    refine a_lenT h2 ?_
    rw [vi_len]
    exact k
theorem sc_Table_call : FnScope ["self", "point"] ["self", "point"] (defScope s_Table_call) := ⟨rfl, rfl, rfl, by decide +kernel, rfl, by decide +kernel, by decide +kernel⟩
theorem ok_Tcall (F : FX K "__call__" "Table.__call__" s_Table_call [] [] f fd) (T : Txt K mg) : FnOk P w K mg base (L2.CX P w) 1 f fd ["self", "point"] (spTCall K) := by
  refine F.ok sc_Table_call (fun vs H Q E h => ?_) (fun cdv A outer s H vs Q E hr h => ?_)
  · obtain ⟨p, a, i, hi, rfl, _⟩ := h
    rfl
  · obtain ⟨p, a, i, hi, rfl, ⟨dx, t, h1, h2⟩, k⟩ := h
    refine ⟨_, PSs.nox ((pss_cons (ps_if (pt_not (pt_chain op_le op_lt pe_int (pv 1) (pe_callB (k_len (K := K) rfl) (by rfl) T.b_len PySem.boot_len (pa_cons (k_fld (K := K) rfl (pv 0)) pa_nil)))) (pss_one ps_never) pss_nil) (pss_one (ps_ret (pe_ix (k_ix (K := K) rfl) (k_fld (K := K) rfl (pv 0)) (pv 1) (fun _ _ => rfl)))))), ?_⟩
    try dsimp only [cxOf]
    walk_at "go"
    refine a_yes (by omega) ?_
    walk_at "go"
    refine a_fld (h1) T.o_Table.cl T.n_Table_image (img_look _) ?_
    walk_at "go"
    refine a_lenT h2 ?_
    rw [vi_len]
    walk_at "go"
    refine a_nyes (by omega) ?_
    walk_at "go"
    refine a_fld (h1) T.o_Table.cl T.n_Table_image (img_look _) ?_
    walk_at "go"
    exact a_ixT h2 (atI_of rfl (vi_at hi)) k
theorem sc_Table_mul : FnScope ["self", "other", "point"] ["self", "other"] (defScope s_Table_mul) := ⟨rfl, rfl, rfl, by decide +kernel, rfl, by decide +kernel, by decide +kernel⟩
theorem ok_Tmul (F : FX K "__mul__" "Table.__mul__" s_Table_mul [] [] f fd) (T : Txt K mg) (c_Table_init : Mak P w K mg base "Table" (He.ga K "Table") 3 (spTInit K)) : FnOk P w K mg base (L2.CX P w) 6 f fd ["self", "other"] (spTMul K) := by
  refine F.ok sc_Table_mul (fun vs H Q E h => ?_) (fun cdv A outer s H vs Q E hr h => ?_)
  · obtain ⟨p, q, a, b, rfl, _⟩ := h
    rfl
  · obtain ⟨p, q, a, b, rfl, ⟨dx, t, h1, h2⟩, ⟨dy, u, g1, g2⟩, oa, ob, e, hl, k⟩ := h
    refine ⟨_, PSs.nox ((pss_cons (ps_if (pt_cmpR (k_ne (K := K) rfl hr.units) (pe_callB (k_len (K := K) rfl) (by rfl) T.b_len PySem.boot_len (pa_cons (k_fld (K := K) rfl (pv 1)) pa_nil)) (pe_callB (k_len (K := K) rfl) (by rfl) T.b_len PySem.boot_len (pa_cons (k_fld (K := K) rfl (pv 0)) pa_nil)) (nomark _)) (pss_one ps_never) pss_nil) (pss_one (ps_ret (pe_k c_Table_init hr (by decide) rfl passL (pa_cons (by exact (pe_lc (own := [("point", 2)]) rfl sc_Table_mul.nd (k_iT (K := K) rfl (k_fld (K := K) rfl (pv 0))) (blkOk_by (own := [("point", 2)]) (N := ["self", "other", "point"]) (sc := defScope s_Table_mul) (by decide +kernel)) (fun _ _ _ _ _ => by exact (pg_name (i := 2) sc_Table_mul.nd rfl (Or.inl rfl))) (fun _ _ _ _ _ => by exact pts_nil) (fun _ _ _ _ _ => by exact (pe_ix (k_ix (K := K) rfl) (k_fld (K := K) rfl (pv 1)) (pv 2) (fun _ _ => rfl))))) pa_nil)))))), ?_⟩
    try dsimp only [cxOf]
    walk_at "go"
    refine a_fld (g1) T.o_Table.cl T.n_Table_image (img_look _) ?_
    walk_at "go"
    refine a_lenT g2 ?_
    walk_at "go"
    refine a_fld (h1) T.o_Table.cl T.n_Table_image (img_look _) ?_
    walk_at "go"
    refine a_lenT h2 ?_
    rw [vi_len, vi_len]
    walk_at "go"
    refine a_nyes (by rw [e]) ?_
    walk_at "go"
    refine c_t (xs := vi a) (fun i => V.int ((b.getD (a.getD i 0) 0 : Nat) : Int)) (by rw [vi_len]; omega) ?_ ?_ ?_
    · intro R r
      walk_at "go"
      exact a_fld (h1) T.o_Table.cl T.n_Table_image (img_look _) (r _ _ (Same.refl _) h2)
    · intro i z H' hz s' R r
      obtain ⟨hi, rfl⟩ := vi_get hz
      have hb : a[i] < b.length := e ▸ oa.lt _ (List.getElem_mem hi)
      walk_at "go"
      refine a_fld (s' _ _ g1) T.o_Table.cl T.n_Table_image (img_look _) ?_
      walk_at "go"
      refine a_ixT (same_t s' g2) (atI_of rfl (vi_at hb)) ?_
      have e1 : b.getD (a.getD i 0) 0 = b[a[i]] := by rw [getD_lt hi, getD_lt hb]
      have r1 := r H' (Same.refl _)
      rw [e1] at r1
      exact r1
    intro D H3 hD s3 hD3
    have e2 : (List.range (vi a).length).map (fun i => V.int ((b.getD (a.getD i 0) 0 : Nat) : Int)) = vi (comp a b) := by
      rw [vi_len]
      refine List.ext_getElem (by rw [List.length_map, List.length_range, vi_len, comp_len]) fun i p1 p2 => ?_
      rw [List.length_map, List.length_range] at p1
      simp [vi, comp, p1]
    rw [e2] at hD3
    walk_at "go"
    exact a_mkT (.inl (SqL.of hD3)) (oa.comp ob e) (by rw [comp_len]; exact hl) fun r H' hr s' ht => k r H' (s3.free hr) (s3.trans s') ht
theorem sc_Table_invert : FnScope ["self", "back", "point", "goal"] ["self"] (defScope s_Table_invert) := ⟨rfl, rfl, rfl, by decide +kernel, rfl, by decide +kernel, by decide +kernel⟩
theorem ok_Tinv (F : FX K "__invert__" "Table.__invert__" s_Table_invert [] [] f fd) (T : Txt K mg) (c_Table_init : Mak P w K mg base "Table" (He.ga K "Table") 3 (spTInit K)) : FnOk P w K mg base (L2.CX P w) 6 f fd ["self"] (spTInv K) := by
  refine F.ok sc_Table_invert (fun vs H Q E h => ?_) (fun cdv A outer s H vs Q E hr h => ?_)
  · obtain ⟨p, a, rfl, _⟩ := h
    rfl
  · obtain ⟨p, a, rfl, ⟨dx, t, h1, h2⟩, oa, hl, k⟩ := h
    refine ⟨_, PSs.nox ((pss_cons (ps_setLc (i := 1) (own := [("point", 2)]) rfl sc_Table_invert.nd rfl rfl (sw_true rfl rfl rfl (by decide +kernel)) (k_iT (K := K) rfl (k_fld (K := K) rfl (pv 0))) (blkOk_by (own := [("point", 2)]) (N := ["self", "back", "point", "goal"]) (sc := defScope s_Table_invert) (by decide +kernel)) (fun _ _ _ _ _ => by exact (pg_name (i := 2) sc_Table_invert.nd rfl (Or.inl rfl))) (fun _ _ _ _ _ => by exact pts_nil) (fun _ _ _ _ _ => by exact pe_int)) 
      (pss_cons (ps_for PassesOwn.never rfl (k_iEt (K := K) rfl (by rfl) T.b_enumerate (pa_cons (k_fld (K := K) rfl (pv 0)) pa_nil)) (k_gtup (K := K) (n := 2) rfl (by rfl) (pgs_cons (pg_name (i := 2) sc_Table_invert.nd rfl (Or.inl rfl)) (pgs_cons (pg_name (i := 3) sc_Table_invert.nd rfl (Or.inl rfl)) pgs_nil))) (pss_one (ps_asg (pv 2) (pg_sub (pv 1) (pv 3) set_list)))) (pss_one (ps_ret (pe_k c_Table_init hr (by decide) rfl passL (pa_cons (pv 1) pa_nil))))))), ?_⟩
    try dsimp only [cxOf]
    walk_at "go"
    refine c_t (xs := vi a) (fun _ => V.int 0) (by rw [vi_len]; omega) ?_ ?_ ?_
    · intro R r
      walk_at "go"
      exact a_fld (h1) T.o_Table.cl T.n_Table_image (img_look _) (r _ _ (Same.refl _) h2)
    · intro i z H' hz s' R r
      exact r H' (Same.refl _)
    intro D H3 hD s3 hD3
    walk_at "go"
    refine a_fld (s3 _ _ h1) T.o_Table.cl T.n_Table_image (img_look _) ?_
    walk_at "go"
    refine ⟨t, vi a, rfl, same_t s3 h2, for_it walk_et (fun i σ H' => ∃ v w : Option V, σ = [some (.ref p), some (.ref D), v, w] ∧ Same H H' ∧ H' D = some (.lst (backV a i)))
      ⟨none, none, rfl, s3, by rw [hD3, vi_len, backV_0]⟩ (fun i σ H' _ ⟨_, _, _, s', _⟩ => same_t s' h2) ?_ ?_⟩
    · rintro i x σ H' H4 hi ⟨v, w', rfl, s', hD'⟩ ⟨q, y, z, rfl, nq, rfl, ey, ez⟩
      obtain ⟨hi, rfl⟩ := vi_get ez
      cases Option.some.inj ey
      have hlt : a[i] < a.length := oa.lt _ (List.getElem_mem hi)
      have s4 : Same H' (upd H' q (.tup [.int (i : Nat), .int (a[i] : Nat)])) := same_new nq
      refine ⟨q, _, rfl, SqT.of upd_same, rfl, _, _, rfl, _, _, rfl, rfl, ?_⟩
      walk_at "go"
      refine a_setB (s4 _ _ hD') (by rw [backV_len]; exact ixN_of hlt) fun H5 b5 h5 => ?_
      refine ⟨_, _, rfl, fun c o e => b5 c o (ne_of_none e hD) (s4 c o (s' c o e)), ?_⟩
      rw [h5, backV_set oa.nd hi]
    · rintro σ H' ⟨v, w', rfl, s', hD'⟩
      rw [vi_len, backV_n oa] at hD'
      walk_at "go"
      exact a_mkT (.inl (SqL.of hD')) oa.inv (by rw [inv_len]; exact hl) fun r H5 hr s5 ht => k r H5 (s'.free hr) (s'.trans s5) ht
theorem sc_Table_eq : FnScope ["self", "other"] ["self", "other"] (defScope s_Table_eq) := ⟨rfl, rfl, rfl, by decide +kernel, rfl, by decide +kernel, by decide +kernel⟩
theorem ok_Teq (F : FX K "__eq__" "Table.__eq__" s_Table_eq [] [] f fd) (T : Txt K mg) : FnOk P w K mg base (L2.CX P w) 2 f fd ["self", "other"] (spTEq K) := by
  refine F.ok sc_Table_eq (fun vs H Q E h => ?_) (fun cdv A outer s H vs Q E hr h => ?_)
  · obtain ⟨p, q, a, rfl, _⟩ := h
    rfl
  · obtain ⟨p, q, a, rfl, ⟨dx, t, h1, h2⟩, k⟩ := h
    refine ⟨_, PSs.nox ((pss_one (ps_ret (pe_and (pe_callB (k_isi (K := K) rfl) (by rfl) T.b_isinstance (by decide +kernel) (pa_cons (pv 1) (pa_cons (pe_gv (v := .ref (He.ga K "Table")) rfl ⟨_, T.g_Table, rfl⟩) pa_nil))) (pe_one (pe_cmpR (k_eq (K := K) rfl hr.units) (k_fld (K := K) rfl (pv 0)) (k_fld (K := K) rfl (pv 1)) (nomark _))))))), ?_⟩
    try dsimp only [cxOf]
    walk_at "go"
    rcases k with ⟨b, ⟨dy, u, g1, g2⟩, k⟩ | ⟨⟨xs, g⟩, k⟩
    · refine a_isi (.own _) (T.o_Table.ty g1) T.i_Table ?_
      refine ⟨true, rfl, ?_⟩
      refine a_T rfl ?_
      walk_at "go"
      refine a_fld (h1) T.o_Table.cl T.n_Table_image (img_look _) ?_
      walk_at "go"
      refine a_fld (g1) T.o_Table.cl T.n_Table_image (img_look _) ?_
      refine a_eqD (.tup h2 (dp_vi a)) (.tup g2 (dp_vi b)) (sh_t a) (sh_t b) ?_
      rw [eqv_tt]
      exact k
    · refine a_isi (.own _) (ty_t g) T.it_Table ?_
      refine ⟨false, rfl, ?_⟩
      exact a_F rfl k
theorem sc_Table_neutral : FnScope ["size"] ["size"] (defScope s_Table_neutral) := ⟨rfl, rfl, rfl, by decide +kernel, rfl, by decide +kernel, by decide +kernel⟩
theorem ok_Tneu (F : FX K "neutral" "Table.neutral" s_Table_neutral [] [] f fd) (T : Txt K mg) (c_check_size : Cal P w K mg base "check_size" 1 spCheck) (c_Table_init : Mak P w K mg base "Table" (He.ga K "Table") 3 (spTInit K)) : FnOk P w K mg base (L2.CX P w) 6 f fd ["size"] (spTNeu K) := by
  refine F.ok sc_Table_neutral (fun vs H Q E h => ?_) (fun cdv A outer s H vs Q E hr h => ?_)
  · obtain ⟨n, rfl, _⟩ := h
    rfl
  · obtain ⟨n, rfl, hn, k⟩ := h
    refine ⟨_, PSs.nox ((pss_cons (ps_expr (pe_f c_check_size hr (by decide) rfl passL (pa_cons (pv 0) pa_nil))) (pss_one (ps_ret (pe_k c_Table_init hr (by decide) rfl passL (pa_cons (pe_listRg rfl rfl T.b_list (prg_1 rfl T.b_range (pv 0))) pa_nil)))))), ?_⟩
    try dsimp only [cxOf]
    walk_at "go"
    refine ⟨_, rfl, by omega, ?_⟩
    walk_at "go"
    refine a_lrg (n := (n : Int)) (by omega) (by omega) fun l H2 hl s2 h2 => ?_
    rw [Int.toNat_natCast] at h2
    walk_at "go"
    exact a_mkT (a := List.range n) (.inl (SqL.of h2)) (OkImg.range n) (by rw [List.length_range]; exact hn) fun r H' hr s' ht => k r H' (s2.free hr) (s2.trans s') ht
end

/-! ### the law's own images -/
def spImage : Sp := fun vs H Q _ => ∃ (p sc : Addr) (n m : Nat), vs = [.ref p, .int (n : Nat)] ∧ Pen H p sc (n + m) ∧ n ≤ 60 ∧
  ∀ r a H', H r = none → But p H H' → Pen H' p sc m → H' r = some (.lst (vi a)) → OkImg a → a.length = n → Q (.ref r) H'
theorem vi_app (a : List Nat) (x : Nat) : vi a ++ [V.int (x : Nat)] = vi (a ++ [x]) := by unfold vi; rw [List.map_append]; rfl
theorem map_erase {α β : Type} (g : α → β) : ∀ (l : List α) (k : Nat), (l.map g).eraseIdx k = (l.eraseIdx k).map g
  | [], _ => rfl
  | x :: l, 0 => rfl
  | x :: l, k + 1 => by
    show g x :: (l.map g).eraseIdx k = g x :: (l.eraseIdx k).map g
    rw [map_erase g l k]
theorem perm_erase : ∀ {l : List Nat} {k : Nat} (h : k < l.length), ([l[k]] ++ l.eraseIdx k).Perm l
  | x :: l, 0, _ => List.Perm.refl _
  | x :: l, k + 1, h => by
    have h' : k < l.length := Nat.lt_of_succ_lt_succ h
    show (l[k] :: x :: l.eraseIdx k).Perm (x :: l)
    exact (List.Perm.swap x l[k] _).trans (List.Perm.cons x (perm_erase h'))
theorem vi_erase (a : List Nat) (k : Nat) : (vi a).eraseIdx k = vi (a.eraseIdx k) := map_erase _ a k
theorem perm_pop {acc pool : List Nat} {n k : Nat} (h : (acc ++ pool).Perm (List.range n)) (hk : k < pool.length) : ((acc ++ [pool[k]]) ++ pool.eraseIdx k).Perm (List.range n) := by
  refine List.Perm.trans ?_ h
  rw [List.append_assoc]
  exact List.Perm.append_left acc (perm_erase hk)
theorem ok_perm {a : List Nat} {n : Nat} (h : a.Perm (List.range n)) : OkImg a := by
  have hl : a.length = n := by rw [h.length_eq, List.length_range]
  exact ⟨h.nodup_iff.mpr List.nodup_range, fun x hx => by rw [hl]; exact List.mem_range.mp (h.mem_iff.mp hx)⟩
section
variable {P : Program} {w : World} {K : PySem.W.Frag} {mg : Str → Option Value} {base : Heap} {f : Addr} {fd : FuncData}
theorem sc__law_image : FnScope ["_law_pen", "_law_size", "_law_pool", "_law_k"] ["_law_pen", "_law_size"] (defScope s__law_image) := ⟨rfl, rfl, rfl, by decide +kernel, rfl, by decide +kernel, by decide +kernel⟩
theorem ok_image (F : FX K "_law_image" "_law_image" s__law_image [] [] f fd) (T : Txt K mg) (c__law_draw : Cal P w K mg base "_law_draw" 2 spDraw) : FnOk P w K mg base (L2.CX P w) 4 f fd ["_law_pen", "_law_size"] spImage := by
  refine F.ok sc__law_image (fun vs H Q E h => ?_) (fun cdv A outer s H vs Q E hr h => ?_)
  · obtain ⟨p, sc, n, m, rfl, _⟩ := h
    rfl
  · obtain ⟨p, sc, n, m, rfl, hp, hn, k⟩ := h
    refine ⟨_, PSs.nox ((pss_cons (ps_set (i := 2) sc__law_image.nd rfl (Or.inr rfl) (pe_listRg rfl rfl T.b_list (prg_1 rfl T.b_range (pv 1)))) (pss_one (ps_ret (by exact (pe_lc (own := [("_law_k", 3)]) rfl sc__law_image.nd (pi_range1 (by rfl) T.b_range (pa_cons (pv 1) pa_nil)) (blkOk_by (own := [("_law_k", 3)]) (N := ["_law_pen", "_law_size", "_law_pool", "_law_k"]) (sc := defScope s__law_image) (by decide +kernel)) (fun _ _ _ _ _ => by exact (pg_name (i := 3) sc__law_image.nd rfl (Or.inl rfl))) (fun _ _ _ _ _ => by exact pts_nil) (fun _ _ _ _ _ => by exact (k_bm (K := K) rfl PySem.F.plainAttrs_list PySem.F.slot_list_pop PySem.F.type_list_pop mt_popAt (pv 2) (pa_cons (pe_f c__law_draw hr (by decide) rfl passL (pa_cons (pv 0) (pa_cons (pe_op op_sub (pv 1) (pv 3)) pa_nil))) pa_nil))))))))), ?_⟩
    try dsimp only [cxOf]
    walk_at "go"
    refine a_lrg (n := (n : Int)) (by omega) (by omega) fun L H1 hL s1 h1 => ?_
    rw [Int.toNat_natCast] at h1
    have hp1 := hp.same s1
    have nL := hp.ne hL
    walk_at "go"
    refine g_lcT ?_
    walk_at "go"
    refine ⟨(n : Int), rfl, by omega, by omega, fun D hD => ?_⟩
    have nD := hp1.ne hD
    have hDL : D ≠ L := Ne.symm (ne_of_none h1 hD)
    refine lc_it walk_range (fun i H' => ∃ acc pool : List Nat, But p H H' ∧ Pen H' p sc (n - i + m) ∧ H' L = some (.lst (vi pool)) ∧ H' D = some (.lst (vi acc)) ∧ (acc ++ pool).Perm (List.range n) ∧ acc.length = i)
      ⟨[], List.range n, (But.of (s1.trans (same_new hD))), (hp1.same (same_new hD)), by rw [upd_ne (Ne.symm hDL)]; exact h1, upd_same, List.Perm.refl _, rfl⟩ (fun _ _ _ _ => True.intro) ?_ ?_
    · rintro i x H' H2 hi ⟨acc, pool, b', hp', hL', hD', pm, el⟩ ⟨rfl, rfl⟩
      have plen : acc.length + pool.length = n := by
        have := pm.length_eq
        rw [List.length_append, List.length_range] at this
        exact this
      refine ⟨rfl, ?_⟩
      refine g_yes (a_T rfl ?_)
      walk_at "go"
      refine a_ty hL' ?_
      walk_at "go"
      refine ⟨p, sc, _, n - (i + 1) + m, rfl, hp'.le (by omega), by omega, by omega, fun r H3 r0 r1 b3 hp3 => ?_⟩
      walk_at "go"
      obtain ⟨kk, rfl⟩ : ∃ kk : Nat, r = (kk : Int) := ⟨r.toNat, by omega⟩
      have hk : kk < pool.length := by omega
      refine a_pop (k := kk) (b3 _ _ (Ne.symm nL.1) hL') rfl (vi_at hk) (by rw [vi_len]; omega) fun H4 b4 h4 => ?_
      have hD4 := b4 _ _ hDL (b3 _ _ (Ne.symm nD.1) hD')
      refine ⟨_, hD4, by rw [vi_len]; exact szl (by omega), acc ++ [pool[kk]], pool.eraseIdx kk, ?_, ?_, ?_, ?_, perm_pop pm hk, by rw [List.length_append, el]; rfl⟩
      · intro c o nc e
        rw [upd_ne (ne_of_none (s1 c o e) hD)]
        exact b4 c o (ne_of_none e hL) (b3 c o nc (b' c o nc e))
      · exact (hp3.but b4 nL.1 nL.2).but But.upd nD.1 nD.2
      · rw [upd_ne (Ne.symm hDL), h4, vi_erase]
      · rw [upd_same, vi_app]
    · rintro H' ⟨acc, pool, b', hp', hL', hD', pm, el⟩
      have plen : acc.length + pool.length = n := by
        have := pm.length_eq
        rw [List.length_append, List.length_range] at this
        exact this
      have : pool = [] := List.eq_nil_of_length_eq_zero (by rw [Int.toNat_natCast] at el; omega)
      subst this
      rw [List.append_nil] at pm
      rw [Int.toNat_natCast] at el hp'
      refine k D acc H' (s1.free hD) b' (hp'.le (by omega)) hD' (ok_perm pm) el
end

/-! ### the value of a scheme over tables -/
theorem inv_pw {a : List Nat} (h : OkImg a) (e : Int) : inv (pw a e) = pw a (-e) := by
  refine List.ext_getElem (by rw [inv_len, pw_len, pw_len]) fun i h1 h2 => ?_
  rw [inv_get, pw_get]
  rw [inv_len, pw_len] at h1
  have hl := zit_lt h h1 (-e)
  refine idx_uniq (pw_ok h e).nd (by rw [pw_len]; exact hl) ?_
  rw [pw_get, ← zit_add h h1, Int.add_left_neg, zit_0 h h1]
def thingT (gs : List (List Nat)) (x : Pr) : List Nat := if x.2 = 1 then gs.getD x.1.toNat [] else inv (gs.getD x.1.toNat [])
def stepT (gs : List (List Nat)) (m : Option (List Nat)) (x : Pr) : Option (List Nat) := match m with
  | none => some (thingT gs x)
  | some g => some (comp g (thingT gs x))
def lineT (gs : List (List Nat)) (ps : List Pr) : Option (List Nat) := ps.foldl (stepT gs) none
theorem lineT_snoc (gs : List (List Nat)) (ps : List Pr) (x : Pr) : lineT gs (ps ++ [x]) = stepT gs (lineT gs ps) x := by
  unfold lineT
  rw [List.foldl_append]
  rfl
def valsT (gs : List (List Nat)) (ls : List (List Pr)) : List (List Nat) := ls.foldl (fun gs ps => gs ++ [(lineT gs ps).getD []]) gs
theorem valsT_snoc (gs : List (List Nat)) (ls : List (List Pr)) (ps : List Pr) : valsT gs (ls ++ [ps]) = valsT gs ls ++ [(lineT (valsT gs ls) ps).getD []] := by
  unfold valsT
  rw [List.foldl_append]
  rfl
theorem valsT_len (gs : List (List Nat)) : ∀ ls : List (List Pr), (valsT gs ls).length = gs.length + ls.length := fun ls => by
  have : ∀ (ls : List (List Pr)) (gs : List (List Nat)), (ls.foldl (fun gs ps => gs ++ [(lineT gs ps).getD []]) gs).length = gs.length + ls.length := by
    intro ls
    induction ls with
    | nil => intro gs; rfl
    | cons p ls ih =>
      intro gs
      rw [List.foldl_cons, ih, List.length_append]
      show _ + 1 + _ = _ + (ls.length + 1)
      omega
  exact this ls gs
def AllOk (n : Nat) (gs : List (List Nat)) : Prop := ∀ g ∈ gs, OkImg g ∧ g.length = n
def TabV (K : PySem.W.Frag) (H : Hp) (v : V) (g : List Nat) : Prop := ∃ o, v = .ref o ∧ TabAt K H o g
theorem TabV.same {K : PySem.W.Frag} {H H1 : Hp} {v : V} {g : List Nat} (h : TabV K H v g) (s : Same H H1) : TabV K H1 v g := let ⟨o, e, h⟩ := h; ⟨o, e, h.same s⟩
theorem TabV.but {K : PySem.W.Frag} {H H1 : Hp} {v : V} {g : List Nat} {q : Addr} {xs : List V} (h : TabV K H v g) (hq : H q = some (.lst xs)) (b : But q H H1) : TabV K H1 v g := by
  obtain ⟨o, e, dx, t, h1, h2⟩ := h
  exact ⟨o, e, dx, t, b _ _ (ne_of h1 hq (by intro z; cases z)) h1, sqt_but hq b h2⟩
theorem thing_ok {n : Nat} {gs : List (List Nat)} (h : AllOk n gs) {x : Pr} {j : Nat} (e : x.1 = j) (hj : j < gs.length) : OkImg (thingT gs x) ∧ (thingT gs x).length = n := by
  have eg : gs.getD x.1.toNat [] = gs[j] := by
    rw [e, Int.toNat_natCast, List.getD_eq_getElem?_getD, List.getElem?_eq_getElem hj]
    rfl
  have hg := h _ (List.getElem_mem hj)
  unfold thingT
  rw [eg]
  by_cases c : x.2 = 1
  · rw [if_pos c]
    exact hg
  · rw [if_neg c]
    exact ⟨hg.1.inv, by rw [inv_len]; exact hg.2⟩
def spVal (K : PySem.W.Frag) : Sp := fun vs H Q _ => ∃ (p x o : Addr) (ls : List (List Pr)) (gs : List (List Nat)) (ys : List V) (n : Nat), vs = [.ref p, .ref x, .ref o] ∧ SchAt K H p (gs.length : Nat) ls ∧ LsOk (gs.length : Nat) ls ∧ ls.length ≤ 20000 ∧ gs.length ≤ 20000 ∧ Seq K H x ys ∧ Par (TabV K H) ys gs ∧ AllOk n gs ∧ n ≤ 3300 ∧
  (ls = [] → ∀ H', Same H H' → Q (.ref o) H') ∧ (ls ≠ [] → ∀ r g H', Same H H' → (valsT gs ls)[gs.length + ls.length - 1]? = some g → TabAt K H' r g → OkImg g → g.length = n → Q (.ref r) H')
section
variable {P : Program} {w : World} {K : PySem.W.Frag} {mg : Str → Option Value} {base : Heap} {f : Addr} {fd : FuncData}

theorem ok_val (F : FX K "value" "Scheme.value" s_Scheme_value [] [] f fd) (T : Txt K mg) (c_Table_mul : Met P w K mg base (He.ga K "Table") "__mul__" 6 (spTMul K)) (c_Table_invert : Met P w K mg base (He.ga K "Table") "__invert__" 6 (spTInv K)) : FnOk P w K mg base (L2.CX P w) 8 f fd ["self", "results", "one"] (spVal K) := by
  refine F.ok sc_Scheme_value (fun vs H Q E h => ?_) (fun cdv A outer s H vs Q E hr h => ?_)
  · obtain ⟨p, x, o, ls, gs, ys, n, rfl, _⟩ := h
    rfl
  · obtain ⟨p, x, o, ls, gs, ys, n, rfl, ⟨dx, t, zs, h1, h2, h3⟩, lok, hl, hg, hx, hys, ok, hn, k0, k1⟩ := h
    refine ⟨_, PSs.nox ((pss_cons (ps_if (pt_cmpR (k_ne (K := K) rfl hr.units) (pe_callB (k_len (K := K) rfl) (by rfl) T.b_len PySem.boot_len (pa_cons (pv 1) pa_nil)) (k_fld (K := K) rfl (pv 0)) (nomark _)) (pss_one ps_never) pss_nil) 
      (pss_cons (ps_set (i := 3) sc_Scheme_value.nd rfl (Or.inl rfl) (pe_callTy (k_list (K := K) rfl) (by rfl) T.b_list (by decide +kernel) (pa_cons (pv 1) pa_nil))) 
      (pss_cons (ps_for PassesOwn.never rfl (k_iT (K := K) rfl (k_fld (K := K) rfl (pv 0))) (pg_name (i := 4) sc_Scheme_value.nd rfl (Or.inl rfl)) (pss_cons (ps_set (i := 5) sc_Scheme_value.nd rfl (Or.inl rfl) pe_non) 
      (pss_cons (ps_for PassesOwn.never rfl (k_iT (K := K) rfl (pv 4)) (k_gtup (K := K) (n := 2) rfl (by rfl) (pgs_cons (pg_name (i := 6) sc_Scheme_value.nd rfl (Or.inl rfl)) (pgs_cons (pg_name (i := 7) sc_Scheme_value.nd rfl (Or.inl rfl)) pgs_nil))) (pss_cons (ps_set (i := 8) sc_Scheme_value.nd rfl (Or.inl rfl) (pe_ifExp (pt_cmpR (k_eq (K := K) rfl hr.units) (pv 7) pe_int (nomark _)) (pe_ix (k_ix (K := K) rfl) (pv 3) (pv 6) (fun _ _ => rfl)) (pe_un (un_invO c_Table_invert hr (by decide) passL) (pe_ix (k_ix (K := K) rfl) (pv 3) (pv 6) (fun _ _ => rfl))))) (pss_one (ps_set (i := 5) sc_Scheme_value.nd rfl (Or.inl rfl) (pe_ifExp (pt_cmpR op_isNU (pv 5) pe_non (nomark _)) (pv 8) (pe_op (op_mulO T.o_Table c_Table_mul hr (by decide) passL) (pv 5) (pv 8))))))) (pss_one (ps_expr (k_bm (K := K) rfl PySem.F.plainAttrs_list PySem.F.slot_list_append PySem.F.type_list_append mt_append (pv 3) (pa_cons (pv 5) pa_nil))))))) (pss_one (ps_ret (pe_ifExp (k_tr (K := K) rfl (k_fld (K := K) rfl (pv 0))) (pe_ix (k_ix (K := K) rfl) (pv 3) (pe_op op_sub (pe_callB (k_len (K := K) rfl) (by rfl) T.b_len PySem.boot_len (pa_cons (pv 3) pa_nil)) pe_int) (fun _ _ => rfl)) (pv 2)))))))), ?_⟩
    try dsimp only [cxOf]
    walk_at "go"
    refine a_lenS hx ?_
    walk_at "go"
    refine a_fld h1 T.o_Scheme.cl T.n_Scheme_sources (sch_l2 _ _) ?_
    walk_at "go"
    refine a_nyes (by rw [hys.1]) ?_
    walk_at "go"
    refine a_list hx fun L H1 nL s1 hL => ?_
    walk_at "go"
    refine a_fld (s1 _ _ h1) T.o_Scheme.cl T.n_Scheme_lines (sch_l1 _ _) ?_
    refine ⟨t, rfl, ⟨_, same_t s1 h2⟩, ?_⟩
    refine for_tup (K := K) (a := t) (xs := zs) (fun i σ H' => ∃ (v4 v5 v6 v7 v8 : Option V) (us : List V), σ = [some (.ref p), some (.ref x), some (.ref o), some (.ref L), v4, v5, v6, v7, v8] ∧ Same H H' ∧ H' L = some (.lst us) ∧ Par (TabV K H') us (valsT gs (ls.take i)) ∧ AllOk n (valsT gs (ls.take i)))
      ⟨none, none, none, none, none, ys, rfl, s1, hL, hys.mono fun v g h => h.same s1, ok⟩ (fun i σ H' _ ⟨_, _, _, _, _, _, _, s', _⟩ => same_t s' h2) ?_ ?_
    · rintro i y σ H2 hy ⟨v4, v5, v6, v7, v8, us, rfl, s2, hL2, hus, hok⟩
      have hil : i < ls.length := by rw [← h3.1]; exact (List.getElem?_eq_some_iff.mp hy).1
      have lo := lok i _ (List.getElem?_eq_getElem hil)
      obtain ⟨pq, qs, rfl, hq, hps⟩ := (h3.same s2).2 i y _ hy (List.getElem?_eq_getElem hil)
      have hvl : (valsT gs (ls.take i)).length = gs.length + i := by rw [valsT_len, List.length_take]; omega
      generalize hvs : valsT gs (ls.take i) = vs at hus hok hvl
      show tSeq _ _ _ _ _
      walk_at "go"
      refine ⟨pq, rfl, ⟨_, hq⟩, ?_⟩
      refine for_tup (K := K) (a := pq) (xs := qs) (fun m σ H' => ∃ (v5 v6 v7 v8 : Option V) (w5 : V), v5 = some w5 ∧ σ = [some (.ref p), some (.ref x), some (.ref o), some (.ref L), some (.ref pq), v5, v6, v7, v8] ∧ Same H2 H' ∧ (match lineT vs (ls[i].take m) with | none => w5 = .non | some g => TabV K H' w5 g ∧ OkImg g ∧ g.length = n) ∧ (lineT vs (ls[i].take m) = none → m = 0))
        ⟨_, v6, v7, v8, .non, rfl, rfl, Same.refl _, rfl, fun _ => rfl⟩ (fun m σ H' _ ⟨_, _, _, _, _, _, _, s', _⟩ => same_t s' hq) ?_ ?_
      · rintro m y σ H3 hy3 ⟨u5, u6, u7, u8, w5, rfl, rfl, s3, hm, hz⟩
        have hml : m < ls[i].length := by rw [← hps.1]; exact (List.getElem?_eq_some_iff.mp hy3).1
        have em : ls[i][m]? = some ls[i][m] := List.getElem?_eq_getElem hml
        obtain ⟨qq, rfl, hqq⟩ := (hps.2 m y _ hy3 em).same s3
        obtain ⟨sg, n0, n1⟩ := lo.2.2 _ (List.getElem_mem hml)
        obtain ⟨j, ej⟩ : ∃ j : Nat, ls[i][m].1 = (j : Int) := ⟨ls[i][m].1.toNat, by omega⟩
        have hj : j < vs.length := by omega
        obtain ⟨v, ev, o1, rfl, t1⟩ := Par.get hus hj
        have tk := thing_ok hok ej hj
        refine ⟨qq, _, rfl, hqq, rfl, _, _, rfl, _, _, rfl, rfl, ?_⟩
        have hL3 := s3 _ _ hL2
        have t3 := t1.same s3
        have eg : vs.getD ls[i][m].1.toNat [] = vs[j] := by
          rw [ej, Int.toNat_natCast, List.getD_eq_getElem?_getD, List.getElem?_eq_getElem hj]
          rfl
        have et : lineT vs (ls[i].take (m + 1)) = stepT vs (lineT vs (ls[i].take m)) ls[i][m] := by
          rw [← List.take_append_getElem hml, lineT_snoc]
        walk_at "go"
        refine a_meet (R := ?R) (J := fun (o2 : Addr) H' => Same H3 H' ∧ TabAt K H' o2 (thingT vs ls[i][m])) (fun c kk => ?h1) (fun c kk => ?h2) ?fin
        case h2 =>
          walk_at "go"
          refine a_ixL (SqL.of hL3) (atI_of (j := j) ej ev) ?_
          have gk := hok _ (List.getElem_mem hj)
          refine a_invT t3 gk.1 (by rw [gk.2]; exact hn) fun o2 H4 n4 s4 t4 => ?_
          refine kk o2 H4 ⟨s4, ?_⟩
          unfold thingT
          rw [if_neg (fun z => c (by rw [z])), eg]
          exact t4
        case h1 =>
          walk_at "go"
          refine a_ixL (SqL.of hL3) (atI_of (j := j) ej ev) ?_
          refine kk o1 H3 ⟨Same.refl _, ?_⟩
          unfold thingT
          rw [if_pos (V.int.inj c), eg]
          exact t3
        case fin =>
          rintro o2 H4 ⟨s4, t4⟩
          try dsimp only
          walk_at "go"
          refine ⟨rfl, ?_⟩
          walk_at "go"
          cases hm0 : lineT vs (ls[i].take m) with
          | none =>
            rw [hm0] at hm
            obtain rfl : w5 = .non := hm
            refine a_yes rfl ?_
            walk_at "go"
            refine ⟨_, _, _, _, .ref o2, rfl, rfl, s3.trans s4, ?_, ?_⟩
            · rw [et, hm0]
              exact ⟨⟨o2, rfl, t4⟩, tk⟩
            · rw [et, hm0]
              intro z
              cases z
          | some g =>
            rw [hm0] at hm
            obtain ⟨⟨o3, rfl, t5⟩, og, lg⟩ := hm
            refine a_no (by intro z; cases z) ?_
            walk_at "go"
            refine a_mulT (t5.same s4) t4 og tk.1 (by rw [lg, tk.2]) (by rw [lg]; exact hn) fun o4 H5 n5 s5 t6 => ?_
            refine ⟨_, _, _, _, .ref o4, rfl, rfl, (s3.trans s4).trans s5, ?_, ?_⟩
            · rw [et, hm0]
              exact ⟨⟨o4, rfl, t6⟩, og.comp tk.1 (by rw [lg, tk.2]), by rw [comp_len]; exact lg⟩
            · rw [et, hm0]
              intro z
              cases z
      · rintro σ H3 ⟨u5, u6, u7, u8, w5, rfl, rfl, s3, hm, hz⟩
        rw [hps.1, List.take_length] at hm hz
        have hL3 := s3 _ _ hL2
        cases hm0 : lineT vs ls[i] with
        | none =>
          have := hz hm0
          have := lo.1
          omega
        | some g =>
          rw [hm0] at hm
          obtain ⟨⟨o3, rfl, t5⟩, og, lg⟩ := hm
          walk_at "go"
          refine a_ty hL3 ?_
          walk_at "go"
          refine a_app hL3 (by rw [hus.1, hvl]; exact szl (by omega)) fun H4 b4 h4 => ?_
          have ev : valsT gs (ls.take (i + 1)) = vs ++ [g] := by
            rw [← List.take_append_getElem hil, valsT_snoc, hvs, hm0]
            rfl
          refine ⟨_, _, _, _, _, us ++ [.ref o3], rfl, fun c o' z => b4 c o' (ne_of_none z nL) (s3 c o' (s2 c o' z)), h4, ?_, ?_⟩
          · rw [ev]
            exact (hus.mono fun v g h => (h.same s3).but hL3 b4).snoc (TabV.but ⟨o3, rfl, t5⟩ hL3 b4)
          · rw [ev]
            intro g' hg'
            rcases List.mem_append.mp hg' with h | h
            · exact hok g' h
            · rw [List.mem_singleton] at h
              subst h
              exact ⟨og, lg⟩
    · rintro σ H2 ⟨v4, v5, v6, v7, v8, us, rfl, s2, hL2, hus, hok⟩
      rw [h3.1, List.take_length] at hus hok
      walk_at "go"
      refine a_fld (s2 _ _ h1) T.o_Scheme.cl T.n_Scheme_lines (sch_l1 _ _) ?_
      refine a_truT (same_t s2 h2) ?_
      by_cases hz : ls = []
      · have : zs = [] := List.eq_nil_of_length_eq_zero (by rw [h3.1, hz]; rfl)
        subst this
        refine a_F rfl ?_
        walk_at "go"
        exact k0 hz H2 s2
      · have hlp : 0 < ls.length := List.length_pos_iff.mpr hz
        have hzs : zs ≠ [] := fun z => by
          have := h3.1
          rw [z] at this
          simp at this
          omega
        refine a_T (by cases zs with | nil => exact absurd rfl hzs | cons _ _ => rfl) ?_
        walk_at "go"
        have hvl := valsT_len gs ls
        have hlt : gs.length + ls.length - 1 < (valsT gs ls).length := by omega
        obtain ⟨v, ev, o1, rfl, t1⟩ := Par.get hus hlt
        have gk := hok _ (List.getElem_mem hlt)
        refine a_ixL (SqL.of hL2) (atI_of (j := gs.length + ls.length - 1) (by rw [hus.1, hvl]; omega) ev) ?_
        exact k1 hz o1 _ H2 s2 (List.getElem?_eq_getElem hlt) t1 gk.1 gk.2
end

/-! ### the law's own lines and values -/
def LnAt (K : PySem.W.Frag) (N : Addr → Prop) (H : Hp) (v : V) (ps : List Pr) : Prop := ∃ a ys, v = .ref a ∧ N a ∧ H a = some (.lst ys) ∧ Par (PairAt K H) ys ps
theorem PairAt.up {K : PySem.W.Frag} {H H1 : Hp} {v : V} {x : Pr} (s : Same H H1) (h : PairAt K H v x) : PairAt K H1 v x := h.same s
theorem PairAt.upB {K : PySem.W.Frag} {H H1 : Hp} {v : V} {x : Pr} {D : Addr} (b : But D H H1) (i : IsLst H D) (h : PairAt K H v x) : PairAt K H1 v x := let ⟨_, e⟩ := i; h.but e b
theorem PrsAt.up {K : PySem.W.Frag} {H H1 : Hp} {ys : List V} {ps : List Pr} (s : Same H H1) (h : Par (PairAt K H) ys ps) : Par (PairAt K H1) ys ps := h.mono fun _ _ z => z.same s
theorem PrsAt.upB {K : PySem.W.Frag} {H H1 : Hp} {ys : List V} {ps : List Pr} {D : Addr} (b : But D H H1) (i : IsLst H D) (h : Par (PairAt K H) ys ps) : Par (PairAt K H1) ys ps := h.mono fun _ _ z => z.upB b i
theorem LnAt.up {K : PySem.W.Frag} {N : Addr → Prop} {H H1 : Hp} {v : V} {ps : List Pr} (s : Same H H1) (h : LnAt K N H v ps) : LnAt K N H1 v ps := let ⟨a, ys, e, n, h1, h2⟩ := h; ⟨a, ys, e, n, s _ _ h1, PrsAt.up s h2⟩
theorem LnAt.upB {K : PySem.W.Frag} {N : Addr → Prop} {H H1 : Hp} {v : V} {ps : List Pr} {D : Addr} (b : But D H H1) (i : IsLst H D) (nD : ∀ a, N a → a ≠ D) (h : LnAt K N H v ps) : LnAt K N H1 v ps := let ⟨a, ys, e, n, h1, h2⟩ := h; ⟨a, ys, e, n, b _ _ (nD a n) h1, PrsAt.upB b i h2⟩
theorem LnAt.wk {K : PySem.W.Frag} {N M : Addr → Prop} {H : Hp} {v : V} {ps : List Pr} (m : ∀ a, N a → M a) (h : LnAt K N H v ps) : LnAt K M H v ps := let ⟨a, ys, e, n, h1, h2⟩ := h; ⟨a, ys, e, m a n, h1, h2⟩
theorem LnsAt.up {K : PySem.W.Frag} {N : Addr → Prop} {H H1 : Hp} {zs : List V} {ls : List (List Pr)} (s : Same H H1) (h : Par (LnAt K N H) zs ls) : Par (LnAt K N H1) zs ls := h.mono fun _ _ z => z.up s
theorem LnsAt.upB {K : PySem.W.Frag} {N : Addr → Prop} {H H1 : Hp} {zs : List V} {ls : List (List Pr)} {D : Addr} (b : But D H H1) (i : IsLst H D) (nD : ∀ a, N a → a ≠ D) (h : Par (LnAt K N H) zs ls) : Par (LnAt K N H1) zs ls := h.mono fun _ _ z => z.upB b i nD
local macro_rules | `(tactic| walk_at "lf") => `(tactic| first
  | (with_reducible apply PrsAt.up; with_reducible assumption; walk_at "lf")
  | (with_reducible apply PrsAt.upB; with_reducible assumption; walk_at "lf"; walk_at "lf")
  | (with_reducible apply LnsAt.up; with_reducible assumption; walk_at "lf")
  | (with_reducible apply LnsAt.upB; with_reducible assumption; walk_at "lf"; (first | with_reducible exact fun _ h => h | with_reducible exact fun _ h => And.left h | with_reducible exact fun _ h => And.right h); walk_at "lf"))
def lineL (gs : List (List Wp)) (ps : List Pr) : List Wp := ps.foldl (fun m x => canc (m ++ thingW gs x)) []
theorem lineL_snoc (gs : List (List Wp)) (ps : List Pr) (x : Pr) : lineL gs (ps ++ [x]) = canc (lineL gs ps ++ thingW gs x) := by
  unfold lineL
  rw [List.foldl_append]
  rfl
def RedAll (gs : List (List Wp)) : Prop := ∀ g ∈ gs, Red g
theorem thing_red {gs : List (List Wp)} (h : RedAll gs) (x : Pr) : Red (thingW gs x) := by
  have hg : Red (gs.getD x.1.toNat []) := by
    rw [List.getD_eq_getElem?_getD]
    cases e : gs[x.1.toNat]? with
    | none => exact Red.nil
    | some g => exact h g (List.mem_of_getElem? e)
  unfold thingW
  split
  · exact hg
  · exact invW_red hg
theorem lineW_eq {gs : List (List Wp)} (h : RedAll gs) {ps : List Pr} : lineW gs ps = if ps = [] then none else some (lineL gs ps) := by
  refine revInd (P := fun ps => lineW gs ps = if ps = [] then none else some (lineL gs ps)) rfl (fun l x ih => ?_) ps
  rw [lineW_snoc, ih, lineL_snoc, if_neg (show ¬ (l ++ [x] = []) by simp)]
  by_cases e : l = []
  · subst e
    rw [if_pos rfl]
    show some (thingW gs x) = some (canc ([] ++ thingW gs x))
    rw [List.nil_append, canc_of_red (thing_red h x)]
  · rw [if_neg e]
    rfl
def valsL (gs : List (List Wp)) (ls : List (List Pr)) : List (List Wp) := ls.foldl (fun gs ps => gs ++ [lineL gs ps]) gs
theorem valsL_snoc (gs : List (List Wp)) (ls : List (List Pr)) (ps : List Pr) : valsL gs (ls ++ [ps]) = valsL gs ls ++ [lineL (valsL gs ls) ps] := by
  unfold valsL
  rw [List.foldl_append]
  rfl
theorem lineL_red (gs : List (List Wp)) (ps : List Pr) : Red (lineL gs ps) := by
  refine revInd (P := fun ps => Red (lineL gs ps)) Red.nil (fun l x _ => ?_) ps
  rw [lineL_snoc]
  exact canc_red _
theorem valsL_red {gs : List (List Wp)} (h : RedAll gs) (ls : List (List Pr)) : RedAll (valsL gs ls) := by
  refine revInd (P := fun ls => RedAll (valsL gs ls)) h (fun l x ih => ?_) ls
  rw [valsL_snoc]
  intro g hg
  rcases List.mem_append.mp hg with hg | hg
  · exact ih g hg
  · rw [List.mem_singleton] at hg
    subst hg
    exact lineL_red _ _
theorem vals_eq {gs : List (List Wp)} (h : RedAll gs) {ls : List (List Pr)} (ne : ∀ ps ∈ ls, ps ≠ []) : valsW gs ls = valsL gs ls := by
  revert ne
  refine revInd (P := fun ls => (∀ ps ∈ ls, ps ≠ []) → valsW gs ls = valsL gs ls) (fun _ => rfl) (fun l x ih ne => ?_) ls
  rw [valsW_snoc, valsL_snoc, ih (fun ps hp => ne ps (List.mem_append_left _ hp)), lineW_eq (valsL_red h l), if_neg (ne x (by simp))]
  rfl
/-- how long they are -/
def LenAll (gs : List (List Wp)) (n : Nat) : Prop := ∀ g ∈ gs, g.length ≤ n
theorem thing_len {gs : List (List Wp)} {n : Nat} (h : LenAll gs n) (x : Pr) : (thingW gs x).length ≤ n := by
  have hg : (gs.getD x.1.toNat []).length ≤ n := by
    rw [List.getD_eq_getElem?_getD]
    cases e : gs[x.1.toNat]? with
    | none => exact Nat.zero_le _
    | some g => exact h g (List.mem_of_getElem? e)
  unfold thingW
  split
  · exact hg
  · rw [invW_len]
    exact hg
theorem lineL_len {gs : List (List Wp)} {n : Nat} (h : LenAll gs n) (ps : List Pr) : (lineL gs ps).length ≤ ps.length * n := by
  refine revInd (P := fun ps => (lineL gs ps).length ≤ ps.length * n) (Nat.zero_le _) (fun l x ih => ?_) ps
  rw [lineL_snoc]
  refine Nat.le_trans (canc_len _) ?_
  rw [List.length_append, List.length_append, List.length_singleton, Nat.add_mul, Nat.one_mul]
  have := thing_len h x
  omega
theorem two_pow_ge (n : Nat) : n ≤ 2 ^ n := Nat.le_of_lt Nat.lt_two_pow_self
theorem valsL_len2 {gs : List (List Wp)} {n : Nat} (h : LenAll gs n) (ls : List (List Pr)) : LenAll (valsL gs ls) (n * 2 ^ (ls.map List.length).sum) := by
  refine revInd (P := fun ls => LenAll (valsL gs ls) (n * 2 ^ (ls.map List.length).sum)) (fun g hg => by simpa using h g hg) (fun l x ih => ?_) ls
  rw [valsL_snoc]
  have e : ((l ++ [x]).map List.length).sum = (l.map List.length).sum + x.length := by simp
  rw [e, Nat.pow_add, ← Nat.mul_assoc]
  intro g hg
  rcases List.mem_append.mp hg with hg | hg
  · exact Nat.le_trans (ih g hg) (Nat.le_mul_of_pos_right _ (Nat.pow_pos (by decide)))
  · rw [List.mem_singleton] at hg
    subst hg
    refine Nat.le_trans (lineL_len ih x) ?_
    rw [Nat.mul_comm]
    exact Nat.mul_le_mul_left _ (two_pow_ge _)
def spWVal (K : PySem.W.Frag) : Sp := fun vs H Q _ => ∃ (a b : Addr) (zs us : List V) (gs : List (List Wp)) (ls : List (List Pr)) (N M : Addr → Prop), vs = [.ref a, .ref b] ∧ H a = some (.lst zs) ∧ Par (LotAt K N H) zs gs ∧ H b = some (.lst us) ∧ Par (LnAt K M H) us ls ∧ LsOk (gs.length : Nat) ls ∧ (∀ g ∈ gs, OkSs g) ∧ LenAll gs 3 ∧ gs.length ≤ 10 ∧ ls.length ≤ 10 ∧ (ls.map List.length).sum ≤ 12 ∧
  ∀ r rs H', Same H H' → H' r = some (.lst rs) → Par (StepAt K H') rs (if ls = [] then [] else ((valsL gs ls)[gs.length + ls.length - 1]?).getD []) → Q (.ref r) H'

section
variable {P : Program} {w : World} {K : PySem.W.Frag} {mg : Str → Option Value} {base : Heap} {f : Addr} {fd : FuncData}
theorem sum_take (ls : List (List Pr)) (i : Nat) : ((ls.take i).map List.length).sum ≤ (ls.map List.length).sum := by
  have : ls.map List.length = (ls.take i).map List.length ++ (ls.drop i).map List.length := by rw [← List.map_append, List.take_append_drop]
  rw [this, List.sum_append]
  omega
theorem thing_okS {gs : List (List Wp)} (h : ∀ g ∈ gs, OkSs g) (x : Pr) : OkSs (thingW gs x) := by
  have hg : OkSs (gs.getD x.1.toNat []) := by
    rw [List.getD_eq_getElem?_getD]
    cases e : gs[x.1.toNat]? with
    | none => exact fun y hy => by cases hy
    | some g => exact h g (List.mem_of_getElem? e)
  unfold thingW
  split
  · exact hg
  · exact hg.inv
theorem lineL_ok {gs : List (List Wp)} (h : ∀ g ∈ gs, OkSs g) (ps : List Pr) : OkSs (lineL gs ps) := by
  refine revInd (P := fun ps => OkSs (lineL gs ps)) (fun y hy => by cases hy) (fun l x ih => ?_) ps
  rw [lineL_snoc]
  exact (ih.app (thing_okS h x)).canc
theorem valsL_ok {gs : List (List Wp)} (h : ∀ g ∈ gs, OkSs g) (ls : List (List Pr)) : ∀ g ∈ valsL gs ls, OkSs g := by
  refine revInd (P := fun ls => ∀ g ∈ valsL gs ls, OkSs g) h (fun l x ih => ?_) ls
  rw [valsL_snoc]
  intro g hg
  rcases List.mem_append.mp hg with hg | hg
  · exact ih g hg
  · rw [List.mem_singleton] at hg
    subst hg
    exact lineL_ok ih x
theorem valsL_length (gs : List (List Wp)) (ls : List (List Pr)) : (valsL gs ls).length = gs.length + ls.length := by
  refine revInd (P := fun ls => (valsL gs ls).length = gs.length + ls.length) rfl (fun l x ih => ?_) ls
  rw [valsL_snoc, List.length_append, ih, List.length_append]
  simp
  omega
def lnsD (ls : List (List Pr)) : List PyData := ls.map fun ps => .list (psD ps)
theorem LnsAt.dq {M : Addr → Prop} {H : Hp} {us : List V} {ls : List (List Pr)} {n : Nat} (h : Par (LnAt K M H) us ls) : DqA K H (n + 3) us (lnsD ls) := dqa (fun ps => .list (psD ps)) h.1 fun k v x a b => by
  obtain ⟨q, ys, rfl, _, h1, h2⟩ := h.2 k v x a b
  exact .lst (SqL.of h1) (PairsIn.dq h2)
theorem eqvL_nil : ∀ ds : List PyData, PyData.eqvAll ds [] = decide (ds = [])
  | [] => by simp [PyData.eqvAll]
  | d :: ds => by simp [PyData.eqvAll]
theorem a_neLn {M : Addr → Prop} {H : Hp} {Q : VK} {b e : Addr} {us : List V} {ls : List (List Pr)} (hb : H b = some (.lst us)) (pb : Par (LnAt K M H) us ls) (he : H e = some (.lst [])) (q : Q (.bl (!decide (ls = []))) H) : rNeU K (.ref b) (.ref e) H Q := by
  refine a_neW (n := 4) (.lst (SqL.of hb) (LnsAt.dq pb)) (.lst (SqL.of he) .nil) ?_
  rw [show PyData.eqv (.list (lnsD ls)) (.list []) = decide (ls = []) by rw [PyData.eqv, eqvL_nil, Bool.eq_iff_iff]; simp [lnsD]]
  exact q
theorem sc__law_word_value : FnScope ["_law_lots", "_law_lines_here", "_law_values", "_law_pairs", "_law_made", "_law_number", "_law_sign"] ["_law_lots", "_law_lines_here"] (defScope s__law_word_value) := ⟨rfl, rfl, rfl, by decide +kernel, rfl, by decide +kernel, by decide +kernel⟩
theorem ok_wval (F : FX K "_law_word_value" "_law_word_value" s__law_word_value [] [] f fd) (T : Txt K mg) (c__law_reduced : Cal P w K mg base "_law_reduced" 2 (spCanc K)) (c__law_turned : Cal P w K mg base "_law_turned" 2 (spInvS K)) : FnOk P w K mg base (L2.CX P w) 4 f fd ["_law_lots", "_law_lines_here"] (spWVal K) := by
  refine F.ok sc__law_word_value (fun vs H Q E h => ?_) (fun cdv A outer s H vs Q E hr h => ?_)
  · obtain ⟨a, b, zs, us, gs, ls, N, M, rfl, _⟩ := h
    rfl
  · obtain ⟨a, b, zs, us, gs, ls, N, M, rfl, ha, pa, hb, pb, lok, okg, l3, g10, l10, s12, k⟩ := h
    refine ⟨_, PSs.nox ((pss_cons (ps_set (i := 2) sc__law_word_value.nd rfl (Or.inl rfl) (pe_callTy (k_list (K := K) rfl) (by rfl) T.b_list (by decide +kernel) (pa_cons (pv 0) pa_nil))) 
      (pss_cons (ps_for PassesOwn.never rfl (k_iL (K := K) rfl (pv 1)) (pg_name (i := 3) sc__law_word_value.nd rfl (Or.inl rfl)) (pss_cons (ps_set (i := 4) sc__law_word_value.nd rfl (Or.inl rfl) (pe_lst pa_nil)) 
      (pss_cons (ps_for PassesOwn.never rfl (k_iL (K := K) rfl (pv 3)) (k_gtup (K := K) (n := 2) rfl (by rfl) (pgs_cons (pg_name (i := 5) sc__law_word_value.nd rfl (Or.inl rfl)) (pgs_cons (pg_name (i := 6) sc__law_word_value.nd rfl (Or.inl rfl)) pgs_nil))) (pss_one (ps_set (i := 4) sc__law_word_value.nd rfl (Or.inl rfl) (pe_f c__law_reduced hr (by decide) rfl passL (pa_cons (pe_op (k_add (K := K) rfl) (pv 4) (pe_ifExp (pt_cmpR (k_eq (K := K) rfl hr.units) (pv 6) pe_int (nomark _)) (pe_ix (k_ix (K := K) rfl) (pv 2) (pv 5) (fun _ _ => rfl)) (pe_f c__law_turned hr (by decide) rfl passL (pa_cons (pe_ix (k_ix (K := K) rfl) (pv 2) (pv 5) (fun _ _ => rfl)) pa_nil)))) pa_nil))))) (pss_one (ps_expr (k_bm (K := K) rfl PySem.F.plainAttrs_list PySem.F.slot_list_append PySem.F.type_list_append mt_append (pv 2) (pa_cons (pv 4) pa_nil))))))) (pss_one (ps_ret (pe_ifExp (pt_cmpR (k_ne (K := K) rfl hr.units) (pv 1) (pe_lst pa_nil) (nomark _)) (pe_ix (k_ix (K := K) rfl) (pv 2) (pe_un un_neg pe_int) (fun _ _ => rfl)) (pe_lst pa_nil))))))), ?_⟩
    try dsimp only [cxOf]
    walk_at "go"
    refine a_list (.inl (SqL.of ha)) fun L H1 nL s1 hL => ?_
    walk_at "go"
    refine ⟨b, rfl, ⟨_, SqL.of (s1 _ _ hb)⟩, ?_⟩
    refine for_it (walkL0 (K := K) (SqL.of hb)) (fun i σ H' => ∃ (v3 v4 v5 v6 : Option V) (ys : List V), σ = [some (.ref a), some (.ref b), some (.ref L), v3, v4, v5, v6] ∧ Same H H' ∧ H' L = some (.lst ys) ∧ Par (LotAt K (fun x => x ≠ L) H') ys (valsL gs (ls.take i)))
      ⟨none, none, none, none, zs, rfl, s1, hL, pa.mono fun v x ⟨c, cs, e, n, h1, h2⟩ => ⟨c, cs, e, ne_of_none h1 nL, s1 _ _ h1, ParS.up s1 h2⟩⟩ (fun i σ H' _ ⟨_, _, _, _, _, _, s', _⟩ => s') ?_ ?_
    · rintro i y σ H3 H2 hi ⟨v3, v4, v5, v6, ys, rfl, s2, hL2, pv⟩ ⟨rfl, ey⟩
      obtain ⟨ps, eps, c, cs, rfl, _, hc, pc⟩ := (LnsAt.up s2 pb).getD ey
      have lo := lok i ps eps
      have hil : i < ls.length := (List.getElem?_eq_some_iff.mp eps).1
      have hvl : (valsL gs (ls.take i)).length = gs.length + i := by rw [valsL_length, List.length_take]; omega
      have okv := valsL_ok okg (ls.take i)
      have lenv : LenAll (valsL gs (ls.take i)) 12288 := fun g hg => Nat.le_trans (valsL_len2 l3 (ls.take i) g hg) (by
        have : 2 ^ ((ls.take i).map List.length).sum ≤ 2 ^ 12 := Nat.pow_le_pow_right (by decide) (Nat.le_trans (sum_take ls i) s12)
        omega)
      have evs : valsL gs (ls.take (i + 1)) = valsL gs (ls.take i) ++ [lineL (valsL gs (ls.take i)) ps] := by rw [take_snoc eps, valsL_snoc]
      have lenn : ∀ m, (lineL (valsL gs (ls.take i)) (ps.take m)).length ≤ 12288 := fun m => by
        have h1 : LenAll (valsL gs (ls.take i)) (3 * 2 ^ ((ls.take i).map List.length).sum) := valsL_len2 l3 (ls.take i)
        refine Nat.le_trans (lineL_len h1 (ps.take m)) ?_
        have e1 : (ps.take m).length ≤ 2 ^ ps.length := Nat.le_trans (by rw [List.length_take]; omega) (two_pow_ge _)
        have e2 : ((ls.take i).map List.length).sum + ps.length ≤ 12 := by
          have := sum_take ls (i + 1)
          rw [take_snoc eps, List.map_append, List.sum_append, List.map_cons, List.map_nil, List.sum_cons, List.sum_nil] at this
          omega
        have e3 : 2 ^ ps.length * 2 ^ ((ls.take i).map List.length).sum ≤ 2 ^ 12 := by
          rw [← Nat.pow_add]
          exact Nat.pow_le_pow_right (by decide) (by omega)
        calc (ps.take m).length * (3 * 2 ^ ((ls.take i).map List.length).sum) ≤ 2 ^ ps.length * (3 * 2 ^ ((ls.take i).map List.length).sum) := Nat.mul_le_mul_right _ e1
          _ = 3 * (2 ^ ps.length * 2 ^ ((ls.take i).map List.length).sum) := by rw [Nat.mul_left_comm]
          _ ≤ 3 * 2 ^ 12 := Nat.mul_le_mul_left _ e3
      generalize valsL gs (ls.take i) = vs at pv hvl okv lenv evs lenn
      show tSeq _ _ _ _ _
      walk_at "go"
      refine a_newL (by show 0 ≤ 100000; decide) fun D H4 nD s4 hD => ?_
      walk_at "go"
      have s24 := s4
      refine ⟨c, rfl, ⟨_, SqL.of (s4 _ _ hc)⟩, ?_⟩
      refine for_it (walkL0 (K := K) (SqL.of (s4 _ _ hc))) (fun m σ H' => ∃ (v5 v6 : Option V) (d : Addr) (ds : List V), σ = [some (.ref a), some (.ref b), some (.ref L), some (.ref c), some (.ref d), v5, v6] ∧ Same H4 H' ∧ d ≠ L ∧ H' d = some (.lst ds) ∧ Par (StepAt K H') ds (lineL vs (ps.take m)))
        ⟨v5, v6, D, [], rfl, Same.refl _, Ne.symm (ne_of_none hL2 nD), hD, .nil⟩ (fun m σ H' _ ⟨_, _, _, _, _, s', _⟩ => s') ?_ ?_
      · rintro m y σ H6 H5 hm ⟨u5, u6, d, ds, rfl, s5, nd, hd, pd⟩ ⟨rfl, ey2⟩
        obtain ⟨x1, ex, q, rfl, hq⟩ := (PrsAt.up s5 (PrsAt.up s4 pc)).getD ey2
        refine ⟨q, _, rfl, hq, rfl, _, _, rfl, _, _, rfl, rfl, ?_⟩
        obtain ⟨sg, n0, n1⟩ := lo.2.2 _ (List.mem_of_getElem? ex)
        obtain ⟨j, ej⟩ : ∃ j : Nat, x1.1 = (j : Int) := ⟨x1.1.toNat, by omega⟩
        have hj : j < vs.length := by omega
        have hL5 : H5 L = some (.lst ys) := by walk_at "lf"
        have pv5 : Par (LotAt K (fun x => x ≠ L) H5) ys vs := by walk_at "lf"
        obtain ⟨v, ev, e1, es, rfl, _, he, pe⟩ := pv5.get hj
        have eg : vs.getD x1.1.toNat [] = vs[j] := by
          rw [ej, Int.toNat_natCast, List.getD_eq_getElem?_getD, List.getElem?_eq_getElem hj]
          rfl
        have lvj := lenv _ (List.getElem_mem hj)
        walk_at "go"
        refine a_ifM (fun v H' => ∃ o2 os, v = V.ref o2 ∧ Same H5 H' ∧ H' o2 = some (.lst os) ∧ Par (StepAt K H') os (thingW vs x1)) (fun c R kk => ?h1) (fun c R kk => ?h2) ?fin
        case h1 =>
          walk_at "go"
          refine a_ixL (SqL.of hL5) (atI_of (j := j) ej ev) ?_
          refine kk _ H5 ⟨e1, es, rfl, Same.refl _, he, ?_⟩
          unfold thingW
          rw [if_pos (V.int.inj c), eg]
          exact pe
        case h2 =>
          walk_at "go"
          refine a_ixL (SqL.of hL5) (atI_of (j := j) ej ev) ?_
          walk_at "go"
          refine ⟨e1, vs[j], es, rfl, .inl (SqL.of he), pe, by omega, fun r rs H7 nr s7 h7 p7 => ?_⟩
          refine kk _ H7 ⟨r, rs, rfl, s7, h7, ?_⟩
          unfold thingW
          rw [if_neg (fun z => c (by rw [z])), eg]
          exact p7
        rintro _ H7 ⟨o2, os, rfl, s7, ho, po⟩
        have lth := thing_len lenv x1
        have hd7 : H7 d = some (.lst ds) := by walk_at "lf"
        have pd7 : Par (StepAt K H7) ds (lineL vs (ps.take m)) := by walk_at "lf"
        have ln := lenn m
        refine a_cat hd7 ho (by rw [pd7.1, po.1]; omega) fun l8 H8 n8 s8 h8 => ?_
        walk_at "go"
        refine ⟨l8, _, _, rfl, .inl (SqL.of h8), ParS.up s8 (pd7.append po), ((lineL_ok okv _).app (thing_okS okv x1)).str, by rw [List.length_append]; omega, fun l9 z9 H9 n9 s9 h9 p9 => ?_⟩
        rw [← lineL_snoc, ← take_snoc ex] at p9
        have hL9 : H8 L = some (.lst ys) := by walk_at "lf"
        refine ⟨_, _, l9, z9, rfl, ((s5.trans s7).trans s8).trans s9, Ne.symm (ne_of_none hL9 n9), h9, p9⟩
      · rintro σ H5 ⟨u5, u6, d, ds, rfl, s5, nd, hd, pd⟩
        have e0 : cs.length = ps.length := pc.1
        rw [e0, List.take_length] at pd
        have hL5 : H5 L = some (.lst ys) := by walk_at "lf"
        have pv5 : Par (LotAt K (fun x => x ≠ L) H5) ys vs := by walk_at "lf"
        have iL : IsLst H5 L := ⟨_, hL5⟩
        walk_at "go"
        refine a_ty hL5 ?_
        walk_at "go"
        refine a_app hL5 (szl (by rw [pv5.1]; omega)) fun H6 b6 h6 => ?_
        refine ⟨_, _, _, _, ys ++ [.ref d], rfl, fun x o e => b6 x o (ne_of_none e nL) (s5 _ _ (s4 _ _ (s2 _ _ e))), h6, ?_⟩
        rw [evs]
        exact (LotsAt.upB b6 iL (fun _ h => h) pv5).snoc ⟨d, ds, rfl, nd, b6 _ _ nd hd, ParS.upB b6 iL pd⟩
    · rintro σ H2 ⟨v3, v4, v5, v6, ys, rfl, s2, hL2, pv⟩
      rw [pb.1, List.take_length] at pv
      walk_at "go"
      refine a_newL (by show 0 ≤ 100000; decide) fun e H3 ne s3 he => ?_
      refine a_neLn (s3 _ _ (s2 _ _ hb)) (LnsAt.up s3 (LnsAt.up s2 pb)) he ?_
      walk_at "go"
      have hvl := valsL_length gs ls
      by_cases z : ls = []
      · rw [decide_eq_true z]
        refine a_F rfl ?_
        walk_at "go"
        refine a_newL (by show 0 ≤ 100000; decide) fun r H4 nr s4 hr4 => ?_
        refine k r [] H4 ((s2.trans s3).trans s4) hr4 ?_
        rw [if_pos z]
        exact .nil
      · rw [decide_eq_false z]
        have hlp : 0 < ls.length := List.length_pos_iff.mpr z
        have hlt : gs.length + ls.length - 1 < (valsL gs ls).length := by omega
        obtain ⟨v, ev, c, cs, rfl, _, hc, pc⟩ := pv.get hlt
        refine a_T rfl ?_
        walk_at "go"
        have hlast : ys.getLast? = some (.ref c) := by rw [List.getLast?_eq_getElem?, pv.1, hvl]; exact ev
        refine a_ixL (SqL.of (s3 _ _ hL2)) (atI_lst hlast) ?_
        refine k c cs H3 (s2.trans s3) (s3 _ _ hc) ?_
        rw [if_neg z, List.getElem?_eq_getElem hlt]
        exact ParS.up s3 pc
end

theorem OkImg.mem {a : List Nat} (h : OkImg a) {x : Nat} (hx : x < a.length) : x ∈ a := by
  have hs : a.length ≤ a.length := Nat.le_refl _
  have := comp_inv h
  rw [← List.idxOf_lt_length_iff]
  have e := inv_get (a := a) (i := x) (by rw [inv_len]; exact hx)
  rw [← e]
  exact h.inv.lt _ (List.getElem_mem _) |> fun z => by rw [inv_len] at z; exact z
section
variable {P : Program} {w : World} {K : PySem.W.Frag} {mg : Str → Option Value} {base : Heap} {f : Addr} {fd : FuncData}
theorem a_idxI {H : Hp} {Q : VK} {a : Addr} {im : List Nat} {x : Nat} (h : SqL K H a (vi im)) (hx : x ∈ im) (q : Q (.int (im.idxOf x : Nat)) H) : rIndex K (.ref a) [.int (x : Nat)] H Q := by
  have hlt : im.idxOf x < im.length := List.idxOf_lt_length_iff.mpr hx
  refine ⟨a, vi im, .int (x : Nat), im.idxOf x, .int (x : Nat), rfl, rfl, h, rfl, ?_, ?_, ?_, ?_, q⟩
  · rw [List.all_eq_true]
    intro v hv
    obtain ⟨n, _, rfl⟩ := List.mem_map.mp hv
    rfl
  · rw [vi_at hlt, List.getElem_idxOf hlt]
  · simp [eqV]
  · intro m z' hm e
    obtain ⟨hm2, rfl⟩ := vi_get e
    have : im[m] ≠ x := fun z => by
      have := List.not_of_lt_findIdx (p := fun y => y == x) (xs := im) (i := m) hm
      simp [z] at this
    simp [eqV]
    omega
def spBack (K : PySem.W.Frag) : Sp := fun vs H Q _ => ∃ (a : Addr) (im : List Nat), vs = [.ref a] ∧ H a = some (.lst (vi im)) ∧ OkImg im ∧ im.length ≤ 60 ∧ ∀ r H', H r = none → Same H H' → H' r = some (.lst (vi (inv im))) → Q (.ref r) H'
theorem sc__law_back : FnScope ["_law_image_here", "_law_point"] ["_law_image_here"] (defScope s__law_back) := ⟨rfl, rfl, rfl, by decide +kernel, rfl, by decide +kernel, by decide +kernel⟩
theorem ok_back (F : FX K "_law_back" "_law_back" s__law_back [] [] f fd) (T : Txt K mg) : FnOk P w K mg base (L2.CX P w) 2 f fd ["_law_image_here"] (spBack K) := by
  refine F.ok sc__law_back (fun vs H Q E h => ?_) (fun cdv A outer s H vs Q E hr h => ?_)
  · obtain ⟨a, im, rfl, _⟩ := h
    rfl
  · obtain ⟨a, im, rfl, ha, ok, hl, k⟩ := h
    refine ⟨_, PSs.nox ((pss_one (ps_ret (by exact (pe_lc (own := [("_law_point", 1)]) rfl sc__law_back.nd (pi_range1 (by rfl) T.b_range (pa_cons (pe_callB (k_len (K := K) rfl) (by rfl) T.b_len PySem.boot_len (pa_cons (pv 0) pa_nil)) pa_nil)) (blkOk_by (own := [("_law_point", 1)]) (N := ["_law_image_here", "_law_point"]) (sc := defScope s__law_back) (by decide +kernel)) (fun _ _ _ _ _ => by exact (pg_name (i := 1) sc__law_back.nd rfl (Or.inl rfl))) (fun _ _ _ _ _ => by exact pts_nil) (fun _ _ _ _ _ => by exact (k_bm (K := K) rfl PySem.F.plainAttrs_list PySem.F.slot_list_index PySem.F.type_list_index (k_index (K := K) rfl) (pv 0) (pa_cons (pv 1) pa_nil)))))))), ?_⟩
    try dsimp only [cxOf]
    walk_at "go"
    refine c_r (k := im.length) (fun j => V.int (im.idxOf j : Nat)) (by omega) ?_ ?_ ?_
    · intro R r
      walk_at "go"
      rw [vi_len]
      exact r _ (Same.refl _)
    · intro i H' hi s' R r
      walk_at "go"
      refine a_ty (s' _ _ ha) ?_
      walk_at "go"
      exact a_idxI (SqL.of (s' _ _ ha)) (ok.mem hi) (r _ (Same.refl _))
    intro D H1 nD s1 h1
    refine k D H1 nD s1 ?_
    rw [h1]
    unfold vi inv
    rw [List.map_map]
    rfl
end

def ImAt (N : Addr → Prop) (H : Hp) (v : V) (im : List Nat) : Prop := ∃ c, v = .ref c ∧ N c ∧ H c = some (.lst (vi im))
theorem ImsAt.up {N : Addr → Prop} {H H1 : Hp} {zs : List V} {ims : List (List Nat)} (s : Same H H1) (h : Par (ImAt N H) zs ims) : Par (ImAt N H1) zs ims := h.mono fun _ _ ⟨c, e, n, z⟩ => ⟨c, e, n, s _ _ z⟩
theorem ImsAt.upB {N : Addr → Prop} {H H1 : Hp} {D : Addr} {zs : List V} {ims : List (List Nat)} (b : But D H H1) (nD : ∀ a, N a → a ≠ D) (h : Par (ImAt N H) zs ims) : Par (ImAt N H1) zs ims := h.mono fun _ _ ⟨c, e, n, z⟩ => ⟨c, e, n, b _ _ (nD c n) z⟩
local macro_rules | `(tactic| walk_at "lf") => `(tactic| first
  | (with_reducible apply ImsAt.up; with_reducible assumption; walk_at "lf")
  | (with_reducible apply ImsAt.upB; with_reducible assumption; (first | with_reducible exact fun _ h => h | with_reducible exact fun _ h => And.left h | with_reducible exact fun _ h => And.right h); walk_at "lf"))
theorem comp_range {g : List Nat} {n : Nat} (h : g.length = n) : comp (List.range n) g = g := by
  refine List.ext_getElem (by rw [comp_len, List.length_range, h]) fun i h1 h2 => ?_
  rw [comp_get (a := List.range n) (b := g) (i := i) (by rw [List.length_range]; omega) h1, List.getElem_range, getD_lt h2]
def lineI (n : Nat) (gs : List (List Nat)) (ps : List Pr) : List Nat := ps.foldl (fun m x => comp m (thingT gs x)) (List.range n)
theorem lineI_snoc (n : Nat) (gs : List (List Nat)) (ps : List Pr) (x : Pr) : lineI n gs (ps ++ [x]) = comp (lineI n gs ps) (thingT gs x) := by
  unfold lineI
  rw [List.foldl_append]
  rfl
/-- the lines of a scheme fit -/
def PsOk (k : Nat) (ps : List Pr) : Prop := ∀ x ∈ ps, 0 ≤ x.1 ∧ x.1 < (k : Nat)
theorem thing_okN {n : Nat} {gs : List (List Nat)} (h : AllOk n gs) {x : Pr} (hx : 0 ≤ x.1 ∧ x.1 < (gs.length : Nat)) : OkImg (thingT gs x) ∧ (thingT gs x).length = n := thing_ok h (j := x.1.toNat) (by omega) (by omega)
theorem lineT_eq {n : Nat} {gs : List (List Nat)} (h : AllOk n gs) {ps : List Pr} (hp : PsOk gs.length ps) : lineT gs ps = if ps = [] then none else some (lineI n gs ps) := by
  revert hp
  refine revInd (P := fun ps => PsOk gs.length ps → lineT gs ps = if ps = [] then none else some (lineI n gs ps)) (fun _ => rfl) (fun l x ih hp => ?_) ps
  rw [lineT_snoc, ih fun y hy => hp y (List.mem_append_left _ hy), lineI_snoc, if_neg (show ¬ (l ++ [x] = []) by simp)]
  by_cases e : l = []
  · subst e
    rw [if_pos rfl]
    show some (thingT gs x) = some (comp (List.range n) (thingT gs x))
    rw [comp_range (thing_okN h (hp x (by simp))).2]
  · rw [if_neg e]
    rfl
theorem range_ok (n : Nat) : OkImg (List.range n) := ⟨List.nodup_range, fun x hx => by rw [List.length_range]; exact List.mem_range.mp hx⟩
theorem lineI_ok {n : Nat} {gs : List (List Nat)} (h : AllOk n gs) {ps : List Pr} (hp : PsOk gs.length ps) : OkImg (lineI n gs ps) ∧ (lineI n gs ps).length = n := by
  revert hp
  refine revInd (P := fun ps => PsOk gs.length ps → OkImg (lineI n gs ps) ∧ (lineI n gs ps).length = n) (fun _ => ⟨range_ok n, List.length_range⟩) (fun l x ih hp => ?_) ps
  obtain ⟨h1, h2⟩ := ih fun y hy => hp y (List.mem_append_left _ hy)
  obtain ⟨h3, h4⟩ := thing_okN h (hp x (by simp))
  rw [lineI_snoc]
  exact ⟨h1.comp h3 (by rw [h2, h4]), by rw [comp_len, h2]⟩
def valsI (n : Nat) (gs : List (List Nat)) (ls : List (List Pr)) : List (List Nat) := ls.foldl (fun gs ps => gs ++ [lineI n gs ps]) gs
theorem valsI_snoc (n : Nat) (gs : List (List Nat)) (ls : List (List Pr)) (ps : List Pr) : valsI n gs (ls ++ [ps]) = valsI n gs ls ++ [lineI n (valsI n gs ls) ps] := by
  unfold valsI
  rw [List.foldl_append]
  rfl
theorem valsI_len (n : Nat) (gs : List (List Nat)) (ls : List (List Pr)) : (valsI n gs ls).length = gs.length + ls.length := by
  refine revInd (P := fun ls => (valsI n gs ls).length = gs.length + ls.length) rfl (fun l x ih => ?_) ls
  rw [valsI_snoc, List.length_append, ih, List.length_append]
  simp
  omega
theorem lsok_take {src : Int} {ls : List (List Pr)} (h : LsOk src ls) (i : Nat) : LsOk src (ls.take i) := fun k ps e => by
  have hk := (List.getElem?_eq_some_iff.mp e).1
  rw [List.length_take] at hk
  rw [List.getElem?_take, if_pos (by omega)] at e
  exact h k ps e
theorem valsI_ok {n : Nat} {gs : List (List Nat)} (h : AllOk n gs) {ls : List (List Pr)} (lok : LsOk (gs.length : Nat) ls) : AllOk n (valsI n gs ls) ∧ valsT gs ls = valsI n gs ls := by
  revert lok
  refine revInd (P := fun ls => LsOk (gs.length : Nat) ls → AllOk n (valsI n gs ls) ∧ valsT gs ls = valsI n gs ls) (fun _ => ⟨h, rfl⟩) (fun l x ih lok => ?_) ls
  obtain ⟨h1, h2⟩ := ih (by have := lsok_take lok l.length; rwa [List.take_left] at this)
  have lo := lok l.length x (by simp)
  have hp : PsOk (valsI n gs l).length x := fun y hy => by
    have := lo.2.2 y hy
    rw [valsI_len]
    have a := this.2.1
    have b := this.2.2
    omega
  have ne : x ≠ [] := fun z => by
    have := lo.1
    rw [z] at this
    simp at this
  rw [valsI_snoc, valsT_snoc, h2, lineT_eq h1 hp, if_neg ne]
  refine ⟨fun g hg => ?_, rfl⟩
  rcases List.mem_append.mp hg with hg | hg
  · exact h1 g hg
  · rw [List.mem_singleton] at hg
    subst hg
    exact lineI_ok h1 hp
def spTVal (K : PySem.W.Frag) : Sp := fun vs H Q _ => ∃ (a b : Addr) (zs us : List V) (gs : List (List Nat)) (ls : List (List Pr)) (n : Nat) (N M : Addr → Prop), vs = [.ref a, .ref b, .int (n : Nat)] ∧ H a = some (.lst zs) ∧ Par (ImAt N H) zs gs ∧ H b = some (.lst us) ∧ Par (LnAt K M H) us ls ∧ LsOk (gs.length : Nat) ls ∧ AllOk n gs ∧ n ≤ 60 ∧ gs.length ≤ 10 ∧ ls.length ≤ 10 ∧
  ∀ r H', Same H H' → H' r = some (.lst (vi (if ls = [] then List.range n else ((valsT gs ls)[gs.length + ls.length - 1]?).getD []))) → Q (.ref r) H'
section
variable {P : Program} {w : World} {K : PySem.W.Frag} {mg : Str → Option Value} {base : Heap} {f : Addr} {fd : FuncData}
theorem sc__law_table_value : FnScope ["_law_images", "_law_lines_here", "_law_size", "_law_values", "_law_pairs", "_law_made", "_law_number", "_law_sign", "_law_image_here", "_law_point"] ["_law_images", "_law_lines_here", "_law_size"] (defScope s__law_table_value) := ⟨rfl, rfl, rfl, by decide +kernel, rfl, by decide +kernel, by decide +kernel⟩
theorem ok_tval (F : FX K "_law_table_value" "_law_table_value" s__law_table_value [] [] f fd) (T : Txt K mg) (c__law_back : Cal P w K mg base "_law_back" 2 (spBack K)) : FnOk P w K mg base (L2.CX P w) 4 f fd ["_law_images", "_law_lines_here", "_law_size"] (spTVal K) := by
  refine F.ok sc__law_table_value (fun vs H Q E h => ?_) (fun cdv A outer s H vs Q E hr h => ?_)
  · obtain ⟨a, b, zs, us, gs, ls, n, N, M, rfl, _⟩ := h
    rfl
  · obtain ⟨a, b, zs, us, gs, ls, n, N, M, rfl, ha, pa, hb, pb, lok, okg, n60, g10, l10, k⟩ := h
    refine ⟨_, PSs.nox ((pss_cons (ps_set (i := 3) sc__law_table_value.nd rfl (Or.inl rfl) (pe_callTy (k_list (K := K) rfl) (by rfl) T.b_list (by decide +kernel) (pa_cons (pv 0) pa_nil))) 
      (pss_cons (ps_for PassesOwn.never rfl (k_iL (K := K) rfl (pv 1)) (pg_name (i := 4) sc__law_table_value.nd rfl (Or.inl rfl)) (pss_cons (ps_set (i := 5) sc__law_table_value.nd rfl (Or.inl rfl) (pe_listRg rfl rfl T.b_list (prg_1 rfl T.b_range (pv 2)))) 
      (pss_cons (ps_for PassesOwn.never rfl (k_iL (K := K) rfl (pv 4)) (k_gtup (K := K) (n := 2) rfl (by rfl) (pgs_cons (pg_name (i := 6) sc__law_table_value.nd rfl (Or.inl rfl)) (pgs_cons (pg_name (i := 7) sc__law_table_value.nd rfl (Or.inl rfl)) pgs_nil))) (pss_cons (ps_set (i := 8) sc__law_table_value.nd rfl (Or.inr rfl) (pe_ifExp (pt_cmpR (k_eq (K := K) rfl hr.units) (pv 7) pe_int (nomark _)) (pe_ix (k_ix (K := K) rfl) (pv 3) (pv 6) (fun _ _ => rfl)) (pe_f c__law_back hr (by decide) rfl passL (pa_cons (pe_ix (k_ix (K := K) rfl) (pv 3) (pv 6) (fun _ _ => rfl)) pa_nil)))) (pss_one (ps_setLc (i := 5) (own := [("_law_point", 9)]) rfl sc__law_table_value.nd rfl rfl (sw_true rfl rfl rfl (by decide +kernel)) (k_iL (K := K) rfl (pv 5)) (blkOk_by (own := [("_law_point", 9)]) (N := ["_law_images", "_law_lines_here", "_law_size", "_law_values", "_law_pairs", "_law_made", "_law_number", "_law_sign", "_law_image_here", "_law_point"]) (sc := defScope s__law_table_value) (by decide +kernel)) (fun _ _ _ _ _ => by exact (pg_name (i := 9) sc__law_table_value.nd rfl (Or.inl rfl))) (fun _ _ _ _ _ => by exact pts_nil) (fun _ _ _ _ _ => by exact (pe_ix (k_ix (K := K) rfl) (pv 8) (pv 9) (fun _ _ => rfl))))))) (pss_one (ps_expr (k_bm (K := K) rfl PySem.F.plainAttrs_list PySem.F.slot_list_append PySem.F.type_list_append mt_append (pv 3) (pa_cons (pv 5) pa_nil))))))) (pss_one (ps_ret (pe_ifExp (pt_cmpR (k_ne (K := K) rfl hr.units) (pv 1) (pe_lst pa_nil) (nomark _)) (pe_ix (k_ix (K := K) rfl) (pv 3) (pe_un un_neg pe_int) (fun _ _ => rfl)) (pe_listRg rfl rfl T.b_list (prg_1 rfl T.b_range (pv 2))))))))), ?_⟩
    try dsimp only [cxOf]
    walk_at "go"
    refine a_list (.inl (SqL.of ha)) fun L H1 nL s1 hL => ?_
    walk_at "go"
    refine ⟨b, rfl, ⟨_, SqL.of (s1 _ _ hb)⟩, ?_⟩
    refine for_it (walkL0 (K := K) (SqL.of hb)) (fun i σ H' => ∃ (v4 v5 v6 v7 v8 v9 : Option V) (ys : List V), σ = [some (.ref a), some (.ref b), some (.int (n : Nat)), some (.ref L), v4, v5, v6, v7, v8, v9] ∧ Same H H' ∧ H' L = some (.lst ys) ∧ Par (ImAt (fun x => x ≠ L) H') ys (valsI n gs (ls.take i)))
      ⟨none, none, none, none, none, none, zs, rfl, s1, hL, pa.mono fun v x ⟨c, e, n, h1⟩ => ⟨c, e, ne_of_none h1 nL, s1 _ _ h1⟩⟩ (fun i σ H' _ ⟨_, _, _, _, _, _, _, _, s', _⟩ => s') ?_ ?_
    · rintro i y σ H3 H2 hi ⟨v4, v5, v6, v7, v8, v9, ys, rfl, s2, hL2, pv⟩ ⟨rfl, ey⟩
      obtain ⟨ps, eps, c, cs, rfl, _, hc, pc⟩ := (LnsAt.up s2 pb).getD ey
      have lo := lok i ps eps
      have hil : i < ls.length := (List.getElem?_eq_some_iff.mp eps).1
      have hvl : (valsI n gs (ls.take i)).length = gs.length + i := by rw [valsI_len, List.length_take]; omega
      obtain ⟨okv, _⟩ := valsI_ok okg (lsok_take lok i)
      have evs : valsI n gs (ls.take (i + 1)) = valsI n gs (ls.take i) ++ [lineI n (valsI n gs (ls.take i)) ps] := by rw [take_snoc eps, valsI_snoc]
      generalize valsI n gs (ls.take i) = vs at pv hvl okv evs
      have hps : PsOk vs.length ps := fun x hx => by
        have := (lo.2.2 x hx).2
        omega
      show tSeq _ _ _ _ _
      walk_at "go"
      refine a_lrg (n := (n : Int)) (by omega) (by omega) fun D H4 nD s4 hD => ?_
      rw [Int.toNat_natCast] at hD
      walk_at "go"
      refine ⟨c, rfl, ⟨_, SqL.of (s4 _ _ hc)⟩, ?_⟩
      refine for_it (walkL0 (K := K) (SqL.of (s4 _ _ hc))) (fun m σ H' => ∃ (v6 v7 v8 v9 : Option V) (d : Addr), σ = [some (.ref a), some (.ref b), some (.int (n : Nat)), some (.ref L), some (.ref c), some (.ref d), v6, v7, v8, v9] ∧ Same H4 H' ∧ d ≠ L ∧ H' d = some (.lst (vi (lineI n vs (ps.take m)))))
        ⟨v6, v7, v8, v9, D, rfl, Same.refl _, Ne.symm (ne_of_none hL2 nD), hD⟩ (fun m σ H' _ ⟨_, _, _, _, _, _, s', _⟩ => s') ?_ ?_
      · rintro m y σ H6 H5 hm ⟨u6, u7, u8, u9, d, rfl, s5, nd, hd⟩ ⟨rfl, ey2⟩
        obtain ⟨x1, ex, q, rfl, hq⟩ := (PrsAt.up s5 (PrsAt.up s4 pc)).getD ey2
        refine ⟨q, _, rfl, hq, rfl, _, _, rfl, _, _, rfl, rfl, ?_⟩
        have hx1 := hps _ (List.mem_of_getElem? ex)
        obtain ⟨j, ej⟩ : ∃ j : Nat, x1.1 = (j : Int) := ⟨x1.1.toNat, by omega⟩
        have hj : j < vs.length := by omega
        have hL5 : H5 L = some (.lst ys) := by walk_at "lf"
        have pv5 : Par (ImAt (fun x => x ≠ L) H5) ys vs := by walk_at "lf"
        obtain ⟨v, ev, e1, rfl, _, he⟩ := pv5.get hj
        have gk := okv _ (List.getElem_mem hj)
        have eg : vs.getD x1.1.toNat [] = vs[j] := by
          rw [ej, Int.toNat_natCast, List.getD_eq_getElem?_getD, List.getElem?_eq_getElem hj]
          rfl
        walk_at "go"
        refine a_ifM (fun v H' => ∃ o2, v = V.ref o2 ∧ Same H5 H' ∧ H' o2 = some (.lst (vi (thingT vs x1)))) (fun c R kk => ?h1) (fun c R kk => ?h2) ?fin
        case h1 =>
          walk_at "go"
          refine a_ixL (SqL.of hL5) (atI_of (j := j) ej ev) ?_
          refine kk _ H5 ⟨e1, rfl, Same.refl _, ?_⟩
          unfold thingT
          rw [if_pos (V.int.inj c), eg]
          exact he
        case h2 =>
          walk_at "go"
          refine a_ixL (SqL.of hL5) (atI_of (j := j) ej ev) ?_
          walk_at "go"
          refine ⟨e1, vs[j], rfl, he, gk.1, by rw [gk.2]; exact n60, fun r H7 nr s7 h7 => ?_⟩
          refine kk _ H7 ⟨r, rfl, s7, ?_⟩
          unfold thingT
          rw [if_neg (fun z => c (by rw [z])), eg]
          exact h7
        rintro _ H7 ⟨o2, rfl, s7, ho⟩
        obtain ⟨th1, th2⟩ := thing_okN okv hx1
        obtain ⟨ln1, ln2⟩ := lineI_ok okv (ps := ps.take m) fun x hx => hps x (List.mem_of_mem_take hx)
        have hd7 : H7 d = some (.lst (vi (lineI n vs (ps.take m)))) := by walk_at "lf"
        walk_at "go"
        have esn : lineI n vs (ps.take (m + 1)) = comp (lineI n vs (ps.take m)) (thingT vs x1) := by rw [take_snoc ex, lineI_snoc]
        generalize lineI n vs (ps.take m) = lm at hd7 ln1 ln2 esn
        generalize thingT vs x1 = th at ho th1 th2 esn
        refine c_l (xs := vi lm) (fun i => V.int ((th.getD (lm.getD i 0) 0 : Nat) : Int)) (by rw [vi_len]; omega) ?_ ?_ ?_
        · intro R r
          walk_at "go"
          exact r _ _ (Same.refl _) (SqL.of hd7)
        · intro i2 z H' hz s' R r
          obtain ⟨hi2, rfl⟩ := vi_get hz
          have hb2 : lm[i2] < th.length := by
            have := ln1.lt _ (List.getElem_mem hi2)
            omega
          walk_at "go"
          refine a_ixL (SqL.of (s' _ _ ho)) (atI_of rfl (vi_at hb2)) ?_
          have e1 : th.getD (lm.getD i2 0) 0 = th[lm[i2]] := by rw [getD_lt hi2, getD_lt hb2]
          have r1 := r H' (Same.refl _)
          rw [e1] at r1
          exact r1
        intro D2 H8 nD2 s8 hD2
        have e2 : (List.range (vi lm).length).map (fun i => V.int ((th.getD (lm.getD i 0) 0 : Nat) : Int)) = vi (comp lm th) := by
          rw [vi_len]
          refine List.ext_getElem (by rw [List.length_map, List.length_range, vi_len, comp_len]) fun i p1 p2 => ?_
          rw [List.length_map, List.length_range] at p1
          simp [vi, comp, p1]
        rw [e2, ← esn] at hD2
        have hL8 : H7 L = some (.lst ys) := by walk_at "lf"
        exact ⟨_, _, _, _, D2, rfl, (s5.trans s7).trans s8, Ne.symm (ne_of_none hL8 nD2), hD2⟩
      · rintro σ H5 ⟨u6, u7, u8, u9, d, rfl, s5, nd, hd⟩
        have e0 : cs.length = ps.length := pc.1
        rw [e0, List.take_length] at hd
        have hL5 : H5 L = some (.lst ys) := by walk_at "lf"
        have pv5 : Par (ImAt (fun x => x ≠ L) H5) ys vs := by walk_at "lf"
        walk_at "go"
        refine a_ty hL5 ?_
        walk_at "go"
        refine a_app hL5 (szl (by rw [pv5.1]; omega)) fun H6 b6 h6 => ?_
        refine ⟨_, _, _, _, _, _, ys ++ [.ref d], rfl, fun x o e => b6 x o (ne_of_none e nL) (s5 _ _ (s4 _ _ (s2 _ _ e))), h6, ?_⟩
        rw [evs]
        exact (ImsAt.upB b6 (fun _ h => h) pv5).snoc ⟨d, rfl, nd, b6 _ _ nd hd⟩
    · rintro σ H2 ⟨v4, v5, v6, v7, v8, v9, ys, rfl, s2, hL2, pv⟩
      rw [pb.1, List.take_length] at pv
      obtain ⟨_, evt⟩ := valsI_ok okg lok
      walk_at "go"
      refine a_newL (by show 0 ≤ 100000; decide) fun e H3 ne s3 he => ?_
      refine a_neLn (s3 _ _ (s2 _ _ hb)) (LnsAt.up s3 (LnsAt.up s2 pb)) he ?_
      walk_at "go"
      have hvl := valsI_len n gs ls
      by_cases z : ls = []
      · rw [decide_eq_true z]
        refine a_F rfl ?_
        walk_at "go"
        refine a_lrg (n := (n : Int)) (by omega) (by omega) fun r H4 nr s4 hr4 => ?_
        rw [Int.toNat_natCast] at hr4
        refine k r H4 ((s2.trans s3).trans s4) ?_
        rw [if_pos z]
        exact hr4
      · rw [decide_eq_false z]
        have hlp : 0 < ls.length := List.length_pos_iff.mpr z
        have hlt : gs.length + ls.length - 1 < (valsI n gs ls).length := by omega
        obtain ⟨v, ev, c, rfl, _, hc⟩ := pv.get hlt
        refine a_T rfl ?_
        walk_at "go"
        have hlast : ys.getLast? = some (.ref c) := by rw [List.getLast?_eq_getElem?, pv.1, hvl]; exact ev
        refine a_ixL (SqL.of (s3 _ _ hL2)) (atI_lst hlast) ?_
        refine k c H3 (s2.trans s3) ?_
        rw [if_neg z, evt, List.getElem?_eq_getElem hlt]
        exact s3 _ _ hc
end

def TpAt (K : PySem.W.Frag) (H : Hp) (v : V) (ps : List Pr) : Prop := ∃ q ys, v = .ref q ∧ SqT K H q ys ∧ Par (PairAt K H) ys ps
theorem TpAt.same {K : PySem.W.Frag} {H H1 : Hp} {v : V} {ps : List Pr} (s : Same H H1) (h : TpAt K H v ps) : TpAt K H1 v ps := let ⟨q, ys, e, h1, h2⟩ := h; ⟨q, ys, e, same_t s h1, PrsAt.up s h2⟩
theorem TpAt.but {K : PySem.W.Frag} {H H1 : Hp} {v : V} {ps : List Pr} {D : Addr} (b : But D H H1) (i : IsLst H D) (h : TpAt K H v ps) : TpAt K H1 v ps := let ⟨q, ys, e, h1, h2⟩ := h; ⟨q, ys, e, SqT.upB b i h1, PrsAt.upB b i h2⟩
def spWrong (K : PySem.W.Frag) : Sp := fun vs H Q _ => ∃ (p x : Addr) (src : Int) (ls : List (List Pr)) (gs : List (List Wp)) (ys : List V), vs = [.ref p, .ref x] ∧ SchAt K H p src ls ∧ LsOk src ls ∧ ls.length ≤ 20000 ∧ gs.length ≤ 20000 ∧ Seq K H x ys ∧ Par (WdAt K H) ys gs ∧ src ≠ (gs.length : Nat) ∧
  ∀ r H', H r = none → Same H H' → Dq K H' 3 (.ref r) (.tuple [.str "wrong", .int src, .int (gs.length : Nat), .bool true]) → Q (.ref r) H'
def spKept (K : PySem.W.Frag) : Sp := fun vs H Q _ => ∃ (p b : Addr) (src : Int) (ls : List (List Pr)) (us : List V) (M : Addr → Prop), vs = [.ref p, .int src, .ref b] ∧ SchAt K H p src ls ∧ H b = some (.lst us) ∧ Par (LnAt K M H) us ls ∧ ls.length ≤ 1000 ∧ ∀ H', Same H H' → Q (.bl true) H'
theorem wl_w (v w : V) : ([(("length" : Str), v), ("wanted", w)] : List (Str × V)).lookup ("wanted" : Str) = some w := by simp [List.lookup]; rfl
theorem wl_l (v w : V) : ([(("length" : Str), v), ("wanted", w)] : List (Str × V)).lookup ("length" : Str) = some v := by simp [List.lookup]
section
variable {P : Program} {w : World} {K : PySem.W.Frag} {mg : Str → Option Value} {base : Heap} {f : Addr} {fd : FuncData}
theorem sc__law_wrong : FnScope ["_law_scheme", "_law_words", "_law_caught", "e"] ["_law_scheme", "_law_words"] (defScope s__law_wrong) := ⟨rfl, rfl, rfl, by decide +kernel, rfl, by decide +kernel, by decide +kernel⟩
theorem ok_wrong (F : FX K "_law_wrong" "_law_wrong" s__law_wrong [] [] f fd) (T : Txt K mg) (c_Scheme_word : Met P w K mg base (He.ga K "Scheme") "word" 10 (spSWordX K)) (c_Word_len : Met P w K mg base (He.ga K "Word") "__len__" 1 (spWLen K)) : FnOk P w K mg base (L2.CX P w) 12 f fd ["_law_scheme", "_law_words"] (spWrong K) := by
  refine F.ok sc__law_wrong (fun vs H Q E h => ?_) (fun cdv A outer s H vs Q E hr h => ?_)
  · obtain ⟨p, x, src, ls, gs, ys, rfl, _⟩ := h
    rfl
  · obtain ⟨p, x, src, ls, gs, ys, rfl, hs, lok, hl, hg, hx, hys, ne, k⟩ := h
    refine ⟨_, PSs.nox ((pss_cons (ps_tr (K := K) rfl rfl rfl sc__law_wrong.nd takes0 (fun W pn xe tk po => (pss_one (ps_set (i := 2) sc__law_wrong.nd rfl (Or.inl rfl) (pe_tup (pa_cons pe_str (pa_cons (pe_callB (call_lenO c_Word_len hr (by decide) passL) (by rfl) T.b_len PySem.boot_len (pa_cons (pe_mS c_Scheme_word hr (by decide) (passS tk) (pv 0) (pa_cons (pv 1) pa_nil)) pa_nil)) pa_nil)))))) (HdsN.cons (i := 3) rfl rfl ⟨rfl, by decide, Or.inl T.g_WrongLength⟩ (fun a oe cls d pn hz hf => (pss_one (ps_set (i := 2) sc__law_wrong.nd rfl (Or.inl rfl) (pe_tup (pa_cons pe_str (pa_cons (k_xf (K := K) rfl T.x_WrongLength.xf T.nx_WrongLength_wanted hz hf (pv 3)) (pa_cons (k_xf (K := K) rfl T.x_WrongLength.xf T.nx_WrongLength_length hz hf (pv 3)) (pa_cons (pe_callB (k_isX (K := K) rfl hz hf) (by rfl) T.b_isinstance (by decide +kernel) (pa_cons (pv 3) (pa_cons (pe_gv (v := .ref (He.ga K "TriedError")) rfl ⟨_, T.g_TriedError, rfl⟩) pa_nil))) pa_nil)))))))) HdsN.nil)) (pss_one (ps_ret (pv 2))))), ?_⟩
    try dsimp only [cxOf]
    obtain ⟨dx, t, zs, h1, _⟩ := id hs
    walk_at "go"
    refine ⟨p, dx, _, rfl, h1, rfl, ?_⟩
    walk_at "go"
    refine ⟨p, x, src, ls, gs, ys, rfl, hs, lok, hl, hg, hx, hys, fun _ d H' s' hd => ?_, fun z => absurd z ne⟩
    refine a_catch T.xm_WrongLength_WrongLength fun a0 ha0 => ?_
    walk_at "go"
    refine g_xfv rfl hd (wl_w _ _) ?_
    walk_at "go"
    refine g_xfv rfl hd (wl_l _ _) ?_
    walk_at "go"
    refine a_isX1 T.x_WrongLength hd T.ki_WrongLength_TriedError ?_
    walk_at "go"
    refine a_newT (by show 4 ≤ 100000; decide) fun r H2 nr s2 h2 => ?_
    walk_at "go"
    exact k r H2 (s'.free nr) (s'.trans s2) (.tup (SqT.of h2) (.cons (.str _ (by decide +kernel)) (.cons (.int _) (.cons (.int _) (.cons (.bl _) .nil)))))
theorem sc__law_kept : FnScope ["_law_scheme", "_law_sources", "_law_lines_here", "_law_pairs"] ["_law_scheme", "_law_sources", "_law_lines_here"] (defScope s__law_kept) := ⟨rfl, rfl, rfl, by decide +kernel, rfl, by decide +kernel, by decide +kernel⟩
theorem ok_kept (F : FX K "_law_kept" "_law_kept" s__law_kept [] [] f fd) (T : Txt K mg) : FnOk P w K mg base (L2.CX P w) 2 f fd ["_law_scheme", "_law_sources", "_law_lines_here"] (spKept K) := by
  refine F.ok sc__law_kept (fun vs H Q E h => ?_) (fun cdv A outer s H vs Q E hr h => ?_)
  · obtain ⟨p, b, src, ls, us, M, rfl, _⟩ := h
    rfl
  · obtain ⟨p, b, src, ls, us, M, rfl, hs, hb, pb, hl, k⟩ := h
    refine ⟨_, PSs.nox ((pss_one (ps_ret (pe_and (pe_cmpR (k_eq (K := K) rfl hr.units) (k_fld (K := K) rfl (pv 0)) (pv 1) (nomark _)) (pe_one (pe_cmpR (k_eq (K := K) rfl hr.units) (k_fld (K := K) rfl (pv 0)) (pe_callTy (k_tuple (K := K) rfl) (by rfl) T.b_tuple (by decide +kernel) (pa_cons (by exact (pe_lc (own := [("_law_pairs", 3)]) rfl sc__law_kept.nd (k_iL (K := K) rfl (pv 2)) (blkOk_by (own := [("_law_pairs", 3)]) (N := ["_law_scheme", "_law_sources", "_law_lines_here", "_law_pairs"]) (sc := defScope s__law_kept) (by decide +kernel)) (fun _ _ _ _ _ => by exact (pg_name (i := 3) sc__law_kept.nd rfl (Or.inl rfl))) (fun _ _ _ _ _ => by exact pts_nil) (fun _ _ _ _ _ => by exact (pe_callTy (k_tuple (K := K) rfl) (by rfl) T.b_tuple (by decide +kernel) (pa_cons (pv 3) pa_nil))))) pa_nil)) (nomark _))))))), ?_⟩
    try dsimp only [cxOf]
    obtain ⟨dx, t, zs, h1, h2, h3⟩ := id hs
    walk_at "go"
    refine a_fld h1 T.o_Scheme.cl T.n_Scheme_sources (sch_l2 _ _) ?_
    walk_at "go"
    refine a_yes rfl ?_
    walk_at "go"
    refine a_fld h1 T.o_Scheme.cl T.n_Scheme_lines (sch_l1 _ _) ?_
    walk_at "go"
    refine g_lc ?_
    walk_at "go"
    refine ⟨b, rfl, ⟨_, SqL.of hb⟩, ?_⟩
    refine lc_fl (walkL0 (SqL.of hb)) (TpAt K) (fun i => ls.take i) (fun s z => z.same s) (fun b i z => z.but b i) rfl (fun i _ => by rw [List.length_take]; omega) (by rw [pb.1]; omega) (fun H' s => s) ?_ ?_
    · rintro D i x1 H3 H4 nD hi s3 _ ⟨rfl, ex⟩
      refine ⟨Same.refl _, fun k1 k0 kk _ => ?_⟩
      obtain ⟨ps, eps, c, cs, rfl, _, hc, pc⟩ := (LnsAt.up s3 pb).getD ex
      refine ⟨rfl, ?_⟩
      walk_at "go"
      refine a_tupL (SqL.of hc) fun q H5 n5 s5 h5 => ?_
      exact kk _ ps H5 (take_snoc eps) s5 ⟨q, cs, rfl, SqT.of h5, PrsAt.up s5 pc⟩
    intro D acc H3 nD s3 hD pD
    rw [pb.1, List.take_length] at pD
    walk_at "go"
    refine a_tupL (SqL.of hD) fun q H4 n4 s4 h4 => ?_
    have s34 := s3.trans s4
    have d1 : Dq K H4 4 (.ref t) (.tuple (lsD ls)) := .tup (same_t s34 h2) (TLines.dq (h3.same s34))
    have d2 : Dq K H4 4 (.ref q) (.tuple (lsD ls)) := .tup (SqT.of h4) (dqa (fun ps => .tuple (psD ps)) pD.1 fun k v x a b => by
      obtain ⟨q', ys', rfl, g1, g2⟩ := (pD.2 k v x a b).same s4
      exact .tup g1 (PairsIn.dq g2))
    exact a_eqQ d1 d2 (k H4 s34)
end

def spLines (K : PySem.W.Frag) : Sp := fun vs H Q _ => ∃ (p sc : Addr) (src n : Nat), vs = [.ref p, .int (src : Nat)] ∧ Pen H p sc (n + 400) ∧ src ≤ 4 ∧
  ∀ r zs ls H', H r = none → But p H H' → Pen H' p sc n → H' r = some (.lst zs) → Par (LnAt K (fun a => a ≠ p ∧ a ≠ r) H') zs ls → LsOk (src : Nat) ls → ls.length ≤ 8 → Q (.ref r) H'
section
variable {P : Program} {w : World} {K : PySem.W.Frag} {mg : Str → Option Value} {base : Heap} {f : Addr} {fd : FuncData}
theorem a_nePs {H : Hp} {Q : VK} {b e : Addr} {us : List V} {ps : List Pr} (hb : H b = some (.lst us)) (pb : Par (PairAt K H) us ps) (he : H e = some (.lst [])) (q : Q (.bl (!decide (ps = []))) H) : rNeU K (.ref b) (.ref e) H Q := by
  refine a_neW (n := 4) (.lst (SqL.of hb) (PairsIn.dq pb)) (.lst (SqL.of he) .nil) ?_
  rw [show PyData.eqv (.list (psD ps)) (.list []) = decide (ps = []) by rw [PyData.eqv, eqvL_nil, Bool.eq_iff_iff]; simp [psD]]
  exact q
theorem sc__law_lines : FnScope ["_law_pen", "_law_sources", "_law_found", "_law_turn", "_law_line", "_law_pairs", "_law_many", "_law_k", "_law_number"] ["_law_pen", "_law_sources"] (defScope s__law_lines) := ⟨rfl, rfl, rfl, by decide +kernel, rfl, by decide +kernel, by decide +kernel⟩
theorem ok_lines (F : FX K "_law_lines" "_law_lines" s__law_lines [] [] f fd) (T : Txt K mg) (c__law_draw : Cal P w K mg base "_law_draw" 2 spDraw) : FnOk P w K mg base (L2.CX P w) 4 f fd ["_law_pen", "_law_sources"] (spLines K) := by
  refine F.ok sc__law_lines (fun vs H Q E h => ?_) (fun cdv A outer s H vs Q E hr h => ?_)
  · obtain ⟨p, sc, src, n, rfl, _⟩ := h
    rfl
  · obtain ⟨p, sc, src, n, rfl, hp, hsrc, k⟩ := h
    refine ⟨_, PSs.nox ((pss_cons (ps_set (i := 2) sc__law_lines.nd rfl (Or.inl rfl) (pe_lst pa_nil)) 
      (pss_cons (ps_for PassesOwn.never rfl (pi_range1 (by rfl) T.b_range (pa_cons (pe_f c__law_draw hr (by decide) rfl passL (pa_cons (pv 0) (pa_cons pe_int pa_nil))) pa_nil)) (pg_name (i := 3) sc__law_lines.nd rfl (Or.inl rfl)) (pss_cons (ps_set (i := 4) sc__law_lines.nd rfl (Or.inl rfl) (pe_callB (k_len (K := K) rfl) (by rfl) T.b_len PySem.boot_len (pa_cons (pv 2) pa_nil))) 
      (pss_cons (ps_set (i := 5) sc__law_lines.nd rfl (Or.inl rfl) (pe_lst pa_nil)) 
      (pss_cons (ps_set (i := 6) sc__law_lines.nd rfl (Or.inl rfl) (pe_ifExp (pt_cmpR op_gt (pe_f c__law_draw hr (by decide) rfl passL (pa_cons (pv 0) (pa_cons pe_int pa_nil))) pe_int (nomark _)) (pe_op (k_add (K := K) rfl) pe_int (pe_f c__law_draw hr (by decide) rfl passL (pa_cons (pv 0) (pa_cons pe_int pa_nil)))) pe_int)) 
      (pss_cons (ps_for PassesOwn.never rfl (pi_range1 (by rfl) T.b_range (pa_cons (pe_ifExp (pt_cmpR op_gt (pe_op (k_add (K := K) rfl) (pv 1) (pv 4)) pe_int (nomark _)) (pv 6) pe_int) pa_nil)) (pg_name (i := 7) sc__law_lines.nd rfl (Or.inl rfl)) (pss_cons (ps_set (i := 8) sc__law_lines.nd rfl (Or.inl rfl) (pe_op op_sub (pe_op op_sub (pe_op (k_add (K := K) rfl) (pv 1) (pv 4)) pe_int) (pe_f c__law_draw hr (by decide) rfl passL (pa_cons (pv 0) (pa_cons (pe_callB (call_min2U rfl) (by rfl) T.b_min (by decide +kernel) (pa_cons pe_int (pa_cons (pe_op (k_add (K := K) rfl) (pv 1) (pv 4)) pa_nil))) pa_nil))))) 
      (pss_cons (ps_if (pt_cmpR (k_eq (K := K) rfl hr.units) (pe_f c__law_draw hr (by decide) rfl passL (pa_cons (pv 0) (pa_cons pe_int pa_nil))) pe_int (nomark _)) (pss_one (ps_set (i := 8) sc__law_lines.nd rfl (Or.inl rfl) (pe_f c__law_draw hr (by decide) rfl passL (pa_cons (pv 0) (pa_cons (pe_op (k_add (K := K) rfl) (pv 1) (pv 4)) pa_nil))))) pss_nil) (pss_one (ps_expr (k_bm (K := K) rfl PySem.F.plainAttrs_list PySem.F.slot_list_append PySem.F.type_list_append mt_append (pv 5) (pa_cons (pe_tup (pa_cons (pv 8) (pa_cons (pe_op op_sub pe_int (pe_op (k_mul (K := K) rfl) pe_int (pe_f c__law_draw hr (by decide) rfl passL (pa_cons (pv 0) (pa_cons pe_int pa_nil))))) pa_nil))) pa_nil))))))) (pss_one (ps_if (pt_cmpR (k_ne (K := K) rfl hr.units) (pv 5) (pe_lst pa_nil) (nomark _)) (pss_one (ps_expr (k_bm (K := K) rfl PySem.F.plainAttrs_list PySem.F.slot_list_append PySem.F.type_list_append mt_append (pv 2) (pa_cons (pv 5) pa_nil)))) pss_nil))))))) (pss_one (ps_ret (pv 2)))))), ?_⟩
    try dsimp only [cxOf]
    walk_at "go"
    refine a_newL (by show 0 ≤ 100000; decide) fun D H1 nD s1 h1 => ?_
    have nDp := (hp.ne nD).1
    have nDsc := (hp.ne nD).2
    walk_at "go"
    refine a_draw (n := n + 399) (hp.same s1) (by omega) (by omega) (by omega) fun c H2 hc b2 hp2 => ?_
    walk_at "go"
    refine ⟨(c : Int), rfl, by omega, by omega, ?_⟩
    refine for_range (fun i σ H' => ∃ (v3 v4 v5 v6 v7 v8 : Option V) (zs : List V) (ls : List (List Pr)), σ = [some (.ref p), some (.int (src : Nat)), some (.ref D), v3, v4, v5, v6, v7, v8] ∧ But p H H' ∧ Pen H' p sc (n + 399 - 40 * i) ∧ H' D = some (.lst zs) ∧ Par (LnAt K (fun a => a ≠ p ∧ a ≠ D) H') zs ls ∧ LsOk (src : Nat) ls ∧ ls.length ≤ i)
      ⟨none, none, none, none, none, none, [], [], rfl, fun a o na e => b2 a o na (s1 _ _ e), hp2, b2 _ _ (Ne.symm nDp) h1, .nil, (fun k ps e => by simp at e), Nat.le_refl _⟩ ?_ ?_
    · rintro i σ H3 hi ⟨v3, v4, v5, v6, v7, v8, zs, ls, rfl, b3, hp3, h3, pl, lok, ll⟩
      have hi8 : i < 9 := by omega
      walk_at "go"
      rw [pl.1]
      refine a_newL (by show 0 ≤ 100000; decide) fun Lp H4 nL s4 h4 => ?_
      have nLp := (hp3.ne nL).1
      have nLsc := (hp3.ne nL).2
      have nLD : D ≠ Lp := ne_of_none h3 nL
      have hp4 := hp3.same s4
      have i4 := Pen.lst hp4
      have h34 : H4 D = some (.lst zs) := by walk_at "lf"
      have pl4 : Par (LnAt K (fun a => a ≠ p ∧ a ≠ D ∧ a ≠ Lp) H4) zs ls := pl.mono fun v x ⟨a, ys, e, n, e1, e2⟩ => ⟨a, ys, e, ⟨n.1, n.2, ne_of_none e1 nL⟩, s4 _ _ e1, PrsAt.up s4 e2⟩
      have b4 : But p H H4 := fun a o na e => s4 _ _ (b3 a o na e)
      have fLp : H Lp = none := hp3.free b3 nL
      clear b3 hp3 h3 pl s4
      walk_at "go"
      refine a_draw (n := n + 398 - 40 * i) hp4 (by omega) (by omega) (by omega) fun c1 H5 hc1 b5 hp5 => ?_
      have i5 := Pen.lst hp5
      have h5 : H5 D = some (.lst zs) := by walk_at "lf"
      have g5 : H5 Lp = some (.lst []) := by walk_at "lf"
      have pl5 : Par (LnAt K (fun a => a ≠ p ∧ a ≠ D ∧ a ≠ Lp) H5) zs ls := by walk_at "lf"
      have b05 : But p H H5 := b4.trans b5
      walk_at "go"
      refine a_ifM (fun v H' => ∃ m : Nat, v = V.int (m : Nat) ∧ m ≤ 8 ∧ But p H5 H' ∧ Pen H' p sc (n + 397 - 40 * i)) (fun c R kk => ?h1) (fun c R kk => ?h2) ?fin
      case h1 =>
        walk_at "go"
        refine a_draw (n := n + 397 - 40 * i) hp5 (by omega) (by omega) (by omega) fun c2 H6 hc2 b6 hp6 => ?_
        walk_at "go"
        exact kk _ _ ⟨1 + c2, by simp, by omega, b6, hp6⟩
      case h2 =>
        walk_at "go"
        exact kk _ _ ⟨8, rfl, by omega, But.of (Same.refl _), hp5.le (by omega)⟩
      rintro _ H6 ⟨many, rfl, hm8, b6, hp6⟩
      have i6 := Pen.lst hp6
      have h6 : H6 D = some (.lst zs) := by walk_at "lf"
      have g6 : H6 Lp = some (.lst []) := by walk_at "lf"
      have pl6 : Par (LnAt K (fun a => a ≠ p ∧ a ≠ D ∧ a ≠ Lp) H6) zs ls := by walk_at "lf"
      have b06 : But p H H6 := b05.trans b6
      clear b6 b5 b4 hp5 hp4 i5 i4 h5 g5 pl5 h34 pl4 b05 h4
      walk_at "go"
      refine a_ifM (fun v H' => ∃ m : Nat, v = V.int (m : Nat) ∧ m ≤ 8 ∧ (0 < m → 0 < src + ls.length) ∧ H6 = H') (fun c R kk => ?h3) (fun c R kk => ?h4) ?fin2
      case h3 =>
        walk_at "go"
        exact kk _ _ ⟨many, rfl, hm8, fun _ => by omega, rfl⟩
      case h4 =>
        walk_at "go"
        exact kk _ _ ⟨0, rfl, by omega, fun z => absurd z (Nat.lt_irrefl _), rfl⟩
      rintro _ _ ⟨m, rfl, hm, hms, rfl⟩
      walk_at "go"
      refine ⟨(m : Int), rfl, by omega, by omega, ?_⟩
      refine for_range (fun t σ H' => ∃ (v7 v8 : Option V) (ys : List V) (ps : List Pr), σ = [some (.ref p), some (.int (src : Nat)), some (.ref D), some (.int (0 + (i : Int))), some (.int (ls.length : Nat)), some (.ref Lp), some (.int (many : Nat)), v7, v8] ∧ But p H H' ∧ Pen H' p sc (n + 397 - 40 * i - 4 * t) ∧ H' D = some (.lst zs) ∧ Par (LnAt K (fun a => a ≠ p ∧ a ≠ D ∧ a ≠ Lp) H') zs ls ∧ H' Lp = some (.lst ys) ∧ Par (PairAt K H') ys ps ∧ ps.length = t ∧ ∀ x ∈ ps, prOk (src : Nat) ls.length x)
        ⟨_, _, [], [], rfl, b06, hp6.le (by omega), h6, pl6, g6, .nil, rfl, (fun x hx => by cases hx)⟩ ?_ ?_
      · clear h6 g6 pl6 b06 hp6 i6
        rintro t σ H7 ht ⟨w7, w8, ys, ps, rfl, b7, hp7, h7, pl7, g7, pp7, lps, okp⟩
        have ht8 : t < 8 := by omega
        have pos : 0 < src + ls.length := hms (by omega)
        have i7 := Pen.lst hp7
        walk_at "go"
        refine a_draw (n := n + 396 - 40 * i - 4 * t) hp7 (by omega) (by omega) (by omega) fun c3 H8 hc3 b8 hp8 => ?_
        have i8 := Pen.lst hp8
        have h8 : H8 D = some (.lst zs) := by walk_at "lf"
        have g8 : H8 Lp = some (.lst ys) := by walk_at "lf"
        have pp8 : Par (PairAt K H8) ys ps := by walk_at "lf"
        have pl8 : Par (LnAt K (fun a => a ≠ p ∧ a ≠ D ∧ a ≠ Lp) H8) zs ls := by walk_at "lf"
        have b08 : But p H H8 := b7.trans b8
        obtain ⟨num, enum, hnum⟩ : ∃ num : Nat, (src : Int) + (ls.length : Int) - 1 - (c3 : Int) = num ∧ num < src + ls.length := ⟨src + ls.length - 1 - c3, by omega, by omega⟩
        walk_at "if"
        try rw [enum]
        refine g_seqIf (fun σ' H' => ∃ num : Nat, σ' = [some (.ref p), some (.int (src : Nat)), some (.ref D), some (.int (0 + (i : Int))), some (.int (ls.length : Nat)), some (.ref Lp), some (.int (many : Nat)), some (.int (0 + (t : Int))), some (.int (num : Nat))] ∧ num < src + ls.length ∧ But p H8 H' ∧ Pen H' p sc (n + 394 - 40 * i - 4 * t)) (fun fin => ?_) ?_
        · walk_at "go"
          refine a_draw (n := n + 395 - 40 * i - 4 * t) hp8 (by omega) (by omega) (by omega) fun c4 H9 hc4 b9 hp9 => ?_
          walk_at "go"
          refine a_ite (fun c => ?_) (fun c => ?_)
          · walk_at "go"
            refine a_draw (n := n + 394 - 40 * i - 4 * t) hp9 (by omega) (by omega) (by omega) fun c5 Ha hc5 ba hpa => ?_
            exact fin _ _ ⟨c5, rfl, by omega, b9.trans ba, hpa⟩
          · exact fin _ _ ⟨num, rfl, hnum, b9, hp9.le (by omega)⟩
        · rintro σ9 H9 ⟨nm, rfl, hnm, b9, hp9⟩
          have i9 := Pen.lst hp9
          have h9 : H9 D = some (.lst zs) := by walk_at "lf"
          have g9 : H9 Lp = some (.lst ys) := by walk_at "lf"
          have pp9 : Par (PairAt K H9) ys ps := by walk_at "lf"
          have pl9 : Par (LnAt K (fun a => a ≠ p ∧ a ≠ D ∧ a ≠ Lp) H9) zs ls := by walk_at "lf"
          have b09 : But p H H9 := b08.trans b9
          clear b9 b8 b08 h8 g8 pp8 pl8 hp8 i8 h7 g7 pp7 pl7 b7 hp7 i7
          walk_at "go"
          refine a_ty g9 ?_
          walk_at "go"
          refine a_draw (n := n + 393 - 40 * i - 4 * t) hp9 (by omega) (by omega) (by omega) fun c6 Ha hc6 ba hpa => ?_
          have ia := Pen.lst hpa
          have ha : Ha D = some (.lst zs) := by walk_at "lf"
          have ga : Ha Lp = some (.lst ys) := by walk_at "lf"
          have ppa : Par (PairAt K Ha) ys ps := by walk_at "lf"
          have pla : Par (LnAt K (fun a => a ≠ p ∧ a ≠ D ∧ a ≠ Lp) Ha) zs ls := by walk_at "lf"
          have b0a : But p H Ha := b09.trans ba
          walk_at "go"
          refine a_newT (by show 2 ≤ 100000; decide) fun t1 Hb nb sb hb => ?_
          walk_at "go"
          have gb : Hb Lp = some (.lst ys) := by walk_at "lf"
          refine a_app gb (szl (by rw [ppa.1]; omega)) fun Hc bc hc' => ?_
          have ib : IsLst Hb Lp := ⟨_, gb⟩
          have hb' : Hb D = some (.lst zs) := by walk_at "lf"
          have plb : Par (LnAt K (fun a => a ≠ p ∧ a ≠ D ∧ a ≠ Lp) Hb) zs ls := by walk_at "lf"
          refine ⟨_, _, ys ++ [.ref t1], ps ++ [((nm : Int), 1 - 2 * (c6 : Int))], rfl, fun a o na e => bc a o (ne_of_none e fLp) (sb _ _ (b0a a o na e)), ((hpa.same sb).but bc nLp nLsc).le (by omega), bc _ _ nLD hb', plb.mono fun v x z => z.upB bc ib fun a h => h.2.2, hc', ?_, by rw [List.length_append, lps]; rfl, ?_⟩
          · exact (PrsAt.upB bc ib (PrsAt.up sb ppa)).snoc (PairAt.upB bc ib ⟨t1, rfl, SqT.of hb⟩)
          · intro x hx
            rcases List.mem_append.mp hx with hx | hx
            · exact okp x hx
            · rw [List.mem_singleton] at hx
              subst hx
              exact ⟨by dsimp only; omega, by dsimp only; omega, by dsimp only; omega⟩
      · rintro σ H7 ⟨w7, w8, ys, ps, rfl, b7, hp7, h7, pl7, g7, pp7, lps, okp⟩
        walk_at "go"
        refine a_newL (by show 0 ≤ 100000; decide) fun e H8 ne s8 he => ?_
        refine a_nePs (s8 _ _ g7) (PrsAt.up s8 pp7) he ?_
        have h8 : H8 D = some (.lst zs) := by walk_at "lf"
        have g8 : H8 Lp = some (.lst ys) := by walk_at "lf"
        have pp8 : Par (PairAt K H8) ys ps := by walk_at "lf"
        have pl8 : Par (LnAt K (fun a => a ≠ p ∧ a ≠ D ∧ a ≠ Lp) H8) zs ls := by walk_at "lf"
        have b8 : But p H H8 := fun a o na e => s8 _ _ (b7 a o na e)
        have hp8 := hp7.same s8
        walk_at "go"
        by_cases z : ps = []
        · rw [decide_eq_true z]
          refine a_F rfl ?_
          walk_at "go"
          exact ⟨_, _, _, _, _, _, zs, ls, rfl, b8, hp8.le (by omega), h8, pl8.mono fun v x z => z.wk fun a h => ⟨h.1, h.2.1⟩, lok, by omega⟩
        · rw [decide_eq_false z]
          refine a_T rfl ?_
          walk_at "go"
          refine a_ty h8 ?_
          walk_at "go"
          refine a_app h8 (szl (by rw [pl8.1]; omega)) fun H9 b9 h9 => ?_
          have i8 : IsLst H8 D := ⟨_, h8⟩
          refine ⟨_, _, _, _, _, _, zs ++ [.ref Lp], ls ++ [ps], rfl, fun a o na e => b9 a o (ne_of_none e nD) (b8 a o na e), (hp8.but b9 nDp nDsc).le (by omega), h9, ?_, ?_, ?_⟩
          · refine Par.snoc (pl8.mono fun v x z => (z.upB b9 i8 fun a h => h.2.1).wk fun a h => ⟨h.1, h.2.1⟩) ⟨Lp, ys, rfl, ⟨Ne.symm nLp, Ne.symm nLD⟩, b9 _ _ (Ne.symm nLD) g8, PrsAt.upB b9 i8 pp8⟩
          · intro k qs e
            by_cases hk : k < ls.length
            · rw [List.getElem?_append_left hk] at e
              exact lok k qs e
            · rw [List.getElem?_append_right (by omega)] at e
              have e0 : k = ls.length := by
                have := (List.getElem?_eq_some_iff.mp e).1
                simp at this
                omega
              subst e0
              simp at e
              subst e
              exact ⟨List.length_pos_iff.mpr z, by omega, okp⟩
          · rw [List.length_append]
            simp
            omega
    · rintro σ H3 ⟨v3, v4, v5, v6, v7, v8, zs, ls, rfl, b3, hp3, h3, pl, lok, ll⟩
      walk_at "go"
      exact k D zs ls H3 nD b3 (hp3.le (by omega)) h3 pl lok (by omega)
end

def spLaw (K : PySem.W.Frag) : Sp := fun vs H Q _ => ∃ (a : Addr) (ns : List Int), vs = [.ref a] ∧ SqL K H a (ns.map V.int) ∧ ns.length ≤ 63 ∧ ∀ H', Q (.bl true) H'
theorem SchAt.upB {K : PySem.W.Frag} {H H1 : Hp} {p D : Addr} {src : Int} {ls : List (List Pr)} (b : But D H H1) (i : IsLst H D) (h : SchAt K H p src ls) : SchAt K H1 p src ls := by
  obtain ⟨dx, t, zs, h1, h2, h3⟩ := h
  obtain ⟨ws, e⟩ := id i
  refine ⟨dx, t, zs, b _ _ (ne_of h1 e (by intro z; cases z)) h1, SqT.upB b i h2, h3.1, fun k v x a c => ?_⟩
  obtain ⟨q, ys, e1, g1, g2⟩ := h3.2 k v x a c
  exact ⟨q, ys, e1, SqT.upB b i g1, PrsAt.upB b i g2⟩
theorem a_mkS {K : PySem.W.Frag} {H : Hp} {x : Addr} {src : Int} {ls : List (List Pr)} {ys : List V} {Q : VK} {E : XK} (hx : Seq K H x ys) (hl : LinesIn K H ys ls) (ok : LsOk src ls) (h : ls.length ≤ 20000) (q : ∀ r H', H r = none → Same H H' → SchAt K H' r src ls → Q (.ref r) H') : rMk (He.ga K "Scheme") (spSInitX K) E [.int src, .ref x] H Q := by
  refine a_mk fun r dx H1 hr s1 h1 => ⟨r, x, dx, src, ls, ys, rfl, h1, hx.same s1, hl.same s1, fun z => by omega, fun _ => ⟨fun i d H' fb => ?_, fun _ H' b sa => ⟨rfl, q r H' hr (fun c o e => b c o (ne_of_none e hr) (s1 c o e)) sa⟩⟩⟩
  obtain ⟨⟨ps, e, nb⟩, _⟩ := fb
  exact absurd (ok i ps e) nb
local macro_rules | `(tactic| walk_at "lf") => `(tactic| first
  | (with_reducible apply SchAt.up; with_reducible assumption; walk_at "lf")
  | (with_reducible apply SchAt.upB; with_reducible assumption; walk_at "lf"; walk_at "lf"))
theorem lineL_12 {gs : List (List Wp)} {ls : List (List Pr)} (l3 : LenAll gs 3) (s12 : (ls.map List.length).sum ≤ 12) {i : Nat} {ps : List Pr} (eps : ls[i]? = some ps) (m : Nat) : (lineL (valsL gs (ls.take i)) (ps.take m)).length ≤ 12288 := by
  have h1 : LenAll (valsL gs (ls.take i)) (3 * 2 ^ ((ls.take i).map List.length).sum) := valsL_len2 l3 (ls.take i)
  refine Nat.le_trans (lineL_len h1 (ps.take m)) ?_
  have e1 : (ps.take m).length ≤ 2 ^ ps.length := Nat.le_trans (by rw [List.length_take]; omega) (two_pow_ge _)
  have e2 : ((ls.take i).map List.length).sum + ps.length ≤ 12 := by
    have := sum_take ls (i + 1)
    rw [take_snoc eps, List.map_append, List.sum_append, List.map_cons, List.map_nil, List.sum_cons, List.sum_nil] at this
    omega
  have e3 : 2 ^ ps.length * 2 ^ ((ls.take i).map List.length).sum ≤ 2 ^ 12 := by
    rw [← Nat.pow_add]
    exact Nat.pow_le_pow_right (by decide) (by omega)
  calc (ps.take m).length * (3 * 2 ^ ((ls.take i).map List.length).sum) ≤ 2 ^ ps.length * (3 * 2 ^ ((ls.take i).map List.length).sum) := Nat.mul_le_mul_right _ e1
    _ = 3 * (2 ^ ps.length * 2 ^ ((ls.take i).map List.length).sum) := by rw [Nat.mul_left_comm]
    _ ≤ 3 * 2 ^ 12 := Nat.mul_le_mul_left _ e3
theorem bnd12 {gs : List (List Wp)} {ls : List (List Pr)} (rd : RedAll gs) (l3 : LenAll gs 3) (s12 : (ls.map List.length).sum ≤ 12) (ne : ∀ ps ∈ ls, ps ≠ []) : BndW gs ls := fun i ps m g eps e => by
  rw [vals_eq rd (fun q hq => ne q (List.mem_of_mem_take hq)), lineW_eq (valsL_red rd _)] at e
  split at e
  · cases e
  · cases e
    exact Nat.le_trans (lineL_12 l3 s12 eps m) (by decide)
theorem cut_toG (xs : List V) (k : Nat) : cutV xs none (some (k : Int)) = xs.take k := by
  unfold cutV
  rw [HT.sIx_none, HT.sIx_nat, List.drop_zero, Nat.sub_zero]
  refine List.ext_getElem? fun j => ?_
  rw [List.getElem?_take, List.getElem?_take]
  by_cases h : k ≤ xs.length
  · rw [Nat.min_eq_left h]
  · rw [Nat.min_eq_right (by omega)]
    by_cases h2 : j < xs.length
    · rw [if_pos h2, if_pos (by omega)]
    · rw [if_neg h2, List.getElem?_eq_none (by omega)]
      split <;> rfl
theorem dqv {K : PySem.W.Frag} {H : Hp} {n : Nat} : ∀ a : List Nat, DqA K H (n + 1) (vi a) (di a)
  | [] => .nil
  | x :: a => .cons (.int _) (dqv a)
theorem cutV_take (xs : List V) (k : Nat) : cutV xs none (some (k : Int)) = xs.take k := cut_toG xs k
theorem a_val {K : PySem.W.Frag} {H : Hp} {p x o : Addr} {ls : List (List Pr)} {gs : List (List Nat)} {ys : List V} {n : Nat} {Q : VK} {E : XK} (hs : SchAt K H p (gs.length : Nat) ls) (ok : LsOk (gs.length : Nat) ls) (l1 : ls.length ≤ 20000) (l2 : gs.length ≤ 20000) (hx : Seq K H x ys) (pt : Par (TabV K H) ys gs) (al : AllOk n gs) (hn : n ≤ 3300) (to : TabAt K H o (List.range n))
    (q : ∀ r g H', Same H H' → TabAt K H' r g → g = (if ls = [] then List.range n else ((valsT gs ls)[gs.length + ls.length - 1]?).getD []) → Q (.ref r) H') : spVal K [.ref p, .ref x, .ref o] H Q E :=
  ⟨p, x, o, ls, gs, ys, n, rfl, hs, ok, l1, l2, hx, pt, al, hn, fun e H' s => q o _ H' s (to.same s) (by rw [if_pos e]), fun e r g H' s eg tg _ _ => q r g H' s tg (by rw [if_neg e, eg]; rfl)⟩
section
variable {P : Program} {w : World} {K : PySem.W.Frag} {mg : Str → Option Value} {base : Heap} {f : Addr} {fd : FuncData}
theorem sc_law : FnScope ["_law_script", "_law_pen", "_law_turn", "_law_names_here", "_law_sources", "_law_lines_here", "_law_lots", "_law_k", "_law_size", "_law_images", "_law_handed", "_law_pairs", "_law_scheme", "_law_words", "_law_steps_here", "_law_short", "_law_tables", "_law_image_here", "_law_many", "_law_due", "_law_other"] ["_law_script"] (defScope s_law) := ⟨rfl, rfl, rfl, by decide +kernel, rfl, by decide +kernel, by decide +kernel⟩
theorem ok_law (F : FX K "law" "law" s_law [] [] f fd) (T : Txt K mg) (c__law_start : Cal P w K mg base "_law_start" 2 (spStart K)) (c__law_draw : Cal P w K mg base "_law_draw" 2 spDraw) (c__law_names : Cal P w K mg base "_law_names" 4 spNames) (c__law_steps : Cal P w K mg base "_law_steps" 4 spSteps) (c__law_reduced : Cal P w K mg base "_law_reduced" 2 (spCanc K)) (c__law_image : Cal P w K mg base "_law_image" 4 spImage)
    (c__law_lines : Cal P w K mg base "_law_lines" 4 (spLines K)) (c__law_word_value : Cal P w K mg base "_law_word_value" 4 (spWVal K)) (c__law_table_value : Cal P w K mg base "_law_table_value" 4 (spTVal K)) (c__law_wrong : Cal P w K mg base "_law_wrong" 12 (spWrong K)) (c__law_kept : Cal P w K mg base "_law_kept" 2 (spKept K))
    (c_Word_init : Mak P w K mg base "Word" (He.ga K "Word") 4 (spWInit K)) (c_Word_init0 : Mak P w K mg base "Word" (He.ga K "Word") 4 (spWInit0 K)) (c_Word_len : Met P w K mg base (He.ga K "Word") "__len__" 1 (spWLen K)) (c_Word_iter : Met P w K mg base (He.ga K "Word") "__iter__" 1 (spWIter K)) (c_Table_init : Mak P w K mg base "Table" (He.ga K "Table") 3 (spTInit K)) (c_Table_neutral : Sta P w K mg base (He.ga K "Table") "neutral" 6 (spTNeu K))
    (c_Scheme_init : Mak P w K mg base "Scheme" (He.ga K "Scheme") 3 (spSInitX K)) (c_Scheme_value : Met P w K mg base (He.ga K "Scheme") "value" 8 (spVal K)) (c_Scheme_word : Met P w K mg base (He.ga K "Scheme") "word" 10 (spSWordX K)) : FnOk P w K mg base (L2.CX P w) 14 f fd ["_law_script"] (spLaw K) := by
  refine F.ok sc_law (fun vs H Q E h => ?_) (fun cdv A outer s H vs Q E hr h => ?_)
  · obtain ⟨a, ns, rfl, _⟩ := h
    rfl
  · obtain ⟨scr, ns, rfl, hs, hlen, k⟩ := h
    refine ⟨_, PSs.nox ((pss_cons (ps_set (i := 1) sc_law.nd rfl (Or.inr rfl) (pe_f c__law_start hr (by decide) rfl passL (pa_cons (pv 0) pa_nil))) 
      (pss_cons (ps_for PassesOwn.never rfl (pi_range1 (by rfl) T.b_range (pa_cons pe_int pa_nil)) (pg_name (i := 2) sc_law.nd rfl (Or.inl rfl)) (pss_cons (ps_set (i := 3) sc_law.nd rfl (Or.inr rfl) (pe_f c__law_names hr (by decide) rfl passL (pa_cons (pv 1) (pa_cons (pe_op (k_add (K := K) rfl) pe_int (pe_f c__law_draw hr (by decide) rfl passL (pa_cons (pv 1) (pa_cons pe_int pa_nil)))) pa_nil)))) 
      (pss_cons (ps_set (i := 4) sc_law.nd rfl (Or.inl rfl) (pe_f c__law_draw hr (by decide) rfl passL (pa_cons (pv 1) (pa_cons pe_int pa_nil)))) 
      (pss_cons (ps_set (i := 5) sc_law.nd rfl (Or.inl rfl) (pe_f c__law_lines hr (by decide) rfl passL (pa_cons (pv 1) (pa_cons (pv 4) pa_nil)))) 
      (pss_cons (ps_setLc (i := 6) (own := [("_law_k", 7)]) rfl sc_law.nd rfl rfl (sw_true rfl rfl rfl (by decide +kernel)) (pi_range1 (by rfl) T.b_range (pa_cons (pv 4) pa_nil)) (blkOk_by (own := [("_law_k", 7)]) (N := ["_law_script", "_law_pen", "_law_turn", "_law_names_here", "_law_sources", "_law_lines_here", "_law_lots", "_law_k", "_law_size", "_law_images", "_law_handed", "_law_pairs", "_law_scheme", "_law_words", "_law_steps_here", "_law_short", "_law_tables", "_law_image_here", "_law_many", "_law_due", "_law_other"]) (sc := defScope s_law) (by decide +kernel)) (fun _ _ _ _ _ => by exact (pg_name (i := 7) sc_law.nd rfl (Or.inl rfl))) (fun _ _ _ _ _ => by exact pts_nil) (fun _ _ _ _ _ => by exact (pe_f c__law_reduced hr (by decide) rfl passL (pa_cons (pe_f c__law_steps hr (by decide) rfl passL (pa_cons (pv 1) (pa_cons (pv 3) (pa_cons pe_int pa_nil)))) pa_nil)))) 
      (pss_cons (ps_set (i := 8) sc_law.nd rfl (Or.inr rfl) (pe_f c__law_draw hr (by decide) rfl passL (pa_cons (pv 1) (pa_cons pe_int pa_nil)))) 
      (pss_cons (ps_setLc (i := 9) (own := [("_law_k", 7)]) rfl sc_law.nd rfl rfl (sw_true rfl rfl rfl (by decide +kernel)) (pi_range1 (by rfl) T.b_range (pa_cons (pv 4) pa_nil)) (blkOk_by (own := [("_law_k", 7)]) (N := ["_law_script", "_law_pen", "_law_turn", "_law_names_here", "_law_sources", "_law_lines_here", "_law_lots", "_law_k", "_law_size", "_law_images", "_law_handed", "_law_pairs", "_law_scheme", "_law_words", "_law_steps_here", "_law_short", "_law_tables", "_law_image_here", "_law_many", "_law_due", "_law_other"]) (sc := defScope s_law) (by decide +kernel)) (fun _ _ _ _ _ => by exact (pg_name (i := 7) sc_law.nd rfl (Or.inl rfl))) (fun _ _ _ _ _ => by exact pts_nil) (fun _ _ _ _ _ => by exact (pe_f c__law_image hr (by decide) rfl passL (pa_cons (pv 1) (pa_cons (pv 8) pa_nil))))) 
      (pss_cons (ps_setLc (i := 10) (own := [("_law_pairs", 11)]) rfl sc_law.nd rfl rfl (sw_true rfl rfl rfl (by decide +kernel)) (k_iL (K := K) rfl (pv 5)) (blkOk_by (own := [("_law_pairs", 11)]) (N := ["_law_script", "_law_pen", "_law_turn", "_law_names_here", "_law_sources", "_law_lines_here", "_law_lots", "_law_k", "_law_size", "_law_images", "_law_handed", "_law_pairs", "_law_scheme", "_law_words", "_law_steps_here", "_law_short", "_law_tables", "_law_image_here", "_law_many", "_law_due", "_law_other"]) (sc := defScope s_law) (by decide +kernel)) (fun _ _ _ _ _ => by exact (pg_name (i := 11) sc_law.nd rfl (Or.inl rfl))) (fun _ _ _ _ _ => by exact pts_nil) (fun _ _ _ _ _ => by exact (pe_callTy (k_list (K := K) rfl) (by rfl) T.b_list (by decide +kernel) (pa_cons (pv 11) pa_nil)))) 
      (pss_cons (ps_set (i := 12) sc_law.nd rfl (Or.inl rfl) (pe_k c_Scheme_init hr (by decide) rfl passL (pa_cons (pv 4) (pa_cons (pv 10) pa_nil)))) 
      (pss_cons (ps_for PassesOwn.never rfl (k_iL (K := K) rfl (pv 10)) (pg_name (i := 11) sc_law.nd rfl (Or.inl rfl)) (pss_one (ps_expr (k_bm (K := K) rfl PySem.F.plainAttrs_list PySem.F.slot_list_append PySem.F.type_list_append mt_append (pv 11) (pa_cons (pe_tup (pa_cons pe_int (pa_cons pe_int pa_nil))) pa_nil))))) 
      (pss_cons (ps_expr (k_bm (K := K) rfl PySem.F.plainAttrs_list PySem.F.slot_list_append PySem.F.type_list_append mt_append (pv 10) (pa_cons (pe_lst (pa_cons (pe_tup (pa_cons pe_int (pa_cons pe_int pa_nil))) pa_nil)) pa_nil))) 
      (pss_cons (ps_if (pt_not (k_tr (K := K) rfl (pe_f c__law_kept hr (by decide) rfl passL (pa_cons (pv 12) (pa_cons (pv 4) (pa_cons (pv 5) pa_nil)))))) (pss_one (ps_ret pe_bl)) pss_nil) 
      (pss_cons (ps_setLc (i := 13) (own := [("_law_steps_here", 14)]) rfl sc_law.nd rfl rfl (sw_true rfl rfl rfl (by decide +kernel)) (k_iL (K := K) rfl (pv 6)) (blkOk_by (own := [("_law_steps_here", 14)]) (N := ["_law_script", "_law_pen", "_law_turn", "_law_names_here", "_law_sources", "_law_lines_here", "_law_lots", "_law_k", "_law_size", "_law_images", "_law_handed", "_law_pairs", "_law_scheme", "_law_words", "_law_steps_here", "_law_short", "_law_tables", "_law_image_here", "_law_many", "_law_due", "_law_other"]) (sc := defScope s_law) (by decide +kernel)) (fun _ _ _ _ _ => by exact (pg_name (i := 14) sc_law.nd rfl (Or.inl rfl))) (fun _ _ _ _ _ => by exact pts_nil) (fun _ _ _ _ _ => by exact (pe_k c_Word_init hr (by decide) rfl passL (pa_cons (pv 14) pa_nil)))) 
      (pss_cons (ps_set (i := 15) sc_law.nd rfl (Or.inl rfl) (pe_cmpR op_le (pe_callB (k_sum (K := K) rfl rfl) (by rfl) T.b_sum (by decide +kernel) (pa_cons (by exact (pe_lc (own := [("_law_pairs", 11)]) rfl sc_law.nd (k_iL (K := K) rfl (pv 5)) (blkOk_by (own := [("_law_pairs", 11)]) (N := ["_law_script", "_law_pen", "_law_turn", "_law_names_here", "_law_sources", "_law_lines_here", "_law_lots", "_law_k", "_law_size", "_law_images", "_law_handed", "_law_pairs", "_law_scheme", "_law_words", "_law_steps_here", "_law_short", "_law_tables", "_law_image_here", "_law_many", "_law_due", "_law_other"]) (sc := defScope s_law) (by decide +kernel)) (fun _ _ _ _ _ => by exact (pg_name (i := 11) sc_law.nd rfl (Or.inl rfl))) (fun _ _ _ _ _ => by exact pts_nil) (fun _ _ _ _ _ => by exact (pe_callB (k_len (K := K) rfl) (by rfl) T.b_len PySem.boot_len (pa_cons (pv 11) pa_nil))))) pa_nil)) pe_int (nomark _))) 
      (pss_cons (ps_if (PW.pt (pw_and (k_tr (K := K) rfl (pv 15)) (pw_and1 (pt_cmpR (k_ne (K := K) rfl hr.units) (pe_callTy (call_listW (K := K) rfl rfl c_Word_iter c_Word_len hr (by decide) (by decide)) (by rfl) T.b_list (by decide +kernel) (pa_cons (pe_m c_Scheme_word hr (by decide) passL (pv 12) (pa_cons (pv 13) pa_nil)) pa_nil)) (pe_f c__law_word_value hr (by decide) rfl passL (pa_cons (pv 6) (pa_cons (pv 5) pa_nil))) (nomark _))))) (pss_one (ps_ret pe_bl)) pss_nil) 
      (pss_cons (ps_setLc (i := 16) (own := [("_law_image_here", 17)]) rfl sc_law.nd rfl rfl (sw_true rfl rfl rfl (by decide +kernel)) (k_iL (K := K) rfl (pv 9)) (blkOk_by (own := [("_law_image_here", 17)]) (N := ["_law_script", "_law_pen", "_law_turn", "_law_names_here", "_law_sources", "_law_lines_here", "_law_lots", "_law_k", "_law_size", "_law_images", "_law_handed", "_law_pairs", "_law_scheme", "_law_words", "_law_steps_here", "_law_short", "_law_tables", "_law_image_here", "_law_many", "_law_due", "_law_other"]) (sc := defScope s_law) (by decide +kernel)) (fun _ _ _ _ _ => by exact (pg_name (i := 17) sc_law.nd rfl (Or.inl rfl))) (fun _ _ _ _ _ => by exact pts_nil) (fun _ _ _ _ _ => by exact (pe_k c_Table_init hr (by decide) rfl passL (pa_cons (pv 17) pa_nil)))) 
      (pss_cons (ps_if (pt_cmpR (k_ne (K := K) rfl hr.units) (k_fld (K := K) rfl (pe_m c_Scheme_value hr (by decide) passL (pv 12) (pa_cons (pv 16) (pa_cons (pe_s c_Table_neutral hr (by decide) passL (pe_gv (v := .ref (He.ga K "Table")) rfl ⟨_, T.g_Table, rfl⟩) (pa_cons (pv 8) pa_nil)) pa_nil)))) (pe_callTy (k_tuple (K := K) rfl) (by rfl) T.b_tuple (by decide +kernel) (pa_cons (pe_f c__law_table_value hr (by decide) rfl passL (pa_cons (pv 9) (pa_cons (pv 5) (pa_cons (pv 8) pa_nil)))) pa_nil)) (nomark _)) (pss_one (ps_ret pe_bl)) pss_nil) 
      (pss_cons (ps_for PassesOwn.never rfl (k_iL (K := K) rfl (pe_lst (pa_cons (pe_op (k_add (K := K) rfl) (pv 4) pe_int) (pa_cons (pe_op (k_add (K := K) rfl) (pv 4) pe_int) (pa_cons (pe_callB (call_max2U rfl) (by rfl) T.b_max (by decide +kernel) (pa_cons pe_int (pa_cons (pe_op op_sub (pv 4) pe_int) pa_nil))) pa_nil))))) (pg_name (i := 18) sc_law.nd rfl (Or.inl rfl)) (pss_cons (ps_set (i := 19) sc_law.nd rfl (Or.inl rfl) (pe_tup (pa_cons pe_str (pa_cons (pv 4) (pa_cons (pv 18) (pa_cons pe_bl pa_nil)))))) 
      (pss_cons (ps_set (i := 20) sc_law.nd rfl (Or.inl rfl) (pe_slice (k_sl (K := K) rfl) (pe_op (k_add (K := K) rfl) (pv 13) (pe_lst (pa_cons (pe_k0 c_Word_init0 hr (by decide) rfl passL) (pa_cons (pe_k0 c_Word_init0 hr (by decide) rfl passL) pa_nil)))) po_none (po_some (pv 18)))) (pss_one (ps_if (PW.pt (pw_and (pt_cmpR (k_ne (K := K) rfl hr.units) (pv 18) (pv 4) (nomark _)) (pw_and1 (pt_cmpR (k_ne (K := K) rfl hr.units) (pe_f c__law_wrong hr (by decide) rfl passL (pa_cons (pv 12) (pa_cons (pv 20) pa_nil))) (pv 19) (nomark _))))) (pss_one (ps_ret pe_bl)) pss_nil))))) (pss_one (ps_if (PW.pt (pw_or (pt_not (k_tr (K := K) rfl (pe_f c__law_kept hr (by decide) rfl passL (pa_cons (pv 12) (pa_cons (pv 4) (pa_cons (pv 5) pa_nil)))))) (pw_or1 (pt_cmpR (k_ne (K := K) rfl hr.units) (pe_callB (k_len (K := K) rfl) (by rfl) T.b_len PySem.boot_len (pa_cons (pv 13) pa_nil)) (pv 4) (nomark _))))) (pss_one (ps_ret pe_bl)) pss_nil)))))))))))))))))))) (pss_one (ps_ret (pe_and (pe_cmpR (k_eq (K := K) rfl hr.units) (pe_callB (call_lenO c_Word_len hr (by decide) passL) (by rfl) T.b_len PySem.boot_len (pa_cons (pe_m c_Scheme_word hr (by decide) passL (pe_k c_Scheme_init hr (by decide) rfl passL (pa_cons pe_int (pa_cons (pe_lst pa_nil) pa_nil))) (pa_cons (pe_lst (pa_cons (pe_k0 c_Word_init0 hr (by decide) rfl passL) (pa_cons (pe_k0 c_Word_init0 hr (by decide) rfl passL) pa_nil))) pa_nil)) pa_nil)) pe_int (nomark _)) (pe_one (pe_cmpR (k_eq (K := K) rfl hr.units) (k_fld (K := K) rfl (pe_k c_Scheme_init hr (by decide) rfl passL (pa_cons pe_int (pa_cons (pe_tup pa_nil) pa_nil)))) (pe_tup pa_nil) (nomark _))))))))), ?_⟩
    try dsimp only [cxOf]
    walk_at "go"
    refine ⟨scr, ns, rfl, hs, fun p sc H1 np nsc s1 hp => ?_⟩
    walk_at "go"
    refine ⟨3, rfl, by decide, by decide, ?_⟩
    refine for_range (n := 3) (fun i σ H' => ∃ v2 v3 v4 v5 v6 v7 v8 v9 v10 v11 v12 v13 v14 v15 v16 v17 v18 v19 v20 : Option V, σ = [some (.ref scr), some (.ref p), v2, v3, v4, v5, v6, v7, v8, v9, v10, v11, v12, v13, v14, v15, v16, v17, v18, v19, v20] ∧ Pen H' p sc (20000 - 5000 * i))
      ⟨none, none, none, none, none, none, none, none, none, none, none, none, none, none, none, none, none, none, none, rfl, hp.le (by omega)⟩ ?_ ?_
    · rintro i σ H2 hi ⟨v2, v3, v4, v5, v6, v7, v8, v9, v10, v11, v12, v13, v14, v15, v16, v17, v18, v19, v20, rfl, hp2⟩
      walk_at "go"
      refine a_draw (n := 19900 - 5000 * i) hp2 (by omega) (by omega) (by omega) fun c H3 hc b3 hp3 => ?_
      walk_at "go"
      refine ⟨p, sc, 1 + c, 19800 - 5000 * i, by simp, hp3.le (by omega), by omega, fun ln nms H4 n4 b4 hp4 h4 hnl _ hnf => ?_⟩
      have nln := (hp3.ne n4).1
      have nne : nms ≠ [] := fun z => by rw [z] at hnl; simp at hnl; omega
      have i4 := Pen.lst hp4
      walk_at "go"
      refine a_draw (n := 19700 - 5000 * i) hp4 (by omega) (by omega) (by omega) fun src H5 hsrc b5 hp5 => ?_
      have h5 : H5 ln = some (.lst (nms.map V.str)) := by walk_at "lf"
      have i5 := Pen.lst hp5
      walk_at "go"
      refine ⟨p, sc, src, 19000 - 5000 * i, rfl, hp5.le (by omega), by omega, fun lb us ls H6 n6 b6 hp6 h6 pl6 lok ll => ?_⟩
      have nlb := (hp5.ne n6).1
      have g6 : H6 ln = some (.lst (nms.map V.str)) := by walk_at "lf"
      have i6 := Pen.lst hp6
      have pl6 : Par (LnAt K (fun a => a ≠ p) H6) us ls := pl6.mono fun v x z => z.wk fun a h => h.1
      clear b3 hp3 b4 hp4 h4 b5 hp5 h5 i4 i5 b6 hp2
      walk_at "go"
      refine g_lc ?_
      walk_at "go"
      refine ⟨(src : Int), rfl, by omega, by omega, ?_⟩
      refine lc_w walk_range (fun t acc D H' => ∃ lots, H6 D = none ∧ But p H6 H' ∧ Pen H' p sc (19000 - 5000 * i - 200 * t) ∧ Par (LotAt K (fun a => a ≠ p ∧ a ≠ D) H') acc lots ∧ OkLots lots 3 ∧ RedAll lots ∧ lots.length = t) (fun D nD => ⟨[], nD, But.of (same_new nD), hp6.same (same_new nD), .nil, (fun x hx => by cases hx), (fun x hx => by cases hx), rfl⟩) (fun _ _ _ _ _ => True.intro) ?_ ?_
      · rintro D t x acc H7 H8 nD ht ⟨lots, _, b7, hp7, pl, ok, rd, hl⟩ hD ⟨rfl, rfl⟩
        have nDp := (hp6.ne nD).1
        have ht4 : t < 4 := by omega
        refine ⟨rfl, ?_⟩
        walk_at "go"
        have i7 := Pen.lst hp7
        refine ⟨p, sc, ln, nms, 3, 18800 - 5000 * i - 200 * t, rfl, hp7.le (by omega), b7 _ _ (Ne.symm nln) g6, Ne.symm nln, nne, by omega, hnf, by omega, fun ls1 zs1 ws1 H9 n9 b9 hp9 h9 pw okw inw hlw => ?_⟩
        have hD9 : H9 D = some (.lst acc) := b9 _ _ (Ne.symm nDp) hD
        have pl9 : Par (LotAt K (fun a => a ≠ p ∧ a ≠ D) H9) acc lots := LotsAt.upB b9 i7 (fun _ h => h.1) pl
        walk_at "go"
        refine ⟨ls1, ws1, zs1, rfl, .inl (SqL.of h9), pw K, okw.str, by omega, fun r zr Ha nr sa hra pra => ?_⟩
        have nrp := ((hp9.ne nr).1)
        have nrD : r ≠ D := Ne.symm (ne_of_none hD9 nr)
        refine lc_y (sa _ _ hD9) (by rw [pl.1]; omega) fun Hb bb hb => ?_
        have ia : IsLst Ha D := ⟨_, sa _ _ hD9⟩
        refine ⟨lots ++ [canc ws1], nD, fun a o na e => bb a o (ne_of_none e nD) (sa _ _ (b9 a o na (b7 a o na e))), ((hp9.same sa).but bb nDp (hp6.ne nD).2).le (by omega), ?_, ?_, ?_, by rw [List.length_append, hl]; rfl⟩
        · exact (LotsAt.upB bb ia (fun _ h => h.2) (LotsAt.up sa pl9)).snoc ⟨r, zr, rfl, ⟨Ne.symm nrp, nrD⟩, bb _ _ nrD hra, ParS.upB bb ia pra⟩
        · intro x hx
          rcases List.mem_append.mp hx with hx | hx
          · exact ok x hx
          · rw [List.mem_singleton] at hx
            subst hx
            exact ⟨okw.canc, Nat.le_trans (canc_len _) hlw⟩
        · intro x hx
          rcases List.mem_append.mp hx with hx | hx
          · exact rd x hx
          · rw [List.mem_singleton] at hx
            subst hx
            exact canc_red _
      rintro lo zo H7 n7 h7 ⟨lots, _, b7, hp7, po7, ok7, rd7, hl7⟩
      have nlo := (hp6.ne n7).1
      have po7 : Par (LotAt K (fun a => a ≠ p) H7) zo lots := po7.mono fun v x z => z.wk fun a h => h.1
      have lb7 : H7 lb = some (.lst us) := by walk_at "lf"
      have pl7 : Par (LnAt K (fun a => a ≠ p) H7) us ls := by walk_at "lf"
      have hp7 : Pen H7 p sc (18000 - 5000 * i) := hp7.le (by omega)
      have i7 := Pen.lst hp7
      have hl7' : lots.length = src := by omega
      clear b7 hp6 i6 h6 g6 pl6
      walk_at "go"
      refine a_draw (n := 17900 - 5000 * i) hp7 (by omega) (by omega) (by omega) fun size H8 hsize b8 hp8 => ?_
      have i8 := Pen.lst hp8
      have lb8 : H8 lb = some (.lst us) := by walk_at "lf"
      have pl8 : Par (LnAt K (fun a => a ≠ p) H8) us ls := by walk_at "lf"
      have lo8 : H8 lo = some (.lst zo) := by walk_at "lf"
      have po8 : Par (LotAt K (fun a => a ≠ p) H8) zo lots := by walk_at "lf"
      clear b8 hp7 i7 h7 lb7 pl7 po7
      walk_at "go"
      refine g_lc ?_
      walk_at "go"
      refine ⟨(src : Int), rfl, by omega, by omega, ?_⟩
      refine lc_w walk_range (fun t acc D H' => ∃ ims, H8 D = none ∧ But p H8 H' ∧ Pen H' p sc (17900 - 5000 * i - 100 * t) ∧ Par (ImAt (fun a => a ≠ p ∧ a ≠ D) H') acc ims ∧ AllOk size ims ∧ ims.length = t) (fun D nD => ⟨[], nD, But.of (same_new nD), hp8.same (same_new nD), .nil, (fun x hx => by cases hx), rfl⟩) (fun _ _ _ _ _ => True.intro) ?_ ?_
      · rintro D t x acc H9 Ha nD ht ⟨ims, _, b9, hp9, pl, ok, hl⟩ hD ⟨rfl, rfl⟩
        have nDp := (hp8.ne nD).1
        have ht4 : t < 4 := by omega
        refine ⟨rfl, ?_⟩
        walk_at "go"
        refine ⟨p, sc, size, 17800 - 5000 * i - 100 * t, rfl, hp9.le (by omega), by omega, fun r im Hb nr bb hpb hrb okim lim => ?_⟩
        have hDb : Hb D = some (.lst acc) := bb _ _ (Ne.symm nDp) hD
        have nrp := (hp9.ne nr).1
        have nrD : r ≠ D := Ne.symm (ne_of_none hD nr)
        refine lc_y hDb (by rw [pl.1]; omega) fun Hc bc hc => ?_
        refine ⟨ims ++ [im], nD, fun a o na e => bc a o (ne_of_none e nD) (bb a o na (b9 a o na e)), (hpb.but bc nDp (hp8.ne nD).2).le (by omega), ?_, ?_, by rw [List.length_append, hl]; rfl⟩
        · exact (ImsAt.upB bc (fun _ h => h.2) (ImsAt.upB bb (fun _ h => h.1) pl)).snoc ⟨r, rfl, ⟨Ne.symm nrp, nrD⟩, bc _ _ nrD hrb⟩
        · intro x hx
          rcases List.mem_append.mp hx with hx | hx
          · exact ok x hx
          · rw [List.mem_singleton] at hx
            subst hx
            exact ⟨okim, lim⟩
      rintro li zi H9 n9 h9 ⟨ims, _, b9, hp9, pi9, oki, hli⟩
      have hp9 : Pen H9 p sc (17000 - 5000 * i) := hp9.le (by omega)
      have i9 := Pen.lst hp9
      have lb9 : H9 lb = some (.lst us) := by walk_at "lf"
      have pl9 : Par (LnAt K (fun a => a ≠ p) H9) us ls := by walk_at "lf"
      have nlo' := Ne.symm nlo
      have lo9 : H9 lo = some (.lst zo) := by walk_at "lf"
      have po9 : Par (LotAt K (fun a => a ≠ p) H9) zo lots := by walk_at "lf"
      have pi9 : Par (ImAt (fun a => a ≠ p) H9) zi ims := pi9.mono fun v x ⟨c, e, n, z⟩ => ⟨c, e, n.1, z⟩
      have hli' : ims.length = src := by omega
      clear b9 hp8 i8 lb8 pl8 lo8 po8
      walk_at "go"
      refine g_lc ?_
      walk_at "go"
      refine ⟨lb, rfl, ⟨_, SqL.of lb9⟩, ?_⟩
      refine lc_w (walkL0 (K := K) (SqL.of lb9)) (fun t acc D H' => Same H9 H' ∧ H9 D = none ∧ Par (LnAt K (fun a => H9 a = none ∧ a ≠ D) H') acc (ls.take t)) (fun D nD => ⟨same_new nD, nD, .nil⟩) (fun _ _ _ _ z => z.1) ?_ ?_
      · rintro D t x acc Ha Hb nD ht ⟨sa, _, pa⟩ hD ⟨rfl, ex⟩
        obtain ⟨ps, eps, c, cs, rfl, _, hc, pc⟩ := (LnsAt.up sa pl9).getD ex
        refine ⟨rfl, ?_⟩
        walk_at "go"
        refine a_list (.inl (SqL.of hc)) fun r Hc nr sc1 hr' => ?_
        have nrD : r ≠ D := Ne.symm (ne_of_none hD nr)
        refine lc_y (sc1 _ _ hD) (by rw [pa.1, List.length_take]; omega) fun Hd bd hd => ?_
        have ic : IsLst Hc D := ⟨_, sc1 _ _ hD⟩
        refine ⟨fun a o e => bd a o (ne_of_none e nD) (sc1 _ _ (sa _ _ e)), nD, ?_⟩
        rw [take_snoc eps]
        exact (LnsAt.upB bd ic (fun _ h => h.2) (LnsAt.up sc1 pa)).snoc ⟨r, cs, rfl, ⟨sa.free nr, nrD⟩, bd _ _ nrD hr', PrsAt.upB bd ic (PrsAt.up sc1 pc)⟩
      rintro lh zh Ha nlh hlh ⟨sa, _, ph⟩
      rw [pl9.1, List.take_length] at ph
      walk_at "go"
      refine a_mkS (.inl (SqL.of hlh)) ⟨ph.1, fun k v x a b => let ⟨c, cs, e, n, h1, h2⟩ := ph.2 k v x a b; ⟨c, cs, e, .inl (SqL.of h1), h2⟩⟩ lok (by omega) fun sp Hb nb sb hsp => ?_
      walk_at "go"
      refine ⟨lh, rfl, ⟨_, SqL.of (sb _ _ hlh)⟩, ?_⟩
      have hlz : zh.length = ls.length := ph.1
      refine for_it (walk_list (K := K) (a := lh) (xs := zh)) (fun t σ H' => ∃ v11, σ = [some (.ref scr), some (.ref p), some (.int (0 + (i : Int))), some (.ref ln), some (.int (src : Nat)), some (.ref lb), some (.ref lo), v7, some (.int (size : Nat)), some (.ref li), some (.ref lh), v11, some (.ref sp), v13, v14, v15, v16, v17, v18, v19, v20] ∧ Same H9 H' ∧ SchAt K H' sp (src : Nat) ls ∧ H' lh = some (.lst zh) ∧ ∀ (j : Nat) v, zh[j]? = some v → ∃ c xs, v = .ref c ∧ H9 c = none ∧ c ≠ lh ∧ H' c = some (.lst xs) ∧ xs.length ≤ 20 + t)
        ⟨_, rfl, sa.trans sb, hsp, sb _ _ hlh, fun j v e => ?_⟩ (fun t σ H' _ ⟨_, _, _, _, h, _⟩ => SqL.of h) ?_ ?_
      · obtain ⟨ps, eps, c, cs, rfl, nc, hc, pc⟩ := ph.getD e
        have := (lok j ps eps).2.1
        exact ⟨c, cs, rfl, nc.1, nc.2, sb _ _ hc, by rw [pc.1]; omega⟩
      · rintro t y σ H3 H2 ht ⟨w11, rfl, s2, hs2, hlh2, hall⟩ ⟨rfl, ey⟩
        obtain ⟨c, xs, rfl, nc, nclh, hc, lx⟩ := hall t y ey
        show tDrop _ _ _ _
        walk_at "go"
        refine a_ty hc ?_
        walk_at "go"
        refine a_newT (by show 2 ≤ 100000; decide) fun t1 H4 n4 s4 h4 => ?_
        walk_at "go"
        have ic : IsLst H4 c := ⟨_, s4 _ _ hc⟩
        refine a_app (s4 _ _ hc) (szl (by omega)) fun H5 b5 h5 => ?_
        refine ⟨_, rfl, fun a o e => b5 a o (ne_of_none e nc) (s4 _ _ (s2 _ _ e)), (hs2.up s4).upB b5 ic, b5 _ _ (Ne.symm nclh) (s4 _ _ hlh2), fun j v e => ?_⟩
        obtain ⟨c2, xs2, rfl, nc2, nc2lh, hc2, lx2⟩ := hall j v e
        by_cases z : c2 = c
        · subst z
          refine ⟨c2, _, rfl, nc2, nc2lh, h5, ?_⟩
          rw [List.length_append]
          simp
          omega
        · exact ⟨c2, xs2, rfl, nc2, nc2lh, b5 _ _ z (s4 _ _ hc2), by omega⟩
      · rintro σ H2 ⟨w11, rfl, s2, hs2, hlh2, _⟩
        clear ph hsp hlh sa sb
        walk_at "go"
        refine a_ty hlh2 ?_
        walk_at "go"
        refine a_newT (by show 2 ≤ 100000; decide) fun t1 H3 n3 s3 h3 => ?_
        walk_at "go"
        refine a_newL (by show 1 ≤ 100000; decide) fun l4 H4 n4 s4 h4 => ?_
        walk_at "go"
        have hlh4 := s4 _ _ (s3 _ _ hlh2)
        refine a_app hlh4 (szl (by omega)) fun H5 b5 h5 => ?_
        have S : Same H9 H5 := fun a o e => b5 a o (ne_of_none e nlh) (s4 _ _ (s3 _ _ (s2 _ _ e)))
        have hs5 : SchAt K H5 sp (src : Nat) ls := ((hs2.up s3).up s4).upB b5 ⟨_, hlh4⟩
        have hp5 := hp9.same S
        have lb5 := S _ _ lb9
        have pl5 := LnsAt.up S pl9
        have lo5 := S _ _ lo9
        have po5 := LotsAt.up S po9
        have li5 := S _ _ h9
        have pi5 := ImsAt.up S pi9
        clear S b5 h5 hlh4 s4 s3 s2 hs2 hlh2 hp9 lb9 pl9 lo9 po9 h9 pi9 i9 h3 h4
        walk_at "go"
        refine ⟨sp, lb, src, ls, us, _, rfl, hs5, lb5, pl5, by omega, fun H6 s6 => ?_⟩
        walk_at "go"
        refine a_F rfl ?_
        walk_at "go"
        refine g_lc ?_
        walk_at "go"
        have lo6 := s6 _ _ lo5
        have po6 := LotsAt.up s6 po5
        refine ⟨lo, rfl, ⟨_, SqL.of lo6⟩, ?_⟩
        refine lc_fl (walkL0 (SqL.of lo6)) (WdAt K) (fun t => lots.take t) (fun s ⟨a, e, z⟩ => ⟨a, e, z.up s⟩) (fun b i ⟨a, e, z⟩ => ⟨a, e, z.upB b i⟩) rfl (fun t _ => by rw [List.length_take]; omega) (by rw [po6.1]; omega) (fun H' s => s) ?_ ?_
        · rintro D t x H7 H8 nD ht s8 _ ⟨rfl, ex⟩
          refine ⟨Same.refl _, fun k1 k0 kk _ => ?_⟩
          obtain ⟨ws, ew, lt, ys, rfl, nlt, hlt, plt⟩ := (LotsAt.up s8 po6).getD ex
          have okw := ok7 ws (List.mem_of_getElem? ew)
          have er := canc_of_red (rd7 ws (List.mem_of_getElem? ew))
          refine ⟨rfl, ?_⟩
          walk_at "go"
          refine a_mkW (.inl (SqL.of hlt)) plt okw.1 (by omega) (by rw [er]; omega) fun r H9' nr s9 w9 => ?_
          rw [er] at w9
          exact kk _ ws H9' (take_snoc ew) s9 ⟨r, rfl, w9⟩
        rintro lw uw H7 n7' s7 h7 pw7
        rw [po6.1, List.take_length] at pw7
        walk_at "go"
        refine c_l (xs := us) (fun j => V.int ((ls.getD j []).length : Nat)) (by rw [pl5.1]; omega) ?_ ?_ ?_
        · intro R r
          walk_at "go"
          exact r _ _ (Same.refl _) (SqL.of (s7 _ _ (s6 _ _ lb5)))
        · intro j z H' hz s' R r
          obtain ⟨ps, eps, c, cs, rfl, _, hc, pc⟩ := (LnsAt.up s' (LnsAt.up s7 (LnsAt.up s6 pl5))).getD hz
          walk_at "go"
          have := r H' (Same.refl _)
          rw [List.getD_eq_getElem?_getD, eps] at this
          rw [pc.1]
          exact this
        intro lsum H8 n8 s8 h8
        have esum : (List.range us.length).map (fun j => V.int ((ls.getD j []).length : Nat)) = (ls.map fun ps => ((ps.length : Nat) : Int)).map V.int := by
          rw [pl5.1]
          refine List.ext_getElem (by simp) fun j p1 p2 => ?_
          have : j < ls.length := by simpa using p1
          simp [this]
        rw [esum] at h8
        walk_at "go"
        refine ⟨lsum, _, rfl, SqL.of h8, ?_⟩
        have esn : (ls.map fun ps => ((ps.length : Nat) : Int)).sum = (((ls.map List.length).sum : Nat) : Int) := by
          have : ∀ xs : List (List Pr), (xs.map fun ps => ((ps.length : Nat) : Int)).sum = (((xs.map List.length).sum : Nat) : Int) := fun xs => by
            induction xs with
            | nil => rfl
            | cons x xs ih => rw [List.map_cons, List.sum_cons, ih, List.map_cons, List.sum_cons]; simp
          exact this ls
        rw [esn]
        have S8 : Same H5 H8 := (s6.trans s7).trans s8
        have hs8 := hs5.up S8
        have hp8 := hp5.same S8
        have lb8 := S8 _ _ lb5
        have pl8 := LnsAt.up S8 pl5
        have lo8 := S8 _ _ lo5
        have po8 := LotsAt.up S8 po5
        have li8 := S8 _ _ li5
        have pi8 := ImsAt.up S8 pi5
        have lw8 := s8 _ _ h7
        have pw8 := WdsAt.up s8 pw7
        clear S8 hs5 hp5 lb5 pl5 lo5 po5 li5 pi5 s6 s7 s8 lo6 po6 h7 pw7 h8
        have lsne : ∀ ps ∈ ls, ps ≠ [] := fun ps hps z => by
          obtain ⟨j, hj, e⟩ := List.getElem_of_mem hps
          have := (lok j ps (by rw [List.getElem?_eq_getElem hj, e])).1
          rw [z] at this
          simp at this
        have lokL : LsOk (lots.length : Nat) ls := by rw [hl7']; exact lok
        have lokI : LsOk (ims.length : Nat) ls := by rw [hli']; exact lok
        have okg : ∀ g ∈ lots, OkSs g := fun g hg => (ok7 g hg).1
        have len3 : LenAll lots 3 := fun g hg => (ok7 g hg).2
        walk_at "if"
        refine g_seqIf (fun σ' H' => σ' = [some (.ref scr), some (.ref p), some (.int (0 + (i : Int))), some (.ref ln), some (.int (src : Nat)), some (.ref lb), some (.ref lo), v7, some (.int (size : Nat)), some (.ref li), some (.ref lh), w11, some (.ref sp), some (.ref lw), v14, some (.bl (decide ((((ls.map List.length).sum : Nat) : Int) ≤ 12))), v16, v17, v18, v19, v20] ∧ Same H8 H') (fun fin => ?_) ?_
        · walk_at "go"
          refine a_ite (fun c => ?_) (fun c => ?_)
          · have s12 : (ls.map List.length).sum ≤ 12 := by omega
            obtain ⟨dx, tt, zz, hI, _⟩ := id hs8
            walk_at "go"
            refine ⟨sp, dx, _, rfl, hI, rfl, ?_⟩
            walk_at "go"
            refine ⟨sp, lw, src, ls, lots, uw, rfl, hs8, lok, by omega, by omega, .inl (SqL.of lw8), pw8, fun z => absurd (by rw [hl7']) z, fun _ => ⟨bnd12 rd7 len3 s12 lsne, fun r Hb sb wb => ?_⟩⟩
            rw [vals_eq rd7 lsne] at wb
            walk_at "go"
            refine a_listWd wb fun l1 z1 Hc nc sc1 hc pc => ?_
            walk_at "go"
            refine ⟨lo, lb, zo, us, lots, ls, _, _, rfl, sc1 _ _ (sb _ _ lo8), LotsAt.up sc1 (LotsAt.up sb po8), sc1 _ _ (sb _ _ lb8), LnsAt.up sc1 (LnsAt.up sb pl8), lokL, okg, len3, by omega, by omega, s12, fun r2 z2 Hd sd hd pd => ?_⟩
            have okr : OkSs (if ls = [] then [] else ((valsL lots ls)[lots.length + ls.length - 1]?).getD []) := by
              split
              · exact fun x hx => by cases hx
              · cases e : (valsL lots ls)[lots.length + ls.length - 1]? with
                | none => exact fun x hx => by cases hx
                | some g => exact valsL_ok okg ls g (List.mem_of_getElem? e)
            refine a_neSt (sd _ _ hc) (ParS.up sd pc) hd pd okr.str ?_
            walk_at "go"
            refine a_F rfl ?_
            exact fin _ _ ⟨rfl, (sb.trans sc1).trans sd⟩
          · refine a_F rfl ?_
            exact fin _ _ ⟨rfl, Same.refl _⟩
        · rintro σ9 Ha ⟨rfl, s9⟩
          replace hs8 := hs8.up s9
          replace hp8 := hp8.same s9
          replace lb8 := s9 _ _ lb8
          replace pl8 := LnsAt.up s9 pl8
          replace li8 := s9 _ _ li8
          replace pi8 := ImsAt.up s9 pi8
          replace lw8 := s9 _ _ lw8
          replace pw8 := WdsAt.up s9 pw8
          clear s9 lo8 po8
          walk_at "go"
          refine g_lc ?_
          walk_at "go"
          refine ⟨li, rfl, ⟨_, SqL.of li8⟩, ?_⟩
          refine lc_fl (walkL0 (SqL.of li8)) (TabV K) (fun t => ims.take t) (fun s z => z.same s) (fun b i z => let ⟨_, e⟩ := i; z.but e b) rfl (fun t _ => by rw [List.length_take]; omega) (by rw [pi8.1]; omega) (fun H' s => s) ?_ ?_
          · rintro D t x Hb Hc nD ht sb _ ⟨rfl, ex⟩
            refine ⟨Same.refl _, fun k1 k0 kk _ => ?_⟩
            obtain ⟨im, ei, c, rfl, nc, hc⟩ := (ImsAt.up sb pi8).getD ex
            have okm := oki im (List.mem_of_getElem? ei)
            refine ⟨rfl, ?_⟩
            walk_at "go"
            refine a_mkT (.inl (SqL.of hc)) okm.1 (by rw [okm.2]; omega) fun r Hd nr sd td => ?_
            exact kk _ im Hd (take_snoc ei) sd ⟨r, rfl, td⟩
          rintro lt zt Hb nb sb hb ptb
          rw [pi8.1, List.take_length] at ptb
          obtain ⟨dx, tt, zz, hI, _⟩ := id hs8
          walk_at "go"
          refine ⟨sp, dx, _, rfl, sb _ _ hI, rfl, ?_⟩
          walk_at "go"
          refine ⟨rfl, ?_⟩
          walk_at "go"
          refine ⟨size, rfl, by omega, fun o Hc no sc1 to => ?_⟩
          have sbc := sb.trans sc1
          have hsc : SchAt K Hc sp (ims.length : Nat) ls := by rw [hli']; exact hs8.up sbc
          walk_at "go"
          have ptc : Par (TabV K Hc) zt ims := ptb.mono fun v x z => z.same sc1
          refine a_val hsc lokI (by omega) (by omega) (.inl (SqL.of (sc1 _ _ hb))) ptc oki (by omega) to fun r g Hd sd tg eg => ?_
          obtain ⟨dxt, tt2, g1, g2⟩ := tg
          walk_at "go"
          refine a_fld g1 T.o_Table.cl T.n_Table_image rfl ?_
          walk_at "go"
          have sbd := sbc.trans sd
          refine ⟨li, lb, zi, us, ims, ls, size, _, _, rfl, sbd _ _ li8, ImsAt.up sbd pi8, sbd _ _ lb8, LnsAt.up sbd pl8, lokI, oki, by omega, by omega, by omega, fun r2 He se h2 => ?_⟩
          walk_at "go"
          refine a_tupL (SqL.of h2) fun q2 Hf nf sf hf => ?_
          have S := sbd.trans (se.trans sf)
          have d1 : Dq K Hf 2 (.ref tt2) (.tuple (di g)) := .tup (same_t (se.trans sf) g2) (dqv _)
          have d2 : Dq K Hf 2 (.ref q2) (.tuple (di g)) := .tup (SqT.of hf) (by rw [eg]; exact dqv _)
          refine a_neQ d1 d2 ?_
          have hs9 := (hs8.up S)
          have hp9 := hp8.same S
          have lb9 := S _ _ lb8
          have pl9 := LnsAt.up S pl8
          have lw9 := S _ _ lw8
          have pw9 := WdsAt.up S pw8
          clear S d1 d2 hs8 hp8 lb8 pl8 li8 pi8 lw8 pw8 sb sc1 sbc sd se sf sbd hsc ptb ptc hb to g1 g2 h2 hf
          walk_at "go"
          refine a_F rfl ?_
          walk_at "go"
          refine a_newL (by show 3 ≤ 100000; decide) fun l3 Hg n3 s3 h3 => ?_
          refine ⟨l3, rfl, ⟨_, SqL.of h3⟩, ?_⟩
          refine for_it (walk_list (K := K) (a := l3) (xs := [V.int ((src : Int) + 1), V.int ((src : Int) + 2), V.int (max 0 ((src : Int) - 1))])) (fun t σ H' => ∃ w18 w19 w20, σ = [some (.ref scr), some (.ref p), some (.int (0 + (i : Int))), some (.ref ln), some (.int (src : Nat)), some (.ref lb), some (.ref lo), v7, some (.int (size : Nat)), some (.ref li), some (.ref lh), w11, some (.ref sp), some (.ref lw), v14, some (.bl (decide ((((ls.map List.length).sum : Nat) : Int) ≤ 12))), some (.ref lt), v17, w18, w19, w20] ∧ Same Hg H')
            ⟨_, _, _, rfl, Same.refl _⟩ (fun t σ H' _ ⟨_, _, _, _, s⟩ => SqL.of (s _ _ h3)) ?_ ?_
          · rintro t y σ H3 H2 ht ⟨w18, w19, w20, rfl, s2⟩ ⟨rfl, ey⟩
            obtain ⟨m, hm, rfl⟩ : ∃ m : Nat, m ≤ src + 2 ∧ y = V.int (m : Nat) := by
              have : t = 0 ∨ t = 1 ∨ t = 2 := by
                have : t < 3 := ht
                omega
              rcases this with rfl | rfl | rfl
              · cases ey; exact ⟨src + 1, by omega, by congr 1⟩
              · cases ey; exact ⟨src + 2, by omega, by congr 1⟩
              · cases ey; exact ⟨src - 1, by omega, by congr 1; omega⟩
            have hs3 := (hs9.up s3).up s2
            have lw3 := s2 _ _ (s3 _ _ lw9)
            have pw3 := WdsAt.up s2 (WdsAt.up s3 pw9)
            walk_at "go"
            refine a_newT (by show 4 ≤ 100000; decide) fun q4 H4 n4 s4 h4 => ?_
            walk_at "go"
            refine a_mkW0 fun r5 H5 n5 s5 w5 => ?_
            walk_at "go"
            refine a_mkW0 fun r6 H6 n6 s6 w6 => ?_
            walk_at "go"
            refine a_newL (by show 2 ≤ 100000; decide) fun l7 H7 n7 s7 h7 => ?_
            have s47 := s4.trans (s5.trans (s6.trans s7))
            refine a_cat (s47 _ _ lw3) h7 (by rw [pw3.1]; simp; omega) fun l8 H8 n8 s8 h8 => ?_
            walk_at "go"
            refine a_slL (SqL.of h8) fun l9 H9' n9' s9' h9' => ?_
            rw [cutV_take] at h9'
            have s59 := (s5.trans (s6.trans s7)).trans (s8.trans s9')
            have s49 := s47.trans (s8.trans s9')
            have pz : Par (WdAt K H9') ((uw ++ [V.ref r5, V.ref r6]).take m) ((lots ++ [[], []]).take m) := ((WdsAt.up s49 pw3).append ⟨rfl, fun k v x a b => by
              have : k = 0 ∨ k = 1 := by
                have := (List.getElem?_eq_some_iff.mp a).1
                simp at this
                omega
              rcases this with rfl | rfl
              · cases a; cases b; exact ⟨r5, rfl, (w5.up (s6.trans (s7.trans (s8.trans s9'))))⟩
              · cases a; cases b; exact ⟨r6, rfl, (w6.up (s7.trans (s8.trans s9')))⟩⟩).take m
            have lz : ((lots ++ [[], []]).take m).length = m := by rw [List.length_take, List.length_append]; simp; omega
            have hs10 := hs3.up s49
            have dd : Dq K H9' 3 (.ref q4) (.tuple [.str "wrong", .int (src : Nat), .int (m : Nat), .bool true]) := .tup (SqT.of (s59 _ _ h4)) (.cons (.str _ (by decide +kernel)) (.cons (.int _) (.cons (.int _) (.cons (.bl _) .nil))))
            have send : Same Hg H9' := s2.trans s49
            walk_at "go"
            by_cases c : m = src
            · rw [if_neg (by rw [c]; simp)]
              walk_at "go"
              refine a_F rfl ?_
              exact ⟨_, _, _, rfl, send⟩
            · rw [if_pos (by
                have : ¬ (V.int (m : Nat) = V.int (src : Nat)) := fun q => c (by injection q with q; omega)
                rw [decide_eq_false this]; rfl)]
              walk_at "go"
              refine ⟨sp, l9, src, ls, _, _, rfl, hs10, lok, by omega, by rw [lz]; omega, .inl (SqL.of h9'), pz, by rw [lz]; omega, fun r Hx nr sx dx => ?_⟩
              rw [lz] at dx
              walk_at "go"
              refine a_neQ dx (dd.same sx) ?_
              walk_at "go"
              refine a_F rfl ?_
              exact ⟨_, _, _, rfl, send.trans sx⟩
          · rintro σ H2 ⟨w18, w19, w20, rfl, s2⟩
            have S := s3.trans s2
            have hs3 := hs9.up S
            walk_at "go"
            refine ⟨sp, lb, src, ls, us, _, rfl, hs3, S _ _ lb9, LnsAt.up S pl9, by omega, fun H6 s6 => ?_⟩
            walk_at "go"
            rw [if_neg (by simp)]
            walk_at "go"
            refine a_lenS (.inl (SqL.of (s6 _ _ (S _ _ lw9)))) ?_
            walk_at "go"
            rw [pw9.1, hl7']
            refine a_F (by simp) ?_
            exact ⟨_, _, _, _, _, _, _, _, _, _, _, _, _, _, _, _, _, _, _, rfl, (hp9.same (S.trans s6)).le (by omega)⟩
    · rintro σ H2 ⟨v2, v3, v4, v5, v6, v7, v8, v9, v10, v11, v12, v13, v14, v15, v16, v17, v18, v19, v20, rfl, hp2⟩
      clear hp hp2 s1
      walk_at "go"
      refine a_newL (by show 0 ≤ 100000; decide) fun l1 H3 n1 s1 h1 => ?_
      walk_at "go"
      refine a_mkS (src := 2) (ls := []) (ys := []) (.inl (SqL.of h1)) ⟨rfl, fun k v x a b => by cases a⟩ (fun i ps e => by cases e) (by show 0 ≤ 20000; decide) fun sp H4 nsp s4 hsp => ?_
      walk_at "go"
      obtain ⟨dx, tt, zz, hI, _⟩ := id hsp
      refine ⟨sp, dx, _, rfl, hI, rfl, ?_⟩
      walk_at "go"
      refine a_mkW0 fun r5 H5 n5 s5 w5 => ?_
      walk_at "go"
      refine a_mkW0 fun r6 H6 n6 s6 w6 => ?_
      walk_at "go"
      refine a_newL (by show 2 ≤ 100000; decide) fun l7 H7 n7 s7 h7 => ?_
      walk_at "go"
      have pz : Par (WdAt K H7) [V.ref r5, V.ref r6] [[], []] := ⟨rfl, fun k v x a b => by
        have : k = 0 ∨ k = 1 := by
          have := (List.getElem?_eq_some_iff.mp a).1
          simp at this
          omega
        rcases this with rfl | rfl
        · cases a; cases b; exact ⟨r5, rfl, w5.up (s6.trans s7)⟩
        · cases a; cases b; exact ⟨r6, rfl, w6.up s7⟩⟩
      refine ⟨sp, l7, 2, [], [[], []], _, rfl, hsp.up (s5.trans (s6.trans s7)), (fun i ps e => by cases e), by show 0 ≤ 20000; decide, by show 2 ≤ 20000; decide, .inl (SqL.of h7), pz, fun z => absurd rfl z, fun _ => ⟨(fun i ps m g e => by cases e), fun r H8 s8 w8 => ?_⟩⟩
      rw [if_pos rfl] at w8
      obtain ⟨dy, t8, z8, g1, g2, g3, g4, g5⟩ := id w8
      walk_at "go"
      refine ⟨r, dy, _, rfl, g1, r, [], rfl, w8, 0, rfl, by omega, by omega, ?_⟩
      walk_at "go"
      refine a_yes rfl ?_
      walk_at "go"
      refine a_newT (by show 0 ≤ 100000; decide) fun t9 H9 n9 s9 h9 => ?_
      walk_at "go"
      refine a_mkS (src := 1) (ls := []) (ys := []) (.inr (SqT.of h9)) ⟨rfl, fun k v x a b => by cases a⟩ (fun i ps e => by cases e) (by show 0 ≤ 20000; decide) fun sq Ha nsq sa hsq => ?_
      walk_at "go"
      obtain ⟨dz, t10, z10, f1, f2, f3⟩ := hsq
      refine a_fld f1 T.o_Scheme.cl T.n_Scheme_lines (sch_l1 _ _) ?_
      walk_at "go"
      refine a_newT (by show 0 ≤ 100000; decide) fun t11 Hb nb sb hb => ?_
      refine a_eqQ (n := 4) (.tup (same_t sb f2) (TLines.dq (f3.same sb))) (.tup (SqT.of hb) .nil) ?_
      exact k _
end

def dfs : List DX := [
  ⟨fun K => He.ma K (He.ga K "BadStep") "__init__", "__init__", "BadStep.__init__", s_BadStep_init, [], []⟩,
  ⟨fun K => He.ma K (He.ga K "BadScheme") "__init__", "__init__", "BadScheme.__init__", s_BadScheme_init, [], []⟩,
  ⟨fun K => He.ma K (He.ga K "WrongLength") "__init__", "__init__", "WrongLength.__init__", s_WrongLength_init, [], []⟩,
  ⟨fun K => He.ga K "fits_name", "fits_name", "fits_name", s_fits_name, [], []⟩,
  ⟨fun K => He.ga K "cancelled_steps", "cancelled_steps", "cancelled_steps", s_cancelled_steps, [], []⟩,
  ⟨fun K => He.ga K "inverse_steps", "inverse_steps", "inverse_steps", s_inverse_steps, [], []⟩,
  ⟨fun K => He.ma K (He.ga K "Word") "__init__", "__init__", "Word.__init__", s_Word_init, [(.adr (He.dflAt ("Word", some "__init__") 0))], []⟩,
  ⟨fun K => He.ma K (He.ga K "Word") "__len__", "__len__", "Word.__len__", s_Word_len, [], []⟩,
  ⟨fun K => He.ma K (He.ga K "Word") "__iter__", "__iter__", "Word.__iter__", s_Word_iter, [], []⟩,
  ⟨fun K => He.ma K (He.ga K "Word") "__mul__", "__mul__", "Word.__mul__", s_Word_mul, [], []⟩,
  ⟨fun K => He.ma K (He.ga K "Word") "__invert__", "__invert__", "Word.__invert__", s_Word_invert, [], []⟩,
  ⟨fun K => He.ga K "check_size", "check_size", "check_size", s_check_size, [], []⟩,
  ⟨fun K => He.ma K (He.ga K "Table") "__init__", "__init__", "Table.__init__", s_Table_init, [], []⟩,
  ⟨fun K => He.ma K (He.ga K "Table") "__mul__", "__mul__", "Table.__mul__", s_Table_mul, [], []⟩,
  ⟨fun K => He.ma K (He.ga K "Table") "__invert__", "__invert__", "Table.__invert__", s_Table_invert, [], []⟩,
  ⟨fun K => He5.wf K (He.ga K "Table") "staticmethod" "neutral", "neutral", "Table.neutral", s_Table_neutral, [], []⟩,
  ⟨fun K => He.ma K (He.ga K "Scheme") "__init__", "__init__", "Scheme.__init__", s_Scheme_init, [], []⟩,
  ⟨fun K => He.ma K (He.ga K "Scheme") "value", "value", "Scheme.value", s_Scheme_value, [], []⟩,
  ⟨fun K => He.ma K (He.ga K "Scheme") "word", "word", "Scheme.word", s_Scheme_word, [], []⟩,
  ⟨fun K => He.ga K "_law_start", "_law_start", "_law_start", s__law_start, [], []⟩,
  ⟨fun K => He.ga K "_law_draw", "_law_draw", "_law_draw", s__law_draw, [], []⟩,
  ⟨fun K => He.ga K "_law_name", "_law_name", "_law_name", s__law_name, [], []⟩,
  ⟨fun K => He.ga K "_law_names", "_law_names", "_law_names", s__law_names, [], []⟩,
  ⟨fun K => He.ga K "_law_steps", "_law_steps", "_law_steps", s__law_steps, [], []⟩,
  ⟨fun K => He.ga K "_law_reduced", "_law_reduced", "_law_reduced", s__law_reduced, [], []⟩,
  ⟨fun K => He.ga K "_law_turned", "_law_turned", "_law_turned", s__law_turned, [], []⟩,
  ⟨fun K => He.ga K "_law_image", "_law_image", "_law_image", s__law_image, [], []⟩,
  ⟨fun K => He.ga K "_law_lines", "_law_lines", "_law_lines", s__law_lines, [], []⟩,
  ⟨fun K => He.ga K "_law_word_value", "_law_word_value", "_law_word_value", s__law_word_value, [], []⟩,
  ⟨fun K => He.ga K "_law_back", "_law_back", "_law_back", s__law_back, [], []⟩,
  ⟨fun K => He.ga K "_law_table_value", "_law_table_value", "_law_table_value", s__law_table_value, [], []⟩,
  ⟨fun K => He.ga K "_law_wrong", "_law_wrong", "_law_wrong", s__law_wrong, [], []⟩,
  ⟨fun K => He.ga K "_law_kept", "_law_kept", "_law_kept", s__law_kept, [], []⟩,
  ⟨fun K => He.ga K "law", "law", "law", s_law, [], []⟩]
def others : List Str := (["_wall", "TriedError", "BadStep", "NoStep", "BadScheme", "WrongLength", "BadTable", "OtherSize", "NoPoint", "TooGreat", "LETTERS", "MOST", "fits_name", "cancelled_steps", "inverse_steps", "Word", "LINES", "PAIRS", "Scheme", "MOST_POINTS", "check_size", "Table", "_law_start", "_law_draw", "_law_name", "_law_names", "_law_steps", "_law_reduced", "_law_turned", "_law_image"] : List Str) ++ (["_law_lines", "_law_word_value", "_law_back", "_law_table_value", "_law_wrong", "_law_kept"] : List Str)
abbrev R : PySem.W.OpenRow := PySem.W.OpenLaw.row PySem.Challenge.rw_triedtells_k10_whole_values_of_schemes
abbrev hk : PySem.W.Hook := hookX 5 fbs dfs
def ob (s : PySem.W.SharedT) : SeenX := seenG 5 fbs dfs (HandSHeadRun.getT s)
theorem ob_eq (s : PySem.W.SharedT) : ob s = hk.obs s.abs := seenG_eq (HandSHeadRun.getT_eq s)
set_option maxHeartbeats 0 in
theorem run (w : World) : HandSHeadRun.RunEq R (PySem.W.view R.prog [41]) hk ob 6000 others w := by
  intro os
  kernel_rfl
theorem whole {P : Program} {w : World} {K : PySem.W.Frag} {h : Heap} {mg : Str → Option Value} {f : Addr} (X : K.In h) (G : h.Ns mainGlobals mg) (hfa : mg ("law" : Str) = some (.ref f)) (c : Tells fbs dfs K) :
    ∃ fd : FuncData, (∀ (s : Shared) (v : Value), BindsTo s fd ⟨[v], []⟩ [("_law_script", v)]) ∧ ∀ base : Heap, K.In base → base.Ns mainGlobals mg → FnOk P w K mg base CX0 14 f fd ["_law_script"] (spLaw K) := by
  have T : Txt K mg := txt_of X G ⟨c.fb⟩
  obtain ⟨d0, F0⟩ := c.fx 0 rfl
  obtain ⟨d1, F1⟩ := c.fx 1 rfl
  obtain ⟨d2, F2⟩ := c.fx 2 rfl
  obtain ⟨d3, F3⟩ := c.fx 3 rfl
  obtain ⟨d4, F4⟩ := c.fx 4 rfl
  obtain ⟨d5, F5⟩ := c.fx 5 rfl
  obtain ⟨d6, F6⟩ := c.fx 6 rfl
  obtain ⟨d7, F7⟩ := c.fx 7 rfl
  obtain ⟨d8, F8⟩ := c.fx 8 rfl
  obtain ⟨d9, F9⟩ := c.fx 9 rfl
  obtain ⟨d10, F10⟩ := c.fx 10 rfl
  obtain ⟨d11, F11⟩ := c.fx 11 rfl
  obtain ⟨d12, F12⟩ := c.fx 12 rfl
  obtain ⟨d13, F13⟩ := c.fx 13 rfl
  obtain ⟨d14, F14⟩ := c.fx 14 rfl
  obtain ⟨d15, F15⟩ := c.fx 15 rfl
  obtain ⟨d16, F16⟩ := c.fx 16 rfl
  obtain ⟨d17, F17⟩ := c.fx 17 rfl
  obtain ⟨d18, F18⟩ := c.fx 18 rfl
  obtain ⟨d19, F19⟩ := c.fx 19 rfl
  obtain ⟨d20, F20⟩ := c.fx 20 rfl
  obtain ⟨d21, F21⟩ := c.fx 21 rfl
  obtain ⟨d22, F22⟩ := c.fx 22 rfl
  obtain ⟨d23, F23⟩ := c.fx 23 rfl
  obtain ⟨d24, F24⟩ := c.fx 24 rfl
  obtain ⟨d25, F25⟩ := c.fx 25 rfl
  obtain ⟨d26, F26⟩ := c.fx 26 rfl
  obtain ⟨d27, F27⟩ := c.fx 27 rfl
  obtain ⟨d28, F28⟩ := c.fx 28 rfl
  obtain ⟨d29, F29⟩ := c.fx 29 rfl
  obtain ⟨d30, F30⟩ := c.fx 30 rfl
  obtain ⟨d31, F31⟩ := c.fx 31 rfl
  obtain ⟨d32, F32⟩ := c.fx 32 rfl
  obtain ⟨d33, F33⟩ := c.fx 33 rfl
  have e := hfa.symm.trans T.g_law
  cases e
  refine ⟨d33, fun s v => FunD.bindsA (ps := ["_law_script"]) F33 (fun _ _ _ _ _ _ us hl => match us, hl with | [_], _ => rfl) s [v] rfl, fun base _ _ => cx0_of ?_ fun vs H Q E z => z⟩
  have c_BadStep := rai_of (P := P) (w := w) (base := base) F0 T.g_BadStep T.x_BadStep T.xi_BadStep T.xt_BadStep (ok_BadStep F0 T) (fun _ _ _ _ _ _ us hl => match us, hl with | [_, _], _ => rfl)
  have c_BadScheme := rai_of (P := P) (w := w) (base := base) F1 T.g_BadScheme T.x_BadScheme T.xi_BadScheme T.xt_BadScheme (ok_BadScheme F1 T) (fun _ _ _ _ _ _ us hl => match us, hl with | [_, _], _ => rfl)
  have c_WrongLength := rai_of (P := P) (w := w) (base := base) F2 T.g_WrongLength T.x_WrongLength T.xi_WrongLength T.xt_WrongLength (ok_WrongLength F2 T) (fun _ _ _ _ _ _ us hl => match us, hl with | [_, _, _], _ => rfl)
  have c_fits_name := cal_of (P := P) (w := w) (base := base) F3 T.g_fits_name (ok_fits F3 T) (fun _ _ _ _ _ _ us hl => match us, hl with | [_], _ => rfl)
  have c_cancelled_steps := cal_of (P := P) (w := w) (base := base) F4 T.g_cancelled_steps (ok_canc F4 T) (fun _ _ _ _ _ _ us hl => match us, hl with | [_], _ => rfl)
  have c_inverse_steps := cal_of (P := P) (w := w) (base := base) F5 T.g_inverse_steps (ok_invS F5 T) (fun _ _ _ _ _ _ us hl => match us, hl with | [_], _ => rfl)
  have c_Word_init := Mak.mk (P := P) (w := w) (base := base) T.g_Word ⟨_, T.mk_Word, fnr_of1 F6 2 rfl (xok_Winit F6 T c_fits_name c_cancelled_steps c_BadStep) (fun T kV doc pm an cdv ct us its h1 h2 => match us, its, h1, h2 with | [_, _], [_], _, _ => ⟨_, rfl, rfl⟩)⟩
  have c_Word_init0 := Mak.mk (P := P) (w := w) (base := base) T.g_Word ⟨_, T.mk_Word, fnr_of0 F6 1 rfl (xok_Winit F6 T c_fits_name c_cancelled_steps c_BadStep) (fun T kV doc pm an cdv ct us its h1 h2 => match us, its, h1, h2 with | [_], [_], _, _ => ⟨_, rfl, rfl⟩)⟩
  have w_init := c_Word_init.imp weak_Winit
  have w_init0 := c_Word_init0.imp (weak_Winit0 T)
  have c_Word_len := met_of (P := P) (w := w) (base := base) F7 T.o_Word.cl T.m_Word_len (ok_Wlen F7 T) (fun _ _ _ _ _ _ us hl => match us, hl with | [_], _ => rfl)
  have c_Word_iter := met_of (P := P) (w := w) (base := base) F8 T.o_Word.cl T.m_Word_iter (ok_Witer F8 T) (fun _ _ _ _ _ _ us hl => match us, hl with | [_], _ => rfl)
  have c_Word_mul := met_of (P := P) (w := w) (base := base) F9 T.o_Word.cl T.m_Word_mul (xok_Wmul F9 T c_Word_init) (fun _ _ _ _ _ _ us hl => match us, hl with | [_, _], _ => rfl)
  have w_mul := c_Word_mul.imp weak_Wmul
  have c_Word_invert := met_of (P := P) (w := w) (base := base) F10 T.o_Word.cl T.m_Word_invert (ok_Winv F10 T w_init c_inverse_steps) (fun _ _ _ _ _ _ us hl => match us, hl with | [_], _ => rfl)
  have c_check_size := cal_of (P := P) (w := w) (base := base) F11 T.g_check_size (ok_check F11 T) (fun _ _ _ _ _ _ us hl => match us, hl with | [_], _ => rfl)
  have c_Table_init := mak_of (P := P) (w := w) (base := base) F12 T.g_Table T.mk_Table (ok_Tinit F12 T c_check_size) (fun _ _ _ _ _ _ us hl => match us, hl with | [_, _], _ => rfl)
  have c_Table_mul := met_of (P := P) (w := w) (base := base) F13 T.o_Table.cl T.m_Table_mul (ok_Tmul F13 T c_Table_init) (fun _ _ _ _ _ _ us hl => match us, hl with | [_, _], _ => rfl)
  have c_Table_invert := met_of (P := P) (w := w) (base := base) F14 T.o_Table.cl T.m_Table_invert (ok_Tinv F14 T c_Table_init) (fun _ _ _ _ _ _ us hl => match us, hl with | [_], _ => rfl)
  have c_Table_neutral := sta_of (P := P) (w := w) (base := base) F15 T.s_Table_neutral (ok_Tneu F15 T c_check_size c_Table_init) (fun _ _ _ _ _ _ us hl => match us, hl with | [_], _ => rfl)
  have c_Scheme_init := mak_of (P := P) (w := w) (base := base) F16 T.g_Scheme T.mk_Scheme (xok_Sinit F16 T c_BadScheme) (fun _ _ _ _ _ _ us hl => match us, hl with | [_, _, _], _ => rfl)
  have c_Scheme_value := met_of (P := P) (w := w) (base := base) F17 T.o_Scheme.cl T.m_Scheme_value (xok_valW F17 T c_WrongLength w_mul c_Word_invert) (fun _ _ _ _ _ _ us hl => match us, hl with | [_, _, _], _ => rfl)
  have v_tab := met_of (P := P) (w := w) (base := base) F17 T.o_Scheme.cl T.m_Scheme_value (ok_val F17 T c_Table_mul c_Table_invert) (fun _ _ _ _ _ _ us hl => match us, hl with | [_, _, _], _ => rfl)
  have c_Scheme_word := met_of (P := P) (w := w) (base := base) F18 T.o_Scheme.cl T.m_Scheme_word (xok_Sword F18 T c_Scheme_value w_init0) (fun _ _ _ _ _ _ us hl => match us, hl with | [_, _], _ => rfl)
  have c__law_start := cal_of (P := P) (w := w) (base := base) F19 T.g__law_start (ok_start F19 T) (fun _ _ _ _ _ _ us hl => match us, hl with | [_], _ => rfl)
  have c__law_draw := cal_of (P := P) (w := w) (base := base) F20 T.g__law_draw (ok_draw F20 T) (fun _ _ _ _ _ _ us hl => match us, hl with | [_, _], _ => rfl)
  have c__law_name := cal_of (P := P) (w := w) (base := base) F21 T.g__law_name (ok_name F21 T) (fun _ _ _ _ _ _ us hl => match us, hl with | [_], _ => rfl)
  have c__law_names := cal_of (P := P) (w := w) (base := base) F22 T.g__law_names (ok_names F22 T c__law_draw c__law_name) (fun _ _ _ _ _ _ us hl => match us, hl with | [_, _], _ => rfl)
  have c__law_steps := cal_of (P := P) (w := w) (base := base) F23 T.g__law_steps (ok_steps F23 T c__law_draw) (fun _ _ _ _ _ _ us hl => match us, hl with | [_, _, _], _ => rfl)
  have c__law_reduced := cal_of (P := P) (w := w) (base := base) F24 T.g__law_reduced (ok_reduced F24 T) (fun _ _ _ _ _ _ us hl => match us, hl with | [_], _ => rfl)
  have c__law_turned := cal_of (P := P) (w := w) (base := base) F25 T.g__law_turned (ok_turned F25 T) (fun _ _ _ _ _ _ us hl => match us, hl with | [_], _ => rfl)
  have c__law_image := cal_of (P := P) (w := w) (base := base) F26 T.g__law_image (ok_image F26 T c__law_draw) (fun _ _ _ _ _ _ us hl => match us, hl with | [_, _], _ => rfl)
  have c__law_lines := cal_of (P := P) (w := w) (base := base) F27 T.g__law_lines (ok_lines F27 T c__law_draw) (fun _ _ _ _ _ _ us hl => match us, hl with | [_, _], _ => rfl)
  have c__law_word_value := cal_of (P := P) (w := w) (base := base) F28 T.g__law_word_value (ok_wval F28 T c__law_reduced c__law_turned) (fun _ _ _ _ _ _ us hl => match us, hl with | [_, _], _ => rfl)
  have c__law_back := cal_of (P := P) (w := w) (base := base) F29 T.g__law_back (ok_back F29 T) (fun _ _ _ _ _ _ us hl => match us, hl with | [_], _ => rfl)
  have c__law_table_value := cal_of (P := P) (w := w) (base := base) F30 T.g__law_table_value (ok_tval F30 T c__law_back) (fun _ _ _ _ _ _ us hl => match us, hl with | [_, _, _], _ => rfl)
  have c__law_wrong := cal_of (P := P) (w := w) (base := base) F31 T.g__law_wrong (ok_wrong F31 T c_Scheme_word c_Word_len) (fun _ _ _ _ _ _ us hl => match us, hl with | [_, _], _ => rfl)
  have c__law_kept := cal_of (P := P) (w := w) (base := base) F32 T.g__law_kept (ok_kept F32 T) (fun _ _ _ _ _ _ us hl => match us, hl with | [_, _, _], _ => rfl)
  exact ok_law F33 T c__law_start c__law_draw c__law_names c__law_steps c__law_reduced c__law_image c__law_lines c__law_word_value c__law_table_value c__law_wrong c__law_kept w_init w_init0 c_Word_len c_Word_iter c_Table_init c_Table_neutral c_Scheme_init v_tab c_Scheme_word

end TT
open PySem PySem.W PySem.Calls PyProof.Rows
set_option maxRecDepth 100000 in
set_option maxHeartbeats 0 in
theorem PySem.Challenge.cw_triedtells_k10_whole_values_of_schemes_holds : PySem.Challenge.rw_triedtells_k10_whole_values_of_schemes.Holds := by
  w_on; o_law
  refine HandSHeadRun.head_any (r := OpenLaw.row PySem.Challenge.rw_triedtells_k10_whole_values_of_schemes) (q := view (OpenLaw.row PySem.Challenge.rw_triedtells_k10_whole_values_of_schemes).prog [41])
    (H := TT.hk) (ob := TT.ob) (M := 6000) (loose := TT.others) (d := HandSHeadRun.topDef (OpenLaw.row PySem.Challenge.rw_triedtells_k10_whole_values_of_schemes).prog 41) (kwd := []) TT.ob_eq
    (by kernel_rfl) (fun s => by kernel_rfl) TT.run (by kernel_rfl) (by kernel_rfl) (by kernel_rfl) (by rfl) (by first | assumption | decide +kernel) (by decide +kernel) ⟨rfl, rfl, rfl, rfl, rfl, by decide +kernel⟩ ?hw ?hc
  case hw => w_witness2
  case hc =>
    refine L2.walk_ofE (l := PySem.Challenge.rw_triedtells_k10_whole_values_of_schemes) (n := 63) (k := 14) (x := "_law_script") (CX := L2.CX0) rfl (by decide) (by kernel_rfl) ⟨rfl, by decide, by decide⟩ ?F (fun _ _ _ _ z => z)
    intro w mg fa h Y G hmg0
    obtain ⟨K, KX, c⟩ := Y
    have hmg : mg ("law" : PySem.Str) = some (.ref fa) := by
      have e : (HandSHeadRun.topDef (OpenLaw.row PySem.Challenge.rw_triedtells_k10_whole_values_of_schemes).prog 41).name = ("law" : PySem.Str) := by kernel_rfl
      rw [← e]
      exact hmg0
    obtain ⟨fd, hb, hF⟩ := TT.whole (P := (PySem.Challenge.rw_triedtells_k10_whole_values_of_schemes).prog) (w := w) KX G hmg c
    exact ⟨K, fd, TT.spLaw K, KX, hb, fun H a ns hl _ hS => ⟨a, ns, rfl, hS, hl, fun _ => rfl⟩, hF⟩
