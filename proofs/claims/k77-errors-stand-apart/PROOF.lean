import PyProof.Rows.All
import Wide.All
import OpenK.AllK
import Wide.FinOn
import KE.KStateDown
import KE.KOpsOwn
import KE.GoesMore
import KE.GoesEnum
import HandS.ForMost
import HandS.ForExc
import HandS.ForSpec
import HandS.More
import HandS.Conv
import HandS.Zip
import HandS.Walk
import HandS.IsInst
import HandS.Flow
import HandS.Style
import HandS.Defaults
import HandS.ExcInit
import HandS.ExcField
import HandS.ExcIs
import HandS.TryMany
import HandS.Codes
import HandS.Star
import HandS.ClsMeth
import HandS.OwnEq
import HandS.SlotsOwn
import HandS.Wide
import HandS.Sort
import HandS.SortKw
import HandS.SortInts
import HandS.Deep
import HandS.DictComp
import HandS.ListItems
import HandS.TupLe
import HandS.TupAny
import HandS.TupMul
import HandS.DictTup
import HandS.CallSlots
import HandS.EndBits
import HandS.Head0
import HandS.Head1
import HandS.Head2
import HandS.HeadEnd
import HandS.HeadHook1
import HandS.HeadHook2
import HandS.HeadNt
import KE.KExcIs
import HandS.ExcValue
import PySem.Challenge.RW_triedtells_k77_errors_stand_apart
set_option Elab.async false
set_option linter.all false
set_option maxRecDepth 100000
set_option maxHeartbeats 4000000
namespace TT
open PySem PySem.Spec PyProof.Rows L2

/-! ### the head: defs by addresses, facts by one Bool -/
structure DX where
  ad : PySem.W.Frag → Addr
  name : Str
  qual : Str
  st : Stmt
  dfl : List He.Dv := []
  kwd : List (Str × He.Dv) := []

def fnAt (K : PySem.W.Frag) (f : Addr) : He.FnW :=
  match K.lookup f with
  | some ⟨_, _, .func fd, _⟩ => some (fd.name, fd.qualname, fd.params, fd.body, fd.scope, fd.globals, fd.closure, fd.builtins)
  | _ => none

def fnGood (K : PySem.W.Frag) (f : Addr) (q : Str) (ds : List V) (ks : List (Str × V)) : Bool :=
  PySem.W.keepIn K (.ref f) &&
  match K.lookup f with
  | some ⟨_, _, .func fd, _⟩ => PySem.W.codeIn K fd.code q && He.dflB K fd.defaults ds && He.kwdB K fd.kwdefaults ks
  | _ => false

def DX.dvs (K : PySem.W.Frag) (d : DX) : List V := d.dfl.map fun z => z.v K
def DX.kws (K : PySem.W.Frag) (d : DX) : List (Str × V) := d.kwd.map fun z => (z.1, z.2.v K)
def DX.good (K : PySem.W.Frag) (d : DX) : Bool := fnGood K (d.ad K) d.qual (d.dvs K) (d.kws K)
def DX.want (d : DX) : He.FnW :=
  some (d.name, d.qual, defArgs d.st, .stmts (defBody d.st), defScope d.st, mainGlobals, [], builtinsNs)

abbrev FX (K : PySem.W.Frag) (x q : Str) (st : Stmt) (ds : List V) (ks : List (Str × V)) (f : Addr) (fd : FuncData) : Prop :=
  FunD K x q (defArgs st) (defBody st) (defScope st) ds ks f fd

theorem fx_of {K : PySem.W.Frag} {f : Addr} {x q : Str} {st : Stmt} {ds : List V} {ks : List (Str × V)}
    (e : fnAt K f = some (x, q, defArgs st, .stmts (defBody st), defScope st, mainGlobals, [], builtinsNs))
    (g : fnGood K f q ds ks = true) : ∃ fd, FX K x q st ds ks f fd := by
  unfold fnGood at g
  rw [Bool.and_eq_true] at g
  obtain ⟨kp, g⟩ := g
  unfold fnAt at e
  rcases hk : K.lookup f with _ | ⟨oc, od, dt, sl⟩
  · simp [hk] at g
  · rw [hk] at e g
    cases dt <;> try (simp at g; done)
    rename_i fd
    simp only [Bool.and_eq_true] at g
    obtain ⟨⟨g1, g2⟩, g3⟩ := g
    have e' := Option.some.inj e
    obtain ⟨a1, a2, a3, a4, a5, a6, a7, a8, a9, a10, a11, a12, a13, a14, a15⟩ := fd
    simp only [Prod.mk.injEq] at e'
    obtain ⟨h1, h2, h3, h4, h5, h6, h7, h8⟩ := e'
    subst h1 h2 h3 h4 h5 h6 h7 h8
    exact ⟨_, ⟨oc, od, a8, a9, a10, a11, a12, a13, a14, sl, rfl, hk, g1, He.dflB_ok g2, He.kwdB_ok g3⟩, kp⟩

abbrev SeenX : Type := Bool × List He.FnW
def seenX (fb : PySem.W.Frag → Bool) (fn : List DX) (K : PySem.W.Frag) : SeenX :=
  (fb K && fn.all (fun d => d.good K), fn.map fun d => fnAt K (d.ad K))
def wantX (fn : List DX) : SeenX := (true, fn.map DX.want)
def seenG (n : Nat) (fb : PySem.W.Frag → Bool) (fn : List DX) (g : Addr → Option Obj) : SeenX := seenX fb fn (He.frG g (cStatics :: He.asD g n))
/-- what the head's run tells of the written part -/
def Tells (fb : PySem.W.Frag → Bool) (fn : List DX) (K : PySem.W.Frag) : Prop := seenX fb fn K = wantX fn
def hookX (n : Nat) (fb : PySem.W.Frag → Bool) (fn : List DX) : PySem.W.Hook where
  α := SeenX
  obs := fun s => seenG n fb fn s.heap.get?
  val := fun _ => wantX fn
  says := fun _ h => ∃ K : PySem.W.Frag, K.In h ∧ Tells fb fn K
  of := fun _ _ e => ⟨_, He.frG_in, e⟩
  keeps := fun _ _ _ ⟨K, hK, c⟩ k => ⟨K, hK.keeps k, c⟩
theorem seenG_eq {n : Nat} {fb : PySem.W.Frag → Bool} {fn : List DX} {g : Addr → Option Obj} {s : Shared} (h : ∀ a, g a = s.heap.get? a) :
    seenG n fb fn g = (hookX n fb fn).obs s := by
  have e : g = s.heap.get? := funext h
  subst e
  rfl
theorem Tells.fb {fb : PySem.W.Frag → Bool} {fn : List DX} {K : PySem.W.Frag} (c : Tells fb fn K) : fb K = true := by
  have z : (fb K && fn.all (fun d => d.good K)) = true := congrArg Prod.fst c
  rw [Bool.and_eq_true] at z
  exact z.1
theorem Tells.fx {fb : PySem.W.Frag → Bool} {fn : List DX} {K : PySem.W.Frag} (c : Tells fb fn K) (i : Nat) {d : DX} (h : fn[i]? = some d) :
    ∃ fd, FX K d.name d.qual d.st (d.dvs K) (d.kws K) (d.ad K) fd := by
  have z : (fb K && fn.all (fun d => d.good K)) = true := congrArg Prod.fst c
  rw [Bool.and_eq_true] at z
  have y : fn.map (fun d => fnAt K (d.ad K)) = fn.map DX.want := congrArg Prod.snd c
  have y2 : (fn.map (fun d => fnAt K (d.ad K)))[i]? = (fn.map DX.want)[i]? := by rw [y]
  rw [List.getElem?_map, List.getElem?_map, h] at y2
  exact fx_of (Option.some.inj y2) (List.all_eq_true.mp z.2 d (List.mem_of_getElem? h))
end TT

set_option Elab.async false
set_option linter.all false
set_option maxRecDepth 100000
set_option maxHeartbeats 4000000
namespace TT
open PySem PySem.Spec PyProof.Rows L2

/-! ### heaps that grow -/
theorem same_new {H : Hp} {p : Addr} {o : HO} (h : H p = none) : Same H (upd H p o) := fun a u e => by
  rw [upd_ne (ne_of_none e h)]
  exact e
/-- an object that was not there may change -/
theorem same_mut {H H1 : Hp} {p : Addr} {o : HO} (s : Same H H1) (h : H p = none) : Same H (upd H1 p o) := fun a u e => by
  rw [upd_ne (ne_of_none e h)]
  exact s a u e
theorem same_t {K : PySem.W.Frag} {H H1 : Hp} {a : Addr} {xs : List V} (s : Same H H1) (h : SqT K H a xs) : SqT K H1 a xs := h.ext s
theorem same_l {K : PySem.W.Frag} {H H1 : Hp} {a : Addr} {xs : List V} (s : Same H H1) (h : SqL K H a xs) : SqL K H1 a xs := h.ext s
mutual
theorem same_d {K : PySem.W.Frag} {H H1 : Hp} (s : Same H H1) : ∀ {v : V} (d : PyData), Dp K H v d → Dp K H1 v d
  | _, .none, h => by cases h; exact .non
  | _, .bool b, h => by cases h; exact .bl b
  | _, .int i, h => by cases h; exact .int i
  | _, .str x, h => by cases h; exact .str x
  | _, .list ds, h => by
    cases h with
    | lst a b => exact .lst (same_l s a) (same_ds s ds b)
  | _, .tuple ds, h => by
    cases h with
    | tup a b => exact .tup (same_t s a) (same_ds s ds b)
  | _, .dict _, h => by cases h
theorem same_ds {K : PySem.W.Frag} {H H1 : Hp} (s : Same H H1) : ∀ {vs : List V} (ds : List PyData), DpAll K H vs ds → DpAll K H1 vs ds
  | _, [], h => by cases h; exact .nil
  | _, d :: ds, h => by
    cases h with
    | cons a b => exact .cons (same_d s d a) (same_ds s ds b)
end
/-- all but p stands -/
def But (p : Addr) (H H1 : Hp) : Prop := ∀ a o, a ≠ p → H a = some o → H1 a = some o
theorem But.refl (p : Addr) (H : Hp) : But p H H := fun _ _ _ h => h
theorem But.trans {p : Addr} {H H1 H2 : Hp} (x : But p H H1) (y : But p H1 H2) : But p H H2 := fun a o n h => y a o n (x a o n h)
theorem But.of {p : Addr} {H H1 : Hp} (s : Same H H1) : But p H H1 := fun a o _ h => s a o h
theorem But.upd {p : Addr} {H : Hp} {o : HO} : But p H (upd H p o) := fun a u n h => by rw [upd_ne n]; exact h
/-- the part without p -/
def off (H : Hp) (p : Addr) : Hp := fun a => if a = p then none else H a
theorem off_ne {H : Hp} {p a : Addr} (h : a ≠ p) : off H p a = H a := if_neg h
theorem off_at {H : Hp} {p : Addr} : off H p p = none := if_pos rfl
theorem off_sub {H : Hp} {p : Addr} : Same (off H p) H := fun a o h => by
  by_cases e : a = p
  · rw [e, off_at] at h; cases h
  · rw [off_ne e] at h; exact h
theorem But.off {p : Addr} {H H1 : Hp} (x : But p H H1) : Same (off H p) (off H1 p) := fun a o h => by
  by_cases e : a = p
  · rw [e, off_at] at h; cases h
  · rw [off_ne e] at h ⊢
    exact x a o e h
theorem off_of {p a : Addr} {H : Hp} {o : HO} (n : a ≠ p) (h : H a = some o) : TT.off H p a = some o := by rw [off_ne n]; exact h

/-! ### defs by their names, methods, makers -/
structure Cal (P : Program) (w : World) (K : PySem.W.Frag) (mg : Str → Option Value) (base : Heap) (x : Str) (k : Nat) (sp : Sp) : Prop where
  ex : ∃ f : Addr, mg x = some (.ref f) ∧ PySem.W.keepIn K (.ref f) = true ∧ FnR P w K mg base (L2.CX P w) k f sp
structure Met (P : Program) (w : World) (K : PySem.W.Frag) (mg : Str → Option Value) (base : Heap) (C : Addr) (m : Str) (k : Nat) (sp : Sp) : Prop where
  cl : Cls K C
  ex : ∃ f : Addr, Meth K C m f ∧ FnR P w K mg base (L2.CX P w) k f sp
structure Mak (P : Program) (w : World) (K : PySem.W.Frag) (mg : Str → Option Value) (base : Heap) (x : Str) (C : Addr) (k : Nat) (sp : Sp) : Prop where
  at_ : mg x = some (.ref C)
  ex : ∃ f : Addr, Mk K C f ∧ FnR P w K mg base (L2.CX P w) k f sp
/-- a static method of the class named x -/
structure Sta (P : Program) (w : World) (K : PySem.W.Frag) (mg : Str → Option Value) (base : Heap) (C : Addr) (m : Str) (k : Nat) (sp : Sp) : Prop where
  rd : PySem.W.readsIn K C (.type "type") = true
  ga : PySem.W.specialIn K (.ref C) "__getattribute__" = some (some (.builtin "type.__getattribute__"))
  ex : ∃ p f : Addr, PySem.W.findCls K (.ref C) (.type "type") m = some (.get (.builtin "staticmethod.__get__") (.ref p) .none (.ref C)) ∧
    (∃ rest, PySem.W.recIn K p "staticmethod" = some (.ref f :: rest)) ∧ PySem.W.keepIn K (.ref f) = true ∧ FnR P w K mg base (L2.CX P w) k f sp

def tF (sp : Sp) (E : XK) (t : TA) : TE := fun σ H Q => t σ H fun vs H1 => sp vs H1 Q E
def tS (C : Addr) (sp : Sp) (E : XK) (to : TE) (t : TA) : TE := fun σ H Q => to σ H fun x H1 => x = .ref C ∧ t σ H1 fun vs H2 => sp vs H2 Q E
section
variable {X : Cx} {x m : Str} {C : Addr} {k j : Nat} {sp : Sp} {E : XK} {e o : Expr} {es : List Expr} {to : TE} {t : TA} {p pos apos : Pos} {pl : Sem Bool}
theorem pe_f (c : Cal X.prog X.w X.K X.mg X.base x k sp) (hr : Room j X.A) (hk : k ≤ j) (hg : Gl X x) (hx : Passes (L2.CX X.prog X.w) X E) (ha : PA X (e :: es) t)
    (hd : (x == ("__debug__" : Str)) = false := by decide) (h1 : starEach (e :: es) X.env = (false, eval e X.env) :: starEach es X.env := by rfl)
    (h2 : (backTo pos (starEach es X.env)).any (·.1) = false := by rfl) : PE X (.Call (.Name x p) (e :: es) [] pos) (tF sp E t) := ⟨fun pins s σ H Q I h => by
  obtain ⟨f, hm, kp, F⟩ := c.ex
  exact wpAny_Call_Name_kw (ld_glob I hg hm (PySem.W.callWith_K (h₀ := X.base) I.ok.mod.kin kp
    (thn (ha.run pos pins s σ H _ I h) fun us s1 ⟨vs, H1, I1, r, q⟩ => ⟨I1.kIn, wpAny_call (run_fnR F (hr.mono hk) hx I1 r q)⟩) h1 h2) hd)⟩
theorem pe_f0 (c : Cal X.prog X.w X.K X.mg X.base x k sp) (hr : Room j X.A) (hk : k ≤ j) (hg : Gl X x) (hx : Passes (L2.CX X.prog X.w) X E)
    (hd : (x == ("__debug__" : Str)) = false := by decide) : PE X (.Call (.Name x p) [] [] pos) (tF sp E tNil) := ⟨fun pins s σ H Q I h => by
  obtain ⟨f, hm, kp, F⟩ := c.ex
  exact wpAny_Call_Name_kw (ld_glob I hg hm (PySem.W.callWith_K0 I.kIn kp (wpAny_call (run_fnR (us := []) (vs := []) F (hr.mono hk) hx I .nil h))) hd)⟩
theorem pe_m (c : Met X.prog X.w X.K X.mg X.base C m k sp) (hr : Room j X.A) (hk : k ≤ j) (hx : Passes (L2.CX X.prog X.w) X E) (ho : PE X o to) (ha : PA X (e :: es) t)
    (h1 : starEach (e :: es) X.env = (false, eval e X.env) :: starEach es X.env := by rfl) (h2 : (backTo pos (starEach es X.env)).any (·.1) = false := by rfl)
    (h3 : eval (.Call (.Attribute o m apos) (e :: es) [] pos) X.env = (eval o X.env >>= fun ov => standAt apos.atName >>= fun _ => holding [ov] (getMethod ov m pl) >>= fun fr =>
      callWith pos fr.1 fr.2 (backTo pos (starEach (e :: es) X.env)) (backToKw pos (keywordEach [] X.env))) := by rfl) :
    PE X (.Call (.Attribute o m apos) (e :: es) [] pos) (tMethR C m sp E to t) := by
  obtain ⟨f, hm, F⟩ := c.ex
  exact pe_methR (pl := pl) ho c.cl hm F (hr.mono hk) hx ha h1 h2 h3
theorem pe_m0 (c : Met X.prog X.w X.K X.mg X.base C m k sp) (hr : Room j X.A) (hk : k ≤ j) (hx : Passes (L2.CX X.prog X.w) X E) (ho : PE X o to)
    (h3 : eval (.Call (.Attribute o m apos) [] [] pos) X.env = (eval o X.env >>= fun ov => standAt apos.atName >>= fun _ => holding [ov] (getMethod ov m pl) >>= fun fr =>
      callWith pos fr.1 fr.2 (backTo pos (starEach [] X.env)) (backToKw pos (keywordEach [] X.env))) := by rfl) :
    PE X (.Call (.Attribute o m apos) [] [] pos) (tMethR C m sp E to tNil) := ⟨fun pins s σ H Q I h => by
  obtain ⟨f, hm, F⟩ := c.ex
  refine PySem.W.methodCall_KW (pl := pl) (thn (ho.run pins s σ H _ I h) fun u s1 hh => ?_) h3
  obtain ⟨v, H1, I1, rv, a, dx, fs, ev, ea, l, q⟩ := hh
  subst ev
  cases (show u = Value.ref a from rv)
  exact getmeth_ok I1 ea c.cl hm l (PySem.W.callWith_K0 (first := [.ref a]) I1.kIn hm.kp (wpAny_call (run_fnR (us := [.ref a]) (vs := [.ref a]) F (hr.mono hk) hx I1 (.cons rfl .nil) q)))⟩
theorem pe_k (c : Mak X.prog X.w X.K X.mg X.base x C k sp) (hr : Room j X.A) (hk : k + 1 ≤ j) (hg : Gl X x) (hx : Passes (L2.CX X.prog X.w) X E) (ha : PA X (e :: es) t)
    (hd : (x == ("__debug__" : Str)) = false := by decide) (h1 : starEach (e :: es) X.env = (false, eval e X.env) :: starEach es X.env := by rfl)
    (h2 : (backTo pos (starEach es X.env)).any (·.1) = false := by rfl) : PE X (.Call (.Name x p) (e :: es) [] pos) (StX.tMakeR C sp E t) := by
  obtain ⟨f, M, F⟩ := c.ex
  exact StX.pe_makeR M F (hr.mono hk) hg c.at_ hx ha hd h1 h2
theorem pe_k0 (c : Mak X.prog X.w X.K X.mg X.base x C k sp) (hr : Room j X.A) (hk : k + 1 ≤ j) (hg : Gl X x) (hx : Passes (L2.CX X.prog X.w) X E)
    (hd : (x == ("__debug__" : Str)) = false := by decide) : PE X (.Call (.Name x p) [] [] pos) (StX.tMakeR C sp E tNil) := ⟨fun pins s σ H Q I h => by
  obtain ⟨f, M, F⟩ := c.ex
  exact wpAny_Call_Name_kw (ld_glob I hg c.at_ (PySem.W.callWith_K0 I.kIn M.kp (StX.run_makeR (us := []) M F (hr.mono hk) hx I .nil h)) hd)⟩
theorem pe_s (c : Sta X.prog X.w X.K X.mg X.base C m k sp) (hr : Room j X.A) (hk : k ≤ j) (hx : Passes (L2.CX X.prog X.w) X E) (ho : PE X o to) (ha : PA X (e :: es) t)
    (h1 : starEach (e :: es) X.env = (false, eval e X.env) :: starEach es X.env := by rfl) (h2 : (backTo pos (starEach es X.env)).any (·.1) = false := by rfl)
    (h3 : eval (.Call (.Attribute o m apos) (e :: es) [] pos) X.env = (eval o X.env >>= fun ov => standAt apos.atName >>= fun _ => holding [ov] (getMethod ov m pl) >>= fun fr =>
      callWith pos fr.1 fr.2 (backTo pos (starEach (e :: es) X.env)) (backToKw pos (keywordEach [] X.env))) := by rfl) :
    PE X (.Call (.Attribute o m apos) (e :: es) [] pos) (tS C sp E to t) := ⟨fun pins s σ H Q I h => by
  obtain ⟨p, f, hf, ⟨rest, hrec⟩, kp, F⟩ := c.ex
  refine PySem.W.methodCall_KW (pl := pl) (thn (ho.run pins s σ H _ I h) fun u s1 hh => ?_) h3
  obtain ⟨v, H1, I1, rv, ev, q⟩ := hh
  subst ev
  cases (show u = Value.ref C from rv)
  refine PySem.W.method_cls I1.kIn c.ga (PySem.W.cls_bind I1.kIn c.rd hf (wpAny_call ?_))
  refine PySem.W.sm_get (s := { s1 with toks := s1.toks + 1 }) I1.kIn hrec (PySem.W.handed_on rfl ?_)
  exact PySem.W.callWith_K (first := []) (h₀ := X.base) I.ok.mod.kin kp (thn (ha.run pos pins _ σ H1 _ (I1.tok _) q) fun us s2 ⟨vs, H2, I2, r, q2⟩ =>
    ⟨I2.kIn, wpAny_call (run_fnR F (hr.mono hk) hx I2 r q2)⟩) h1 h2⟩
end

/-! ### operators of own classes -/
/-- what isinstance and the operators ask of a class -/
structure Own (K : PySem.W.Frag) (C : Addr) : Prop where
  cl : Cls K C
  ca : PySem.W.findIn K (.ref C) "__class__" = some (some (.builtin "object.__class__"))
  cn : PySem.W.specialIn K (.builtin "object.__class__") "__get__" = some (some (.builtin "getset_descriptor.__get__"))
  ct : PySem.W.takesIn K (.builtin "object.__class__") = some true
  cm : PySem.W.mroIn K C (.type "object") = some true
  sf : PySem.W.selfFirst K C = true
theorem Own.ty {K : PySem.W.Frag} {H : Hp} {a C dx : Addr} {fs : List (Str × V)} (c : Own K C) (h : H a = some (.ins C dx fs)) : TyX K H (.ref a) (.ref C) :=
  .base (.ins h c.cl c.ca c.cn c.ct c.cm)
theorem ty_t {K : PySem.W.Frag} {H : Hp} {a : Addr} {xs : List V} (h : SqT K H a xs) : TyX K H (.ref a) (.type "tuple") := by
  rcases h with (h | ⟨o, h⟩) | ⟨o, its, n, h, c, _⟩
  · exact .base (.tup h)
  · exact .fTuple h
  · exact .kTuple h c
section
variable {X : Cx} {C : Addr} {k j : Nat} {sp : Sp} {E : XK} {f : Addr}
/-- x op y by the class's own def, y of a type t that does not go first -/
def rOwnC (K : PySem.W.Frag) (C : Addr) (sp : Sp) (E : XK) : R2 := fun x y H Q => ∃ a dx fs t, x = .ref a ∧ H a = some (.ins C dx fs) ∧ TyX K H y t ∧ PySem.W.notFirst K C t = true ∧ sp [x, y] H Q E
theorem op_eqO (c : Met X.prog X.w X.K X.mg X.base C "__eq__" k sp) (hr : Room j X.A) (hk : k ≤ j) (hx : Passes (L2.CX X.prog X.w) X E) : OpR X (compareOp .Eq) (rOwnC X.K C sp E) := by
  intro pins s σ H x y v u Q I rx ry h
  obtain ⟨a, dx, fs, t, rfl, ha, ty, nf, q⟩ := h
  obtain ⟨f, hm, F⟩ := c.ex
  cases (show v = Value.ref a from rx)
  obtain ⟨mA, O, _⟩ := ins_get I.hok ha
  obtain ⟨od, J, _⟩ := O.look
  obtain ⟨P, Z, hp, _⟩ := kit_of I ry ty
  obtain ⟨m, hF⟩ := I.fr
  show wpAny _ _ (richCompare .Eq (.ref a) u) _ _ s
  refine PySem.W.cmp_K (op := .Eq) (tb := t) hr.units0 hF I.ok.mod.kin J (Z.ty _ _ I.kIn hp) nf hm.at_ hm.fn ?_
  refine wpAny_mono (wpAny_call (run_fnR (us := [.ref a, u]) (vs := [.ref a, y]) F (hr.mono hk) hx I (.cons rfl (.cons ry .nil)) q)) (fun w s' z => ?_) fun _ _ z => z
  obtain ⟨z', H', I', rz, qz⟩ := z
  exact SlX.cmpback rz ⟨z', H', I', rz, qz⟩
/-- x op y, two of one class -/
def rOwnB (C : Addr) (sp : Sp) (E : XK) : R2 := fun x y H Q => ∃ a dx fs b dy gs, x = .ref a ∧ y = .ref b ∧ H a = some (.ins C dx fs) ∧ H b = some (.ins C dy gs) ∧ sp [x, y] H Q E
theorem op_mulO (ow : Own X.K C) (c : Met X.prog X.w X.K X.mg X.base C "__mul__" k sp) (hr : Room j X.A) (hk : k ≤ j) (hx : Passes (L2.CX X.prog X.w) X E) : OpR X (binaryOp .Mult) (rOwnB C sp E) := by
  intro pins s σ H x y v u Q I rx ry h
  obtain ⟨a, dx, fs, b, dy, gs, rfl, rfl, ha, hb, q⟩ := h
  obtain ⟨f, hm, F⟩ := c.ex
  cases (show v = Value.ref a from rx)
  cases (show u = Value.ref b from ry)
  obtain ⟨mA, O, _⟩ := ins_get I.hok ha
  obtain ⟨od, J, _⟩ := O.look
  obtain ⟨mB, O', _⟩ := ins_get I.hok hb
  obtain ⟨od', J', _⟩ := O'.look
  obtain ⟨m, hF⟩ := I.fr
  refine PySem.W.binop_K (op := .Mult) hF I.ok.mod.kin J J'.type ow.sf hm.at_ hm.fn ?_
  refine wpAny_mono (wpAny_call (run_fnR (us := [.ref a, .ref b]) (vs := [.ref a, .ref b]) F (hr.mono hk) hx I (.cons rfl (.cons rfl .nil)) q)) (fun w s' z => ?_) fun _ _ z => z
  obtain ⟨z', H', I', rz, qz⟩ := z
  exact SlX.cmpback rz ⟨z', H', I', rz, qz⟩
def rOwnU (C : Addr) (sp : Sp) (E : XK) : V → Hp → VK → Prop := fun x H Q => ∃ a dx fs, x = .ref a ∧ H a = some (.ins C dx fs) ∧ sp [x] H Q E
theorem un_invO (c : Met X.prog X.w X.K X.mg X.base C "__invert__" k sp) (hr : Room j X.A) (hk : k ≤ j) (hx : Passes (L2.CX X.prog X.w) X E) : UnR X (unaryOp .Invert) (rOwnU C sp E) := by
  intro pins s σ H x v Q I rx h
  obtain ⟨a, dx, fs, rfl, ha, q⟩ := h
  obtain ⟨f, hm, F⟩ := c.ex
  cases (show v = Value.ref a from rx)
  obtain ⟨mA, O, _⟩ := ins_get I.hok ha
  obtain ⟨od, J, _⟩ := O.look
  obtain ⟨m, hF⟩ := I.fr
  exact PySem.W.ksp_inv hF I.ok.mod.kin J hm.at_ hm.fn (wpAny_call (run_fnR (us := [.ref a]) (vs := [.ref a]) F (hr.mono hk) hx I (.cons rfl .nil) q))
/-- len(x) by the class's own def -/
def rOwnL (C : Addr) (sp : Sp) (E : XK) : List V → Hp → VK → Prop := fun xs H Q => ∃ a dx fs, xs = [.ref a] ∧ H a = some (.ins C dx fs) ∧ sp [.ref a] H (fun v H' => ∃ n : Int, v = .int n ∧ 0 ≤ n ∧ n < 2 ^ 63 ∧ Q v H') E
theorem call_lenO (c : Met X.prog X.w X.K X.mg X.base C "__len__" k sp) (hr : Room j X.A) (hk : k + 1 ≤ j) (hx : Passes (L2.CX X.prog X.w) X E) : CallR X (.builtin "len") (rOwnL C sp E) := by
  intro pins s σ H xs us Q I r h
  obtain ⟨a, dx, fs, rfl, ha, q⟩ := h
  obtain ⟨f, hm, F⟩ := c.ex
  obtain ⟨u, rfl, ru⟩ := r.one
  cases (show u = Value.ref a from ru)
  obtain ⟨mA, O, _⟩ := ins_get I.hok ha
  obtain ⟨od, J, _⟩ := O.look
  obtain ⟨m, hF⟩ := I.fr
  have hr2 : Room k X.A.in1 := (show Room (k + 1) X.A from hr.mono hk).in1
  refine PySem.W.len_K hF I.ok.mod.kin J hm.at_ hm.fn (wpAny_mono (wpAny_call (SlX.run_at (us := [.ref a]) (ws := [.ref a]) F hr2 I.env0.in1 hx I (.cons rfl .nil) q)) (fun w s' z => ?_) fun _ _ z => z)
  obtain ⟨z', H', I', rz, n, en, n0, n1, qz⟩ := z
  subst en
  obtain ⟨t, e⟩ := (show ∃ t, w = Value.int n t from rz)
  subst e
  exact ⟨⟨n0, n1⟩, .int n, H', I'.tok _, ⟨_, rfl⟩, qz⟩
theorem CallR_or {g : Value} {r r' : List V → Hp → VK → Prop} (h : CallR X g r) (h' : CallR X g r') : CallR X g (fun xs H Q => r xs H Q ∨ r' xs H Q) := h.or h'
theorem OpR_or {g : Value → Value → Sem Value} {r r' : R2} (h : OpR X g r) (h' : OpR X g r') : OpR X g (fun x y H Q => r x y H Q ∨ r' x y H Q) := by
  intro pins s σ H x y v u Q I rx ry q
  rcases q with q | q
  · exact h pins s σ H x y v u Q I rx ry q
  · exact h' pins s σ H x y v u Q I rx ry q
theorem UnR_or {g : Value → Sem Value} {r r' : V → Hp → VK → Prop} (h : UnR X g r) (h' : UnR X g r') : UnR X g (fun x H Q => r x H Q ∨ r' x H Q) := by
  intro pins s σ H x v Q I rx q
  rcases q with q | q
  · exact h pins s σ H x v Q I rx q
  · exact h' pins s σ H x v Q I rx q
end
end TT

set_option Elab.async false
set_option linter.all false
set_option maxRecDepth 100000
set_option maxHeartbeats 4000000
namespace PySem
open Sem (wp)
open AutoSeq1 (wpAny_loadPart')
set_option maxHeartbeats 1000000 in
/-- enumerate(t), t a tuple: the two new cells -/
theorem tt_enum_new (t : Addr) (items : Array Value) :
    Meets (Builtin.«enumerate.__new__» ⟨[.type "enumerate", .ref t], []⟩) (fun _ R s => s.heap.IsTuple t items ∧
      R (.ok (.ret (.ref (s.heap.push { cls := .type "tuple_iterator", data := .fields #[.ref t, .int 0 0] }).objs.size)))
        { s with heap := ((s.heap.push { cls := .type "tuple_iterator", data := .fields #[.ref t, .int 0 0] }).push ({ cls := .type "enumerate", data := .fields #[.none, .bool false, .ref s.heap.objs.size, rawInt 0, .none, .none] } : Obj)) }) :=
  .of_wp fun prog w A R s h => by
    obtain ⟨hp, g, d, tk, os⟩ := s
    obtain ⟨hl, h⟩ := h
    have hsub := sub_enumerate
    have hT : Heap.IsTuple (Shared.heap ⟨hp, g, d, tk, os⟩) t items := hl
    wp_walk
    refine wpAny_stack_any fun st => wpAny_pure ?_
    split
    · rename_i c _ _ _ _ _
      cases (c == Value.type "enumerate") <;>
        (wp_walk using wpAny_pyIter_tuple hT; exact ⟨_, rfl, h⟩)
    · wp_walk using wpAny_pyIter_tuple hT
      exact ⟨_, rfl, h⟩
theorem tt_enum_tuple {prog : Program} {w : World} {A : Around} {E : Value → Shared → Prop} {s : Shared} {t : Addr} {items : Array Value} {Q : Value → Shared → Prop} (ht : s.heap.IsTuple t items)
    (h : ∀ h', IsEnum h' (s.heap.objs.size + 1) s.heap.objs.size 0 .none → h'.IsTupleIter s.heap.objs.size t 0 →
      (∀ b o, s.heap.get? b = some o → h'.get? b = some o) → Q (.ref (s.heap.objs.size + 1)) { s with heap := h' }) :
    wpAny (model prog w) A (call (.type "enumerate") [.ref t]) Q E s := by
  refine callType_new F.called_enumerate (by decide) (F.typeCall_enumerate_1 _) (F.newCall_enumerate_1 _) (fun obj => F.args_object_init_2 obj _) F.entry_enumerate_new (tt_enum_new t items) ⟨ht, ?_⟩
  generalize ho : ({ cls := .type "tuple_iterator", data := .fields #[.ref t, .int 0 0] } : Obj) = o
  have hz : (s.heap.push o).objs.size = s.heap.objs.size + 1 := Heap.size_push ..
  have fr : o.isFreed = false := by subst ho; rfl
  show _ ∧ _
  rw [hz]
  generalize hn : ({ cls := .type "enumerate", data := .fields #[.none, .bool false, .ref s.heap.objs.size, rawInt 0, .none, .none] } : Obj) = en
  have fe : en.isFreed = false := by subst hn; rfl
  have z := Heap.get?_push_size (s.heap.push o) fe
  rw [hz] at z
  have he : IsEnum ((s.heap.push o).push en) (s.heap.objs.size + 1) s.heap.objs.size 0 .none := by
    subst hn
    exact z
  refine ⟨⟨_, he, rfl⟩, h _ he ⟨o, Heap.get?_push_of_some _ (Heap.get?_push_size _ fr), by subst ho; rfl, by subst ho; rfl⟩ fun b ob x => ?_⟩
  exact Heap.get?_push_of_some _ (Heap.get?_push_of_some _ x)
end PySem
namespace TT
open PySem PySem.Spec PyProof.Rows L2

/-! ### enumerate of a tuple -/
def Iet (K : PySem.W.Frag) (a : Addr) : It where
  go := fun i H => ∃ (xs : List V) (x : V), SqT K H a xs ∧ xs[i]? = some x
  yld := fun i H v H' => ∃ q x, v = .ref q ∧ H q = none ∧ H' = upd H q (.tup [.int (i : Nat), x]) ∧ ∀ xs, SqT K H a xs → xs[i]? = some x
  stop := fun i H => ∃ xs : List V, SqT K H a xs ∧ xs.length ≤ i
theorem turn_et {P : Program} {w : World} {K : PySem.W.Frag} {elts : List Expr} {kk : Nat} {tpos : Pos} (a e it : Addr) (hai : a ≠ it) :
    Turn P w K (.Tuple elts kk tpos) (Iet K a) [e, it] e (fun i h => (∃ old, IsEnum h e it ((i : Nat) : Int) old) ∧ h.IsTupleIter it a i ∧ e ≠ it ∧ e ≠ a) where
  mem := by simp
  obj := fun i h st b hb => by
    obtain ⟨⟨old, he⟩, ⟨o, ho, hc, hd⟩, _⟩ := st
    rcases (show b = e ∨ b = it by simpa using hb) with rfl | rfl
    · exact ⟨_, he, fun v q => nomatch q⟩
    · exact ⟨o, ho, fun v q => by rw [hd] at q; cases q⟩
  keep := fun i h h' st k => by
    obtain ⟨⟨old, he⟩, hi, hne⟩ := st
    exact ⟨⟨old, k e (by simp) _ he⟩, hi.at fun o q => k it (by simp) o q, hne⟩
  item := by
    intro X hP hw hK hc i pins s σ H E I hf st hg
    subst hP hw hK
    obtain ⟨⟨old, he⟩, hit, hne, hea⟩ := st
    obtain ⟨xs, x, hq, hx⟩ := hg
    obtain ⟨its, rv, p, hz⟩ := I.tuple hq
    obtain ⟨u, hu, ru⟩ := rv.get hx
    have le : e < s.heap.objs.size := Heap.lt_size he
    have li : it < s.heap.objs.size := by obtain ⟨_, q, _⟩ := hit; exact Heap.lt_size q
    have hlt : i < its.toArray.size := by
      have := (List.getElem?_eq_some_iff.mp hu).1
      simpa using this
    have D := Draws.tuple (prog := X.prog) (w := X.w) (A := X.A.in1) (I.ok.hd hc) it a hai its.toArray
    refine wpAny_pyNext_enum_itemD D he ⟨hit, p⟩ hlt hne (by simp [hne, hea]) fun y h' tk hy ho st' hT hsz hk => ?_
    have ey : y = u := by
      have z : its.toArray[i]? = some u := by simpa using hu
      rw [z] at hy
      exact (Option.some.inj hy).symm
    subst ey
    refine ⟨_, rfl, wpAny_letOwnedTupleGo_enum (s := { s with heap := h', toks := tk + 1 }) ho fun h2 he' sb => ?_⟩
    have hT2 := (sb.2 _ (Nat.ne_of_gt le)).trans hT
    have new : ObjOk X.prog X.w (upd H s.heap.objs.size (.tup [.int (i : Nat), x])) h2 s.heap.objs.size (.tup [.int (i : Nat), x]) :=
      ⟨by show 2 ≤ sizeLine; decide, [.int i tk, y], .cons ⟨_, rfl⟩ (.cons ru .nil), ⟨_, hT2, rfl, _, rfl⟩⟩
    have I1 := I.turnedNew (t' := tk + 1) (ch := [e, it]) (h' := h2) (fun b ob hb q => (sb.2 b (fun z => hb (by simp [z]))).trans
      (hk b ob (fun z => hb (by simp [z])) (fun z => hb (by simp [z])) q)) hf (Nat.le_refl _) new
    refine ⟨.ref s.heap.objs.size, _, I1, rfl, ⟨_, x, rfl, I.hok.fresh (Nat.le_refl _), rfl, fun ys hy' => by rw [I.tuple_inj hy' hq]; exact hx⟩,
      ⟨⟨y, ?_⟩, st'.1.at fun o q => (sb.2 it (Ne.symm hne)).trans q, hne, hea⟩, fun b hb => ?_⟩
    · have e1 : ((i + 1 : Nat) : Int) = (i : Int) + 1 := by omega
      rw [e1]
      exact he'
    · have hb' : b < s.heap.objs.size := by
        rcases (show b = e ∨ b = it by simpa using hb) with rfl | rfl
        · exact le
        · exact li
      rw [upd_ne (Nat.ne_of_lt hb')]
      exact (hf b hb).1
  done := by
    intro X hP hw hK hc i pins s σ H E I hf st hg
    subst hP hw hK
    obtain ⟨⟨old, he⟩, hit, hne, hea⟩ := st
    obtain ⟨xs, hq, hx⟩ := hg
    obtain ⟨its, rv, p, hz⟩ := I.tuple hq
    obtain ⟨f0, f1, f2, f3, f4, f5⟩ := hf it (by simp)
    have hl := rv.length
    refine wpAny_bind (wpAny_attempt (wpAny_callSpecial?_slot (name := Str.ofString "__next__") ⟨_, he, rfl⟩ F.slot_enumerate_next
      (wpAny_call_entry F.slot_enumerate_next ⟨_, he, rfl⟩ F.entry_enumerate_next ?_ (F.args_enumerate_next_1 _))))
    show wpAny _ _ (field (.ref e) 2 >>= _) _ _ _
    refine wpAny_bind (wpAny_field he rfl (x := .ref it) rfl ?_)
    refine wpAny_bind (wpAny_nextOf_tuple_end (A := X.A.in1) (I.ok.hd hc) hit p (by simp; omega) fun h' x he' hx' => ?_)
    obtain ⟨o, ho, hcl⟩ := hx'
    refine wpAny_bind (wpAny_isInstance (T := "StopIteration") (b := true) ⟨o, ho, hcl⟩ isSubtype_stop ?_)
    exact wpAny_pure ⟨rfl, I.turned (t' := s.toks) (fun b o hb q => he' b o hb q) f0 f1 f3 f4 f5⟩
  self := fun A i s Q E st h => let ⟨⟨_, he⟩, _⟩ := st; wpAny_pyIter_enum he h
def iEt (K : PySem.W.Frag) (ta : TA) : TI := fun σ H R => ta σ H fun vs H1 => ∃ a xs, vs = [.ref a] ∧ SqT K H1 a xs ∧ R (Iet K a) H1
theorem pi_enumT {X : Cx} {e : Expr} {ta : TA} {p pos tpos : Pos} {elts : List Expr} {kk : Nat} (hg : Gl X "enumerate") (hm : X.mg "enumerate" = none) (ha : PA X [e] ta) (hs : starEach [e] X.env = [(false, eval e X.env)] := by rfl) :
    PI X (.Tuple elts kk tpos) (.Call (.Name "enumerate" p) [e] [] pos) (iEt X.K ta) := by
  refine ⟨fun pins s σ H R I h => Call_ (ld_blt I hg hm boot_enumerate (PyProof.Rows.callWith_type1 (thn (ha.run pos pins s σ H _ I h) fun us s1 hh => ?_) hs rfl))⟩
  obtain ⟨vs, H1, I1, r1, a, xs, ex, hq, q⟩ := hh
  subst ex
  cases r1 with
  | cons r rr =>
    cases rr
    cases r
    obtain ⟨its, rv, p', hz⟩ := I1.tuple hq
    have la : a < s1.heap.objs.size := by obtain ⟨_, z, _⟩ := p'; exact Heap.lt_size z
    refine tt_enum_tuple p' fun h' he hit hk => wpAny_pyIter_enum he ?_
    have I2 : Inv X pins σ H1 { s1 with heap := h' } := I1.kept (t' := s1.toks) hk
    refine ⟨s1.heap.objs.size + 1, [s1.heap.objs.size + 1, s1.heap.objs.size], _, _, H1, rfl, I2, turn_et a (s1.heap.objs.size + 1) s1.heap.objs.size (Nat.ne_of_lt la),
      ⟨⟨.none, he⟩, hit, Nat.succ_ne_self _, (Nat.ne_of_gt (Nat.lt_succ_of_lt la))⟩, fun b hb => ?_, q⟩
    have hle : s1.heap.objs.size ≤ b := by
      rcases (show b = s1.heap.objs.size + 1 ∨ b = s1.heap.objs.size by simpa using hb) with rfl | rfl
      · exact Nat.le_add_right _ _
      · exact Nat.le_refl _
    exact I1.fpOk hle (I1.hok.fresh hle)
theorem walk_et {K : PySem.W.Frag} {a : Addr} {xs : List V} : Walk (Iet K a) xs.length (fun H => SqT K H a xs) (YPair (fun i => some (.int (i : Nat))) (fun i => xs[i]?)) where
  goes := fun i H hi hq => ⟨xs, xs[i], hq, by simp [hi]⟩
  stops := fun H hq => ⟨xs, hq, Nat.le_refl _⟩
  yields := fun i H v H' hi hq ⟨q, x, e1, e2, e3, e4⟩ => ⟨q, _, x, e1, e2, e3, rfl, e4 xs hq⟩

/-! ### unions -/
def rAddU (K : PySem.W.Frag) : R2 := fun x y H Q => (rI0 fun i j => .int (i + j)) x y H Q ∨ rCat x y H Q ∨ rCatA K x y H Q
def rMulU (K : PySem.W.Frag) : R2 := fun x y H Q => rI CMul (fun i j => .int (i * j)) x y H Q ∨ rRep x y H Q
def rEqU (K : PySem.W.Frag) : R2 := fun x y H Q => rEq x y H Q ∨ rEqD K x y H Q
def rNeU (K : PySem.W.Frag) : R2 := fun x y H Q => rNe x y H Q ∨ rNeD K x y H Q
def rLenU (K : PySem.W.Frag) : List V → Hp → VK → Prop := fun xs H Q => ∃ p ys, xs = [.ref p] ∧ (SqL K H p ys ∨ SqT K H p ys) ∧ Q (.int ys.length) H
def rSlU (K : PySem.W.Frag) : V → Option Int → Option Int → Hp → VK → Prop := fun x lo hi H Q => rSlL K x lo hi H Q ∨ rSlA K x lo hi H Q
section
variable {X : Cx}
theorem op_addU : OpR X (binaryOp .Add) (rAddU X.K) := OpR_or op_add (OpR_or op_cat op_catA)
theorem op_mulU : OpR X (binaryOp .Mult) (rMulU X.K) := OpR_or op_mul op_rep
theorem op_eqU (hu : X.A.units + 64 < cLine) : OpR X (compareOp .Eq) (rEqU X.K) := OpR_or op_eq (op_eqD hu)
theorem op_neU (hu : X.A.units + 64 < cLine) : OpR X (compareOp .NotEq) (rNeU X.K) := OpR_or op_ne (op_neD hu)
theorem call_lenU : CallR X (.builtin "len") (rLenU X.K) := call_len_seq
theorem sl_U : SlR X (rSlU X.K) := sl_list.or sl_tupA
variable {K : PySem.W.Frag}
theorem opK {g : Value → Value → Sem Value} {r : PySem.W.Frag → R2} (h : OpR X g (r X.K)) (hK : X.K = K) : OpR X g (r K) := by subst hK; exact h
theorem k_add (hK : X.K = K) : OpR X (binaryOp .Add) (rAddU K) := opK (r := rAddU) op_addU hK
theorem k_mul (hK : X.K = K) : OpR X (binaryOp .Mult) (rMulU K) := opK (r := rMulU) op_mulU hK
theorem k_eq (hK : X.K = K) (hu : X.A.units + 64 < cLine) : OpR X (compareOp .Eq) (rEqU K) := opK (r := rEqU) (op_eqU hu) hK
theorem k_ne (hK : X.K = K) (hu : X.A.units + 64 < cLine) : OpR X (compareOp .NotEq) (rNeU K) := opK (r := rNeU) (op_neU hu) hK
theorem k_in (hK : X.K = K) : OpR X (compareOp .In) (rIn K false) := opK (r := fun K => rIn K false) op_in_seq hK
theorem k_notin (hK : X.K = K) : OpR X (compareOp .NotIn) (rIn K true) := opK (r := fun K => rIn K true) op_notIn_seq hK
theorem k_len (hK : X.K = K) : CallR X (.builtin "len") (rLenU K) := by subst hK; exact call_lenU
theorem k_isi (hK : X.K = K) : CallR X (.builtin "isinstance") (rIsi K) := by subst hK; exact call_isi
theorem k_sum (hK : X.K = K) (hc : X.calm = true) : CallR X (.builtin "sum") (rSum K) := by subst hK; exact cr_sum hc
theorem k_all (hK : X.K = K) (hc : X.calm = true) : CallR X (.builtin "all") (rAll K) := by subst hK; exact cr_all hc
theorem k_any (hK : X.K = K) (hc : X.calm = true) : CallR X (.builtin "any") (rAny K) := by subst hK; exact cr_any hc
theorem k_ix (hK : X.K = K) : IxR X (rIx K) := by subst hK; exact ix_seq
theorem k_sl (hK : X.K = K) : SlR X (rSlU K) := by subst hK; exact sl_U
theorem k_index (hK : X.K = K) : MtR X "list.index" (rIndex K) := by subst hK; exact mt_index
section
variable {e : Expr} {te : TE} {f : Str} {pos pos' : Pos} {o value : Expr} {ta tv : TE} {tg l : Expr} {ts : TA} {es : List Expr}
theorem k_fld (hK : X.K = K) (he : PE X e te) (hb : attributeBase e f X.env (eval e X.env) = eval e X.env := by rfl) : PE X (.Attribute e f pos) (tFld K te f) := by subst hK; exact pe_fld he hb
theorem k_put (hK : X.K = K) (ha : PE X o ta) (hv : PE X value tv) (hs : swapsWith value (some (.Attribute o f pos')) pos.line X.env = pure false := by rfl) : PS X (.Assign [.Attribute o f pos'] value pos) (sFld K ta tv f) := by subst hK; exact ps_fld ha hv hs
def tTr (K : PySem.W.Frag) (ta : TE) : TT := fun σ H Q => ta σ H fun x H' => ∃ k, TruV K x H' k ∧ Q k H'
theorem k_tr (hK : X.K = K) (ha : PE X e te) (he : ∀ whole, isTrue e X.env whole = (do let v ← whole; standAt e.pos; holding [v] (truthy v)) := by intro _; rfl) : PT X e (tTr K te) := by subst hK; exact pt_truth ha he
theorem k_not (hK : X.K = K) (ha : PE X e te) : PE X (.UnaryOp .Not e pos) (tNotT K te) := by subst hK; exact pe_notT ha
theorem k_iL (hK : X.K = K) (hl : PE X l te) : PI X tg l (iList K te) := by subst hK; exact pi_list hl
theorem k_iT (hK : X.K = K) (hl : PE X l te) : PI X tg l (iTup K te) := by subst hK; exact pi_tup hl
theorem k_iE {elts : List Expr} {kk : Nat} {p tpos : Pos} (hK : X.K = K) (hg : Gl X "enumerate") (hm : X.mg "enumerate" = none) (ha : PA X [e] ts) (hs : starEach [e] X.env = [(false, eval e X.env)] := by rfl) : PI X (.Tuple elts kk tpos) (.Call (.Name "enumerate" p) [e] [] pos) (iEnum K ts) := by subst hK; exact pi_enum hg hm ha hs
theorem k_iEt {elts : List Expr} {kk : Nat} {p tpos : Pos} (hK : X.K = K) (hg : Gl X "enumerate") (hm : X.mg "enumerate" = none) (ha : PA X [e] ts) (hs : starEach [e] X.env = [(false, eval e X.env)] := by rfl) : PI X (.Tuple elts kk tpos) (.Call (.Name "enumerate" p) [e] [] pos) (iEt K ts) := by subst hK; exact pi_enumT hg hm ha hs
theorem k_gtup {k : Nat} {t : TGs} {n : Nat} (hK : X.K = K) (hc : X.calm = true) (h : PGs X es t) (hn : (assignEach es X.env).length = n := by rfl) (hst : (assignEach es X.env).findIdx? (·.1) = none := by rfl) : PG X (.Tuple es k pos) (gTup K n t) := by subst hK; exact pg_tup hc h hn hst
theorem k_bm0 {T : String} {name : Str} {id : String} {r : V → List V → Hp → VK → Prop} {apos cpos : Pos} (hK : X.K = K) (pa : PlainAttrs T) (slot : Slot T name id) (hty : typeOf (.builtin id) = pure (.type "method_descriptor")) (hm : MtR X id r) (ho : PE X o te)
    (h1 : attributeBase o name X.env (eval o X.env) = eval o X.env := by rfl) (h2 : (apos.endLine == cpos.line) = true := by rfl) : PE X (.Call (.Attribute o name apos) [] [] cpos) (tBM0 K T r te) := by
  subst hK
  exact pe_bm0 pa slot hty hm ho h1 h2
theorem k_bm {T : String} {name : Str} {id : String} {r : V → List V → Hp → VK → Prop} {apos cpos : Pos} {e1 : Expr} (hK : X.K = K) (pa : PlainAttrs T) (slot : Slot T name id) (hty : typeOf (.builtin id) = pure (.type "method_descriptor")) (hm : MtR X id r) (ho : PE X o te) (ha : PA X (e1 :: es) ts)
    (h1 : attributeBase o name X.env (eval o X.env) = eval o X.env := by rfl) (h2 : ((backTo cpos (starEach (e1 :: es) X.env)).all (fun x => !x.1) && (backToKw cpos (keywordEach [] X.env)).all (fun x => x.1.isSome) && decide ((e1 :: es).length + ([] : List Keyword).length + (if ([] : List Keyword).isEmpty then 0 else 1) < 30)) = true := by rfl)
    (h3 : (apos.endLine == cpos.line) = true := by rfl) (h4 : starEach (e1 :: es) X.env = (false, eval e1 X.env) :: starEach es X.env := by rfl) (h5 : (backTo cpos (starEach es X.env)).any (·.1) = false := by rfl) : PE X (.Call (.Attribute o name apos) (e1 :: es) [] cpos) (tBM K T r te ts) := by
  subst hK
  exact pe_bm pa slot hty hm ho ha h1 h2 h3 h4 h5
end
theorem pe_gv {x : Str} {pos : Pos} {v : V} (hg : Gl X x) (h : ∃ u, X.mg x = some u ∧ RelV v u) (hd : (x == ("__debug__" : Str)) = false := by decide) : PE X (.Name x pos) (tC v) := by
  obtain ⟨u, h1, h2⟩ := h
  exact pe_glob hg h1 h2 hd
end
end TT

set_option Elab.async false
set_option linter.all false
set_option maxRecDepth 100000
set_option maxHeartbeats 4000000
namespace TT
open PySem PySem.Spec PyProof.Rows L2
/-! ### readings, step by step -/
def rNewL (xs : List V) (H : Hp) (Q : VK) : Prop := xs.length ≤ sizeLine ∧ ∀ p, H p = none → Q (.ref p) (upd H p (.lst xs))
def rNewT (xs : List V) (H : Hp) (Q : VK) : Prop := xs.length ≤ sizeLine ∧ ∀ p, H p = none → Q (.ref p) (upd H p (.tup xs))
def rFld (K : PySem.W.Frag) (f : Str) (x : V) (H : Hp) (Q : VK) : Prop := ∃ a C dx fs v, x = .ref a ∧ H a = some (.ins C dx fs) ∧ Cls K C ∧ NoAttr K C f ∧ fs.lookup f = some v ∧ Q v H
def rPut (K : PySem.W.Frag) (f : Str) (x y : V) (H : Hp) (R : Hp → Prop) : Prop := ∃ a C dx fs, x = .ref a ∧ H a = some (.ins C dx fs) ∧ Cls K C ∧ NoAttr K C f ∧ fs.length < 1000 ∧ R (upd H a (.ins C dx (putF f y fs)))
def rInt1 : List V → Hp → VK → Prop := fun xs H Q => (∃ i, xs = [.int i] ∧ Q (.int i) H) ∨ ∃ k, xs = [.bl k] ∧ Q (.int (if k then 1 else 0)) H
theorem call_int1U {X : Cx} : CallR X (.type "int") rInt1 := call_int1
def rListU (K : PySem.W.Frag) : List V → Hp → VK → Prop := fun xs H Q => ∃ p ys, xs = [.ref p] ∧ (SqL K H p ys ∨ SqT K H p ys) ∧ ∀ l, H l = none → Q (.ref l) (upd H l (.lst ys))
theorem k_list {X : Cx} {K : PySem.W.Frag} (hK : X.K = K) : CallR X (.type "list") (rListU K) := by subst hK; exact call_list_of
def rTupU (K : PySem.W.Frag) : List V → Hp → VK → Prop := fun xs H Q => ∃ p ys, xs = [.ref p] ∧ ((SqL K H p ys ∧ ∀ l, H l = none → Q (.ref l) (upd H l (.tup ys))) ∨ (SqT K H p ys ∧ Q (.ref p) H))
theorem k_tuple {X : Cx} {K : PySem.W.Frag} (hK : X.K = K) : CallR X (.type "tuple") (rTupU K) := by subst hK; exact call_tuple_of
section
variable {K : PySem.W.Frag} {σ : L2.St} {H H1 : Hp} {Q : VK} {QA : List V → Hp → Prop} {QB : Bool → Hp → Prop} {D : Ends} {t u : TS} {ta tb tc te : TE} {ts : TA} {tt : TT} {i : Nat} {v x y : V} {a p b : Addr} {xs ys : List V} {m n : Int}
theorem g_seq (h : t { D with nx := u D } σ H) : tSeq t u D σ H := h
theorem g_next (h : D.nx σ H) : tNext D σ H := h
theorem g_set (h : te σ H fun z H1 => D.nx (σ.set i (some z)) H1) : tAsg te (gName i) D σ H := h
theorem g_asg {g : TG} (h : te σ H fun z H1 => g z σ H1 D.nx) : tAsg te g D σ H := h
theorem g_sub {to ti : TE} {r : TSet} {R : L2.St → Hp → Prop} (h : to σ H fun o H1 => ti σ H1 fun j H2 => r o j v H2 fun H3 => R σ H3) : gSub to ti r v σ H R := h
theorem g_aug {ti : TIp} (h : σ[i]? = some (some x)) (q : te σ H fun y H1 => ti x y H1 fun z H2 => D.nx (σ.set i (some z)) H2) : tAug i te ti D σ H := ⟨x, h, q⟩
theorem g_par {j : Nat} (h : ts σ H fun vs H1 => ∃ v w, vs = [v, w] ∧ D.nx ((σ.set i (some v)).set j (some w)) H1) : tPar i j ts D σ H := h
theorem a_two {w : V} {R : V → V → Prop} (h : R v w) : ∃ v' w', [v, w] = [v', w'] ∧ R v' w' := ⟨v, w, rfl, h⟩
theorem g_drop (h : te σ H fun _ H1 => D.nx σ H1) : tDrop te D σ H := h
theorem g_ret (h : te σ H D.rt) : tRet te D σ H := h
theorem g_var (h : σ[i]? = some (some v)) (q : Q v H) : tVar i σ H Q := ⟨v, h, q⟩
theorem g_c (q : Q v H) : tC v σ H Q := q
theorem g_op {r : R2} (h : ta σ H fun x H1 => tb σ H1 fun y H2 => r x y H2 Q) : tOp r ta tb σ H Q := h
theorem g_un {r : V → Hp → VK → Prop} (h : ta σ H fun x H1 => r x H1 Q) : tUn r ta σ H Q := h
theorem g_nil (q : QA [] H) : tNil σ H QA := q
theorem g_cons (h : ta σ H fun x H1 => ts σ H1 fun xs H2 => QA (x :: xs) H2) : tCons ta ts σ H QA := h
theorem g_cb {r : List V → Hp → VK → Prop} (h : ts σ H fun vs H1 => r vs H1 Q) : tCB r ts σ H Q := h
theorem g_if {c : TT} (h : c σ H fun b H1 => if b = true then t D σ H1 else u D σ H1) : tIfS c t u D σ H := h
theorem g_ife {c : TT} (h : c σ H fun b H1 => if b = true then ta σ H1 Q else tb σ H1 Q) : tIf c ta tb σ H Q := h
theorem g_test (h : te σ H fun x H' => ∃ k, x = .bl k ∧ QB k H') : tTest te σ H QB := h
theorem a_bl {c : Bool} {R : Bool → Prop} (h : R c) : ∃ k, V.bl c = .bl k ∧ R k := ⟨c, rfl, h⟩
theorem g_tr (h : ta σ H fun x H1 => ∃ k, TruV K x H1 k ∧ QB k H1) : tTr K ta σ H QB := h
theorem g_not {c : TT} (h : c σ H fun b H1 => QB (!b) H1) : tNot c σ H QB := h
theorem g_or {c d : TT} (h : c σ H fun b H1 => if b = true then QB true H1 else d σ H1 QB) : tOr c d σ H QB := h
theorem g_and {c d : TT} (h : c σ H fun b H1 => if b = true then d σ H1 QB else QB false H1) : tAnd c d σ H QB := h
theorem g_F {sp : Sp} {E : XK} (h : ts σ H fun vs H1 => sp vs H1 Q E) : tF sp E ts σ H Q := h
theorem g_S {C : Addr} {sp : Sp} {E : XK} (h : te σ H fun x H1 => x = .ref C ∧ ts σ H1 fun vs H2 => sp vs H2 Q E) : tS C sp E te ts σ H Q := h
theorem g_lst (h : ts σ H fun xs H1 => rNewL xs H1 Q) : tLst ts σ H Q := h
theorem g_tup (h : ts σ H fun xs H1 => rNewT xs H1 Q) : tTup ts σ H Q := h
theorem g_fld {f : Str} (h : ta σ H fun x H1 => rFld K f x H1 Q) : tFld K ta f σ H Q := h
theorem g_sfld {f : Str} (h : tb σ H fun y H1 => ta σ H1 fun x H2 => rPut K f x y H2 fun H3 => D.nx σ H3) : sFld K ta tb f D σ H := h
theorem g_methR {C : Addr} {f : Str} {sp : Sp} {E : XK} (h : ta σ H fun x H1 => ∃ a dx fs, x = .ref a ∧ H1 a = some (.ins C dx fs) ∧ fs.lookup f = none ∧ ts σ H1 fun vs H2 => sp (x :: vs) H2 Q E) : tMethR C f sp E ta ts σ H Q := h
theorem g_andV (h : ta σ H fun x H1 => ∃ c, x = .bl c ∧ if c = true then tb σ H1 Q else Q (.bl false) H1) : tAndV ta tb σ H Q := h
theorem g_orV (h : ta σ H fun x H1 => ∃ c, x = .bl c ∧ if c = true then Q (.bl true) H1 else tb σ H1 Q) : tOrV ta tb σ H Q := h
theorem g_notT (h : ta σ H fun x H1 => ∃ k, TruV K x H1 k ∧ Q (.bl (!k)) H1) : tNotT K ta σ H Q := h
theorem g_chain {r r' : R2} (h : ta σ H fun x H1 => tb σ H1 fun y H2 => r x y H2 fun z H3 => ∃ k, z = .bl k ∧ (if k = true then tc σ H3 fun w' H4 => r' y w' H4 Q else Q (.bl false) H3)) : tChain r r' ta tb tc σ H Q := h
theorem g_bm {T : String} {r : V → List V → Hp → VK → Prop} (h : ta σ H fun x H1 => tyV K T x H1 ∧ ts σ H1 fun xs H2 => r x xs H2 Q) : tBM K T r ta ts σ H Q := h
theorem g_bm0 {T : String} {r : V → List V → Hp → VK → Prop} (h : ta σ H fun x H1 => tyV K T x H1 ∧ r x [] H1 Q) : tBM0 K T r ta σ H Q := h
theorem g_sl {r : V → Option Int → Option Int → Hp → VK → Prop} {tl th : TO} (h : te σ H fun x H1 => tl σ H1 fun l H2 => th σ H2 fun u H3 => r x l u H3 Q) : tSl r te tl th σ H Q := h
theorem g_nop {R : Option Int → Hp → Prop} (q : R none H) : tNoPart σ H R := q
theorem g_part {R : Option Int → Hp → Prop} (h : te σ H fun x H1 => ∃ i, x = .int i ∧ R (some i) H1) : tPart te σ H R := h
theorem a_int {R : Int → Prop} (h : R n) : ∃ i, V.int n = .int i ∧ R i := ⟨n, rfl, h⟩
/-! values that have come -/
theorem a_addI (q : Q (.int (m + n)) H) : rAddU K (.int m) (.int n) H Q := .inl ⟨_, _, rfl, rfl, q⟩
theorem a_mulI (hc : CMul m n) (q : Q (.int (m * n)) H) : rMulU K (.int m) (.int n) H Q := .inl ⟨_, _, rfl, rfl, hc, q⟩
theorem a_I0 {g : Int → Int → V} (q : Q (g m n) H) : rI0 g (.int m) (.int n) H Q := ⟨_, _, rfl, rfl, q⟩
theorem a_I {C : Int → Int → Prop} {g : Int → Int → V} (hc : C m n) (q : Q (g m n) H) : rI C g (.int m) (.int n) H Q := ⟨_, _, rfl, rfl, hc, q⟩
theorem a_U {g : Int → V} (q : Q (g m) H) : rU g (.int m) H Q := ⟨_, rfl, q⟩
theorem a_ipI {f : Int → Int → Int} (q : Q (.int (f m n)) H) : ipI f (.int m) (.int n) H Q := ⟨_, _, rfl, rfl, q⟩
theorem a_eq (h : scal x y = true) (q : Q (.bl (decide (x = y))) H) : rEqU K x y H Q := .inl ⟨h, q⟩
theorem a_ne (h : scal x y = true) (q : Q (.bl (!decide (x = y))) H) : rNeU K x y H Q := .inl ⟨h, q⟩
theorem a_eqD {d e : PyData} (hd : Dp K H x d) (he : Dp K H y e) (sd : SeqAt.shaped d = true) (se : SeqAt.shaped e = true) (q : Q (.bl (PyData.eqv d e)) H) : rEqU K x y H Q := .inr ⟨d, e, hd, he, sd, se, q⟩
theorem a_neD {d e : PyData} (hd : Dp K H x d) (he : Dp K H y e) (sd : SeqAt.shaped d = true) (se : SeqAt.shaped e = true) (q : Q (.bl (!PyData.eqv d e)) H) : rNeU K x y H Q := .inr ⟨d, e, hd, he, sd, se, q⟩
theorem a_lenL (h : SqL K H p ys) (q : Q (.int ys.length) H) : rLenU K [.ref p] H Q := ⟨p, ys, rfl, .inl h, q⟩
theorem a_lenT (h : SqT K H p ys) (q : Q (.int ys.length) H) : rLenU K [.ref p] H Q := ⟨p, ys, rfl, .inr h, q⟩
theorem a_ixL (h : SqL K H p xs) (ha : atI xs n = some v) (q : Q v H) : rIx K (.ref p) (.int n) H Q := .inl ⟨p, xs, n, v, rfl, rfl, h, ha, q⟩
theorem a_ixT (h : SqT K H p xs) (ha : atI xs n = some v) (q : Q v H) : rIx K (.ref p) (.int n) H Q := .inr (.inl ⟨p, xs, n, v, rfl, rfl, h, ha, q⟩)
theorem a_setL {R : Hp → Prop} {j : Nat} (h : H p = some (.lst xs)) (ha : ixN xs.length n = some j) (q : R (upd H p (.lst (xs.set j v)))) : rSetL (.ref p) (.int n) v H R := ⟨p, xs, n, j, rfl, rfl, h, ha, q⟩
theorem a_newL (hl : xs.length ≤ 100000) (h : ∀ p H2, H p = none → Same H H2 → H2 p = some (.lst xs) → Q (.ref p) H2) : rNewL xs H Q := ⟨Nat.le_trans hl (by decide), fun p hp => h p _ hp (same_new hp) upd_same⟩
theorem a_newT (hl : xs.length ≤ 100000) (h : ∀ p H2, H p = none → Same H H2 → H2 p = some (.tup xs) → Q (.ref p) H2) : rNewT xs H Q := ⟨Nat.le_trans hl (by decide), fun p hp => h p _ hp (same_new hp) upd_same⟩
theorem a_fld {f : Str} {C dx : Addr} {fs : List (Str × V)} (h : H a = some (.ins C dx fs)) (c : Cls K C) (n : NoAttr K C f) (l : fs.lookup f = some v) (q : Q v H) : rFld K f (.ref a) H Q := ⟨a, C, dx, fs, v, rfl, h, c, n, l, q⟩
theorem a_put {f : Str} {C dx : Addr} {fs : List (Str × V)} {R : Hp → Prop} (h : H a = some (.ins C dx fs)) (c : Cls K C) (n : NoAttr K C f) (l : fs.length < 1000) (q : ∀ H2, But a H H2 → H2 a = some (.ins C dx (putF f y fs)) → R H2) : rPut K f (.ref a) y H R := ⟨a, C, dx, fs, rfl, h, c, n, l, q _ But.upd upd_same⟩
theorem a_isi {c : V} {t u : Value} {b : Bool} (k : ClsV c u) (ty : TyX K H x t) (e : PySem.W.kitOne K t u = some b) (q : Q (.bl b) H) : rIsi K [x, c] H Q := ⟨x, c, t, u, b, rfl, k, ty, e, q⟩
theorem a_ite {c A B : Prop} [Decidable c] (h1 : c → A) (h2 : ¬ c → B) : if decide c = true then A else B := by
  by_cases h : c
  · rw [if_pos (decide_eq_true h)]; exact h1 h
  · rw [if_neg (by rw [decide_eq_false h]; exact Bool.false_ne_true)]; exact h2 h
theorem a_itn {c A B : Prop} [Decidable c] (h1 : ¬ c → A) (h2 : c → B) : if (!decide c) = true then A else B := by
  by_cases h : c
  · rw [if_neg (by rw [decide_eq_true h]; exact Bool.false_ne_true)]; exact h2 h
  · rw [if_pos (by rw [decide_eq_false h]; rfl)]; exact h1 h
theorem a_yes {c A B : Prop} [Decidable c] (hc : c) (h : A) : if decide c = true then A else B := by rw [if_pos (decide_eq_true hc)]; exact h
theorem a_no {c A B : Prop} [Decidable c] (hc : ¬ c) (h : B) : if decide c = true then A else B := by
  rw [if_neg (by rw [decide_eq_false hc]; exact Bool.false_ne_true)]; exact h
theorem a_T {A B : Prop} {c : Bool} (hc : c = true) (h : A) : if c = true then A else B := by rw [if_pos hc]; exact h
theorem a_F {A B : Prop} {c : Bool} (hc : c = false) (h : B) : if c = true then A else B := by rw [hc]; rw [if_neg Bool.false_ne_true]; exact h
theorem a_setB {R : Hp → Prop} {j : Nat} (h : H p = some (.lst xs)) (ha : ixN xs.length n = some j) (q : ∀ H2, But p H H2 → H2 p = some (.lst (xs.set j v)) → R H2) : rSetL (.ref p) (.int n) v H R := a_setL h ha (q _ But.upd upd_same)
theorem a_int1 (q : Q (.int n) H) : rInt1 [.int n] H Q := .inl ⟨n, rfl, q⟩
theorem a_list {L : List V} (h : SqL K H p L ∨ SqT K H p L) (q : ∀ l H2, H l = none → Same H H2 → H2 l = some (.lst L) → Q (.ref l) H2) : rListU K [.ref p] H Q := ⟨p, L, rfl, h, fun l hl => q l _ hl (same_new hl) upd_same⟩
theorem a_tupL {L : List V} (h : SqL K H p L) (q : ∀ l H2, H l = none → Same H H2 → H2 l = some (.tup L) → Q (.ref l) H2) : rTupU K [.ref p] H Q := ⟨p, L, rfl, .inl ⟨h, fun l hl => q l _ hl (same_new hl) upd_same⟩⟩
theorem a_tupT {L : List V} (h : SqT K H p L) (q : Q (.ref p) H) : rTupU K [.ref p] H Q := ⟨p, L, rfl, .inr ⟨h, q⟩⟩
/-- tuple(x), x a list or a tuple: some tuple of the same items -/
theorem a_tup {L : List V} (h : SqL K H p L ∨ SqT K H p L) (q : ∀ l H2, Same H H2 → SqT K H2 l L → Q (.ref l) H2) : rTupU K [.ref p] H Q := by
  rcases h with h | h
  · exact a_tupL h fun l H2 _ s e => q l H2 s (SqT.of e)
  · exact a_tupT h (q p H (Same.refl H) h)
theorem a_app {L : List V} {z : V} (h : H p = some (.lst L)) (hl : L.length < sizeLine) (q : ∀ H2, But p H H2 → H2 p = some (.lst (L ++ [z])) → Q .non H2) : rAppend (.ref p) [z] H Q := ⟨p, L, z, rfl, rfl, h, hl, q _ But.upd upd_same⟩
theorem a_ty {L : List V} {R : Prop} (h : H p = some (.lst L)) (q : R) : tyV K "list" (.ref p) H ∧ R := ⟨Or.inl ⟨rfl, _, SqL.of h⟩, q⟩
theorem atI_of {α : Type} {l : List α} {j : Nat} {z : α} {k : Int} (e : k = (j : Int)) (h : l[j]? = some z) : atI l k = some z := by rw [e]; exact atI_nat h
theorem sz {k : Nat} (h : k ≤ 100000) : k ≤ sizeLine := Nat.le_trans h (by decide)
theorem szl {k : Nat} (h : k < 100000) : k < sizeLine := Nat.lt_of_lt_of_le h (by decide)
end
end TT
open TT L2 in
local macro_rules | `(tactic| walk_at "tt") => `(tactic| first
  | with_reducible refine g_seq ?_
  | with_reducible refine g_set ?_
  | with_reducible refine g_c ?_)

set_option Elab.async false
set_option linter.all false
set_option maxRecDepth 100000
set_option maxHeartbeats 4000000
namespace TT
open PySem PySem.Spec PyProof.Rows L2
/-! ### facts of classes as Bools -/
def ownB (K : PySem.W.Frag) (C : Addr) : Bool :=
  PySem.W.plainGet K C Str.empty && PySem.W.hasDictIn K C && PySem.W.plainOver K C && He.eqO (PySem.W.findIn K (.ref C) "__setattr__") (some (some (.builtin "object.__setattr__"))) &&
  He.eqO (PySem.W.findIn K (.ref C) "__class__") (some (some (.builtin "object.__class__"))) &&
  He.eqO (PySem.W.specialIn K (.builtin "object.__class__") "__get__") (some (some (.builtin "getset_descriptor.__get__"))) &&
  decide (PySem.W.takesIn K (.builtin "object.__class__") = some true) && decide (PySem.W.mroIn K C (.type "object") = some true) && PySem.W.selfFirst K C
theorem ownB_ok {K : PySem.W.Frag} {C : Addr} (h : ownB K C = true) : Own K C := by
  unfold ownB at h
  simp only [Bool.and_eq_true] at h
  obtain ⟨⟨⟨⟨⟨⟨⟨⟨h1, h2⟩, h3⟩, h4⟩, h5⟩, h6⟩, h7⟩, h8⟩, h9⟩ := h
  exact ⟨⟨h1, h2, h3, He.eqO_ok h4⟩, He.eqO_ok h5, He.eqO_ok h6, of_decide_eq_true h7, of_decide_eq_true h8, h9⟩
structure StaF (K : PySem.W.Frag) (C : Addr) (m : Str) (f : Addr) : Prop where
  rd : PySem.W.readsIn K C (.type "type") = true
  ga : PySem.W.specialIn K (.ref C) "__getattribute__" = some (some (.builtin "type.__getattribute__"))
  at_ : ∃ p, PySem.W.findCls K (.ref C) (.type "type") m = some (.get (.builtin "staticmethod.__get__") (.ref p) .none (.ref C)) ∧ ∃ rest, PySem.W.recIn K p "staticmethod" = some (.ref f :: rest)
def staB (K : PySem.W.Frag) (C : Addr) (m : Str) : Bool :=
  PySem.W.readsIn K C (.type "type") && He.eqO (PySem.W.specialIn K (.ref C) "__getattribute__") (some (some (.builtin "type.__getattribute__"))) && He5.wrapB K C "staticmethod" "staticmethod.__get__" m
theorem staB_ok {K : PySem.W.Frag} {C : Addr} {m : Str} (h : staB K C m = true) : StaF K C m (He5.wf K C "staticmethod" m) := by
  unfold staB at h
  simp only [Bool.and_eq_true] at h
  obtain ⟨⟨h1, h2⟩, h3⟩ := h
  obtain ⟨h4, h5⟩ := He5.wrapB_ok h3
  exact ⟨h1, He.eqO_ok h2, _, h4, h5⟩
/-- nothing leaves it -/
theorem cx0_of {P : Program} {w : World} {K : PySem.W.Frag} {mg : Str → Option Value} {base : Heap} {f : Addr} {fd : FuncData} {ps : List Str} {k : Nat} {sp : Sp} (G : FnOk P w K mg base (L2.CX P w) k f fd ps sp) (h : ∀ vs H Q E, sp vs H Q E → sp vs H Q E0) : FnOk P w K mg base CX0 k f fd ps sp :=
  ⟨G.len, fun A outer s H args us vs Q E hr e0 hb hv hs => codeAny_mono (G.run A outer s H args us vs Q E0 hr e0 hb hv (h _ _ _ _ hs)) fun r s' q => by
    cases r with
    | ok fl => cases fl <;> exact q
    | error e =>
      obtain ⟨_, _, _, _, _, _, _, _, _, _, _, _, z⟩ := q
      exact z.elim⟩
/-! ### from a def's promise to its contract -/
section
variable {P : Program} {w : World} {K : PySem.W.Frag} {mg : Str → Option Value} {base : Heap} {x q m : Str} {st : Stmt} {f C : Addr} {fd : FuncData} {ps : List Str} {k : Nat} {sp : Sp} {ks : List (Str × V)}
theorem fnr_of (F : FX K x q st [] ks f fd) (G : FnOk P w K mg base (L2.CX P w) k f fd ps sp)
    (b : ∀ (kV doc pm : Value) (an : Option Addr) (cdv ct : Value) (us : List Value), us.length = ps.length → bindArgs (PySem.W.fnOf x q (defArgs st) (defBody st) (defScope st) .none kV doc pm an cdv ct) ⟨us, []⟩ = pure (ps.zip us)) :
    FnR P w K mg base (L2.CX P w) k f sp := (G.raw (F.bindsN b) .nil).imp fun vs H Q E h => by
  show sp (vs ++ []) H Q E
  rw [List.append_nil]
  exact h
theorem cal_of (F : FX K x q st [] ks f fd) (hm : mg x = some (.ref f)) (G : FnOk P w K mg base (L2.CX P w) k f fd ps sp)
    (b : ∀ (kV doc pm : Value) (an : Option Addr) (cdv ct : Value) (us : List Value), us.length = ps.length → bindArgs (PySem.W.fnOf x q (defArgs st) (defBody st) (defScope st) .none kV doc pm an cdv ct) ⟨us, []⟩ = pure (ps.zip us)) :
    Cal P w K mg base x k sp := ⟨f, hm, F.kp, fnr_of F G b⟩
theorem met_of (F : FX K x q st [] ks f fd) (cl : Cls K C) (hm : Meth K C m f) (G : FnOk P w K mg base (L2.CX P w) k f fd ps sp)
    (b : ∀ (kV doc pm : Value) (an : Option Addr) (cdv ct : Value) (us : List Value), us.length = ps.length → bindArgs (PySem.W.fnOf x q (defArgs st) (defBody st) (defScope st) .none kV doc pm an cdv ct) ⟨us, []⟩ = pure (ps.zip us)) :
    Met P w K mg base C m k sp := ⟨cl, f, hm, fnr_of F G b⟩
theorem mak_of {y : Str} (F : FX K x q st [] ks f fd) (hm : mg y = some (.ref C)) (M : Mk K C f) (G : FnOk P w K mg base (L2.CX P w) k f fd ps sp)
    (b : ∀ (kV doc pm : Value) (an : Option Addr) (cdv ct : Value) (us : List Value), us.length = ps.length → bindArgs (PySem.W.fnOf x q (defArgs st) (defBody st) (defScope st) .none kV doc pm an cdv ct) ⟨us, []⟩ = pure (ps.zip us)) :
    Mak P w K mg base y C k sp := ⟨hm, f, M, fnr_of F G b⟩
theorem sta_of (F : FX K x q st [] ks f fd) (S : StaF K C m f) (G : FnOk P w K mg base (L2.CX P w) k f fd ps sp)
    (b : ∀ (kV doc pm : Value) (an : Option Addr) (cdv ct : Value) (us : List Value), us.length = ps.length → bindArgs (PySem.W.fnOf x q (defArgs st) (defBody st) (defScope st) .none kV doc pm an cdv ct) ⟨us, []⟩ = pure (ps.zip us)) :
    Sta P w K mg base C m k sp := by
  obtain ⟨p, h1, h2⟩ := S.at_
  exact ⟨S.rd, S.ga, p, f, h1, h2, F.kp, fnr_of F G b⟩
end
end TT

set_option Elab.async false
set_option linter.all false
set_option maxRecDepth 100000
set_option maxHeartbeats 4000000
namespace TT
open PySem PySem.Spec PyProof.Rows L2
def rMk (C : Addr) (sp : Sp) (E : XK) (vs : List V) (H : Hp) (Q : VK) : Prop := ∀ x dx, H x = none → H dx = none → dx ≠ x → sp (V.ref x :: vs) (upd (upd H dx (.own x)) x (.ins C dx [])) (fun v H2 => v = .non ∧ Q (.ref x) H2) E
def rLrg (a b : Int) (H : Hp) (Q : VK) : Prop := RgOk a b ∧ ∀ q, H q = none → Q (.ref q) (upd H q (.lst (rgV a b)))
/-- what is made stands on what stood -/
theorem a_mk {C : Addr} {sp : Sp} {E : XK} {vs : List V} {H : Hp} {Q : VK} (h : ∀ x dx H1, H x = none → Same H H1 → H1 x = some (.ins C dx []) → sp (V.ref x :: vs) H1 (fun v H2 => v = .non ∧ Q (.ref x) H2) E) : rMk C sp E vs H Q :=
  fun x dx hx hd _ => h x dx _ hx (same_mut (same_new hd) hx) upd_same
/-! ### comprehensions whose parts only make objects -/
section
variable {K : PySem.W.Frag} {J : It} {n j : Nat} {G : Hp → Prop} {Y : Nat → Hp → V → Hp → Prop} {σ : L2.St} {H H1 : Hp} {te : TE} {tt : TT} {Q : VK}
theorem set_none (σ : L2.St) (j : Nat) (x : Option V) : ((σ.set j none).set j x).set j none = σ.set j none := by
  rw [List.set_set, List.set_set]
theorem filt_succ {α : Type} (b : Nat → Bool) (f : Nat → α) (i : Nat) : ((List.range (i + 1)).filter b).map f = ((List.range i).filter b).map f ++ (if b i = true then [f i] else []) := by
  rw [List.range_succ, List.filter_append, List.map_append]
  cases h : b i <;> simp [h]
theorem filt_len (b : Nat → Bool) (f : Nat → V) (i : Nat) : (((List.range i).filter b).map f).length ≤ i := by
  rw [List.length_map]
  exact Nat.le_trans (List.length_filter_le _ _) (by rw [List.length_range]; exact Nat.le_refl i)
theorem lc_f (w : Walk J n G Y) (b : Nat → Bool) (f : Nat → V) (hn : n ≤ 100000) (hG : ∀ H', Same H1 H' → G H')
    (hs : ∀ i x H' H2, i < n → Same H1 H' → Y i H' x H2 → Same H' H2 ∧ (∀ R : Bool → Hp → Prop, (∀ H3, Same H2 H3 → R (b i) H3) → tt ((σ.set j none).set j (some x)) H2 R) ∧
      (b i = true → ∀ H3, Same H2 H3 → ∀ R : VK, (∀ H4, Same H3 H4 → R (f i) H4) → te ((σ.set j none).set j (some x)) H3 R))
    (hd : ∀ D H', H1 D = none → Same H1 H' → H' D = some (.lst (((List.range n).filter b).map f)) → Q (.ref D) H') :
    ∀ D, H1 D = none → ∃ W : Nat → Nat → Hp → Prop, (∃ m, W 0 m (upd H1 D (.lst []))) ∧ ∀ i m H, W i m H →
      (J.stop i H ∧ Q (.ref D) H) ∨ (J.go i H ∧ ∃ Nx : Hp → Prop, (∀ H', Nx H' → ∃ m', m' < m ∧ W (i + 1) m' H') ∧ ∀ x H', J.yld i H x H' → gName j x (wipe σ [j]) H' fun σ2 H2 => wipe σ2 [j] = wipe σ [j] ∧ tt σ2 H2 fun b H3 =>
        if b = true then te σ2 H3 fun y H4 => ∃ acc, H4 D = some (.lst acc) ∧ acc.length < sizeLine ∧ Nx (upd H4 D (.lst (acc ++ [y]))) else Nx H3) := by
  intro D hD
  refine lc_it w (fun i H' => Same H1 H' ∧ H' D = some (.lst (((List.range i).filter b).map f))) ⟨same_new hD, upd_same⟩ (fun i H' _ q => hG H' q.1) ?_ fun H' q => hd D H' hD q.1 q.2
  rintro i x H' H2 hi ⟨q1, q2⟩ hy
  obtain ⟨s2, htt, hte⟩ := hs i x H' H2 hi q1 hy
  refine ⟨set_none σ j (some x), htt _ fun H3 s3 => ?_⟩
  have e3 := s3 _ _ (s2 _ _ q2)
  cases hb : b i with
  | false =>
    rw [if_neg Bool.false_ne_true]
    refine ⟨(q1.trans s2).trans s3, ?_⟩
    rw [e3, filt_succ, hb]
    simp
  | true =>
    rw [if_pos rfl]
    refine hte hb H3 s3 _ fun H4 s4 => ⟨_, s4 _ _ e3, szl (Nat.lt_of_le_of_lt (filt_len b f i) (by omega)), ?_⟩
    refine ⟨same_mut (((q1.trans s2).trans s3).trans s4) hD, ?_⟩
    rw [upd_same, filt_succ, hb]
    rfl
theorem lc_1 (w : Walk J n G Y) (f : Nat → V) (hn : n ≤ 100000) (hG : ∀ H', Same H1 H' → G H')
    (hs : ∀ i x H' H2, i < n → Same H1 H' → Y i H' x H2 → Same H' H2 ∧ ∀ R : VK, (∀ H4, Same H2 H4 → R (f i) H4) → te ((σ.set j none).set j (some x)) H2 R)
    (hd : ∀ D H', H1 D = none → Same H1 H' → H' D = some (.lst ((List.range n).map f)) → Q (.ref D) H') :
    ∀ D, H1 D = none → ∃ W : Nat → Nat → Hp → Prop, (∃ m, W 0 m (upd H1 D (.lst []))) ∧ ∀ i m H, W i m H →
      (J.stop i H ∧ Q (.ref D) H) ∨ (J.go i H ∧ ∃ Nx : Hp → Prop, (∀ H', Nx H' → ∃ m', m' < m ∧ W (i + 1) m' H') ∧ ∀ x H', J.yld i H x H' → gName j x (wipe σ [j]) H' fun σ2 H2 => wipe σ2 [j] = wipe σ [j] ∧ tYes σ2 H2 fun b H3 =>
        if b = true then te σ2 H3 fun y H4 => ∃ acc, H4 D = some (.lst acc) ∧ acc.length < sizeLine ∧ Nx (upd H4 D (.lst (acc ++ [y]))) else Nx H3) := by
  intro D hD
  refine lc_it w (fun i H' => Same H1 H' ∧ H' D = some (.lst ((List.range i).map f))) ⟨same_new hD, upd_same⟩ (fun i H' _ q => hG H' q.1) ?_ fun H' q => hd D H' hD q.1 q.2
  rintro i x H' H2 hi ⟨q1, q2⟩ hy
  obtain ⟨s2, hte⟩ := hs i x H' H2 hi q1 hy
  refine ⟨set_none σ j (some x), ?_⟩
  unfold tYes
  dsimp only
  rw [if_pos rfl]
  refine hte _ fun H4 s4 => ⟨_, s4 _ _ (s2 _ _ q2), szl (by rw [List.length_map, List.length_range]; omega), same_mut ((q1.trans s2).trans s4) hD, ?_⟩
  rw [upd_same, List.range_succ, List.map_append]
  rfl
/-- over a list, a tuple, a range: the i-th value of the target -/
theorem c_l {tl : TE} {xs : List V} (f : Nat → V) (hn : xs.length ≤ 100000) (hl : ∀ R : VK, (∀ a H1, Same H H1 → SqL K H1 a xs → R (.ref a) H1) → tl σ H R)
    (hs : ∀ i x H', xs[i]? = some x → Same H H' → ∀ R : VK, (∀ H4, Same H' H4 → R (f i) H4) → te ((σ.set j none).set j (some x)) H' R)
    (hd : ∀ D H', H D = none → Same H H' → H' D = some (.lst ((List.range xs.length).map f)) → Q (.ref D) H') : tLc (iList K tl) (gName j) tYes te [j] σ H Q := by
  refine hl _ fun a H1 s1 h => ⟨a, rfl, ⟨xs, h⟩, lc_1 walk_list f hn (fun H' s => same_l s h) (fun i x H' H2 hi s y => ?_) fun D H' n s e => hd D H' (s1.free n) (s1.trans s) e⟩
  obtain ⟨rfl, e⟩ := y
  exact ⟨Same.refl _, hs i x _ e (s1.trans s)⟩
theorem c_t {tl : TE} {xs : List V} (f : Nat → V) (hn : xs.length ≤ 100000) (hl : ∀ R : VK, (∀ a H1, Same H H1 → SqT K H1 a xs → R (.ref a) H1) → tl σ H R)
    (hs : ∀ i x H', xs[i]? = some x → Same H H' → ∀ R : VK, (∀ H4, Same H' H4 → R (f i) H4) → te ((σ.set j none).set j (some x)) H' R)
    (hd : ∀ D H', H D = none → Same H H' → H' D = some (.lst ((List.range xs.length).map f)) → Q (.ref D) H') : tLc (iTup K tl) (gName j) tYes te [j] σ H Q := by
  refine hl _ fun a H1 s1 h => ⟨a, rfl, ⟨xs, h⟩, lc_1 walk_tup f hn (fun H' s => same_t s h) (fun i x H' H2 hi s y => ?_) fun D H' n s e => hd D H' (s1.free n) (s1.trans s) e⟩
  obtain ⟨rfl, e⟩ := y
  exact ⟨Same.refl _, hs i x _ e (s1.trans s)⟩
theorem c_r {ta : TA} {k : Nat} (f : Nat → V) (hn : k ≤ 100000) (hl : ∀ R : List V → Hp → Prop, (∀ H1, Same H H1 → R [.int (k : Nat)] H1) → ta σ H R)
    (hs : ∀ (i : Nat) H', i < k → Same H H' → ∀ R : VK, (∀ H4, Same H' H4 → R (f i) H4) → te ((σ.set j none).set j (some (.int (i : Nat)))) H' R)
    (hd : ∀ D H', H D = none → Same H H' → H' D = some (.lst ((List.range k).map f)) → Q (.ref D) H') : tLc (iRng1 ta) (gName j) tYes te [j] σ H Q := by
  refine hl _ fun H1 s1 => ⟨(k : Int), rfl, by omega, by omega, lc_1 walk_range f (by omega) (fun _ _ => True.intro) (fun i x H' H2 hi s y => ?_) fun D H' n s e => hd D H' (s1.free n) (s1.trans s) e⟩
  obtain ⟨rfl, e⟩ := y
  subst e
  refine ⟨Same.refl _, ?_⟩
  have e0 : (0 : Int) + (i : Int) = i := by omega
  show ∀ R : VK, _ → te ((σ.set j none).set j (some (.int (0 + (i : Int))))) H2 R
  rw [e0]
  exact hs i _ (by omega) (s1.trans s)
/-! .. with a test -/
theorem cf_l {tl : TE} {xs : List V} (b : Nat → Bool) (f : Nat → V) (hn : xs.length ≤ 100000) (hl : ∀ R : VK, (∀ a H1, Same H H1 → SqL K H1 a xs → R (.ref a) H1) → tl σ H R)
    (hs : ∀ i x H', xs[i]? = some x → Same H H' → (∀ R : Bool → Hp → Prop, (∀ H3, Same H' H3 → R (b i) H3) → tt ((σ.set j none).set j (some x)) H' R) ∧
      (b i = true → ∀ H3, Same H' H3 → ∀ R : VK, (∀ H4, Same H3 H4 → R (f i) H4) → te ((σ.set j none).set j (some x)) H3 R))
    (hd : ∀ D H', H D = none → Same H H' → H' D = some (.lst (((List.range xs.length).filter b).map f)) → Q (.ref D) H') : tLc (iList K tl) (gName j) tt te [j] σ H Q := by
  refine hl _ fun a H1 s1 h => ⟨a, rfl, ⟨xs, h⟩, lc_f walk_list b f hn (fun H' s => same_l s h) (fun i x H' H2 hi s y => ?_) fun D H' n s e => hd D H' (s1.free n) (s1.trans s) e⟩
  obtain ⟨rfl, e⟩ := y
  exact ⟨Same.refl _, hs i x _ e (s1.trans s)⟩
theorem cf_t {tl : TE} {xs : List V} (b : Nat → Bool) (f : Nat → V) (hn : xs.length ≤ 100000) (hl : ∀ R : VK, (∀ a H1, Same H H1 → SqT K H1 a xs → R (.ref a) H1) → tl σ H R)
    (hs : ∀ i x H', xs[i]? = some x → Same H H' → (∀ R : Bool → Hp → Prop, (∀ H3, Same H' H3 → R (b i) H3) → tt ((σ.set j none).set j (some x)) H' R) ∧
      (b i = true → ∀ H3, Same H' H3 → ∀ R : VK, (∀ H4, Same H3 H4 → R (f i) H4) → te ((σ.set j none).set j (some x)) H3 R))
    (hd : ∀ D H', H D = none → Same H H' → H' D = some (.lst (((List.range xs.length).filter b).map f)) → Q (.ref D) H') : tLc (iTup K tl) (gName j) tt te [j] σ H Q := by
  refine hl _ fun a H1 s1 h => ⟨a, rfl, ⟨xs, h⟩, lc_f walk_tup b f hn (fun H' s => same_t s h) (fun i x H' H2 hi s y => ?_) fun D H' n s e => hd D H' (s1.free n) (s1.trans s) e⟩
  obtain ⟨rfl, e⟩ := y
  exact ⟨Same.refl _, hs i x _ e (s1.trans s)⟩
theorem cf_r {ta : TA} {k : Nat} (b : Nat → Bool) (f : Nat → V) (hn : k ≤ 100000) (hl : ∀ R : List V → Hp → Prop, (∀ H1, Same H H1 → R [.int (k : Nat)] H1) → ta σ H R)
    (hs : ∀ (i : Nat) H', i < k → Same H H' → (∀ R : Bool → Hp → Prop, (∀ H3, Same H' H3 → R (b i) H3) → tt ((σ.set j none).set j (some (.int (i : Nat)))) H' R) ∧
      (b i = true → ∀ H3, Same H' H3 → ∀ R : VK, (∀ H4, Same H3 H4 → R (f i) H4) → te ((σ.set j none).set j (some (.int (i : Nat)))) H3 R))
    (hd : ∀ D H', H D = none → Same H H' → H' D = some (.lst (((List.range k).filter b).map f)) → Q (.ref D) H') : tLc (iRng1 ta) (gName j) tt te [j] σ H Q := by
  refine hl _ fun H1 s1 => ⟨(k : Int), rfl, by omega, by omega, lc_f walk_range b f (by omega) (fun _ _ => True.intro) (fun i x H' H2 hi s y => ?_) fun D H' n s e => hd D H' (s1.free n) (s1.trans s) e⟩
  obtain ⟨rfl, e⟩ := y
  subst e
  refine ⟨Same.refl _, ?_⟩
  have e0 : (0 : Int) + (i : Int) = i := by omega
  dsimp only
  rw [e0]
  exact hs i _ (by omega) (s1.trans s)
theorem g_lcT {wi : TI} {g : TG} {vs : List Nat} (h : wi σ H fun J H1 => ∀ D, H1 D = none → ∃ W : Nat → Nat → Hp → Prop, (∃ m, W 0 m (upd H1 D (.lst []))) ∧ ∀ i m H, W i m H →
      (J.stop i H ∧ Q (.ref D) H) ∨ (J.go i H ∧ ∃ Nx : Hp → Prop, (∀ H', Nx H' → ∃ m', m' < m ∧ W (i + 1) m' H') ∧ ∀ x H', J.yld i H x H' → g x (wipe σ vs) H' fun σ2 H2 => wipe σ2 vs = wipe σ vs ∧ tt σ2 H2 fun b H3 =>
        if b = true then te σ2 H3 fun y H4 => ∃ acc, H4 D = some (.lst acc) ∧ acc.length < sizeLine ∧ Nx (upd H4 D (.lst (acc ++ [y]))) else Nx H3)) : tLc wi g tt te vs σ H Q := h
theorem g_iTup {tl : TE} {R : It → Hp → Prop} (h : tl σ H fun x H1 => ∃ a, x = .ref a ∧ (∃ xs, SqT K H1 a xs) ∧ R (Itt K a) H1) : iTup K tl σ H R := h
theorem g_iList {tl : TE} {R : It → Hp → Prop} (h : tl σ H fun x H1 => ∃ a, x = .ref a ∧ (∃ xs, SqL K H1 a xs) ∧ R (Itl K a) H1) : iList K tl σ H R := h
theorem g_iRng {ta : TA} {R : It → Hp → Prop} (h : ta σ H fun vs H1 => ∃ j : Int, vs = [.int j] ∧ -(2 ^ 62) ≤ j ∧ j < 2 ^ 62 ∧ R (Itr 0 j.toNat) H1) : iRng1 ta σ H R := h
theorem g_iEt {ta : TA} {R : It → Hp → Prop} (h : ta σ H fun vs H1 => ∃ a xs, vs = [.ref a] ∧ SqT K H1 a xs ∧ R (Iet K a) H1) : iEt K ta σ H R := h
theorem g_iEn {ta : TA} {R : It → Hp → Prop} (h : ta σ H fun vs H1 => ∃ a xs, vs = [.ref a] ∧ SqL K H1 a xs ∧ R (Ite K a) H1) : iEnum K ta σ H R := h
theorem g_for {wi : TI} {g : TG} {tb : TS} {D : Ends} (h : wi σ H fun J H1 => ∃ W : Nat → Nat → L2.St → Hp → Prop, (∃ m, W 0 m σ H1) ∧ ∀ i m σ H, W i m σ H →
      (J.stop i H ∧ D.nx σ H) ∨ (J.go i H ∧ ∃ N : L2.St → Hp → Prop, (∀ σ' H', N σ' H' → ∃ m', m' < m ∧ W (i + 1) m' σ' H') ∧ ∀ x H', J.yld i H x H' → g x σ H' fun σ2 H2 => tb { D with nx := N, ct := N, bk := D.nx } σ2 H2)) : tFor wi g tb D σ H := h
theorem g_mk {C : Addr} {sp : Sp} {E : XK} {ts : TA} (h : ts σ H fun vs H1 => rMk C sp E vs H1 Q) : StX.tMakeR C sp E ts σ H Q := h
theorem g_lrg {tr : L2.St → Hp → (Int → Int → Hp → Prop) → Prop} (h : tr σ H fun a b H1 => rLrg a b H1 Q) : tLstRg tr σ H Q := h
theorem g_rg1 {ta : TE} {R : Int → Int → Hp → Prop} (h : ta σ H fun x H1 => ∃ n, x = .int n ∧ R 0 n H1) : tRg1 ta σ H R := h
theorem g_yes {R : Bool → Hp → Prop} (h : R true H) : tYes σ H R := h
theorem g_gtup {t : TGs} {k : Nat} {a : Addr} {xs : List V} {R : L2.St → Hp → Prop} (h : SqT K H a xs) (hn : xs.length = k) (q : t xs σ H R) : gTup K k t (.ref a) σ H R := ⟨a, xs, rfl, h, hn, q⟩
theorem g_gcons {t : TG} {u : TGs} {v : V} {r : List V} {R : L2.St → Hp → Prop} (q : t v σ H fun σ' H' => u r σ' H' R) : gCons t u (v :: r) σ H R := ⟨v, r, rfl, q⟩
theorem g_gnil {R : L2.St → Hp → Prop} (q : R σ H) : gNil [] σ H R := ⟨rfl, q⟩
theorem g_gname {i : Nat} {v : V} {R : L2.St → Hp → Prop} (q : R (σ.set i (some v)) H) : gName i v σ H R := q
/-- x(e, ..), x an instance of C -/
def tCO (C : Addr) (sp : Sp) (E : XK) (tf : TE) (t : TA) : TE := fun σ H Q => tf σ H fun y H1 => ∃ a, y = V.ref a ∧ t σ H1 fun vs H2 => (∃ dx fs, H2 a = some (.ins C dx fs)) ∧ sp (V.ref a :: vs) H2 Q E
theorem pe_co {X : Cx} {C : Addr} {sp : Sp} {E : XK} {k i : Nat} {fe e : Expr} {es : List Expr} {tf : TE} {t : TA} {pos : Pos} (c : Met X.prog X.w X.K X.mg X.base C "__call__" k sp) (fi : ∀ g, Meth X.K C "__call__" g → PySem.W.fnIn X.K g = true) (hr : Room i X.A) (hk : k ≤ i) (hx : Passes (L2.CX X.prog X.w) X E) (hf : PE X fe tf) (ha : PA X (e :: es) t)
    (h1 : eval (.Call fe (e :: es) [] pos) X.env = (eval fe X.env >>= fun z => callWith pos z [] (backTo pos (starEach (e :: es) X.env)) (backToKw pos (keywordEach [] X.env))) := by rfl)
    (h2 : starEach (e :: es) X.env = (false, eval e X.env) :: starEach es X.env := by rfl) (h3 : (backTo pos (starEach es X.env)).any (·.1) = false := by rfl) : PE X (.Call fe (e :: es) [] pos) (tCO C sp E tf t) := ⟨fun pins s σ H Q I h => by
  obtain ⟨g, hm, F⟩ := c.ex
  refine Call_ (thn (hf.run pins s σ H _ I h) fun u s1 hh => ?_) h1
  obtain ⟨y, H1, I1, ry, a, ey, q⟩ := hh
  subst ey
  cases (show u = Value.ref a from ry)
  refine StX.callO_with (thn (ha.run pos pins s1 σ H1 _ I1 q) fun us s2 hh2 => ?_) h2 h3
  obtain ⟨vs, H2, I2, r, ⟨dx, fs, hi⟩, q2⟩ := hh2
  obtain ⟨ox, od, J, hd⟩ := StX.insC_at (C := C) I2 (.inr ⟨dx, fs, hi⟩)
  exact ⟨⟨C, ox, od, J, hd⟩, StX.run_callO ⟨hm.at_, hm.fn, fi g hm⟩ F (hr.mono hk) hx I2 (.inr ⟨dx, fs, hi⟩) r q2⟩⟩
theorem g_co {C : Addr} {sp : Sp} {E : XK} {tf : TE} {t : TA} (h : tf σ H fun y H1 => ∃ a, y = V.ref a ∧ t σ H1 fun vs H2 => (∃ dx fs, H2 a = some (.ins C dx fs)) ∧ sp (V.ref a :: vs) H2 Q E) : tCO C sp E tf t σ H Q := h
theorem a_ref {a : Addr} {R : Addr → Prop} (h : R a) : ∃ b, V.ref a = .ref b ∧ R b := ⟨a, rfl, h⟩
theorem a_pop {p : Addr} {L : List V} {m : Int} {k : Nat} {y : V} (h : H p = some (.lst L)) (e : m = (k : Int)) (hk : L[k]? = some y) (hl : L.length ≤ 100000) (q : ∀ H2, But p H H2 → H2 p = some (.lst (L.eraseIdx k)) → Q y H2) : rPopAt (.ref p) [.int m] H Q := by
  have hlt := (List.getElem?_eq_some_iff.mp hk).1
  refine ⟨p, L, m, k, y, rfl, rfl, h, by omega, by omega, ?_, hk, q _ But.upd upd_same⟩
  subst e
  exact (L2.ixN_seq (by unfold ixN; rw [if_pos (by omega), if_pos (by omega)]; rfl)).1
theorem a_truB {b : Bool} {R : Bool → Prop} (h : R b) : ∃ k, TruV K (.bl b) H k ∧ R k := ⟨b, rfl, h⟩
theorem a_truI {m : Int} {R : Bool → Prop} (h : R (m != 0)) : ∃ k, TruV K (.int m) H k ∧ R k := ⟨_, rfl, h⟩
theorem a_truL {p : Addr} {xs : List V} {R : Bool → Prop} (e : SqL K H p xs) (h : R (!xs.isEmpty)) : ∃ k, TruV K (.ref p) H k ∧ R k := ⟨_, .inl ⟨xs, e, rfl⟩, h⟩
theorem a_truT {p : Addr} {xs : List V} {R : Bool → Prop} (e : SqT K H p xs) (h : R (!xs.isEmpty)) : ∃ k, TruV K (.ref p) H k ∧ R k := ⟨_, .inr (.inl ⟨xs, e, rfl⟩), h⟩
theorem a_nyes {c A B : Prop} [Decidable c] (hc : c) (h : B) : if (!decide c) = true then A else B := iteNS hc h
theorem a_nno {c A B : Prop} [Decidable c] (hc : ¬ c) (h : A) : if (!decide c) = true then A else B := by
  rw [if_pos (by rw [decide_eq_false hc]; rfl)]; exact h
theorem a_lrg {n : Int} (h0 : 0 ≤ n) (hn : n ≤ 100000) (q : ∀ p H2, H p = none → Same H H2 → H2 p = some (.lst ((List.range n.toNat).map fun i => V.int (i : Nat))) → Q (.ref p) H2) :
    rLrg 0 n H Q := by
  refine ⟨⟨by omega, by omega, by omega, by omega, by omega⟩, fun p hp => q p _ hp (same_new hp) ?_⟩
  rw [upd_same]
  have e : rgV 0 n = (List.range n.toNat).map fun i => V.int (i : Nat) := by
    unfold rgV
    rw [Int.sub_zero]
    apply List.map_congr_left
    intro i _
    rw [Int.zero_add]
  rw [e]
end
end TT

set_option Elab.async false
set_option linter.all false
set_option maxRecDepth 100000
set_option maxHeartbeats 4000000
namespace TT
open PySem PySem.Spec PyProof.Rows L2
/-! ### plain lists -/
theorem sub_len {α : Type} [DecidableEq α] : ∀ {l m : List α}, l.Nodup → (∀ x ∈ l, x ∈ m) → l.length ≤ m.length
  | [], _, _, _ => Nat.zero_le _
  | a :: l, m, nd, h => by
    have na := List.nodup_cons.mp nd
    have ha : a ∈ m := h a (List.mem_cons_self ..)
    have ih := sub_len (l := l) (m := m.erase a) na.2 fun x hx => (List.mem_erase_of_ne (fun e => na.1 (by rw [← e]; exact hx))).mpr (h x (List.mem_cons_of_mem _ hx))
    have e := List.length_erase_of_mem ha
    have p : 0 < m.length := List.length_pos_of_mem ha
    show l.length + 1 ≤ m.length
    omega
/-- an image of a permutation -/
structure OkImg (a : List Nat) : Prop where
  nd : a.Nodup
  lt : ∀ x ∈ a, x < a.length
theorem OkImg.has {a : List Nat} (h : OkImg a) {j : Nat} (hj : j < a.length) : j ∈ a := by
  by_cases hm : j ∈ a
  · exact hm
  · have := sub_len (l := j :: a) (m := List.range a.length) (List.nodup_cons.mpr ⟨hm, h.nd⟩) fun x hx => by
      rw [List.mem_range]
      rcases List.mem_cons.mp hx with rfl | hx
      · exact hj
      · exact h.lt x hx
    rw [List.length_range, List.length_cons] at this
    omega
theorem nd_inj {a : List Nat} (nd : a.Nodup) {i j : Nat} (hi : i < a.length) (hj : j < a.length) (e : a[i] = a[j]) : i = j :=
  L2.nd_ix nd (List.getElem?_eq_getElem hi) (by rw [List.getElem?_eq_getElem hj, e])
theorem idx_at {a : List Nat} {j : Nat} (h : j ∈ a) : ∃ hl : a.idxOf j < a.length, a[a.idxOf j] = j := by
  have hl := List.idxOf_lt_length_of_mem h
  exact ⟨hl, List.getElem_idxOf hl⟩
theorem idx_uniq {a : List Nat} (nd : a.Nodup) {i j : Nat} (hi : i < a.length) (e : a[i] = j) : a.idxOf j = i := by
  have hm : j ∈ a := e ▸ List.getElem_mem hi
  obtain ⟨hl, hx⟩ := idx_at hm
  exact nd_inj nd hl hi (by rw [hx, e])
def comp (a b : List Nat) : List Nat := a.map fun i => b.getD i 0
def inv (a : List Nat) : List Nat := (List.range a.length).map fun j => a.idxOf j
theorem comp_len (a b : List Nat) : (comp a b).length = a.length := List.length_map _
theorem inv_len (a : List Nat) : (inv a).length = a.length := by unfold inv; rw [List.length_map, List.length_range]
theorem getD_lt {b : List Nat} {i : Nat} (h : i < b.length) : b.getD i 0 = b[i] := by
  rw [List.getD_eq_getElem?_getD, List.getElem?_eq_getElem h]
  rfl
theorem comp_get {a b : List Nat} {i : Nat} (h : i < a.length) (h' : i < (comp a b).length := by rw [comp_len]; assumption) : (comp a b)[i] = b.getD a[i] 0 := by
  simp [comp]
theorem inv_get {a : List Nat} {i : Nat} (h : i < (inv a).length) : (inv a)[i] = a.idxOf i := by
  simp [inv]
theorem OkImg.of_inj {a : List Nat} (h : ∀ i j (hi : i < a.length) (hj : j < a.length), a[i] = a[j] → i = j) (l : ∀ i (hi : i < a.length), a[i] < a.length) : OkImg a := by
  refine ⟨?_, fun x hx => ?_⟩
  · rw [List.nodup_iff_pairwise_ne]
    rw [List.pairwise_iff_getElem]
    intro i j hi hj hij e
    exact absurd (h i j hi hj e) (Nat.ne_of_lt hij)
  · obtain ⟨i, hi, e⟩ := List.getElem_of_mem hx
    rw [← e]
    exact l i hi
theorem OkImg.comp {a b : List Nat} (ha : OkImg a) (hb : OkImg b) (e : a.length = b.length) : OkImg (TT.comp a b) := by
  have hl : ∀ i (hi : i < a.length), a[i] < b.length := fun i hi => e ▸ ha.lt _ (List.getElem_mem hi)
  refine .of_inj (fun i j hi hj q => ?_) fun i hi => ?_
  · rw [comp_len] at hi hj
    rw [comp_get hi, comp_get hj, getD_lt (hl i hi), getD_lt (hl j hj)] at q
    exact nd_inj ha.nd hi hj (nd_inj hb.nd (hl i hi) (hl j hj) q)
  · rw [comp_len] at hi ⊢
    rw [comp_get hi, getD_lt (hl i hi), e]
    exact hb.lt _ (List.getElem_mem _)
theorem OkImg.inv {a : List Nat} (ha : OkImg a) : OkImg (TT.inv a) := by
  refine .of_inj (fun i j hi hj q => ?_) fun i hi => ?_
  · rw [inv_get, inv_get] at q
    rw [inv_len] at hi hj
    obtain ⟨h1, h2⟩ := idx_at (ha.has hi)
    obtain ⟨h3, h4⟩ := idx_at (ha.has hj)
    rw [← h2, ← h4]
    exact getElem_congr_idx q
  · rw [inv_get]
    rw [inv_len] at hi ⊢
    exact (idx_at (ha.has hi)).1
theorem OkImg.range (n : Nat) : OkImg (List.range n) := ⟨List.nodup_range, fun x hx => by rw [List.length_range]; exact List.mem_range.mp hx⟩
theorem comp_inv {a : List Nat} (ha : OkImg a) : comp a (inv a) = List.range a.length := by
  refine List.ext_getElem (by rw [comp_len, List.length_range]) fun i h1 h2 => ?_
  rw [comp_len] at h1
  rw [comp_get h1, List.getElem_range, getD_lt (by rw [inv_len]; exact ha.lt _ (List.getElem_mem _)), inv_get]
  exact idx_uniq ha.nd h1 rfl
theorem inv_comp {a b : List Nat} (ha : OkImg a) (hb : OkImg b) (e : a.length = b.length) : inv (comp a b) = comp (inv b) (inv a) := by
  refine List.ext_getElem (by rw [inv_len, comp_len, comp_len, inv_len, e]) fun j h1 h2 => ?_
  rw [inv_get]
  rw [inv_len, comp_len] at h1
  have hj : j < b.length := e ▸ h1
  obtain ⟨p1, p2⟩ := idx_at (hb.has hj)
  have hk : b.idxOf j < a.length := by rw [e]; exact p1
  obtain ⟨p3, p4⟩ := idx_at (ha.has hk)
  have hj' : j < (inv b).length := by rw [inv_len]; exact hj
  rw [comp_get hj', inv_get, getD_lt (by rw [inv_len]; exact hk), inv_get]
  refine idx_uniq (ha.comp hb e).nd (by rw [comp_len]; exact p3) ?_
  rw [comp_get p3, p4, getD_lt p1, p2]
/-! ### values -/
def vi (a : List Nat) : List V := a.map fun n => V.int (n : Nat)
def di (a : List Nat) : List PyData := a.map fun n => PyData.int (n : Nat)
theorem vi_len (a : List Nat) : (vi a).length = a.length := List.length_map _
theorem vi_get {a : List Nat} {i : Nat} {x : V} (h : (vi a)[i]? = some x) : ∃ hi : i < a.length, x = V.int (a[i] : Nat) := by
  obtain ⟨h1, h2⟩ := List.getElem?_eq_some_iff.mp h
  rw [vi_len] at h1
  refine ⟨h1, ?_⟩
  rw [← h2]
  simp [vi]
theorem vi_at {a : List Nat} {i : Nat} (h : i < a.length) : (vi a)[i]? = some (V.int (a[i] : Nat)) := by
  unfold vi
  rw [List.getElem?_map, List.getElem?_eq_getElem h]
  rfl
theorem dp_vi {K : PySem.W.Frag} {H : Hp} : ∀ a : List Nat, DpAll K H (vi a) (di a)
  | [] => .nil
  | n :: a => .cons (.int _) (dp_vi a)
theorem lay_di : ∀ a : List Nat, PyData.canLayAll0 (di a) = true
  | [] => by simp [di, PyData.canLayAll0]
  | n :: a => by
    have ih := lay_di a
    simp [di, PyData.canLayAll0, PyData.canLay0] at ih ⊢
    exact ih
theorem dep_di : ∀ a : List Nat, PyData.depthAll (di a) ≤ 1
  | [] => by simp [di, PyData.depthAll]
  | n :: a => by
    have ih := dep_di a
    simp [di, PyData.depthAll, PyData.depth] at ih ⊢
    omega
theorem sh_t (a : List Nat) : SeqAt.shaped (.tuple (di a)) = true := by
  unfold SeqAt.shaped
  have h1 := lay_di a
  have h2 := dep_di a
  simp [PyData.canLay0, PyData.depth, h1]
  omega
theorem sh_l (a : List Nat) : SeqAt.shaped (.list (di a)) = true := by
  unfold SeqAt.shaped
  have h1 := lay_di a
  have h2 := dep_di a
  simp [PyData.canLay0, PyData.depth, h1]
  omega
theorem eqv_di : ∀ a b : List Nat, PyData.eqvAll (di a) (di b) = decide (a = b)
  | [], [] => by simp [di, PyData.eqvAll]
  | [], _ :: _ => by simp [di, PyData.eqvAll]
  | _ :: _, [] => by simp [di, PyData.eqvAll]
  | n :: a, m :: b => by
    have ih := eqv_di a b
    simp only [di, List.map_cons, PyData.eqvAll, PyData.eqv] at ih ⊢
    rw [ih]
    by_cases h : n = m
    · subst h
      simp
    · have h' : ((n : Int) == (m : Int)) = false := by
        rw [beq_eq_false_iff_ne]
        omega
      rw [h']
      simp [h]
theorem eqv_tt (a b : List Nat) : PyData.eqv (.tuple (di a)) (.tuple (di b)) = decide (a = b) := by
  simp only [PyData.eqv]
  exact eqv_di a b
theorem eqv_ll (a b : List Nat) : PyData.eqv (.list (di a)) (.list (di b)) = decide (a = b) := by
  simp only [PyData.eqv]
  exact eqv_di a b
end TT

set_option Elab.async false
set_option linter.all false
set_option maxRecDepth 100000
set_option maxHeartbeats 4000000
namespace TT
open PySem PySem.Spec PyProof.Rows L2
/-! ### errors of the program: classes below ValueError by way of a class of the program -/
structure Err (K : PySem.W.Frag) (C : Addr) : Prop where
  ox : OexC K C
  xf : XfC K C
  ca : PySem.W.findIn K (.ref C) "__class__" = some (some (.builtin "object.__class__"))
  cn : PySem.W.specialIn K (.builtin "object.__class__") "__get__" = some (some (.builtin "getset_descriptor.__get__"))
  ct : PySem.W.takesIn K (.builtin "object.__class__") = some true
  cm : PySem.W.mroIn K C (.type "object") = some true
  ic : (PySem.W.clsIn K C).isSome = true
  em : PySem.W.exmOne K (.ref C) (.ref C) = some true
def oexB (K : PySem.W.Frag) (C : Addr) : Bool := match K.lookup C with
  | some ⟨.type "type", _, .cls cd, sl⟩ => (match cd.mro, sl.toList with
    | .ref D :: bm, [_, _, _, _, some (.builtin n), _] => D == C && n == "ValueError.__new__" && !cd.hasDel && cd.hasDict && PySem.HandSPX.refsVE bm
    | _, _ => false)
  | _ => false
theorem oexB_ok {K : PySem.W.Frag} {C : Addr} (q : oexB K C = true) :
    ∃ nm q N bs bm sn sub ab col dd k0 k1 k2 k3 k5, K.lookup C = some (excClassObj nm q C N bs bm true sn sub ab col dd k0 k1 k2 k3 k5 "ValueError.__new__") ∧ PySem.HandSPX.refsVE bm = true := by
  unfold oexB at q
  split at q
  · rename_i dd cd sl ho
    split at q
    · rename_i D bm a0 a1 a2 a3 n a5 hm hs
      simp only [Bool.and_eq_true, beq_iff_eq, Bool.not_eq_true'] at q
      obtain ⟨⟨⟨⟨rfl, rfl⟩, q1⟩, q2⟩, q3⟩ := q
      obtain ⟨nm, bs, mro, ns, qn, hd, sn, sub, ab, col, dl⟩ := cd
      dsimp only at hm q1 q2
      subst hm q1 q2
      have es : sl = #[a0, a1, a2, a3, some (.builtin "ValueError.__new__"), a5] := by
        cases sl
        simp only at hs
        rw [hs]
      subst es
      exact ⟨nm, qn, ns, bs, bm, sn, sub, ab, col, dd, a0, a1, a2, a3, a5, ho, q3⟩
    · cases q
  · cases q
def errB (K : PySem.W.Frag) (C : Addr) : Bool :=
  oexB K C && He.eqO (PySem.W.findIn K (.ref C) "__setattr__") (some (some (.builtin "object.__setattr__"))) && decide (PySem.W.subIn K (.ref C) (.type "BaseException") = some true) &&
  (PySem.W.typeIn K (.ref C) == some (.type "type")) && PySem.W.keepIn K (.ref C) && xfB K C &&
  He.eqO (PySem.W.findIn K (.ref C) "__class__") (some (some (.builtin "object.__class__"))) && He.eqO (PySem.W.specialIn K (.builtin "object.__class__") "__get__") (some (some (.builtin "getset_descriptor.__get__"))) &&
  decide (PySem.W.takesIn K (.builtin "object.__class__") = some true) && decide (PySem.W.mroIn K C (.type "object") = some true) && (PySem.W.clsIn K C).isSome && decide (PySem.W.exmOne K (.ref C) (.ref C) = some true)
theorem errB_ok {K : PySem.W.Frag} {C : Addr} (h : errB K C = true) : Err K C := by
  unfold errB at h
  simp only [Bool.and_eq_true] at h
  obtain ⟨⟨⟨⟨⟨⟨⟨⟨⟨⟨⟨h1, h2⟩, h3⟩, h4⟩, h5⟩, h6⟩, h7⟩, h8⟩, h9⟩, h10⟩, h11⟩, h12⟩ := h
  exact ⟨⟨oexB_ok h1, He.eqO_ok h2, of_decide_eq_true h3, eq_of_beq h4, h5⟩, xfB_ok h6, He.eqO_ok h7, He.eqO_ok h8, of_decide_eq_true h9, of_decide_eq_true h10, h11, of_decide_eq_true h12⟩
/-- isinstance(e, c) where a suite holds e -/
def rIsX (K : PySem.W.Frag) (cls : Value) (d : Option Addr) (a : Addr) : List V → Hp → VK → Prop := fun xs H Q => ∃ (D : Addr) (c : V) (cv : Value) (b : Bool), cls = .ref D ∧ Err K D ∧ xs = [.ref a, c] ∧ (∀ dd, d = some dd → ∃ fs, H dd = some (.xd fs)) ∧
  (∀ u, RelV c u → u = cv) ∧ PySem.W.kitOne K (.ref D) cv = some b ∧ Q (.bl b) H
theorem call_isX {X : Cx} {a : Addr} {cls : Value} {d : Option Addr} {oe : Obj} {pn : List (Addr × Obj)} (hz : Zc cls d oe) (hf : ∃ vs, oe.data = .fields vs) : CallR (X.suite a ((a, oe) :: pn)) (.builtin "isinstance") (rIsX X.K cls d a) := by
  intro pins s σ H xs us Q I r h
  obtain ⟨D, c, cv, b, rfl, E, rfl, hdd, hcv, e, q⟩ := h
  cases r with
  | cons rx rr =>
    cases rr with
    | cons rt rr =>
      cases rr
      cases rx
      have ec := hcv _ rt
      subst ec
      obtain ⟨hget, _⟩ := I.pin (a, oe) (List.mem_append.mpr (.inl List.mem_cons_self))
      obtain ⟨vs, hv⟩ := hf
      have J : ∃ od, PySem.W.InstAt s.heap a oe D od := by
        obtain ⟨oc, od, oda, osl⟩ := oe
        obtain ⟨h1, h2⟩ := hz
        dsimp only at h1 h2 hv
        subst h1 h2 hv
        cases od with
        | none => exact ⟨none, hget, rfl, rfl, trivial⟩
        | some dd =>
          obtain ⟨fs, ed⟩ := hdd dd rfl
          have hx : ObjOk X.prog X.w H s.heap dd (.xd fs) := I.hok dd _ ed
          obtain ⟨mA, ⟨o, es, ep, ho, _⟩, _⟩ := hx
          exact ⟨some o, hget, rfl, rfl, ho⟩
      obtain ⟨od, J⟩ := J
      exact PySem.W.kia_one (PySem.W.kitx_exc E.ic E.xf.ga E.xf.gg E.xf.exC E.ca E.cn E.ct E.cm) I.kIn J e (fun z => nomatch z) fun tk => ⟨.bl b, H, I.kept (t' := tk) fun _ _ z => z, rfl, q⟩
/-! ### making an error -/
def rOex (C : Addr) (sp : Sp) (vs : List V) (H1 : Hp) (Q : XK) : Prop := vs.length ≤ 1000 ∧ ∀ a, H1 a = none → sp (.ref a :: (vs ++ [])) (upd H1 a (exo a C none))
  (fun v H2 => v = .non ∧ ∃ (d : Addr) (fs : List (Str × V)), H2 a = some (exo a C (some d)) ∧ H2 d = some (exd d fs) ∧ H1 d = none ∧ Q (.ref C) (some d) (upd (del H2 a) d (.xd fs))) (fun _ _ _ => False)
def tOex (C : Addr) (sp : Sp) (ta : TA) : L2.St → Hp → XK → Prop := fun σ H Q => ta σ H fun vs H1 => rOex C sp vs H1 Q
/-- __init__ of one field -/
def spI1 (C : Addr) (f : Str) : Sp := fun vs H Q _ => ∃ a v, vs = [.ref a, v] ∧ H a = some (exo a C none) ∧ ∀ dx, H dx = none → dx ≠ a → Q .non (upd (upd H dx (exd dx [(f, v)])) a (exo a C (some dx)))
def spI2 (C : Addr) (f g : Str) : Sp := fun vs H Q _ => ∃ a v w, vs = [.ref a, v, w] ∧ H a = some (exo a C none) ∧ ∀ dx, H dx = none → dx ≠ a → Q .non (upd (upd (upd H dx (exd dx [(f, v)])) a (exo a C (some dx))) dx (exd dx [(g, w), (f, v)]))
theorem a_oex1 {C : Addr} {f : Str} {v : V} {H : Hp} {Q : XK} (q : ∀ d H', H d = none → Same H H' → H' d = some (.xd [(f, v)]) → Q (.ref C) (some d) H') : rOex C (spI1 C f) [v] H Q := by
  refine ⟨by show 1 ≤ 1000; decide, fun a ha => ⟨a, v, rfl, upd_same, fun dx hd ne => ⟨rfl, dx, [(f, v)], upd_same, by rw [upd_ne ne, upd_same], ?_, ?_⟩⟩⟩
  · rw [upd_ne ne] at hd
    exact hd
  · rw [upd_ne ne] at hd
    refine q dx _ hd (fun c o e => ?_) upd_same
    rw [upd_ne (ne_of_none e hd), del_ne (ne_of_none e ha), upd_ne (ne_of_none e ha), upd_ne (ne_of_none e hd), upd_ne (ne_of_none e ha)]
    exact e
theorem a_oex2 {C : Addr} {f g : Str} {v w : V} {H : Hp} {Q : XK} (q : ∀ d H', H d = none → Same H H' → H' d = some (.xd [(g, w), (f, v)]) → Q (.ref C) (some d) H') : rOex C (spI2 C f g) [v, w] H Q := by
  refine ⟨by show 2 ≤ 1000; decide, fun a ha => ⟨a, v, w, rfl, upd_same, fun dx hd ne => ⟨rfl, dx, [(g, w), (f, v)], by rw [upd_ne (Ne.symm ne), upd_same], upd_same, ?_, ?_⟩⟩⟩
  · rw [upd_ne ne] at hd
    exact hd
  · rw [upd_ne ne] at hd
    refine q dx _ hd (fun c o e => ?_) upd_same
    rw [upd_ne (ne_of_none e hd), del_ne (ne_of_none e ha), upd_ne (ne_of_none e hd), upd_ne (ne_of_none e ha), upd_ne (ne_of_none e hd), upd_ne (ne_of_none e ha)]
    exact e
/-- a class whose __init__ keeps sp -/
structure Rai (P : Program) (w : World) (K : PySem.W.Frag) (mg : Str → Option Value) (base : Heap) (x : Str) (C : Addr) (k : Nat) (sp : Sp) : Prop where
  at_ : mg x = some (.ref C)
  er : Err K C
  ex : ∃ (f : Addr) (fd : FuncData) (ps : List Str), PySem.W.findIn K (.ref C) "__init__" = some (some (.ref f)) ∧ PySem.W.typeIn K (.ref f) = some (.type "function") ∧ FnOk P w K mg base (L2.CX P w) k f fd ps sp ∧ Binds K fd ps []
section
variable {X : Cx} {x : Str} {C : Addr} {k j : Nat} {sp : Sp} {e : Expr} {es : List Expr} {ta : TA} {p pos : Pos}
theorem passF {X : Cx} : Passes (L2.CX X.prog X.w) X (fun _ _ _ => False) := fun _ _ _ _ _ _ _ h => by
  obtain ⟨_, _, _, _, _, _, _, _, _, _, _, _, z⟩ := h
  exact z.elim
theorem pmk_r (c : Rai X.prog X.w X.K X.mg X.base x C k sp) (hr : Room j X.A) (hk : k + 1 ≤ j) (hg : Gl X x) (ha : PA X (e :: es) ta) (hd : (x == ("__debug__" : Str)) = false := by decide)
    (h1 : starEach (e :: es) X.env = (false, eval e X.env) :: starEach es X.env := by rfl) (h2 : (backTo pos (starEach es X.env)).any (·.1) = false := by rfl) : PMk X (.Call (.Name x p) (e :: es) [] pos) (tOex C sp ta) := by
  obtain ⟨f, fd, ps, h3, h4, F, b⟩ := c.ex
  exact pmk_oex c.er.ox h3 h4 F (hr.mono hk) b .nil passF hg c.at_ ha hd h1 h2
/-- C(): no __init__ of its own -/
structure Rai0 (K : PySem.W.Frag) (mg : Str → Option Value) (x : Str) (C : Addr) : Prop where
  at_ : mg x = some (.ref C)
  er : Err K C
  ei : PySem.W.excIn K C [.type "ValueError", .type "Exception", .type "BaseException", .type "object"] "ValueError.__new__" = true
theorem pmk_r0 (c : Rai0 X.K X.mg x C) (hg : Gl X x) (hd : (x == ("__debug__" : Str)) = false := by decide) : PMk X (.Call (.Name x p) [] [] pos) (fun _ H Q => Q (.ref C) none H) := by
  intro pins s σ H Q I h
  obtain ⟨hp, g, dr, tk, os⟩ := s
  refine wpAny_Call_Name_kw (ld_glob I hg c.at_ (PySem.W.callWith_K0 (first := []) I.kIn c.er.ox.kC ?_) hd)
  obtain ⟨bm, N, nm, qn, bs, hdct, sn, sub, ab, col, dd, a0, a1, a2, a3, a5, mN, hC, hN, hni, T⟩ := exc_obj I.kIn c.ei
  refine wpAny_call_exc_subT PySem.F.excBase_ValueError T hC hN hni (fun h' e hm => ?_) (by rw [sizeLine_eq]; exact Nat.zero_le _)
  exact mk_of I hm (raises_own c.er.ox.exC c.er.ox.tyC) h (I.hok.gone hm.new)
end
end TT

set_option Elab.async false
set_option linter.all false
set_option maxRecDepth 100000
set_option maxHeartbeats 4000000
namespace TT
open PySem PySem.Spec PyProof.Rows L2
open L2 (St)
/-! ### calls whose errors are wished for at the caller's slots -/
abbrev PassS (X : Cx) (E : L2.St → XK) : Prop := ∀ σ, PassesAt (L2.CX X.prog X.w) X σ (E σ)
theorem passS {X : Cx} {W : WX} (tk : Takes X W) : PassS X (WE W) := fun σ => passAt tk σ
section
variable {X : Cx} {x m : Str} {C f : Addr} {k j : Nat} {sp : Sp} {E : L2.St → XK} {e o a b : Expr} {es : List Expr} {to ta tb : TE} {t : TA} {p pos apos : Pos} {pl : Sem Bool}
theorem run_s {pins : List (Addr × Obj)} {σ : L2.St} {H : Hp} {s : Shared} {E : XK} {Q : VK} {us : List Value} {vs : List V} (F : FnR X.prog X.w X.K X.mg X.base (L2.CX X.prog X.w) k f sp) (hr : Room k X.A) (hx : PassesAt (L2.CX X.prog X.w) X σ E) (I : Inv X pins σ H s) (r : Vals vs us) (h : sp vs H Q E) :
    codeAny (model X.prog X.w) X.A (.call (.ref f) ⟨us, []⟩) (fun r s' => match r with | .ok (.ret v) => EP X pins σ Q v s' | .ok _ => False | .error e => X.xe e s') s :=
  codeAny_mono (F X.A X.stack s H us vs Q E hr I.env0 r h) fun r s' q => by
    rcases r with z | fl
    · exact hx pins H s z s' I q
    · cases fl with
      | ret u => exact I.after q
      | next => exact q.elim
      | brk => exact q.elim
      | cont => exact q.elim
def tFS (sp : Sp) (E : L2.St → XK) (t : TA) : TE := fun σ H Q => t σ H fun vs H1 => sp vs H1 Q (E σ)
theorem pe_fS (c : Cal X.prog X.w X.K X.mg X.base x k sp) (hr : Room j X.A) (hk : k ≤ j) (hg : Gl X x) (hx : PassS X E) (ha : PA X (e :: es) t)
    (hd : (x == ("__debug__" : Str)) = false := by decide) (h1 : starEach (e :: es) X.env = (false, eval e X.env) :: starEach es X.env := by rfl)
    (h2 : (backTo pos (starEach es X.env)).any (·.1) = false := by rfl) : PE X (.Call (.Name x p) (e :: es) [] pos) (tFS sp E t) := ⟨fun pins s σ H Q I h => by
  obtain ⟨f, hm, kp, F⟩ := c.ex
  exact wpAny_Call_Name_kw (ld_glob I hg hm (PySem.W.callWith_K (h₀ := X.base) I.ok.mod.kin kp
    (thn (ha.run pos pins s σ H _ I h) fun us s1 ⟨vs, H1, I1, r, q⟩ => ⟨I1.kIn, wpAny_call (run_s F (hr.mono hk) (hx σ) I1 r q)⟩) h1 h2) hd)⟩
theorem pe_fS0 (c : Cal X.prog X.w X.K X.mg X.base x k sp) (hr : Room j X.A) (hk : k ≤ j) (hg : Gl X x) (hx : PassS X E)
    (hd : (x == ("__debug__" : Str)) = false := by decide) : PE X (.Call (.Name x p) [] [] pos) (tFS sp E tNil) := ⟨fun pins s σ H Q I h => by
  obtain ⟨f, hm, kp, F⟩ := c.ex
  exact wpAny_Call_Name_kw (ld_glob I hg hm (PySem.W.callWith_K0 I.kIn kp (wpAny_call (run_s (us := []) (vs := []) F (hr.mono hk) (hx σ) I .nil h))) hd)⟩
def tMS (C : Addr) (m : Str) (sp : Sp) (E : L2.St → XK) (to : TE) (t : TA) : TE := fun σ H Q => to σ H fun x H1 => ∃ a dx fs, x = .ref a ∧ H1 a = some (.ins C dx fs) ∧ fs.lookup m = none ∧ t σ H1 fun vs H2 => sp (x :: vs) H2 Q (E σ)
theorem pe_mS0 (c : Met X.prog X.w X.K X.mg X.base C m k sp) (hr : Room j X.A) (hk : k ≤ j) (hx : PassS X E) (ho : PE X o to)
    (h3 : eval (.Call (.Attribute o m apos) [] [] pos) X.env = (eval o X.env >>= fun ov => standAt apos.atName >>= fun _ => holding [ov] (getMethod ov m pl) >>= fun fr =>
      callWith pos fr.1 fr.2 (backTo pos (starEach [] X.env)) (backToKw pos (keywordEach [] X.env))) := by rfl) :
    PE X (.Call (.Attribute o m apos) [] [] pos) (tMS C m sp E to tNil) := ⟨fun pins s σ H Q I h => by
  obtain ⟨f, hm, F⟩ := c.ex
  refine PySem.W.methodCall_KW (pl := pl) (thn (ho.run pins s σ H _ I h) fun u s1 hh => ?_) h3
  obtain ⟨v, H1, I1, rv, a, dx, fs, ev, ea, l, q⟩ := hh
  subst ev
  cases (show u = Value.ref a from rv)
  exact getmeth_ok I1 ea c.cl hm l (PySem.W.callWith_K0 (first := [.ref a]) I1.kIn hm.kp (wpAny_call (run_s (us := [.ref a]) (vs := [.ref a]) F (hr.mono hk) (hx σ) I1 (.cons rfl .nil) q)))⟩
theorem pe_mS (c : Met X.prog X.w X.K X.mg X.base C m k sp) (hr : Room j X.A) (hk : k ≤ j) (hx : PassS X E) (ho : PE X o to) (ha : PA X (e :: es) t)
    (h1 : starEach (e :: es) X.env = (false, eval e X.env) :: starEach es X.env := by rfl) (h2 : (backTo pos (starEach es X.env)).any (·.1) = false := by rfl)
    (h3 : eval (.Call (.Attribute o m apos) (e :: es) [] pos) X.env = (eval o X.env >>= fun ov => standAt apos.atName >>= fun _ => holding [ov] (getMethod ov m pl) >>= fun fr =>
      callWith pos fr.1 fr.2 (backTo pos (starEach (e :: es) X.env)) (backToKw pos (keywordEach [] X.env))) := by rfl) :
    PE X (.Call (.Attribute o m apos) (e :: es) [] pos) (tMS C m sp E to t) := ⟨fun pins s σ H Q I h => by
  obtain ⟨f, hm, F⟩ := c.ex
  refine PySem.W.methodCall_KW (pl := pl) (thn (ho.run pins s σ H _ I h) fun u s1 hh => ?_) h3
  obtain ⟨v, H1, I1, rv, a, dx, fs, ev, ea, l, q⟩ := hh
  subst ev
  cases (show u = Value.ref a from rv)
  exact getmeth_ok I1 ea c.cl hm l (PySem.W.callWith_K (first := [.ref a]) (h₀ := X.base) I1.ok.mod.kin hm.kp (thn (ha.run pos pins _ σ H1 _ (I1.tok _) q) fun us s2 ⟨vs, H2, I2, r, q2⟩ =>
    ⟨I2.kIn, wpAny_call (run_s (us := .ref a :: us) (vs := .ref a :: vs) F (hr.mono hk) (hx σ) I2 (.cons rfl r) q2)⟩) h1 h2)⟩
def tKS (C : Addr) (sp : Sp) (E : L2.St → XK) (t : TA) : TE := fun σ H Q => t σ H fun vs H1 => rMk C sp (E σ) vs H1 Q
theorem pe_kS (c : Mak X.prog X.w X.K X.mg X.base x C k sp) (hr : Room j X.A) (hk : k + 1 ≤ j) (hg : Gl X x) (hx : PassS X E) (ha : PA X (e :: es) t)
    (hd : (x == ("__debug__" : Str)) = false := by decide) (h1 : starEach (e :: es) X.env = (false, eval e X.env) :: starEach es X.env := by rfl)
    (h2 : (backTo pos (starEach es X.env)).any (·.1) = false := by rfl) : PE X (.Call (.Name x p) (e :: es) [] pos) (tKS C sp E t) := ⟨fun pins s σ H Q I h => by
  obtain ⟨f, M, F⟩ := c.ex
  refine wpAny_Call_Name_kw (ld_glob I hg c.at_ (PySem.W.callWith_K (h₀ := X.base) I.ok.mod.kin M.kp (thn (ha.run pos pins s σ H _ I h) fun us s1 ⟨vs, H1, I1, r, q⟩ => ⟨I1.kIn, ?_⟩) h1 h2) hd)
  have q0 := q (s1.heap.objs.size + 1) s1.heap.objs.size (I1.hok.fresh (Nat.le_succ _)) (I1.hok.fresh (Nat.le_refl _)) (Nat.ne_of_lt (Nat.lt_succ_self _))
  have I2 := Inv.made (C := C) I1
  refine wpAny_call (make_map (f := f) I1.kIn M.makes M.init (beq_iff_eq.mp M.fn) (codeAny_mono (F _ X.stack _ _ (Value.ref (s1.heap.objs.size + 1) :: us) (V.ref (s1.heap.objs.size + 1) :: vs) _ (E σ) ((hr.mono hk).make C us []) (I2.env0.make C us []) (.cons rfl r) q0) fun z s' q' => ?_))
  rcases z with z | fl
  · exact hx σ pins _ _ z s' I2 q'
  · cases fl with
    | ret u =>
      obtain ⟨v, H', I3, rv, ev, q3⟩ := I2.after q'
      subst ev
      exact ⟨rv, V.ref (s1.heap.objs.size + 1), H', I3, rfl, q3⟩
    | next => exact q'.elim
    | brk => exact q'.elim
    | cont => exact q'.elim⟩
def tSS (C : Addr) (sp : Sp) (E : L2.St → XK) (to : TE) (t : TA) : TE := fun σ H Q => to σ H fun x H1 => x = .ref C ∧ t σ H1 fun vs H2 => sp vs H2 Q (E σ)
theorem pe_sS (c : Sta X.prog X.w X.K X.mg X.base C m k sp) (hr : Room j X.A) (hk : k ≤ j) (hx : PassS X E) (ho : PE X o to) (ha : PA X (e :: es) t)
    (h1 : starEach (e :: es) X.env = (false, eval e X.env) :: starEach es X.env := by rfl) (h2 : (backTo pos (starEach es X.env)).any (·.1) = false := by rfl)
    (h3 : eval (.Call (.Attribute o m apos) (e :: es) [] pos) X.env = (eval o X.env >>= fun ov => standAt apos.atName >>= fun _ => holding [ov] (getMethod ov m pl) >>= fun fr =>
      callWith pos fr.1 fr.2 (backTo pos (starEach (e :: es) X.env)) (backToKw pos (keywordEach [] X.env))) := by rfl) :
    PE X (.Call (.Attribute o m apos) (e :: es) [] pos) (tSS C sp E to t) := ⟨fun pins s σ H Q I h => by
  obtain ⟨p, f, hf, ⟨rest, hrec⟩, kp, F⟩ := c.ex
  refine PySem.W.methodCall_KW (pl := pl) (thn (ho.run pins s σ H _ I h) fun u s1 hh => ?_) h3
  obtain ⟨v, H1, I1, rv, ev, q⟩ := hh
  subst ev
  cases (show u = Value.ref C from rv)
  refine PySem.W.method_cls I1.kIn c.ga (PySem.W.cls_bind I1.kIn c.rd hf (wpAny_call ?_))
  refine PySem.W.sm_get (s := { s1 with toks := s1.toks + 1 }) I1.kIn hrec (PySem.W.handed_on rfl ?_)
  exact PySem.W.callWith_K (first := []) (h₀ := X.base) I.ok.mod.kin kp (thn (ha.run pos pins _ σ H1 _ (I1.tok _) q) fun us s2 ⟨vs, H2, I2, r, q2⟩ =>
    ⟨I2.kIn, wpAny_call (run_s F (hr.mono hk) (hx σ) I2 r q2)⟩) h1 h2⟩
/-- a * b by the class's own def -/
def tBS (C : Addr) (sp : Sp) (E : L2.St → XK) (ta tb : TE) : TE := fun σ H Q => ta σ H fun x H1 => tb σ H1 fun y H2 => rOwnB C sp (E σ) x y H2 Q
theorem pe_mulS (ow : Own X.K C) (c : Met X.prog X.w X.K X.mg X.base C "__mul__" k sp) (hr : Room j X.A) (hk : k ≤ j) (hx : PassS X E) (ha : PE X a ta) (hb : PE X b tb) : PE X (.BinOp a .Mult b pos) (tBS C sp E ta tb) := ⟨fun pins s σ H Q I h =>
  wpAny_BinOp (binT ha hb I h fun v u s2 x y H2 I2 rx ry q => by
    obtain ⟨o1, dx, fs, o2, dy, gs, rfl, rfl, h1, h2, q⟩ := q
    obtain ⟨f, hm, F⟩ := c.ex
    cases (show v = Value.ref o1 from rx)
    cases (show u = Value.ref o2 from ry)
    obtain ⟨mA, O, _⟩ := ins_get I2.hok h1
    obtain ⟨od, J, _⟩ := O.look
    obtain ⟨mB, O', _⟩ := ins_get I2.hok h2
    obtain ⟨od', J', _⟩ := O'.look
    obtain ⟨m, hF⟩ := I2.fr
    refine PySem.W.binop_K (op := .Mult) hF I2.ok.mod.kin J J'.type ow.sf hm.at_ hm.fn ?_
    refine wpAny_mono (wpAny_call (run_s (us := [.ref o1, .ref o2]) (vs := [.ref o1, .ref o2]) F (hr.mono hk) (hx σ) I2 (.cons rfl (.cons rfl .nil)) q)) (fun w s' z => ?_) fun _ _ z => z
    obtain ⟨z', H', I', rz, qz⟩ := z
    exact SlX.cmpback rz ⟨z', H', I', rz, qz⟩)⟩
end
/-! ### try with any number of clauses «except x as n» -/
/-- what stands behind a suite: its name is gone -/
def gone (D : Ends) (i : Nat) : Ends := { nx := fun σ H => D.nx (σ.set i none) H, rt := D.rt, bk := fun σ H => D.bk (σ.set i none) H, ct := fun σ H => D.ct (σ.set i none) H }
def wN (K : PySem.W.Frag) (Wout : WX) (D : Ends) : List (Value × Nat × (Addr → Value → Option Addr → TS)) → WX
  | [] => Wout
  | (c, i, ts) :: r => fun cls d σ H => ∃ b, PySem.W.exmOne K cls c = some b ∧ (b = true → ∀ a, H a = none → ts a cls d (gone D i) (σ.set i (some (.ref a))) H) ∧ (b = false → wN K Wout D r cls d σ H)
inductive HdsN (X : Cx) : List ExceptHandler → List (Value × Nat × (Addr → Value → Option Addr → TS)) → Prop
  | nil : HdsN X [] []
  | cons {x n : Str} {c : Value} {i : Nat} {ts : Addr → Value → Option Addr → TS} {b₀ : Stmt} {suite : List Stmt} {np pos' : Pos} {hds : List ExceptHandler} {l : List (Value × Nat × (Addr → Value → Option Addr → TS))} (hi : X.N[i]? = some n) (hln : X.env.kindOf n = some .local) (hc : Names X x c)
      (hsu : ∀ (a : Addr) (oe : Obj) (cls : Value) (d : Option Addr) (pn : List (Addr × Obj)), Zc cls d oe → (∃ vs, oe.data = .fields vs) → PSs (X.suite a ((a, oe) :: pn)) (b₀ :: suite) (ts a cls d)) (r : HdsN X hds l) :
      HdsN X (.ExceptHandler (some (.Name x np)) (some n) (b₀ :: suite) pos' :: hds) ((c, i, ts) :: l)
section
variable {X : Cx} {body : List Stmt} {h₀ : ExceptHandler} {hds : List ExceptHandler} {l : List (Value × Nat × (Addr → Value → Option Addr → TS))} {pos : Pos} {tb : WX → TS} {Wout : WX}
theorem ps_tryN (hs : X.stack = X.env :: X.outer) (hf : X.env.frame = some X.env.locals) (hN : X.N.Nodup) (tk : Takes X Wout)
    (hb : ∀ (W : WX) (pn : List (Addr × Obj)) (xe : Value → Shared → Prop), Takes (X.tr pn xe) W → PassesOwn (model X.prog X.w) X.A X.env xe → PSs (X.tr pn xe) body (tb W))
    (hh : HdsN X (h₀ :: hds) l) : PS X (.Try body (h₀ :: hds) [] [] pos) (fun D σ H => tb (wN X.K Wout D l) D σ H) := ⟨fun pins s σ H D I h => by
  have ok := I.ok
  have fr0 : X.A.frames = some (X.env :: X.outer) := ok.frames.trans (by rw [hs])
  refine wpAny_Try_except (wpAny_mono ((hb (wN X.K Wout D l) (X.pn ++ pins) (fun z t1 => wpAny (model X.prog X.w) X.A (noteFrame z X.env) (fun _ t2 => wpAny (model X.prog X.w) X.A (setFlight z none) (fun _ t3 =>
    wpAny (model X.prog X.w) X.A (handleBy z X.env (h₀ :: hds)) (SP X pins D) X.xe t3) X.xe t2) X.xe t1) (fun u s' xx => ?_) PassesOwn.looking).run [] s σ H D (I.toTry _) h) (fun fl s1 hsp => ?_) fun _ _ z => z)
  · obtain ⟨a, B, sI, pins', σ', H', cls, d, rfl, J0, nb, up, sk0, na, os, ag, wi⟩ := xx
    have J : Inv X pins σ' H' sI := J0.ofTry ok
    have sk : Sky B (X.env :: X.outer) a (Zc cls d) X.env.locals s'.heap := hs ▸ sk0
    refine Sky.land Zc.steady fr0 hf sk fun h3 fl3 up3 => ?_
    have J3 : Inv X pins σ' H' { s' with heap := h3 } := J.landed nb fl3.1 (up.trans up3) os ag
    obtain ⟨oe3, vs3, he3, hz3, hd3⟩ := fl3.there
    have nfr : a ∉ frs (X.env :: X.outer) := fun hm => by
      obtain ⟨_, o', e', hnf⟩ := fl3.2.2.1.mem hm
      rw [he3] at e'
      cases e'
      exact hnf _ hd3
    have nL : a ≠ X.env.locals := fun z => nfr (List.mem_filterMap.mpr ⟨X.env, List.mem_cons_self, hf.trans (by rw [z])⟩)
    have nF : a ∉ X.fs := fun hm => by
      obtain ⟨en, he, q⟩ := List.mem_filterMap.mp hm
      exact nfr (List.mem_filterMap.mpr ⟨en, List.mem_cons_of_mem _ he, q⟩)
    have S3 := J3.suite he3 hd3 na nL nF
    have go : ∀ {g : List ExceptHandler} {l' : List (Value × Nat × (Addr → Value → Option Addr → TS))}, HdsN X g l' → wN X.K Wout D l' cls d σ' H' →
        wpAny (model X.prog X.w) X.A (handleBy (.ref a) X.env g) (SP X pins D) X.xe { s' with heap := h3 } := by
      intro g l' hk
      induction hk with
      | nil =>
        intro wi
        refine wpAny_handleBy_nil ?_
        obtain ⟨_, _, _, oe, vs, T, oT, ts', he, hz, hd, h1, _⟩ := id fl3
        unfold PySem.passOn
        refine wpAny_bind (wpAny_field he hd h1 ?_)
        rw [if_neg (by simp : ¬ ((Value.ref T == Value.none) = true))]
        have out : wpAny (model X.prog X.w) X.A (setFlight (.ref a) X.env.frame) (fun _ t4 => wpAny (model X.prog X.w) X.A (throw (.ref a) : Sem Flow) (SP X pins D) X.xe t4) X.xe { s' with heap := h3 } := by
          rw [hf]
          exact HandSPX.setFlight_upZ fl3 fun h4 hh4 up4 => wpAny_throw (tk _ _ ⟨a, B, sI, pins, σ', H', cls, d, rfl, J, nb, (up.trans up3).trans up4, .inr (.inr (by rw [hs]; exact hh4)), na, os, ag, wi⟩)
        first
          | exact wpAny_bind (wpAny_pure (wpAny_bind out))
          | exact wpAny_bind out
      | @cons x n c i ts b₀ suite np pos' g2 l2 hi hln hc hsu r ih =>
        intro wi
        obtain ⟨b, hb1, yes, no⟩ := wi
        refine wpAny_handleBy_cons (codeAny_handlers_test ?_) (fun q => by cases q)
        have LT : PySem.W.Looks (model X.prog X.w) h3 (typeOf (.ref a)) cls := fun A Q E t k q => wpAny_typeOf_ref (k _ _ he3) (hz3.1 ▸ q)
        have LM := PySem.W.exm_one (M := model X.prog X.w) (J3.kIn) LT hb1
        have test : ∀ {Q : Value → Shared → Prop} {E : Value → Shared → Prop}, Q c { s' with heap := h3 } → wpAny (model X.prog X.w) (X.A.mark (some (.ref a))) (eval (.Name x np) X.env) Q E { s' with heap := h3 } := fun {Q E} q => by
          obtain ⟨c1, c2, c3 | ⟨c3, c4, c5⟩⟩ := hc
          · exact ld_glob (X := X.suite a ((a, oe3) :: (X.pn ++ pins))) S3 c1 c3 q c2
          · exact ld_blt (X := X.suite a ((a, oe3) :: (X.pn ++ pins))) S3 c1 c3 c4 q c5 c2
        refine test (LM.here ?_)
        cases b with
        | true =>
          refine codeAny_handlers_suite_as (HandSPX.lands_againZ fl3 fun h4 fl4 up4 => ?_)
          have J4 : Inv X pins σ' H' { s' with heap := h4 } := J.landed nb fl4.1 ((up.trans up3).trans up4) os ag
          obtain ⟨oe4, vs4, he4, hz4, hd4⟩ := fl4.there
          have S4 := J4.suite he4 hd4 na nL nF
          refine store_ok (X := X.suite a ((a, oe4) :: (X.pn ++ pins))) (v := .ref a) S4 hN hi (.inl hln) rfl (fun s5 S5 => ?_) (.inr hln)
          refine wpAny_mono ((hsu a oe4 cls d (X.pn ++ pins) hz4 ⟨_, hd4⟩).run [] s5 _ H' _ S5 (yes rfl a na)) (fun fl t6 hsp => ?_) (fun _ _ z => z.elim)
          have fin : ∀ {σ6 : L2.St} {H6 : Hp} {Q : Shared → Prop}, Inv (X.suite a ((a, oe4) :: (X.pn ++ pins))) [] σ6 H6 t6 → (∀ t7, Inv X pins (σ6.set i none) H6 t7 → Q t7) →
              wpAny (model X.prog X.w) X.A (do bindName X.env n .none; unbindBehindTheSuite X.env n pos') (fun _ t7 => Q t7) X.xe t6 := fun {σ6 H6 Q} S6 hq => gone_ok (S6.unsuite ok) hN hi hln hq
          cases fl with
          | next =>
            obtain ⟨_, _, S6, q6⟩ := hsp
            exact fin S6 fun t7 J7 => ⟨_, _, J7, q6⟩
          | brk =>
            obtain ⟨_, _, S6, q6⟩ := hsp
            exact fin S6 fun t7 J7 => ⟨_, _, J7, q6⟩
          | cont =>
            obtain ⟨_, _, S6, q6⟩ := hsp
            exact fin S6 fun t7 J7 => ⟨_, _, J7, q6⟩
          | ret u =>
            obtain ⟨_, _, _, S6, r6, q6⟩ := hsp
            exact fin S6 fun t7 J7 => ⟨_, _, _, J7, r6, q6⟩
        | false => exact ih (no rfl)
    exact go hh wi
  · cases fl with
    | next =>
      obtain ⟨_, _, J1, q⟩ := hsp
      exact wpAny_execs_nil ⟨_, _, J1.ofTry ok, q⟩
    | brk =>
      obtain ⟨_, _, J1, q⟩ := hsp
      exact ⟨_, _, J1.ofTry ok, q⟩
    | cont =>
      obtain ⟨_, _, J1, q⟩ := hsp
      exact ⟨_, _, J1.ofTry ok, q⟩
    | ret u =>
      obtain ⟨_, _, _, J1, r, q⟩ := hsp
      exact ⟨_, _, _, J1.ofTry ok, r, q⟩⟩
end
end TT

set_option Elab.async false
set_option linter.all false
set_option maxRecDepth 100000
set_option maxHeartbeats 4000000
namespace TT
open PySem PySem.Spec PyProof.Rows L2
/-! ### raise and try, named -/
def tRaise (W : WX) (t : L2.St → Hp → XK → Prop) : TS := fun _ σ H => t σ H fun cls d H' => W cls d σ H'
theorem ps_rs {X : Cx} {W : WX} {e : Expr} {t : L2.St → Hp → XK → Prop} {pos : Pos} (hc : X.calm = true) (tk : Takes X W) (he : PMk X e t) : PS X (.Raise (some e) none pos) (tRaise W t) := ps_raise hc tk he
def tR0 (C : Addr) : L2.St → Hp → XK → Prop := fun _ H Q => Q (.ref C) none H
theorem pmk_n {X : Cx} {x : Str} {C : Addr} {p pos : Pos} (c : Rai0 X.K X.mg x C) (hg : Gl X x) (hd : (x == ("__debug__" : Str)) = false := by decide) : PMk X (.Call (.Name x p) [] [] pos) (tR0 C) := pmk_r0 c hg hd
def tTry (K : PySem.W.Frag) (Wout : WX) (l : List (Value × Nat × (Addr → Value → Option Addr → TS))) (tb : WX → TS) : TS := fun D σ H => tb (wN K Wout D l) D σ H
theorem ps_tr {X : Cx} {K : PySem.W.Frag} {body : List Stmt} {h₀ : ExceptHandler} {hds : List ExceptHandler} {l : List (Value × Nat × (Addr → Value → Option Addr → TS))} {pos : Pos} {tb : WX → TS} {Wout : WX} (hK : X.K = K) (hs : X.stack = X.env :: X.outer) (hf : X.env.frame = some X.env.locals) (hN : X.N.Nodup) (tk : Takes X Wout)
    (hb : ∀ (W : WX) (pn : List (Addr × Obj)) (xe : Value → Shared → Prop), Takes (X.tr pn xe) W → PassesOwn (model X.prog X.w) X.A X.env xe → PSs (X.tr pn xe) body (tb W))
    (hh : HdsN X (h₀ :: hds) l) : PS X (.Try body (h₀ :: hds) [] [] pos) (tTry K Wout l tb) := by subst hK; exact ps_tryN hs hf hN tk hb hh
theorem k_isX {X : Cx} {K : PySem.W.Frag} {a : Addr} {cls : Value} {d : Option Addr} {oe : Obj} {pn : List (Addr × Obj)} (hK : X.K = K) (hz : Zc cls d oe) (hf : ∃ vs, oe.data = .fields vs) : CallR (X.suite a ((a, oe) :: pn)) (.builtin "isinstance") (rIsX K cls d a) := by subst hK; exact call_isX hz hf
theorem k_xf {X : Cx} {K : PySem.W.Frag} {a C : Addr} {oe : Obj} {cls : Value} {d : Option Addr} {pn : List (Addr × Obj)} {e : Expr} {te : TE} {pos : Pos} {n : Str} (hK : X.K = K) (T : XfC K C) (hno : PySem.W.findIn K (.ref C) n = some none)
    (hz : Zc cls d oe) (hf : ∃ vs, oe.data = .fields vs) (he : PE (X.suite a ((a, oe) :: pn)) e te) (hb : attributeBase e n X.env (eval e X.env) = eval e X.env := by rfl) :
    PE (X.suite a ((a, oe) :: pn)) (.Attribute e n pos) (tXf a cls d C n te) := by subst hK; exact pe_xf T hno hz hf he hb
def tCOS (C : Addr) (sp : Sp) (E : L2.St → XK) (tf : TE) (t : TA) : TE := fun σ H Q => tf σ H fun y H1 => ∃ a, y = V.ref a ∧ t σ H1 fun vs H2 => (∃ dx fs, H2 a = some (.ins C dx fs)) ∧ sp (V.ref a :: vs) H2 Q (E σ)
theorem pe_coS {X : Cx} {C : Addr} {sp : Sp} {E : L2.St → XK} {k i : Nat} {fe e : Expr} {es : List Expr} {tf : TE} {t : TA} {pos : Pos} (c : Met X.prog X.w X.K X.mg X.base C "__call__" k sp) (fi : ∀ g, Meth X.K C "__call__" g → PySem.W.fnIn X.K g = true) (hr : Room i X.A) (hk : k ≤ i) (hx : PassS X E) (hf : PE X fe tf) (ha : PA X (e :: es) t)
    (h1 : eval (.Call fe (e :: es) [] pos) X.env = (eval fe X.env >>= fun z => callWith pos z [] (backTo pos (starEach (e :: es) X.env)) (backToKw pos (keywordEach [] X.env))) := by rfl)
    (h2 : starEach (e :: es) X.env = (false, eval e X.env) :: starEach es X.env := by rfl) (h3 : (backTo pos (starEach es X.env)).any (·.1) = false := by rfl) : PE X (.Call fe (e :: es) [] pos) (tCOS C sp E tf t) := ⟨fun pins s σ H Q I h => by
  obtain ⟨g, hm, F⟩ := c.ex
  refine Call_ (thn (hf.run pins s σ H _ I h) fun u s1 hh => ?_) h1
  obtain ⟨y, H1, I1, ry, a, ey, q⟩ := hh
  subst ey
  cases (show u = Value.ref a from ry)
  refine StX.callO_with (thn (ha.run pos pins s1 σ H1 _ I1 q) fun us s2 hh2 => ?_) h2 h3
  obtain ⟨vs, H2, I2, r, ⟨dx, fs, hi⟩, q2⟩ := hh2
  obtain ⟨ox, od, J, hd⟩ := StX.insC_at (C := C) I2 (.inr ⟨dx, fs, hi⟩)
  exact ⟨⟨C, ox, od, J, hd⟩, wpAny_call (PySem.W.kco_code I2.kIn J hd hm.at_ hm.fn (fi g hm) (run_s (us := .ref a :: us) (vs := .ref a :: vs) F (hr.mono hk) (hx σ) I2 (.cons rfl r) q2))⟩⟩
theorem g_cos {σ : L2.St} {H : Hp} {Q : VK} {C : Addr} {sp : Sp} {E : L2.St → XK} {tf : TE} {t : TA} (h : tf σ H fun y H1 => ∃ a, y = V.ref a ∧ t σ H1 fun vs H2 => (∃ dx fs, H2 a = some (.ins C dx fs)) ∧ sp (V.ref a :: vs) H2 Q (E σ)) : tCOS C sp E tf t σ H Q := h
section
variable {K : PySem.W.Frag} {σ : L2.St} {H H1 : Hp} {Q : VK} {QX : XK} {D : Ends} {t u : TS} {ta tb te : TE} {ts : TA} {i : Nat} {v x y : V} {a p b C : Addr} {sp : Sp} {E : L2.St → XK} {W Wout : WX} {cls : Value} {d : Option Addr}
theorem g_raise {t : L2.St → Hp → XK → Prop} (h : t σ H fun cls d H' => W cls d σ H') : tRaise W t D σ H := h
theorem g_r0 (h : QX (.ref C) none H) : tR0 C σ H QX := h
theorem g_oex (h : ts σ H fun vs H1 => rOex C sp vs H1 QX) : tOex C sp ts σ H QX := h
theorem g_try {l : List (Value × Nat × (Addr → Value → Option Addr → TS))} {tb : WX → TS} (h : tb (wN K Wout D l) D σ H) : tTry K Wout l tb D σ H := h
theorem g_FS (h : ts σ H fun vs H1 => sp vs H1 Q (E σ)) : tFS sp E ts σ H Q := h
theorem g_MS {m : Str} (h : ta σ H fun x H1 => ∃ a dx fs, x = .ref a ∧ H1 a = some (.ins C dx fs) ∧ fs.lookup m = none ∧ ts σ H1 fun vs H2 => sp (x :: vs) H2 Q (E σ)) : tMS C m sp E ta ts σ H Q := h
theorem g_KS (h : ts σ H fun vs H1 => rMk C sp (E σ) vs H1 Q) : tKS C sp E ts σ H Q := h
theorem g_SS (h : ta σ H fun x H1 => x = .ref C ∧ ts σ H1 fun vs H2 => sp vs H2 Q (E σ)) : tSS C sp E ta ts σ H Q := h
theorem g_BS (h : ta σ H fun x H1 => tb σ H1 fun y H2 => rOwnB C sp (E σ) x y H2 Q) : tBS C sp E ta tb σ H Q := h
/-- e.f, its class and its dict known -/
theorem g_xf {f : Str} {dd : Addr} {fs : List (Str × V)} (h : te σ H fun x H1 => x = .ref a ∧ ∃ fs v, H1 dd = some (.xd fs) ∧ fs.lookup f = some v ∧ Q v H1) (mono : ∀ R R' : VK, (∀ x H, R x H → R' x H) → te σ H R → te σ H R') : tXf a (.ref C) (some dd) C f te σ H Q :=
  mono _ _ (fun x H1 ⟨e, fs, v, h1, h2, q⟩ => ⟨e, rfl, dd, fs, v, rfl, h1, h2, q⟩) h
theorem g_xfv {f : Str} {dd : Addr} {fs : List (Str × V)} {i : Nat} (h1 : σ[i]? = some (some (.ref a))) (h2 : H dd = some (.xd fs)) (h3 : fs.lookup f = some v) (q : Q v H) : tXf a (.ref C) (some dd) C f (tVar i) σ H Q :=
  ⟨_, h1, rfl, rfl, dd, fs, v, rfl, h2, h3, q⟩
theorem g_xf1 {f : Str} {dd : Addr} {i : Nat} (h1 : σ[i]? = some (some (.ref a))) (h2 : H dd = some (.xd [(f, v)])) (q : Q v H) : tXf a (.ref C) (some dd) C f (tVar i) σ H Q :=
  g_xfv h1 h2 (by simp [List.lookup]) q
theorem g_gone {i : Nat} (h : D.nx (σ.set i none) H) : (gone D i).nx σ H := h
theorem a_isX {c : V} {u : Value} {b : Bool} (er : Err K C) (hd : ∀ dd, d = some dd → ∃ fs, H dd = some (.xd fs)) (k : ∀ z, RelV c z → z = u) (e : PySem.W.kitOne K (.ref C) u = some b) (q : Q (.bl b) H) : rIsX K (.ref C) d a [.ref a, c] H Q := ⟨C, c, u, b, rfl, er, rfl, hd, k, e, q⟩
theorem a_isX0 {D : Addr} {b : Bool} (er : Err K C) (e : PySem.W.kitOne K (.ref C) (.ref D) = some b) (q : Q (.bl b) H) : rIsX K (.ref C) none a [.ref a, .ref D] H Q := a_isX er (fun _ z => by cases z) (fun _ z => z) e q
theorem a_isX1 {D dd : Addr} {fs : List (Str × V)} {b : Bool} (er : Err K C) (h : H dd = some (.xd fs)) (e : PySem.W.kitOne K (.ref C) (.ref D) = some b) (q : Q (.bl b) H) : rIsX K (.ref C) (some dd) a [.ref a, .ref D] H Q :=
  a_isX er (fun _ z => by cases z; exact ⟨_, h⟩) (fun _ z => z) e q
theorem a_catch {c : Value} {i : Nat} {f : Addr → Value → Option Addr → TS} {r : List (Value × Nat × (Addr → Value → Option Addr → TS))} (e : PySem.W.exmOne K cls c = some true) (h : ∀ a, H a = none → f a cls d (gone D i) (σ.set i (some (.ref a))) H) : wN K Wout D ((c, i, f) :: r) cls d σ H :=
  ⟨true, e, fun _ => h, fun z => Bool.noConfusion z⟩
theorem a_skip {c : Value} {i : Nat} {f : Addr → Value → Option Addr → TS} {r : List (Value × Nat × (Addr → Value → Option Addr → TS))} (e : PySem.W.exmOne K cls c = some false) (h : wN K Wout D r cls d σ H) : wN K Wout D ((c, i, f) :: r) cls d σ H :=
  ⟨false, e, fun z => Bool.noConfusion z, fun _ => h⟩
theorem a_nite {c A B : Prop} [Decidable c] (h1 : ¬ c → A) (h2 : c → B) : if (!decide c) = true then A else B := by
  by_cases h : c
  · rw [decide_eq_true h]
    exact h2 h
  · rw [decide_eq_false h]
    exact h1 h
end
/-! ### weaker promises -/
section
variable {P : Program} {w : World} {K : PySem.W.Frag} {mg : Str → Option Value} {base : Heap} {x m : Str} {C : Addr} {k : Nat} {sp sp' : Sp}
theorem Cal.imp (c : Cal P w K mg base x k sp) (h : ∀ vs H Q E, sp' vs H Q E → sp vs H Q E) : Cal P w K mg base x k sp' := let ⟨f, a, b, F⟩ := c.ex; ⟨f, a, b, F.imp h⟩
theorem Met.imp (c : Met P w K mg base C m k sp) (h : ∀ vs H Q E, sp' vs H Q E → sp vs H Q E) : Met P w K mg base C m k sp' := let ⟨f, a, F⟩ := c.ex; ⟨c.cl, f, a, F.imp h⟩
theorem Mak.imp (c : Mak P w K mg base x C k sp) (h : ∀ vs H Q E, sp' vs H Q E → sp vs H Q E) : Mak P w K mg base x C k sp' := let ⟨f, a, F⟩ := c.ex; ⟨c.at_, f, a, F.imp h⟩
theorem Sta.imp (c : Sta P w K mg base C m k sp) (h : ∀ vs H Q E, sp' vs H Q E → sp vs H Q E) : Sta P w K mg base C m k sp' := let ⟨p, f, a, b, d, F⟩ := c.ex; ⟨c.rd, c.ga, p, f, a, b, d, F.imp h⟩
theorem rai_of {q : Str} {st : Stmt} {f : Addr} {fd : FuncData} {ps : List Str} {ks : List (Str × V)} (F : FX K "__init__" q st [] ks f fd) (hm : mg x = some (.ref C)) (er : Err K C) (i1 : PySem.W.findIn K (.ref C) "__init__" = some (some (.ref f))) (i2 : PySem.W.typeIn K (.ref f) = some (.type "function"))
    (G : FnOk P w K mg base (L2.CX P w) k f fd ps sp)
    (b : ∀ (kV doc pm : Value) (an : Option Addr) (cdv ct : Value) (us : List Value), us.length = ps.length → bindArgs (PySem.W.fnOf "__init__" q (defArgs st) (defBody st) (defScope st) .none kV doc pm an cdv ct) ⟨us, []⟩ = pure (ps.zip us)) :
    Rai P w K mg base x C k sp := ⟨hm, er, f, fd, ps, i1, i2, G, F.bindsN b⟩
end
end TT

set_option Elab.async false
set_option linter.all false
set_option maxRecDepth 100000
set_option maxHeartbeats 4000000
namespace TT
open PySem PySem.Spec PyProof.Rows L2
/-! ### data of small depth, that can be compared -/
structure Sm (n : Nat) (d : PyData) : Prop where
  lay : d.canLay0 = true
  dep : d.depth ≤ n
def SmA (n : Nat) (ds : List PyData) : Prop := PyData.canLayAll0 ds = true ∧ PyData.depthAll ds ≤ n
theorem Sm.le {n m : Nat} {d : PyData} (h : Sm n d) (l : n ≤ m) : Sm m d := ⟨h.lay, Nat.le_trans h.dep l⟩
theorem Sm.sh {n : Nat} {d : PyData} (h : Sm n d) (l : n ≤ 64 := by decide) : SeqAt.shaped d = true := by
  unfold SeqAt.shaped
  rw [h.lay, decide_eq_true (Nat.le_trans h.dep l)]
  rfl
theorem SmA.nil {n : Nat} : SmA n [] := ⟨by simp [PyData.canLayAll0], by simp [PyData.depthAll]⟩
theorem SmA.cons {n : Nat} {d : PyData} {ds : List PyData} (h : Sm n d) (t : SmA n ds) : SmA n (d :: ds) := ⟨by simp [PyData.canLayAll0, h.lay, t.1], by
  have h1 := h.dep
  have h2 := t.2
  simp only [PyData.depthAll]
  omega⟩
theorem SmA.of {n : Nat} : ∀ {ds : List PyData}, (∀ d ∈ ds, Sm n d) → SmA n ds
  | [], _ => .nil
  | d :: ds, h => .cons (h d (List.mem_cons_self ..)) (SmA.of fun e he => h e (List.mem_cons_of_mem _ he))
theorem Sm.int {n : Nat} (i : Int) : Sm (n + 1) (.int i) := ⟨by simp [PyData.canLay0], by simp [PyData.depth]⟩
theorem Sm.bl {n : Nat} (b : Bool) : Sm (n + 1) (.bool b) := ⟨by simp [PyData.canLay0], by simp [PyData.depth]⟩
theorem Sm.non {n : Nat} : Sm (n + 1) .none := ⟨by simp [PyData.canLay0], by simp [PyData.depth]⟩
theorem Sm.str {n : Nat} (x : Str) (h : PyData.strOk x = true) : Sm (n + 1) (.str x) := ⟨by simp [PyData.canLay0, h], by simp [PyData.depth]⟩
theorem Sm.tup {n : Nat} {ds : List PyData} (h : SmA n ds) : Sm (n + 1) (.tuple ds) := ⟨by simp [PyData.canLay0, h.1], by
  have h2 := h.2
  simp only [PyData.depth]
  omega⟩
theorem Sm.lst {n : Nat} {ds : List PyData} (h : SmA n ds) : Sm (n + 1) (.list ds) := ⟨by simp [PyData.canLay0, h.1], by
  have h2 := h.2
  simp only [PyData.depth]
  omega⟩
/-- a value that reads as small data -/
structure Dq (K : PySem.W.Frag) (H : Hp) (n : Nat) (v : V) (d : PyData) : Prop where
  dp : Dp K H v d
  sm : Sm n d
structure DqA (K : PySem.W.Frag) (H : Hp) (n : Nat) (vs : List V) (ds : List PyData) : Prop where
  dp : DpAll K H vs ds
  sm : SmA n ds
section
variable {K : PySem.W.Frag} {H H1 : Hp} {n : Nat} {v x y : V} {vs : List V} {d e : PyData} {ds : List PyData} {a : Addr} {Q : VK}
theorem DqA.nil : DqA K H n [] [] := ⟨.nil, .nil⟩
theorem DqA.cons (h : Dq K H n v d) (t : DqA K H n vs ds) : DqA K H n (v :: vs) (d :: ds) := ⟨.cons h.dp t.dp, .cons h.sm t.sm⟩
theorem Dq.int (i : Int) : Dq K H (n + 1) (.int i) (.int i) := ⟨.int i, .int i⟩
theorem Dq.bl (b : Bool) : Dq K H (n + 1) (.bl b) (.bool b) := ⟨.bl b, .bl b⟩
theorem Dq.non : Dq K H (n + 1) .non .none := ⟨.non, .non⟩
theorem Dq.str (x : Str) (h : PyData.strOk x = true) : Dq K H (n + 1) (.str x) (.str x) := ⟨.str x, .str x h⟩
theorem Dq.tup (h : SqT K H a vs) (t : DqA K H n vs ds) : Dq K H (n + 1) (.ref a) (.tuple ds) := ⟨.tup h t.dp, .tup t.sm⟩
theorem Dq.lst (h : SqL K H a vs) (t : DqA K H n vs ds) : Dq K H (n + 1) (.ref a) (.list ds) := ⟨.lst h t.dp, .lst t.sm⟩
theorem Dq.same (h : Dq K H n v d) (s : Same H H1) : Dq K H1 n v d := ⟨same_d s d h.dp, h.sm⟩
/-- == and != of what is the same -/
theorem a_eqQ (hx : Dq K H n x d) (hy : Dq K H n y d) (q : Q (.bl true) H) (l : n ≤ 64 := by decide) : rEqU K x y H Q := by
  refine a_eqD hx.dp hy.dp (hx.sm.sh l) (hy.sm.sh l) ?_
  rw [SeqAt.eqv_refl d hx.sm.lay]
  exact q
theorem a_neQ (hx : Dq K H n x d) (hy : Dq K H n y d) (q : Q (.bl false) H) (l : n ≤ 64 := by decide) : rNeU K x y H Q := by
  refine a_neD hx.dp hy.dp (hx.sm.sh l) (hy.sm.sh l) ?_
  rw [SeqAt.eqv_refl d hx.sm.lay]
  exact q
end
def zd (zs : List Int) : List PyData := zs.map .int
def zi (zs : List Int) : List V := zs.map V.int
theorem dqz {K : PySem.W.Frag} {H : Hp} {n : Nat} : ∀ zs : List Int, DqA K H (n + 1) (zi zs) (zd zs)
  | [] => .nil
  | z :: zs => .cons (.int z) (dqz zs)
theorem zi_len (zs : List Int) : (zi zs).length = zs.length := List.length_map ..
theorem zi_get {zs : List Int} {i : Nat} {y : V} (h : (zi zs)[i]? = some y) : ∃ hi : i < zs.length, y = .int zs[i] := by
  unfold zi at h
  rw [List.getElem?_map] at h
  by_cases hi : i < zs.length
  · rw [List.getElem?_eq_getElem hi] at h
    exact ⟨hi, (Option.some.inj h).symm⟩
  · rw [List.getElem?_eq_none (by omega)] at h
    cases h
theorem zi_at {zs : List Int} {i : Nat} (h : i < zs.length) : (zi zs)[i]? = some (.int zs[i]) := by
  unfold zi
  rw [List.getElem?_map, List.getElem?_eq_getElem h]
  rfl
def ni (a : List Nat) : List Int := a.map fun n : Nat => (n : Int)
theorem zi_ni (a : List Nat) : zi (ni a) = vi a := by
  unfold zi ni vi
  rw [List.map_map]
  rfl
theorem ni_inj {a b : List Nat} (h : ni a = ni b) : a = b := by
  have := congrArg (List.map Int.toNat) h
  simpa [ni, List.map_map, Function.comp_def] using this
theorem ni_len (a : List Nat) : (ni a).length = a.length := List.length_map ..
end TT

set_option Elab.async false
set_option linter.all false
set_option maxRecDepth 100000
set_option maxHeartbeats 4000000
namespace TT
open PySem PySem.Spec PyProof.Rows L2
theorem k_sortI {X : Cx} {K : PySem.W.Frag} (hK : X.K = K) : CallR X (.builtin "sorted") (rSortedI K) := by subst hK; exact cr_sortedI
section
variable {K : PySem.W.Frag} {H : Hp} {Q : VK} {p : Addr} {zs : List Int}
theorem a_sortI (h : SqL K H p (zi zs)) (q : ∀ ws l H2, List.Perm ws zs → ws.Pairwise (· ≤ ·) → H l = none → Same H H2 → H2 l = some (.lst (zi ws)) → Q (.ref l) H2) : rSortedI K [.ref p] H Q :=
  ⟨p, zs, rfl, h, fun ws l pm so hl => q ws l _ pm so hl (same_new hl) upd_same⟩
theorem a_rep {xs : List V} {k : Int} (h : H p = some (.lst xs)) (k0 : 0 ≤ k) (k1 : (xs.length : Int) * k ≤ 100000) (k2 : k ≤ 100000) (q : ∀ l H2, H l = none → Same H H2 → H2 l = some (.lst (List.replicate k.toNat xs).flatten) → Q (.ref l) H2) : rMulU K (.ref p) (.int k) H Q :=
  .inr ⟨p, k, xs, rfl, rfl, h, by omega, by omega, by
    rw [sizeLine_eq]
    have : ((xs.length * k.toNat : Nat) : Int) ≤ 100000 := by
      rw [Int.natCast_mul, Int.toNat_of_nonneg k0]
      exact k1
    omega, fun l hl => q l _ hl (same_new hl) upd_same⟩
end
/-- two ways that meet again -/
theorem a_meet {α : Type} {c A B : Prop} [Decidable c] {R J : α → Hp → Prop} (h1 : c → (∀ v H, J v H → R v H) → A) (h2 : ¬ c → (∀ v H, J v H → R v H) → B) (fin : ∀ v H, J v H → R v H) : if decide c = true then A else B := a_ite (fun h => h1 h fin) fun h => h2 h fin
theorem a_nmeet {α : Type} {c A B : Prop} [Decidable c] {R J : α → Hp → Prop} (h1 : ¬ c → (∀ v H, J v H → R v H) → A) (h2 : c → (∀ v H, J v H → R v H) → B) (fin : ∀ v H, J v H → R v H) : if (!decide c) = true then A else B := a_nite (fun h => h1 h fin) fun h => h2 h fin
theorem eqv_zd : ∀ a b : List Int, PyData.eqvAll (zd a) (zd b) = decide (a = b)
  | [], [] => by simp [zd, PyData.eqvAll]
  | [], _ :: _ => by simp [zd, PyData.eqvAll]
  | _ :: _, [] => by simp [zd, PyData.eqvAll]
  | n :: a, m :: b => by
    have ih := eqv_zd a b
    simp only [zd, List.map_cons, PyData.eqvAll, PyData.eqv] at ih ⊢
    rw [ih]
    by_cases h : n = m
    · subst h
      simp
    · have h' : (n == m) = false := by
        rw [beq_eq_false_iff_ne]
        exact h
      rw [h']
      simp [h]
section
variable {K : PySem.W.Frag} {H : Hp} {n : Nat} {x y : V} {Q : VK} {a b : List Int}
theorem a_eqZ {p q : Addr} (hx : SqL K H p (zi a)) (hy : SqL K H q (zi b)) (k : Q (.bl (decide (a = b))) H) : rEqU K (.ref p) (.ref q) H Q := by
  have d1 : Dq K H 2 (.ref p) (.list (zd a)) := .lst hx (dqz a)
  have d2 : Dq K H 2 (.ref q) (.list (zd b)) := .lst hy (dqz b)
  refine a_eqD d1.dp d2.dp d1.sm.sh d2.sm.sh ?_
  have e : PyData.eqv (.list (zd a)) (.list (zd b)) = decide (a = b) := by
    simp only [PyData.eqv]
    exact eqv_zd a b
  rw [e]
  exact k
theorem a_neZ {p q : Addr} (hx : SqL K H p (zi a)) (hy : SqL K H q (zi b)) (k : Q (.bl (!decide (a = b))) H) : rNeU K (.ref p) (.ref q) H Q := by
  have d1 : Dq K H 2 (.ref p) (.list (zd a)) := .lst hx (dqz a)
  have d2 : Dq K H 2 (.ref q) (.list (zd b)) := .lst hy (dqz b)
  refine a_neD d1.dp d2.dp d1.sm.sh d2.sm.sh ?_
  have e : PyData.eqv (.list (zd a)) (.list (zd b)) = decide (a = b) := by
    simp only [PyData.eqv]
    exact eqv_zd a b
  rw [e]
  exact k
end
theorem sorted_uniq : ∀ {a b : List Int}, List.Perm a b → a.Pairwise (· ≤ ·) → b.Pairwise (· ≤ ·) → a = b
  | [], b, h, _, _ => by rw [List.nil_perm.mp h]
  | x :: a, [], h, _, _ => by cases List.perm_nil.mp h
  | x :: a, y :: b, h, ha, hb => by
    obtain ⟨hx, ha'⟩ := List.pairwise_cons.mp ha
    obtain ⟨hy, hb'⟩ := List.pairwise_cons.mp hb
    have e : x = y := by
      have h1 : x ∈ y :: b := h.mem_iff.mp (List.mem_cons_self ..)
      have h2 : y ∈ x :: a := h.mem_iff.mpr (List.mem_cons_self ..)
      have l1 : y ≤ x := by
        rcases List.mem_cons.mp h1 with e | m
        · omega
        · exact hy _ m
      have l2 : x ≤ y := by
        rcases List.mem_cons.mp h2 with e | m
        · omega
        · exact hx _ m
      omega
    subst e
    rw [sorted_uniq (List.Perm.cons_inv h) ha' hb']
theorem range_sorted (n : Nat) : (ni (List.range n)).Pairwise (· ≤ ·) := by
  unfold ni
  rw [List.pairwise_map]
  exact List.Pairwise.imp (fun h => by omega) (List.pairwise_lt_range (n := n))
end TT

set_option Elab.async false
set_option linter.all false
set_option maxRecDepth 100000
set_option maxHeartbeats 4000000
namespace TT
open PySem PySem.Spec PyProof.Rows L2
/-! ### a list or a tuple -/
def Seq (K : PySem.W.Frag) (H : Hp) (a : Addr) (xs : List V) : Prop := SqL K H a xs ∨ SqT K H a xs
theorem Seq.same {K : PySem.W.Frag} {H H1 : Hp} {a : Addr} {xs : List V} (h : Seq K H a xs) (s : Same H H1) : Seq K H1 a xs := h.elim (fun h => .inl (same_l s h)) fun h => .inr (same_t s h)
theorem a_lenS {K : PySem.W.Frag} {H : Hp} {p : Addr} {ys : List V} {Q : VK} (h : Seq K H p ys) (q : Q (.int ys.length) H) : rLenU K [.ref p] H Q := ⟨p, ys, rfl, h, q⟩
def rIter (K : PySem.W.Frag) (x : V) (H1 : Hp) (R : It → Hp → Prop) : Prop := ∃ a, x = .ref a ∧ (((∃ xs, SqL K H1 a xs) ∧ R (Itl K a) H1) ∨ ((∃ xs, SqT K H1 a xs) ∧ R (Itt K a) H1))
def iSeq (K : PySem.W.Frag) (tl : TE) : TI := fun σ H R => tl σ H fun x H1 => rIter K x H1 R
theorem pi_seq {X : Cx} {tg l : Expr} {tl : TE} {K : PySem.W.Frag} (hK : X.K = K) (hl : PE X l tl) : PI X tg l (iSeq K tl) := ⟨fun pins s σ H R I h => by
  subst hK
  refine thn (hl.run pins s σ H _ I h) fun v s1 hh => ?_
  obtain ⟨x, H1, J, r, a, ex, w⟩ := hh
  subst ex
  cases (show v = Value.ref a from r)
  have fp : ∀ b ∈ [s1.heap.objs.size], FpOk X pins H1 b := fun b hb => by
    obtain rfl : b = s1.heap.objs.size := List.mem_singleton.mp hb
    exact J.fpOk (Nat.le_refl _) (J.hok.fresh (Nat.le_refl _))
  rcases w with ⟨⟨xs, hq⟩, q⟩ | ⟨⟨xs, hq⟩, q⟩
  · obtain ⟨its, _, pl, _⟩ := J.list hq
    exact wpAny_pyIter_list pl.isList ⟨_, [s1.heap.objs.size], _, _, H1, rfl, J.kept (t' := s1.toks) fun b o z => Heap.get?_push_of_some _ z, turn_list a _, ⟨_, Heap.get?_push_size _ rfl, rfl, rfl⟩, fp, q⟩
  · obtain ⟨its, _, pl, _⟩ := J.tuple hq
    exact wpAny_pyIter_tuple (show s1.heap.IsTuple a its.toArray from pl) ⟨_, [s1.heap.objs.size], _, _, H1, rfl, J.kept (t' := s1.toks) fun b o z => Heap.get?_push_of_some _ z, turn_tuple a _, ⟨_, Heap.get?_push_size _ rfl, rfl, rfl⟩, fp, q⟩⟩
section
variable {K : PySem.W.Frag} {σ : L2.St} {H : Hp} {Q : VK} {a : Addr} {xs : List V} {j : Nat} {te : TE}
theorem g_iSeq {tl : TE} {R : It → Hp → Prop} (h : tl σ H fun x H1 => rIter K x H1 R) : iSeq K tl σ H R := h
theorem a_iter {R : It → Hp → Prop} (h : Seq K H a xs) (q : ∀ J, Walk J xs.length (fun H' => Same H H') (YAt xs) → R J H) : rIter K (.ref a) H R := by
  refine ⟨a, rfl, ?_⟩
  rcases h with h | h
  · exact .inl ⟨⟨xs, h⟩, q _ (walk_list.mono (fun H' s => same_l s h) fun _ _ _ _ _ _ y => y)⟩
  · exact .inr ⟨⟨xs, h⟩, q _ (walk_tup.mono (fun H' s => same_t s h) fun _ _ _ _ _ _ y => y)⟩
end
theorem sqt_but {K : PySem.W.Frag} {H H1 : Hp} {D t : Addr} {xs ys : List V} (hD : H D = some (.lst ys)) (b : But D H H1) (h : SqT K H t xs) : SqT K H1 t xs := by
  rcases h with (h | ⟨o, h⟩) | h
  · exact .inl (.inl (b _ _ (ne_of h hD (by intro z; cases z)) h))
  · exact .inl (.inr ⟨o, b _ _ (ne_of h hD (by intro z; cases z)) h⟩)
  · exact .inr h
theorem sqt_butI {K : PySem.W.Frag} {H H1 : Hp} {D C dx t : Addr} {fs : List (Str × V)} {xs : List V} (hD : H D = some (.ins C dx fs)) (b : But D H H1) (h : SqT K H t xs) : SqT K H1 t xs := by
  rcases h with (h | ⟨o, h⟩) | h
  · exact .inl (.inl (b _ _ (ne_of h hD (by intro z; cases z)) h))
  · exact .inl (.inr ⟨o, b _ _ (ne_of h hD (by intro z; cases z)) h⟩)
  · exact .inr h
theorem sql_but {K : PySem.W.Frag} {H H1 : Hp} {D C dx t : Addr} {fs : List (Str × V)} {xs : List V} (hD : H D = some (.ins C dx fs)) (b : But D H H1) (h : SqL K H t xs) : SqL K H1 t xs := by
  rcases h with (h | ⟨o, h⟩) | h
  · exact .inl (.inl (b _ _ (ne_of h hD (by intro z; cases z)) h))
  · exact .inl (.inr ⟨o, b _ _ (ne_of h hD (by intro z; cases z)) h⟩)
  · exact .inr h
/-! ### comprehensions whose items are new objects: P D k v H, the k-th item v, D the list that grows -/
section
variable {K : PySem.W.Frag} {J : It} {n j : Nat} {G : Hp → Prop} {Y : Nat → Hp → V → Hp → Prop} {σ : L2.St} {H H1 : Hp} {te : TE} {Q : VK} {P : Addr → Nat → V → Hp → Prop} {xs : List V}
structure Stb (P : Addr → Nat → V → Hp → Prop) : Prop where
  same : ∀ {D k v H H'}, Same H H' → P D k v H → P D k v H'
  but : ∀ {D k v H H' ys}, H D = some (.lst ys) → But D H H' → P D k v H → P D k v H'
theorem lc_p (w : Walk J n G Y) (st : Stb P) (hn : n ≤ 100000) (hG : ∀ H', Same H1 H' → G H')
    (hs : ∀ D acc i x H' H2, i < n → H1 D = none → Same H1 H' → H' D = some (.lst acc) → Y i H' x H2 → Same H' H2 ∧ ∀ R : VK, (∀ v H4, Same H2 H4 → P D i v H4 → R v H4) → te ((σ.set j none).set j (some x)) H2 R)
    (hd : ∀ D acc H', H1 D = none → Same H1 H' → H' D = some (.lst acc) → acc.length = n → (∀ k v, acc[k]? = some v → P D k v H') → Q (.ref D) H') :
    ∀ D, H1 D = none → ∃ W : Nat → Nat → Hp → Prop, (∃ m, W 0 m (upd H1 D (.lst []))) ∧ ∀ i m H, W i m H →
      (J.stop i H ∧ Q (.ref D) H) ∨ (J.go i H ∧ ∃ Nx : Hp → Prop, (∀ H', Nx H' → ∃ m', m' < m ∧ W (i + 1) m' H') ∧ ∀ x H', J.yld i H x H' → gName j x (wipe σ [j]) H' fun σ2 H2 => wipe σ2 [j] = wipe σ [j] ∧ tYes σ2 H2 fun b H3 =>
        if b = true then te σ2 H3 fun y H4 => ∃ acc, H4 D = some (.lst acc) ∧ acc.length < sizeLine ∧ Nx (upd H4 D (.lst (acc ++ [y]))) else Nx H3) := by
  intro D hD
  refine lc_it w (fun i H' => ∃ acc, Same H1 H' ∧ H' D = some (.lst acc) ∧ acc.length = i ∧ ∀ k v, acc[k]? = some v → P D k v H') ⟨[], same_new hD, upd_same, rfl, fun k v z => by simp at z⟩ (fun i H' _ ⟨_, q, _⟩ => hG H' q) ?_ fun H' ⟨acc, q1, q2, q3, q4⟩ => hd D acc H' hD q1 q2 q3 q4
  rintro i x H' H2 hi ⟨acc, q1, q2, q3, q4⟩ hy
  obtain ⟨s2, hte⟩ := hs D acc i x H' H2 hi hD q1 q2 hy
  refine ⟨set_none σ j (some x), ?_⟩
  unfold tYes
  dsimp only
  rw [if_pos rfl]
  refine hte _ fun v H4 s4 hP => ?_
  have e4 := s4 _ _ (s2 _ _ q2)
  refine ⟨acc, e4, szl (by omega), acc ++ [v], same_mut ((q1.trans s2).trans s4) hD, upd_same, by rw [List.length_append, q3]; rfl, fun k u hk => ?_⟩
  by_cases hl : k < acc.length
  · rw [List.getElem?_append_left hl] at hk
    exact st.but e4 But.upd (st.same (s2.trans s4) (q4 k u hk))
  · rw [List.getElem?_append_right (by omega)] at hk
    have e0 : k - acc.length = 0 := by
      have := (List.getElem?_eq_some_iff.mp hk).1
      simp at this
      omega
    rw [e0] at hk
    cases Option.some.inj hk
    have ek : k = i := by omega
    subst ek
    exact st.but e4 But.upd hP
theorem c_sp {tl : TE} (st : Stb P) (hn : xs.length ≤ 100000) (hl : ∀ R : VK, (∀ a H1, Same H H1 → Seq K H1 a xs → R (.ref a) H1) → tl σ H R)
    (hs : ∀ D acc i x H', H D = none → xs[i]? = some x → Same H H' → H' D = some (.lst acc) → ∀ R : VK, (∀ v H4, Same H' H4 → P D i v H4 → R v H4) → te ((σ.set j none).set j (some x)) H' R)
    (hd : ∀ D acc H', H D = none → Same H H' → H' D = some (.lst acc) → acc.length = xs.length → (∀ k v, acc[k]? = some v → P D k v H') → Q (.ref D) H') : tLc (iSeq K tl) (gName j) tYes te [j] σ H Q := by
  refine hl _ fun a H1 s1 h => a_iter h fun J w => lc_p w st hn (fun H' s => s) (fun D acc i x H' H2 hi hD s hacc y => ?_) fun D acc H' nD s e1 e2 e3 => hd D acc H' (s1.free nD) (s1.trans s) e1 e2 e3
  obtain ⟨rfl, e⟩ := y
  exact ⟨Same.refl _, hs D acc i x _ (s1.free hD) e (s1.trans s) hacc⟩
theorem c_lp {tl : TE} (st : Stb P) (hn : xs.length ≤ 100000) (hl : ∀ R : VK, (∀ a H1, Same H H1 → SqL K H1 a xs → R (.ref a) H1) → tl σ H R)
    (hs : ∀ D acc i x H', H D = none → xs[i]? = some x → Same H H' → H' D = some (.lst acc) → ∀ R : VK, (∀ v H4, Same H' H4 → P D i v H4 → R v H4) → te ((σ.set j none).set j (some x)) H' R)
    (hd : ∀ D acc H', H D = none → Same H H' → H' D = some (.lst acc) → acc.length = xs.length → (∀ k v, acc[k]? = some v → P D k v H') → Q (.ref D) H') : tLc (iList K tl) (gName j) tYes te [j] σ H Q := by
  refine hl _ fun a H1 s1 h => ⟨a, rfl, ⟨xs, h⟩, lc_p walk_list st hn (fun H' s => same_l s h) (fun D acc i x H' H2 hi hD s hacc y => ?_) fun D acc H' nD s e1 e2 e3 => hd D acc H' (s1.free nD) (s1.trans s) e1 e2 e3⟩
  obtain ⟨rfl, e⟩ := y
  exact ⟨Same.refl _, hs D acc i x _ (s1.free hD) e (s1.trans s) hacc⟩
end
/-! ### pairs of ints, rows of pairs, lists of rows -/
abbrev Pr := Int × Int
def PairAt (K : PySem.W.Frag) (H : Hp) (v : V) (x : Pr) : Prop := ∃ q, v = .ref q ∧ SqT K H q [.int x.1, .int x.2]
def PairsIn (K : PySem.W.Frag) (H : Hp) (ys : List V) (ps : List Pr) : Prop := ys.length = ps.length ∧ ∀ (k : Nat) v x, ys[k]? = some v → ps[k]? = some x → PairAt K H v x
def PairsAt (K : PySem.W.Frag) (H : Hp) (v : V) (ps : List Pr) : Prop := ∃ q ys, v = .ref q ∧ Seq K H q ys ∧ PairsIn K H ys ps
def LinesIn (K : PySem.W.Frag) (H : Hp) (ys : List V) (ls : List (List Pr)) : Prop := ys.length = ls.length ∧ ∀ (k : Nat) v x, ys[k]? = some v → ls[k]? = some x → PairsAt K H v x
section
variable {K : PySem.W.Frag} {H H1 : Hp} {v : V} {x : Pr} {ys : List V} {ps : List Pr} {ls : List (List Pr)}
theorem PairAt.same (h : PairAt K H v x) (s : Same H H1) : PairAt K H1 v x := let ⟨q, e, h⟩ := h; ⟨q, e, same_t s h⟩
theorem PairAt.but {D : Addr} {zs : List V} (hD : H D = some (.lst zs)) (b : But D H H1) (h : PairAt K H v x) : PairAt K H1 v x := let ⟨q, e, h⟩ := h; ⟨q, e, sqt_but hD b h⟩
theorem PairsIn.same (h : PairsIn K H ys ps) (s : Same H H1) : PairsIn K H1 ys ps := ⟨h.1, fun k v x a b => (h.2 k v x a b).same s⟩
theorem PairsIn.but {D : Addr} {zs : List V} (h : PairsIn K H ys ps) (hD : H D = some (.lst zs)) (b : But D H H1) : PairsIn K H1 ys ps := ⟨h.1, fun k v x e f => (h.2 k v x e f).but hD b⟩
theorem PairsAt.same (h : PairsAt K H v ps) (s : Same H H1) : PairsAt K H1 v ps := let ⟨q, ys, e, h1, h2⟩ := h; ⟨q, ys, e, h1.same s, h2.same s⟩
theorem LinesIn.same (h : LinesIn K H ys ls) (s : Same H H1) : LinesIn K H1 ys ls := ⟨h.1, fun k v x a b => (h.2 k v x a b).same s⟩
theorem PairAt.butI {D C dx : Addr} {fs : List (Str × V)} (hD : H D = some (.ins C dx fs)) (b : But D H H1) (h : PairAt K H v x) : PairAt K H1 v x := let ⟨q, e, h⟩ := h; ⟨q, e, sqt_butI hD b h⟩
theorem PairsIn.butI {D C dx : Addr} {fs : List (Str × V)} (h : PairsIn K H ys ps) (hD : H D = some (.ins C dx fs)) (b : But D H H1) : PairsIn K H1 ys ps := ⟨h.1, fun k v x e f => (h.2 k v x e f).butI hD b⟩
theorem LinesIn.but {D C dx : Addr} {fs : List (Str × V)} (h : LinesIn K H ys ls) (hD : H D = some (.ins C dx fs)) (b : But D H H1) : LinesIn K H1 ys ls := ⟨h.1, fun k v x e f => by
  obtain ⟨q, zs, e1, h1, h2⟩ := h.2 k v x e f
  exact ⟨q, zs, e1, h1.elim (fun h => .inl (sql_but hD b h)) (fun h => .inr (sqt_butI hD b h)), h2.butI hD b⟩⟩
def prD (x : Pr) : PyData := .tuple [.int x.1, .int x.2]
def psD (ps : List Pr) : List PyData := ps.map prD
def lsD (ls : List (List Pr)) : List PyData := ls.map fun ps => .tuple (psD ps)
theorem PairAt.dq {n : Nat} (h : PairAt K H v x) : Dq K H (n + 2) v (prD x) := by
  obtain ⟨q, rfl, h⟩ := h
  exact .tup h (.cons (.int _) (.cons (.int _) .nil))
/-- all items, one by one -/
theorem dqa {α : Type} {n : Nat} (f : α → PyData) : ∀ {ys : List V} {xs : List α}, ys.length = xs.length → (∀ (k : Nat) v x, ys[k]? = some v → xs[k]? = some x → Dq K H n v (f x)) → DqA K H n ys (xs.map f)
  | [], [], _, _ => .nil
  | [], _ :: _, e, _ => by cases e
  | _ :: _, [], e, _ => by cases e
  | y :: ys, x :: xs, e, h => .cons (h 0 y x rfl rfl) (dqa f (Nat.succ.inj e) fun k v z a b => h (k + 1) v z a b)
theorem PairsIn.dq {n : Nat} (h : PairsIn K H ys ps) : DqA K H (n + 2) ys (psD ps) := dqa prD h.1 fun k v x a b => (h.2 k v x a b).dq
end
end TT

set_option Elab.async false
set_option linter.all false
set_option maxRecDepth 100000
set_option maxHeartbeats 4000000
namespace TT
open PySem PySem.Spec PyProof.Rows L2
/-! ### two lists, item by item -/
def Par {α β : Type} (R : α → β → Prop) (ys : List α) (xs : List β) : Prop := ys.length = xs.length ∧ ∀ (k : Nat) v x, ys[k]? = some v → xs[k]? = some x → R v x
section
variable {α β : Type} {R R' : α → β → Prop} {ys zs : List α} {xs ws : List β}
theorem Par.mono (h : Par R ys xs) (m : ∀ v x, R v x → R' v x) : Par R' ys xs := ⟨h.1, fun k v x a b => m v x (h.2 k v x a b)⟩
theorem Par.nil : Par R [] [] := ⟨rfl, fun k v x a => by simp at a⟩
theorem Par.one {y : α} {x : β} (h : R y x) : Par R [y] [x] := ⟨rfl, fun k v z a b => by
  have hk : k = 0 := by
    have := (List.getElem?_eq_some_iff.mp a).1
    simp at this
    omega
  subst hk
  cases Option.some.inj a
  cases Option.some.inj b
  exact h⟩
theorem Par.append (h : Par R ys xs) (h' : Par R zs ws) : Par R (ys ++ zs) (xs ++ ws) := ⟨by rw [List.length_append, List.length_append, h.1, h'.1], fun k v x a b => by
  by_cases hk : k < ys.length
  · rw [List.getElem?_append_left hk] at a
    rw [List.getElem?_append_left (by rw [← h.1]; exact hk)] at b
    exact h.2 k v x a b
  · rw [List.getElem?_append_right (by omega)] at a
    rw [List.getElem?_append_right (by rw [← h.1]; omega), ← h.1] at b
    exact h'.2 _ v x a b⟩
theorem Par.snoc {y : α} {x : β} (h : Par R ys xs) (h' : R y x) : Par R (ys ++ [y]) (xs ++ [x]) := h.append (.one h')
theorem Par.drop (h : Par R ys xs) (n : Nat) : Par R (ys.drop n) (xs.drop n) := ⟨by rw [List.length_drop, List.length_drop, h.1], fun k v x a b => by
  rw [List.getElem?_drop] at a b
  exact h.2 _ v x a b⟩
theorem Par.take (h : Par R ys xs) (n : Nat) : Par R (ys.take n) (xs.take n) := ⟨by rw [List.length_take, List.length_take, h.1], fun k v x a b => by
  rw [List.getElem?_take] at a b
  by_cases hk : k < n
  · rw [if_pos hk] at a b
    exact h.2 _ v x a b
  · rw [if_neg hk] at a
    cases a⟩
theorem Par.rep (h : Par R ys xs) : ∀ n : Nat, Par R (List.replicate n ys).flatten (List.replicate n xs).flatten
  | 0 => .nil
  | n + 1 => by
    rw [List.replicate_succ, List.replicate_succ, List.flatten_cons, List.flatten_cons]
    exact h.append (Par.rep h n)
theorem Par.get (h : Par R ys xs) {k : Nat} (hk : k < xs.length) : ∃ v, ys[k]? = some v ∧ R v xs[k] := by
  have hy : k < ys.length := by rw [h.1]; exact hk
  exact ⟨ys[k], List.getElem?_eq_getElem hy, h.2 k _ _ (List.getElem?_eq_getElem hy) (List.getElem?_eq_getElem hk)⟩
def cut (xs : List β) (lo hi : Option Int) : List β := (xs.drop (HT.sIx xs.length 0 lo)).take (HT.sIx xs.length xs.length hi - HT.sIx xs.length 0 lo)
theorem Par.cut {R : V → β → Prop} {ys : List V} (h : Par R ys xs) (lo hi : Option Int) : Par R (cutV ys lo hi) (TT.cut xs lo hi) := by
  unfold cutV TT.cut
  rw [h.1]
  exact (h.drop _).take _
theorem cut_len (xs : List β) (lo hi : Option Int) : (cut xs lo hi).length ≤ xs.length := by
  unfold cut
  rw [List.length_take, List.length_drop]
  omega
theorem cut_mem {xs : List β} {lo hi : Option Int} {x : β} (h : x ∈ cut xs lo hi) : x ∈ xs := List.mem_of_mem_drop (List.mem_of_mem_take h)
theorem sIx_nat {n d k : Nat} (h : k ≤ n) : HT.sIx n d (some (k : Int)) = k := by
  unfold HT.sIx
  simp
  have : ¬ ((k : Int) < 0) := by omega
  rw [if_neg this]
  omega
theorem cut_le {xs : List β} (k : Nat) : (cut xs none (some (k : Int))).length ≤ k := by
  unfold cut
  rw [List.length_take]
  have : HT.sIx xs.length xs.length (some (k : Int)) ≤ k := by
    unfold HT.sIx
    simp
    have : ¬ ((k : Int) < 0) := by omega
    rw [if_neg this]
    omega
  omega
theorem cut_m1 {xs : List β} : (cut xs none (some (-1))).length = xs.length - 1 := by
  have e : HT.sIx xs.length xs.length (some (-1)) = xs.length - 1 := by
    unfold HT.sIx
    simp
    omega
  have e0 : HT.sIx xs.length 0 none = 0 := rfl
  unfold cut
  rw [e, e0]
  simp
theorem cut_take {xs : List β} {k : Nat} (h : k ≤ xs.length) : cut xs none (some (k : Int)) = xs.take k := by
  have e : HT.sIx xs.length 0 none = 0 := rfl
  unfold cut
  rw [sIx_nat h, e]
  simp
theorem cut_drop {xs : List β} {k : Nat} (h : k ≤ xs.length) : cut xs (some (k : Int)) none = xs.drop k := by
  have e : HT.sIx xs.length xs.length none = xs.length := rfl
  unfold cut
  rw [sIx_nat h, e]
  exact List.take_of_length_le (by rw [List.length_drop]; omega)
end
/-! ### the heap without what may change -/
def Off (ms : List Addr) (H : Hp) : Hp := fun a => if a ∈ ms then none else H a
section
variable {ms : List Addr} {H H1 : Hp} {p a : Addr} {o : HO}
theorem Off.sub : Same (Off ms H) H := fun a o h => by
  unfold Off at h
  by_cases e : a ∈ ms
  · rw [if_pos e] at h
    cases h
  · rw [if_neg e] at h
    exact h
theorem Off.at_ (h : H a = some o) (n : a ∉ ms) : Off ms H a = some o := by
  unfold Off
  rw [if_neg n]
  exact h
theorem Off.same (s : Same H H1) : Same (Off ms H) (Off ms H1) := fun a o h => by
  unfold Off at h ⊢
  by_cases e : a ∈ ms
  · rw [if_pos e] at h
    cases h
  · rw [if_neg e] at h ⊢
    exact s a o h
theorem Off.but (m : p ∈ ms) (b : But p H H1) : Same (Off ms H) (Off ms H1) := fun a o h => by
  unfold Off at h ⊢
  by_cases e : a ∈ ms
  · rw [if_pos e] at h
    cases h
  · rw [if_neg e] at h ⊢
    exact b a o (fun z => e (z ▸ m)) h
theorem Off.mut {H0 : Hp} {q : Addr} (s : Same (Off ms H0) (Off ms H)) (n : H0 q = none) (b : But q H H1) : Same (Off ms H0) (Off ms H1) := fun a o h => by
  have h1 := s a o h
  have ne : a ≠ q := ne_of_none (Off.sub a o h) n
  unfold Off at h1 ⊢
  by_cases e : a ∈ ms
  · rw [if_pos e] at h1
    cases h1
  · rw [if_neg e] at h1 ⊢
    exact b a o ne h1
theorem Off.more {ns : List Addr} (s : ∀ a ∈ ns, a ∈ ms ∨ H a = none) : Same (Off ms H) (Off ns H) := fun a o h => by
  have e1 : a ∉ ms := fun e => by
    unfold Off at h
    rw [if_pos e] at h
    cases h
  unfold Off at h ⊢
  rw [if_neg e1] at h
  rw [if_neg fun e => (s a e).elim e1 fun z => by rw [z] at h; cases h]
  exact h
end
section
variable {K : PySem.W.Frag} {H : Hp} {Q : VK} {p b : Addr} {xs zs : List V}
theorem a_cat (h1 : H p = some (.lst xs)) (h2 : H b = some (.lst zs)) (hl : xs.length + zs.length ≤ 100000) (q : ∀ l H2, H l = none → Same H H2 → H2 l = some (.lst (xs ++ zs)) → Q (.ref l) H2) : rAddU K (.ref p) (.ref b) H Q :=
  .inr (.inl ⟨p, b, xs, zs, rfl, rfl, h1, h2, sz hl, fun l hl => q l _ hl (same_new hl) upd_same⟩)
theorem a_slL {lo hi : Option Int} (h : SqL K H p xs) (q : ∀ l H2, H l = none → Same H H2 → H2 l = some (.lst (cutV xs lo hi)) → Q (.ref l) H2) : rSlU K (.ref p) lo hi H Q := .inl ⟨p, xs, rfl, h, fun l hl => q l _ hl (same_new hl) upd_same⟩
end
def rInsert : V → List V → Hp → VK → Prop := fun x vs H Q => ∃ (l : Addr) (xs : List V) (i : Int) (y : V), x = .ref l ∧ vs = [.int i, y] ∧ H l = some (.lst xs) ∧ xs.length < sizeLine ∧ 0 ≤ i ∧ i < 2 ^ 63 ∧ Q .non (upd H l (.lst (xs.take i.toNat ++ [y] ++ xs.drop i.toNat)))
theorem mt_ins {X : Cx} : MtR X "list.insert" rInsert := mt_insert
theorem a_ins {H : Hp} {Q : VK} {p : Addr} {xs : List V} {i : Nat} {y : V} (h : H p = some (.lst xs)) (hl : xs.length < 100000) (hi : i ≤ 100000) (q : ∀ H2, But p H H2 → H2 p = some (.lst (xs.take i ++ [y] ++ xs.drop i)) → Q .non H2) : rInsert (.ref p) [.int (i : Nat), y] H Q :=
  ⟨p, xs, _, y, rfl, rfl, h, szl hl, by omega, by omega, q _ But.upd upd_same⟩
/-- the first item of a tuple of data -/
theorem Dq.fst {K : PySem.W.Frag} {H : Hp} {n : Nat} {p : Addr} {x : Str} {ds : List PyData} (h : Dq K H n (.ref p) (.tuple (.str x :: ds))) : ∃ vs, SqT K H p (.str x :: vs) := by
  cases h.dp with
  | tup h1 h2 =>
    cases h2 with
    | cons h3 h4 =>
      cases h3
      exact ⟨_, h1⟩
end TT

set_option Elab.async false
set_option linter.all false
set_option maxRecDepth 100000
set_option maxHeartbeats 4000000
namespace TT
/-! ### powers of permutations -/
def stp (a : List Nat) (x : Nat) : Nat := a.getD x 0
def itr (a : List Nat) : Nat → Nat → Nat
  | 0, x => x
  | k + 1, x => stp a (itr a k x)
section
variable {a : List Nat}
theorem stp_lt (h : OkImg a) {x : Nat} (hx : x < a.length) : stp a x < a.length := by
  unfold stp
  rw [getD_lt hx]
  exact h.lt _ (List.getElem_mem _)
theorem itr_lt (h : OkImg a) {x : Nat} (hx : x < a.length) : ∀ k, itr a k x < a.length
  | 0 => hx
  | k + 1 => stp_lt h (itr_lt h hx k)
theorem itr_add (x : Nat) (k : Nat) : ∀ j, itr a (j + k) x = itr a j (itr a k x)
  | 0 => by rw [Nat.zero_add]; rfl
  | j + 1 => by
    rw [Nat.succ_add]
    show stp a _ = stp a _
    rw [itr_add x k j]
theorem stp_inj (h : OkImg a) {x y : Nat} (hx : x < a.length) (hy : y < a.length) (e : stp a x = stp a y) : x = y := by
  unfold stp at e
  rw [getD_lt hx, getD_lt hy] at e
  exact nd_inj h.nd hx hy e
theorem itr_inj (h : OkImg a) {x y : Nat} (hx : x < a.length) (hy : y < a.length) : ∀ k, itr a k x = itr a k y → x = y
  | 0, e => e
  | k + 1, e => itr_inj h hx hy k (stp_inj h (itr_lt h hx k) (itr_lt h hy k) e)
theorem per_ex (h : OkImg a) {x : Nat} (hx : x < a.length) : ∃ L, 0 < L ∧ L ≤ a.length ∧ itr a L x = x := by
  have key : ¬ ((List.range (a.length + 1)).map fun k => itr a k x).Nodup := fun nd => by
    have := sub_len (m := List.range a.length) nd fun y hy => by
      obtain ⟨k, _, rfl⟩ := List.mem_map.mp hy
      exact List.mem_range.mpr (itr_lt h hx k)
    rw [List.length_map, List.length_range, List.length_range] at this
    omega
  rw [List.nodup_iff_pairwise_ne, List.pairwise_iff_getElem] at key
  have key2 : ∃ i j, i < j ∧ j ≤ a.length ∧ itr a i x = itr a j x := by
    refine Classical.byContradiction fun no => key fun i j hi hj hij e => no ⟨i, j, hij, ?_, ?_⟩
    · rw [List.length_map, List.length_range] at hj
      omega
    · simpa using e
  obtain ⟨i, j, hij, hj, e⟩ := key2
  refine ⟨j - i, by omega, by omega, ?_⟩
  have e2 : itr a i x = itr a i (itr a (j - i) x) := by
    rw [← itr_add, e]
    congr 1
    omega
  exact (itr_inj h hx (itr_lt h hx _) i e2).symm
def per (a : List Nat) (x : Nat) : Nat := ((List.range a.length).find? fun k => itr a (k + 1) x == x).getD 0 + 1
theorem per_is (h : OkImg a) {x : Nat} (hx : x < a.length) : itr a (per a x) x = x ∧ per a x ≤ a.length ∧ ∀ k, 0 < k → k < per a x → itr a k x ≠ x := by
  obtain ⟨L, L0, L1, eL⟩ := per_ex h hx
  unfold per
  cases hf : (List.range a.length).find? fun k => itr a (k + 1) x == x with
  | none =>
    have := List.find?_eq_none.mp hf (L - 1) (List.mem_range.mpr (by omega))
    rw [show L - 1 + 1 = L by omega, eL] at this
    simp at this
  | some i =>
    have h1 := List.find?_range_eq_some.mp hf
    obtain ⟨p1, p2, p3⟩ := h1
    rw [Option.getD_some]
    refine ⟨eq_of_beq p1, List.mem_range.mp p2, fun k k0 k1 e => ?_⟩
    have := p3 (k - 1) (by omega)
    rw [show k - 1 + 1 = k by omega, e] at this
    simp at this
theorem per_pos (a : List Nat) (x : Nat) : 0 < per a x := Nat.succ_pos _
theorem itr_mul (x : Nat) {L : Nat} (e : itr a L x = x) : ∀ q, itr a (L * q) x = x
  | 0 => rfl
  | q + 1 => by rw [Nat.mul_succ, itr_add, e, itr_mul x e q]
theorem itr_mod (h : OkImg a) {x : Nat} (hx : x < a.length) (k : Nat) : itr a k x = itr a (k % per a x) x := by
  have e : itr a k x = itr a (k % per a x + per a x * (k / per a x)) x := by rw [Nat.mod_add_div]
  rw [e, itr_add, itr_mul x (per_is h hx).1]
theorem itr_dvd (h : OkImg a) {x : Nat} (hx : x < a.length) {k : Nat} : itr a k x = x ↔ per a x ∣ k := by
  constructor
  · intro e
    rw [itr_mod h hx] at e
    have hl := Nat.mod_lt k (per_pos a x)
    by_cases h0 : k % per a x = 0
    · exact Nat.dvd_of_mod_eq_zero h0
    · exact absurd e ((per_is h hx).2.2 _ (Nat.pos_of_ne_zero h0) hl)
  · rintro ⟨q, rfl⟩
    exact itr_mul x (per_is h hx).1 q
theorem itr_uniq (h : OkImg a) {x : Nat} (hx : x < a.length) {j k : Nat} (hj : j < per a x) (hk : k < per a x) (e : itr a j x = itr a k x) : j = k := by
  have main : ∀ {j k : Nat}, j < k → k < per a x → itr a j x = itr a k x → False := fun {j k} hjk hk e => by
    have e2 : itr a j x = itr a j (itr a (k - j) x) := by
      rw [← itr_add, e]
      congr 1
      omega
    exact (per_is h hx).2.2 (k - j) (by omega) (by omega) (itr_inj h hx (itr_lt h hx _) j e2).symm
  rcases Nat.lt_trichotomy j k with l | l | l
  · exact (main l hk e).elim
  · exact l
  · exact (main l hj e.symm).elim
theorem per_itr (h : OkImg a) {x : Nat} (hx : x < a.length) (k : Nat) : per a (itr a k x) = per a x := by
  have q : ∀ m, itr a m (itr a k x) = itr a k x ↔ itr a m x = x := fun m => by
    rw [← itr_add, Nat.add_comm, itr_add]
    constructor
    · intro e
      exact itr_inj h (itr_lt h hx m) hx k e
    · intro e
      rw [e]
  unfold per
  have : (fun m => itr a (m + 1) (itr a k x) == itr a k x) = fun m => itr a (m + 1) x == x := by
    funext m
    rw [Bool.eq_iff_iff, beq_iff_eq, beq_iff_eq]
    exact q (m + 1)
  rw [this]
/-- the z-th step from x -/
def zit (a : List Nat) (z : Int) (x : Nat) : Nat := itr a (z % (per a x : Int)).toNat x
theorem emod_nat (z : Int) {L : Nat} (h : 0 < L) : 0 ≤ z % (L : Int) ∧ z % (L : Int) < L := ⟨Int.emod_nonneg _ (by omega), Int.emod_lt_of_pos _ (by omega)⟩
theorem zit_lt (h : OkImg a) {x : Nat} (hx : x < a.length) (z : Int) : zit a z x < a.length := itr_lt h hx _
theorem zit_nat (h : OkImg a) {x : Nat} (hx : x < a.length) (k : Nat) : zit a (k : Int) x = itr a k x := by
  unfold zit
  have e : ((k : Int) % (per a x : Int)).toNat = k % per a x := by
    rw [← Int.natCast_emod, Int.toNat_natCast]
  rw [e, ← itr_mod h hx]
theorem zit_add (h : OkImg a) {x : Nat} (hx : x < a.length) (z w : Int) : zit a (z + w) x = zit a w (zit a z x) := by
  have hL := per_pos a x
  have e1 : per a (zit a z x) = per a x := per_itr h hx _
  have s1 := emod_nat z hL
  have s2 := emod_nat w hL
  have s3 := emod_nat (z + w) hL
  have R : zit a w (zit a z x) = itr a ((w % (per a x : Int)).toNat + (z % (per a x : Int)).toNat) x := by
    rw [itr_add]
    show itr a (w % (per a (zit a z x) : Int)).toNat (zit a z x) = _
    rw [e1]
    rfl
  rw [R, itr_mod h hx]
  show itr a ((z + w) % (per a x : Int)).toNat x = _
  congr 1
  have : ((((w % (per a x : Int)).toNat + (z % (per a x : Int)).toNat) % per a x : Nat) : Int) = (z + w) % (per a x : Int) := by
    rw [Int.natCast_emod, Int.natCast_add, Int.toNat_of_nonneg s1.1, Int.toNat_of_nonneg s2.1, ← Int.add_emod, Int.add_comm]
  omega
theorem zit_0 (h : OkImg a) {x : Nat} (hx : x < a.length) : zit a 0 x = x := zit_nat h hx 0
theorem zit_1 (h : OkImg a) {x : Nat} (hx : x < a.length) : zit a 1 x = stp a x := zit_nat h hx 1
def pw (a : List Nat) (z : Int) : List Nat := (List.range a.length).map fun x => zit a z x
theorem pw_len (a : List Nat) (z : Int) : (pw a z).length = a.length := by unfold pw; rw [List.length_map, List.length_range]
theorem pw_get {z : Int} {x : Nat} (hx : x < (pw a z).length) : (pw a z)[x] = zit a z x := by simp [pw]
theorem pw_ok (h : OkImg a) (z : Int) : OkImg (pw a z) := by
  refine .of_inj (fun i j hi hj e => ?_) fun i hi => ?_
  · rw [pw_get, pw_get] at e
    rw [pw_len] at hi hj
    have e2 := congrArg (zit a (-z)) e
    rw [← zit_add h hi, ← zit_add h hj, Int.add_right_neg, zit_0 h hi, zit_0 h hj] at e2
    exact e2
  · rw [pw_get]
    rw [pw_len] at hi ⊢
    exact zit_lt h hi z
theorem pw_comp (h : OkImg a) (z w : Int) : comp (pw a z) (pw a w) = pw a (z + w) := by
  refine List.ext_getElem (by rw [comp_len, pw_len, pw_len]) fun i h1 h2 => ?_
  rw [comp_len] at h1
  rw [comp_get h1, pw_get, pw_get]
  rw [pw_len] at h1
  have hl := zit_lt h h1 z
  rw [getD_lt (by rw [pw_len]; exact hl), pw_get, zit_add h h1]
theorem pw_0 (h : OkImg a) : pw a 0 = List.range a.length := by
  refine List.ext_getElem (by rw [pw_len, List.length_range]) fun i h1 h2 => ?_
  rw [pw_get, List.getElem_range]
  rw [pw_len] at h1
  exact zit_0 h h1
theorem pw_1 (h : OkImg a) : pw a 1 = a := by
  refine List.ext_getElem (pw_len _ _) fun i h1 h2 => ?_
  rw [pw_get, zit_1 h h2]
  unfold stp
  rw [getD_lt h2]
theorem pw_m1 (h : OkImg a) : pw a (-1) = inv a := by
  refine List.ext_getElem (by rw [pw_len, inv_len]) fun i h1 h2 => ?_
  rw [pw_get, inv_get]
  rw [pw_len] at h1
  have hl := zit_lt h h1 (-1)
  refine (idx_uniq h.nd hl ?_).symm
  have e : zit a 1 (zit a (-1) i) = i := by
    rw [← zit_add h h1]
    exact zit_0 h h1
  rw [zit_1 h hl] at e
  unfold stp at e
  rw [getD_lt hl] at e
  exact e
theorem pw_up (h : OkImg a) (z : Int) : comp (pw a z) a = pw a (z + 1) := by
  have := pw_comp h z 1
  rw [pw_1 h] at this
  exact this
theorem pw_down (h : OkImg a) (z : Int) : comp (pw a z) (inv a) = pw a (z - 1) := by
  have := pw_comp h z (-1)
  rw [pw_m1 h] at this
  exact this
theorem zit_per (h : OkImg a) {x : Nat} (hx : x < a.length) {z w : Int} (d : (per a x : Int) ∣ z - w) : zit a z x = zit a w x := by
  unfold zit
  have : z % (per a x : Int) = w % (per a x : Int) := Int.emod_eq_emod_iff_emod_sub_eq_zero.mpr (Int.emod_eq_zero_of_dvd d)
  rw [this]
theorem pw_per (h : OkImg a) {z w : Int} (d : ∀ x, x < a.length → (per a x : Int) ∣ z - w) : pw a z = pw a w := by
  refine List.ext_getElem (by rw [pw_len, pw_len]) fun i h1 h2 => ?_
  rw [pw_get, pw_get]
  rw [pw_len] at h1
  exact zit_per h h1 (d i h1)
/-- the cycle from x -/
def cyc (a : List Nat) (x : Nat) : List Nat := (List.range (per a x)).map fun k => itr a k x
theorem cyc_len (a : List Nat) (x : Nat) : (cyc a x).length = per a x := by unfold cyc; rw [List.length_map, List.length_range]
theorem cyc_get {x k : Nat} (hk : k < (cyc a x).length) : (cyc a x)[k] = itr a k x := by simp [cyc]
theorem cyc_pw (h : OkImg a) {x : Nat} (hx : x < a.length) {k : Nat} (hk : k < per a x) (z : Int) : ∃ j : Nat, j < per a x ∧ (((k : Int) + z) % (per a x : Int)) = j ∧ (cyc a x)[j]? = some (zit a z (itr a k x)) := by
  have s := emod_nat ((k : Int) + z) (per_pos a x)
  refine ⟨(((k : Int) + z) % (per a x : Int)).toNat, by omega, by omega, ?_⟩
  rw [List.getElem?_eq_getElem (by rw [cyc_len]; omega), cyc_get]
  have e := zit_add h hx (k : Int) z
  rw [zit_nat h hx k] at e
  rw [← e]
  rfl
end
end TT

set_option Elab.async false
set_option linter.all false
set_option maxRecDepth 100000
set_option maxHeartbeats 4000000
namespace TT
open PySem PySem.Spec PyProof.Rows L2
theorem w_loop {c : TT} {tb : TS} {D : Ends} {σ : L2.St} {H : Hp} (W : Nat → L2.St → Hp → Prop) (m : Nat) (h0 : W m σ H) (hs : ∀ m σ H, W m σ H → c σ H fun b H1 => if b = true then ∃ N : L2.St → Hp → Prop, (∀ σ' H', N σ' H' → ∃ m', m' < m ∧ W m' σ' H') ∧ tb { D with nx := N, ct := N, bk := D.nx } σ H1 else D.nx σ H1) : tWhile c tb D σ H := ⟨W, ⟨m, h0⟩, hs⟩
theorem w_go {tb : TS} {D : Ends} {σ : L2.St} {H : Hp} {W : Nat → L2.St → Hp → Prop} {m : Nat} (h : tb { D with nx := fun σ' H' => ∃ m', m' < m ∧ W m' σ' H', ct := fun σ' H' => ∃ m', m' < m ∧ W m' σ' H', bk := D.nx } σ H) :
    ∃ N : L2.St → Hp → Prop, (∀ σ' H', N σ' H' → ∃ m', m' < m ∧ W m' σ' H') ∧ tb { D with nx := N, ct := N, bk := D.nx } σ H := ⟨_, fun _ _ h => h, h⟩
def seenP (ps : List Nat) (n : Nat) : List V := (List.range n).map fun j => V.bl (decide (j ∈ ps))
theorem seenP_len (ps : List Nat) (n : Nat) : (seenP ps n).length = n := by unfold seenP; rw [List.length_map, List.length_range]
theorem seenP_at (ps : List Nat) (n j : Nat) (h : j < n) : (seenP ps n)[j]? = some (.bl (decide (j ∈ ps))) := by
  unfold seenP
  rw [List.getElem?_map, List.getElem?_range h]
  rfl
theorem seenP_set (ps : List Nat) (n j : Nat) (h : j < n) : (seenP ps n).set j (.bl true) = seenP (ps ++ [j]) n := by
  refine List.ext_getElem (by rw [List.length_set, seenP_len, seenP_len]) fun i h1 h2 => ?_
  rw [List.getElem_set]
  simp only [seenP, List.getElem_map, List.getElem_range]
  by_cases e : j = i
  · subst e
    rw [if_pos rfl, decide_eq_true (List.mem_append_right _ (List.mem_singleton.mpr rfl))]
  · rw [if_neg e]
    congr 1
    rw [decide_eq_decide, List.mem_append, List.mem_singleton]
    exact ⟨.inl, fun z => z.elim id fun z => absurd z.symm e⟩
theorem a_truP {K : PySem.W.Frag} {H : Hp} {p : Addr} {xs : List V} {R : Bool → Prop} (e : SqL K H p xs) (h : R (decide (xs ≠ []))) : ∃ k, TruV K (.ref p) H k ∧ R k := a_truL e (by
  cases xs with
  | nil => exact h
  | cons x xs => exact h)
/-- the first k of the cycle from x -/
def cyk (a : List Nat) (x k : Nat) : List Nat := (List.range k).map fun k => itr a k x
theorem cyk_up (a : List Nat) (x k : Nat) : cyk a x (k + 1) = cyk a x k ++ [itr a k x] := by
  unfold cyk
  rw [List.range_succ, List.map_append]
  rfl
theorem cyk_len (a : List Nat) (x k : Nat) : (cyk a x k).length = k := by unfold cyk; rw [List.length_map, List.length_range]
theorem mem_cyk {a : List Nat} {x k y : Nat} : y ∈ cyk a x k ↔ ∃ j, j < k ∧ itr a j x = y := by
  unfold cyk
  rw [List.mem_map]
  exact ⟨fun ⟨j, h, e⟩ => ⟨j, List.mem_range.mp h, e⟩, fun ⟨j, h, e⟩ => ⟨j, List.mem_range.mpr h, e⟩⟩
/-- all points of the cycles that begin at bs -/
def cyf (a : List Nat) (bs : List Nat) : List Nat := (bs.map (cyc a)).flatten
theorem mem_cyf {a bs : List Nat} {y : Nat} : y ∈ cyf a bs ↔ ∃ b ∈ bs, y ∈ cyc a b := by
  unfold cyf
  rw [List.mem_flatten]
  constructor
  · rintro ⟨l, hl, hy⟩
    obtain ⟨b, hb, rfl⟩ := List.mem_map.mp hl
    exact ⟨b, hb, hy⟩
  · rintro ⟨b, hb, hy⟩
    exact ⟨_, List.mem_map.mpr ⟨b, hb, rfl⟩, hy⟩
theorem cyf_snoc (a bs : List Nat) (b : Nat) : cyf a (bs ++ [b]) = cyf a bs ++ cyc a b := by
  unfold cyf
  rw [List.map_append, List.flatten_append]
  simp
theorem cyc_eq (a : List Nat) (x : Nat) : cyc a x = cyk a x (per a x) := rfl
/-- a cycle that has a later point has the point -/
theorem cyf_back {a bs : List Nat} (h : OkImg a) (hb : ∀ b ∈ bs, b < a.length) {x k : Nat} (hx : x < a.length) (m : itr a k x ∈ cyf a bs) : x ∈ cyf a bs := by
  obtain ⟨b, hbm, hy⟩ := mem_cyf.mp m
  have hbl := hb b hbm
  obtain ⟨j, hj, e⟩ := mem_cyk.mp hy
  refine mem_cyf.mpr ⟨b, hbm, mem_cyk.mpr ?_⟩
  have px : per a x = per a b := by
    rw [← per_itr h hx k, ← e, per_itr h hbl]
  -- x = itr (j + (L * k - k)) b
  have e2 : itr a (per a x * k - k + k) x = x := by
    rw [show per a x * k - k + k = per a x * k from Nat.sub_add_cancel (Nat.le_mul_of_pos_left k (per_pos a x))]
    exact itr_mul x (per_is h hx).1 k
  rw [itr_add, ← e, ← itr_add] at e2
  refine ⟨(per a x * k - k + j) % per a b, Nat.mod_lt _ (per_pos a b), ?_⟩
  rw [← itr_mod h hbl]
  exact e2
end TT

set_option Elab.async false
set_option linter.all false
set_option maxRecDepth 100000
set_option maxHeartbeats 4000000
namespace TT
open PySem PySem.Spec PyProof.Rows L2
/-- an if whose ways meet again -/
theorem g_seqIf {c : TT} {t u v : TS} {D : Ends} {σ : L2.St} {H : Hp} (J : L2.St → Hp → Prop) (h : (∀ σ' H', J σ' H' → v D σ' H') → c σ H fun b H1 => if b = true then t { D with nx := v D } σ H1 else u { D with nx := v D } σ H1) (fin : ∀ σ' H', J σ' H' → v D σ' H') : tSeq (tIfS c t u) v D σ H := h fin
theorem sqt_off {K : PySem.W.Frag} {H : Hp} {ms : List Addr} {t : Addr} {xs : List V} (hm : ∀ q ∈ ms, ∃ xs, H q = some (.lst xs)) (h : SqT K H t xs) : SqT K (Off ms H) t xs := by
  have no : ∀ {o : HO}, H t = some o → (∀ ys, o ≠ .lst ys) → t ∉ ms := fun {o} e ne z => by
    obtain ⟨ys, e2⟩ := hm t z
    rw [e] at e2
    exact ne ys (Option.some.inj e2)
  rcases h with (h | ⟨o, h⟩) | h
  · exact .inl (.inl (Off.at_ h (no h fun ys z => by cases z)))
  · exact .inl (.inr ⟨o, Off.at_ h (no h fun ys z => by cases z)⟩)
  · exact .inr h
theorem PairAt.off {K : PySem.W.Frag} {H : Hp} {ms : List Addr} {v : V} {x : Pr} (h : PairAt K H v x) (hm : ∀ q ∈ ms, ∃ xs, H q = some (.lst xs)) : PairAt K (Off ms H) v x := let ⟨q, e, h⟩ := h; ⟨q, e, sqt_off hm h⟩
theorem Off.bt {ms : List Addr} {H H1 : Hp} {D : Addr} (b : But D H H1) : But D (Off ms H) (Off ms H1) := fun a o n e => by
  unfold Off at e ⊢
  by_cases z : a ∈ ms
  · rw [if_pos z] at e
    cases e
  · rw [if_neg z] at e ⊢
    exact b a o n e
section
variable {K : PySem.W.Frag} {j : Nat} {σ : L2.St} {H : Hp} {te : TE} {Q : VK} {P : Addr → Nat → V → Hp → Prop}
theorem c_rp {ta : TA} {k : Nat} (st : Stb P) (hn : k ≤ 100000) (hl : ∀ R : List V → Hp → Prop, (∀ H1, Same H H1 → R [.int (k : Nat)] H1) → ta σ H R)
    (hs : ∀ D acc (i : Nat) H', H D = none → i < k → Same H H' → H' D = some (.lst acc) → ∀ R : VK, (∀ v H4, Same H' H4 → P D i v H4 → R v H4) → te ((σ.set j none).set j (some (.int (i : Nat)))) H' R)
    (hd : ∀ D acc H', H D = none → Same H H' → H' D = some (.lst acc) → acc.length = k → (∀ k v, acc[k]? = some v → P D k v H') → Q (.ref D) H') : tLc (iRng1 ta) (gName j) tYes te [j] σ H Q := by
  refine hl _ fun H1 s1 => ⟨(k : Int), rfl, by omega, by omega, lc_p walk_range st (by omega) (fun _ _ => True.intro) (fun D acc i x H' H2 hi hD s hacc y => ?_) fun D acc H' nD s e1 e2 e3 => hd D acc H' (s1.free nD) (s1.trans s) e1 (by omega) e3⟩
  obtain ⟨rfl, e⟩ := y
  subst e
  refine ⟨Same.refl _, ?_⟩
  have e0 : (0 : Int) + (i : Int) = i := by omega
  show ∀ R : VK, _ → te ((σ.set j none).set j (some (.int (0 + (i : Int))))) H2 R
  rw [e0]
  exact hs D acc i _ (s1.free hD) (by omega) (s1.trans s) hacc
end
end TT

set_option Elab.async false
set_option linter.all false
set_option maxRecDepth 100000
set_option maxHeartbeats 4000000
namespace TT
open PySem PySem.Spec PyProof.Rows L2
/-! dicts: steps and arrivals -/
def rDGet (x y : V) (H : Hp) (Q : VK) : Prop := ∃ a v, x = .ref a ∧ DGet H a y (some v) ∧ Q v H
def rDIn (y x : V) (H : Hp) (Q : VK) : Prop := ∃ a o, x = .ref a ∧ DGet H a y o ∧ Q (.bl o.isSome) H
def rDNin (y x : V) (H : Hp) (Q : VK) : Prop := ∃ a o, x = .ref a ∧ DGet H a y o ∧ Q (.bl (!o.isSome)) H
def rDPut (x y v : V) (H : Hp) (R : Hp → Prop) : Prop := ∃ a H4, x = .ref a ∧ DPut H a y v H4 ∧ R H4
def rDNew (H : Hp) (Q : VK) : Prop := ∀ p, H p = none → Q (.ref p) (upd H p (.dK []))
def rDNewT (H : Hp) (Q : VK) : Prop := ∀ p, H p = none → Q (.ref p) (upd H p (.dT []))
section
variable {K : PySem.W.Frag} {σ : L2.St} {H : Hp} {Q : VK} {D : Ends} {td ty tv te : TE} {QB : Bool → Hp → Prop} {a : Addr} {kvs : List (Key × V)} {k : Key} {v : V}
theorem g_dget (h : td σ H fun x H1 => ty σ H1 fun y H2 => rDGet x y H2 Q) : tDGet td ty σ H Q := h
theorem g_din (h : ty σ H fun y H1 => td σ H1 fun x H2 => rDIn y x H2 Q) : tDIn ty td σ H Q := h
theorem g_dnin (h : ty σ H fun y H1 => td σ H1 fun x H2 => rDNin y x H2 Q) : tDNotIn ty td σ H Q := h
theorem g_dput (h : tv σ H fun v H1 => td σ H1 fun x H2 => ty σ H2 fun y H3 => rDPut x y v H3 fun H4 => D.nx σ H4) : sDPut td ty tv D σ H := h
theorem g_dnew (h : rDNew H Q) : tDNewK σ H Q := h
theorem g_dnewT (h : rDNewT H Q) : tDNewT σ H Q := h
theorem g_tB (h : te σ H fun x H' => ∃ k, x = .bl k ∧ QB k H') : tB te σ H QB := h
theorem a_dnew (h : ∀ p H2, H p = none → Same H H2 → H2 p = some (.dK []) → Q (.ref p) H2) : rDNew H Q := fun p hp => h p _ hp (same_new hp) upd_same
theorem a_dnewT (h : ∀ p H2, H p = none → Same H H2 → H2 p = some (.dT []) → Q (.ref p) H2) : rDNewT H Q := fun p hp => h p _ hp (same_new hp) upd_same
theorem a_dgetS {s : Str} (h : Rd H a (.dK kvs)) (e : valV kvs (.inr s) = some v) (q : Q v H) : rDGet (.ref a) (.str s) H Q := ⟨a, v, rfl, .inl ⟨kvs, .inr s, h, rfl, e.symm⟩, q⟩
theorem a_dgetI {n : Int} (h : Rd H a (.dK kvs)) (e : valV kvs (.inl n) = some v) (q : Q v H) : rDGet (.ref a) (.int n) H Q := ⟨a, v, rfl, .inl ⟨kvs, .inl n, h, rfl, e.symm⟩, q⟩
theorem a_dinS {s : Str} (h : Rd H a (.dK kvs)) (q : Q (.bl (valV kvs (.inr s)).isSome) H) : rDIn (.str s) (.ref a) H Q := ⟨a, _, rfl, .inl ⟨kvs, .inr s, h, rfl, rfl⟩, q⟩
theorem a_dninS {s : Str} (h : Rd H a (.dK kvs)) (q : Q (.bl (!(valV kvs (.inr s)).isSome)) H) : rDNin (.str s) (.ref a) H Q := ⟨a, _, rfl, .inl ⟨kvs, .inr s, h, rfl, rfl⟩, q⟩
theorem a_dinI {n : Int} (h : Rd H a (.dK kvs)) (q : Q (.bl (valV kvs (.inl n)).isSome) H) : rDIn (.int n) (.ref a) H Q := ⟨a, _, rfl, .inl ⟨kvs, .inl n, h, rfl, rfl⟩, q⟩
theorem a_dninI {n : Int} (h : Rd H a (.dK kvs)) (q : Q (.bl (!(valV kvs (.inl n)).isSome)) H) : rDNin (.int n) (.ref a) H Q := ⟨a, _, rfl, .inl ⟨kvs, .inl n, h, rfl, rfl⟩, q⟩
theorem a_dinT {kts : List (List Key × V)} {b : Addr} {ks : List Key} (h : Rd H a (.dT kts)) (hb : H b = some (.tup (ks.map kV))) (q : Q (.bl (valV kts ks).isSome) H) : rDIn (.ref b) (.ref a) H Q := ⟨a, _, rfl, .inr ⟨kts, ks, b, h, rfl, hb, rfl⟩, q⟩
theorem a_dninT {kts : List (List Key × V)} {b : Addr} {ks : List Key} (h : Rd H a (.dT kts)) (hb : H b = some (.tup (ks.map kV))) (q : Q (.bl (!(valV kts ks).isSome)) H) : rDNin (.ref b) (.ref a) H Q := ⟨a, _, rfl, .inr ⟨kts, ks, b, h, rfl, hb, rfl⟩, q⟩
theorem a_dgetT {kts : List (List Key × V)} {b : Addr} {ks : List Key} (h : Rd H a (.dT kts)) (hb : H b = some (.tup (ks.map kV))) (e : valV kts ks = some v) (q : Q v H) : rDGet (.ref a) (.ref b) H Q := ⟨a, v, rfl, .inr ⟨kts, ks, b, h, rfl, hb, e.symm⟩, q⟩
theorem a_dputS {s : Str} {R : Hp → Prop} (h : H a = some (.dK kvs)) (hl : kvs.length ≤ 100000) (q : ∀ H2, But a H H2 → H2 a = some (.dK (putK kvs (.inr s) v)) → R H2) : rDPut (.ref a) (.str s) v H R := ⟨a, _, rfl, .inl ⟨kvs, .inr s, h, rfl, Nat.lt_of_le_of_lt hl (by decide), rfl⟩, q _ But.upd upd_same⟩
theorem a_dputI {n : Int} {R : Hp → Prop} (h : H a = some (.dK kvs)) (hl : kvs.length ≤ 100000) (q : ∀ H2, But a H H2 → H2 a = some (.dK (putK kvs (.inl n) v)) → R H2) : rDPut (.ref a) (.int n) v H R := ⟨a, _, rfl, .inl ⟨kvs, .inl n, h, rfl, Nat.lt_of_le_of_lt hl (by decide), rfl⟩, q _ But.upd upd_same⟩
theorem a_dputT {kts : List (List Key × V)} {b : Addr} {ks : List Key} {R : Hp → Prop} (h : H a = some (.dT kts)) (hb : H b = some (.tup (ks.map kV))) (hl : kts.length ≤ 100000) (q : ∀ H2, But a H H2 → H2 a = some (.dT (putK kts ks v)) → R H2) : rDPut (.ref a) (.ref b) v H R := ⟨a, _, rfl, .inr ⟨kts, ks, b, h, rfl, hb, Nat.lt_of_le_of_lt hl (by decide), rfl⟩, q _ But.upd upd_same⟩
/-- a walk over a dict: it is locked meanwhile -/
theorem a_lock {d : Addr} {u : HO} {t : TS} (h : H d = some u) (m : Mut (some u)) (q : ∀ od H1, But d H H1 → H1 d = some (.frz od u) → t ⟨fun σ' H' => H' d = some (.frz od u) ∧ D.nx σ' (upd H' d u), fun v H' => H' d = some (.frz od u) ∧ D.rt v (upd H' d u), fun σ' H' => H' d = some (.frz od u) ∧ D.bk σ' (upd H' d u), fun σ' H' => H' d = some (.frz od u) ∧ D.ct σ' (upd H' d u)⟩ σ H1) : tLock t D σ H := ⟨d, u, h, m, fun od => q od _ But.upd upd_same⟩
theorem a_lockE {d : Addr} {u : HO} (h : H d = some u) (m : Mut (some u)) (q : ∀ od H1, But d H H1 → H1 d = some (.frz od u) → te σ H1 fun v H' => H' d = some (.frz od u) ∧ Q v (upd H' d u)) : tLockE te σ H Q := ⟨d, u, h, m, fun od => q od _ But.upd upd_same⟩
def rKeys (x : V) (H : Hp) (R : It → Hp → Prop) : Prop := ∃ d o, x = .ref d ∧ ((∃ kvs, H d = some (.frz o (.dK kvs)) ∧ R (Itk d o kvs) H) ∨ ∃ kvs, H d = some (.frz o (.dT kvs)) ∧ R (Itkt d o kvs) H)
theorem g_iKeys {R : It → Hp → Prop} (h : td σ H fun x H1 => rKeys x H1 R) : iKeys td σ H R := h
theorem a_keys {R : It → Hp → Prop} {od : Obj} (h : H a = some (.frz od (.dK kvs))) (q : R (Itk a od kvs) H) : rKeys (.ref a) H R := ⟨a, od, rfl, .inl ⟨kvs, h, q⟩⟩
def rStrI (x : V) (H : Hp) (R : It → Hp → Prop) : Prop := ∃ z, x = .str z ∧ R (Its z) H
theorem g_iStr {R : It → Hp → Prop} (h : td σ H fun x H1 => rStrI x H1 R) : iStr td σ H R := h
/-- list(d), dict(d) -/
def rListDU : List V → Hp → VK → Prop := fun xs H Q => ∃ (a : Addr) (kvs : List (Key × V)), xs = [.ref a] ∧ Rd H a (.dK kvs) ∧ ∀ p, H p = none → Q (.ref p) (upd H p (.lst (kvs.map fun kv => kV kv.1)))
def rDictDU : List V → Hp → VK → Prop := fun xs H Q => ∃ (a : Addr) (kvs : List (Key × V)), xs = [.ref a] ∧ Rd H a (.dK kvs) ∧ ∀ p, H p = none → Q (.ref p) (upd H p (.dK kvs))
theorem call_listDU {X : Cx} (hc : X.calm = true) : CallR X (.type "list") rListDU := call_listD hc
theorem call_dictDU {X : Cx} : CallR X (.type "dict") rDictDU := call_dictD
theorem a_listD (h : Rd H a (.dK kvs)) (q : ∀ p H2, H p = none → Same H H2 → H2 p = some (.lst (kvs.map fun kv => kV kv.1)) → Q (.ref p) H2) : rListDU [V.ref a] H Q := ⟨a, kvs, rfl, h, fun p hp => q p _ hp (same_new hp) upd_same⟩
theorem a_dictD (h : Rd H a (.dK kvs)) (q : ∀ p H2, H p = none → Same H H2 → H2 p = some (.dK kvs) → Q (.ref p) H2) : rDictDU [V.ref a] H Q := ⟨a, kvs, rfl, h, fun p hp => q p _ hp (same_new hp) upd_same⟩
def rAddS : R2 := fun x y H Q => ∃ i j, x = .str i ∧ y = .str j ∧ i.length + j.length ≤ sizeLine ∧ Q (.str (i ++ j)) H
theorem op_addSU {X : Cx} : OpR X (binaryOp .Add) rAddS := op_add_str
def rInS : R2 := fun x y H Q => ∃ (c : Nat) (z : Str), x = .str ⟨#[c]⟩ ∧ y = .str z ∧ Q (.bl (decide (c ∈ z.cps.toList))) H
theorem op_inSU {X : Cx} : OpR X (compareOp .In) rInS := op_in_sign
def rLenS : List V → Hp → VK → Prop := fun xs H Q => ∃ z, xs = [.str z] ∧ z.length ≤ sizeLine ∧ Q (.int z.length) H
theorem call_lenSU {X : Cx} : CallR X (.builtin "len") rLenS := call_len_str
def rIsN : R2 := fun x y H Q => y = .non ∧ Q (.bl (decide (x = .non))) H
theorem op_isNU {X : Cx} : OpR X (compareOp .Is) rIsN := op_isN
theorem a_isNt (q : Q (.bl true) H) : rIsN .non .non H Q := ⟨rfl, q⟩
theorem a_isNf {x : V} (h : x ≠ .non) (q : Q (.bl false) H) : rIsN x .non H Q := ⟨rfl, by rw [decide_eq_false h]; exact q⟩
end
section
variable {K : PySem.W.Frag} {J : It} {n j : Nat} {G : Hp → Prop} {Y : Nat → Hp → V → Hp → Prop} {σ : L2.St} {H H1 : Hp} {te tk tv : TE} {tt : TT} {Q : VK}
/-- over the keys of a locked dict -/
theorem c_k {td : TE} {d : Addr} {od : Obj} {kvs : List (Key × V)} (f : Nat → V) (hn : kvs.length ≤ 100000) (hl : ∀ R : VK, (∀ H1, Same H H1 → H1 d = some (.frz od (.dK kvs)) → R (.ref d) H1) → td σ H R)
    (hs : ∀ i k v H', kvs[i]? = some (k, v) → Same H H' → ∀ R : VK, (∀ H4, Same H' H4 → R (f i) H4) → te ((σ.set j none).set j (some (kV k))) H' R)
    (hd : ∀ D H', H D = none → Same H H' → H' D = some (.lst ((List.range kvs.length).map f)) → Q (.ref D) H') : tLc (iKeys td) (gName j) tYes te [j] σ H Q := by
  refine hl _ fun H1 s1 h => ⟨d, od, rfl, .inl ⟨kvs, h, lc_1 walk_keys f hn (fun H' s => s _ _ h) (fun i x H' H2 hi s y => ?_) fun D H' n s e => hd D H' (s1.free n) (s1.trans s) e⟩⟩
  obtain ⟨rfl, k, v, e, rfl⟩ := y
  exact ⟨Same.refl _, hs i k v _ e (s1.trans s)⟩
theorem cf_k {td : TE} {d : Addr} {od : Obj} {kvs : List (Key × V)} (b : Nat → Bool) (f : Nat → V) (hn : kvs.length ≤ 100000) (hl : ∀ R : VK, (∀ H1, Same H H1 → H1 d = some (.frz od (.dK kvs)) → R (.ref d) H1) → td σ H R)
    (hs : ∀ i k v H', kvs[i]? = some (k, v) → Same H H' → (∀ R : Bool → Hp → Prop, (∀ H3, Same H' H3 → R (b i) H3) → tt ((σ.set j none).set j (some (kV k))) H' R) ∧
      (b i = true → ∀ H3, Same H' H3 → ∀ R : VK, (∀ H4, Same H3 H4 → R (f i) H4) → te ((σ.set j none).set j (some (kV k))) H3 R))
    (hd : ∀ D H', H D = none → Same H H' → H' D = some (.lst (((List.range kvs.length).filter b).map f)) → Q (.ref D) H') : tLc (iKeys td) (gName j) tt te [j] σ H Q := by
  refine hl _ fun H1 s1 h => ⟨d, od, rfl, .inl ⟨kvs, h, lc_f walk_keys b f hn (fun H' s => s _ _ h) (fun i x H' H2 hi s y => ?_) fun D H' n s e => hd D H' (s1.free n) (s1.trans s) e⟩⟩
  obtain ⟨rfl, k, v, e, rfl⟩ := y
  exact ⟨Same.refl _, hs i k v _ e (s1.trans s)⟩
/-- over the signs of a text -/
theorem c_s {td : TE} {z : Str} (f : Nat → V) (hn : z.cps.size ≤ 100000) (hl : ∀ R : VK, (∀ H1, Same H H1 → R (.str z) H1) → td σ H R)
    (hs : ∀ i c H', z.cps[i]? = some c → Same H H' → ∀ R : VK, (∀ H4, Same H' H4 → R (f i) H4) → te ((σ.set j none).set j (some (.str ⟨#[c]⟩))) H' R)
    (hd : ∀ D H', H D = none → Same H H' → H' D = some (.lst ((List.range z.cps.size).map f)) → Q (.ref D) H') : tLc (iStr td) (gName j) tYes te [j] σ H Q := by
  refine hl _ fun H1 s1 => ⟨z, rfl, lc_1 walk_str f hn (fun _ _ => True.intro) (fun i x H' H2 hi s y => ?_) fun D H' n s e => hd D H' (s1.free n) (s1.trans s) e⟩
  obtain ⟨rfl, c, e, rfl⟩ := y
  exact ⟨Same.refl _, hs i c _ e (s1.trans s)⟩
/-- the first ones: what a dict of such keys holds -/
def putAll (v : V) (ks : List Key) : List (Key × V) := ks.foldl (fun acc k => putK acc k v) []
theorem putAll_snoc (v : V) (ks : List Key) (k : Key) : putAll v (ks ++ [k]) = putK (putAll v ks) k v := by
  unfold putAll
  rw [List.foldl_append]
  rfl
theorem revInd {α : Type} {P : List α → Prop} (h0 : P []) (h1 : ∀ l x, P l → P (l ++ [x])) (l : List α) : P l := by
  have : ∀ m : List α, P m.reverse := fun m => by
    induction m with
    | nil => exact h0
    | cons x m ih =>
      rw [List.reverse_cons]
      exact h1 _ _ ih
  rw [← List.reverse_reverse l]
  exact this _
theorem putAll_len (v : V) (ks : List Key) : (putAll v ks).length ≤ ks.length := by
  refine revInd (P := fun ks => (putAll v ks).length ≤ ks.length) (Nat.le_refl _) (fun ks x ih => ?_) ks
  · rw [putAll_snoc, List.length_append]
    have := length_putK (putAll v ks) x v
    simp only [List.length_singleton]
    omega
theorem valV_keys {κ : Type} [DecidableEq κ] (k : κ) : ∀ kvs : List (κ × V), (valV kvs k).isSome = true ↔ k ∈ kvs.map (·.1) := by
  intro kvs
  rw [← valV_any, List.any_eq_true]
  simp [eq_comm]
theorem putK_keys {κ : Type} [DecidableEq κ] (kvs : List (κ × V)) (k : κ) (v : V) : (putK kvs k v).map (·.1) = if k ∈ kvs.map (·.1) then kvs.map (·.1) else kvs.map (·.1) ++ [k] := by
  by_cases h : k ∈ kvs.map (·.1)
  · rw [if_pos h]
    have := (valV_keys k kvs).mpr h
    unfold putK
    rw [valV_any, if_pos this, List.map_map]
    refine List.map_congr_left fun p _ => ?_
    show (if p.1 = k then (p.1, v) else p).1 = p.1
    split <;> rfl
  · rw [if_neg h, putK_new]
    · simp
    · have : ¬ (valV kvs k).isSome = true := fun z => h ((valV_keys k kvs).mp z)
      simpa using this
theorem putK_nodup {κ : Type} [DecidableEq κ] {kvs : List (κ × V)} (k : κ) (v : V) (h : (kvs.map (·.1)).Nodup) : ((putK kvs k v).map (·.1)).Nodup := by
  rw [putK_keys]
  split
  · exact h
  · rename_i n
    rw [List.nodup_append]
    refine ⟨h, by simp, fun a ha b hb => ?_⟩
    rw [List.mem_singleton] at hb
    subst hb
    exact fun e => n (e ▸ ha)
theorem putAll_nodup (v : V) (ks : List Key) : ((putAll v ks).map (·.1)).Nodup := by
  refine revInd (P := fun ks => ((putAll v ks).map (·.1)).Nodup) List.nodup_nil (fun ks x ih => ?_) ks
  rw [putAll_snoc]
  exact putK_nodup x v ih
theorem putAll_mem (v : V) (ks : List Key) (k : Key) : k ∈ (putAll v ks).map (·.1) ↔ k ∈ ks := by
  refine revInd (P := fun ks => k ∈ (putAll v ks).map (·.1) ↔ k ∈ ks) Iff.rfl (fun ks x ih => ?_) ks
  rw [putAll_snoc, putK_keys]
  split
  · rename_i h
    rw [ih, List.mem_append, List.mem_singleton]
    refine ⟨.inl, fun z => z.elim id fun e => ?_⟩
    subst e
    exact ih.mp h
  · rw [List.mem_append, List.mem_append, ih]
/-- {k: v for ..}: over a list or a tuple -/
theorem c_d {tl : TE} {xs : List V} {ks : List Key} {v : V} (hn : xs.length ≤ 100000) (hk : xs = ks.map kV) (hl : ∀ R : VK, (∀ a H1, Same H H1 → Seq K H1 a xs → R (.ref a) H1) → tl σ H R)
    (hs : ∀ (i : Nat) (k : Key) H', ks[i]? = some k → Same H H' → ∀ R : VK, (∀ H4, Same H' H4 → R (kV k) H4) → tk ((σ.set j none).set j (some (kV k))) H' R)
    (hv : ∀ (i : Nat) (k : Key) H', ks[i]? = some k → Same H H' → ∀ R : VK, (∀ H4, Same H' H4 → R v H4) → tv ((σ.set j none).set j (some (kV k))) H' R)
    (hd : ∀ D H', H D = none → Same H H' → H' D = some (.dK (putAll v ks)) → Q (.ref D) H') : tDc (iSeq K tl) (gName j) tYes tk tv [j] σ H Q := by
  have hkl : xs.length = ks.length := by rw [hk, List.length_map]
  refine hl _ fun a H1 s1 h => a_iter h fun J w => ?_
  intro D hD
  refine ⟨fun i m H' => m = xs.length - i ∧ i ≤ xs.length ∧ Same H1 H' ∧ H' D = some (.dK (putAll v (ks.take i))), ⟨xs.length, by simp, Nat.zero_le _, same_new hD, upd_same⟩, ?_⟩
  rintro i m H' ⟨rfl, hi, s, e⟩
  by_cases hlt : i < xs.length
  · refine .inr ⟨w.goes i H' hlt s, fun H2 => Same H1 H2 ∧ H2 D = some (.dK (putAll v (ks.take (i + 1)))), fun H2 q => ⟨xs.length - (i + 1), by omega, rfl, hlt, q.1, q.2⟩, fun x H2 y => ?_⟩
    obtain ⟨rfl, ex⟩ := w.yields i H' x H2 hlt s y
    rw [hk, List.getElem?_map] at ex
    obtain ⟨k, ek, rfl⟩ := Option.map_eq_some_iff.mp ex
    refine ⟨set_none σ j _, ?_⟩
    unfold tYes
    dsimp only
    rw [if_pos rfl]
    refine hs i k _ ek (s1.trans s) _ fun H4 s4 => hv i k _ ek ((s1.trans s).trans s4) _ fun H5 s5 => ⟨_, k, rfl, s5 _ _ (s4 _ _ e), ?_, same_mut ((s.trans s4).trans s5) hD, ?_⟩
    · refine Nat.lt_of_le_of_lt (putAll_len v _) (Nat.lt_of_le_of_lt (m := 100000) ?_ (by decide))
      rw [List.length_take]
      omega
    · have hi2 : i < ks.length := by omega
      rw [upd_same, ← List.take_append_getElem hi2, putAll_snoc]
      rw [List.getElem?_eq_getElem hi2] at ek
      rw [Option.some.inj ek]
  · have e2 : i = xs.length := by omega
    subst e2
    refine .inl ⟨w.stops H' s, hd D H' (s1.free hD) (s1.trans s) ?_⟩
    rw [e, hkl, List.take_length]
end
section
variable {K : PySem.W.Frag} {σ : L2.St} {H : Hp} {Q : VK}
def rTrg (a b : Int) (H : Hp) (Q : VK) : Prop := RgOk a b ∧ ∀ q, H q = none → Q (.ref q) (upd H q (.tup (rgV a b)))
theorem g_trg {tr : L2.St → Hp → (Int → Int → Hp → Prop) → Prop} (h : tr σ H fun a b H1 => rTrg a b H1 Q) : tTupRg tr σ H Q := h
theorem a_trg {n : Int} (h0 : 0 ≤ n) (hn : n ≤ 100000) (q : ∀ p H2, H p = none → Same H H2 → H2 p = some (.tup ((List.range n.toNat).map fun i => V.int (i : Nat))) → Q (.ref p) H2) : rTrg 0 n H Q := by
  refine ⟨RgOk.of_le (by omega) (by omega) (by omega) h0, fun p hp => ?_⟩
  have e : rgV 0 n = (List.range n.toNat).map fun i => V.int (i : Nat) := by
    unfold rgV
    have : (n - 0).toNat = n.toNat := by omega
    rw [this]
    refine List.map_congr_left fun i _ => ?_
    congr 1
    omega
  rw [e]
  exact q p _ hp (same_new hp) upd_same
theorem cut_last (xs : List V) (v : V) : cutV (xs ++ [v]) none (some (-1)) = xs := by
  unfold cutV
  have e : (-1 + ((xs.length : Int) + 1)).toNat = xs.length := by omega
  simp [HT.sIx, e]
end
end TT

set_option Elab.async false
set_option linter.all false
set_option maxRecDepth 100000
set_option maxHeartbeats 4000000
namespace TT
open PySem PySem.Spec PyProof.Rows L2
/-! min, max, in, any, all -/
def rMax2 : List V → Hp → VK → Prop := fun xs H Q => ∃ i j, xs = [.int i, .int j] ∧ Q (.int (if j > i then j else i)) H
def rMin2 : List V → Hp → VK → Prop := fun xs H Q => ∃ i j, xs = [.int i, .int j] ∧ Q (.int (if j < i then j else i)) H
theorem call_max2U {X : Cx} (hc : X.calm = true) : CallR X (.builtin "max") rMax2 := call_max2 hc
theorem call_min2U {X : Cx} (hc : X.calm = true) : CallR X (.builtin "min") rMin2 := call_min2 hc
section
variable {K : PySem.W.Frag} {H : Hp} {Q : VK} {p : Addr} {xs : List V}
theorem a_max2 {i j : Int} (q : Q (.int (max i j)) H) : rMax2 [.int i, .int j] H Q := ⟨i, j, rfl, by
  have e : (if j > i then j else i) = max i j := by split <;> omega
  rw [e]; exact q⟩
theorem a_min2 {i j : Int} (q : Q (.int (min i j)) H) : rMin2 [.int i, .int j] H Q := ⟨i, j, rfl, by
  have e : (if j < i then j else i) = min i j := by split <;> omega
  rw [e]; exact q⟩
theorem inV_zi (z : Int) : ∀ zs : List Int, inV (.int z) (zi zs) = decide (z ∈ zs)
  | [] => rfl
  | x :: zs => by
    have ih := inV_zi z zs
    unfold inV zi at ih ⊢
    rw [List.map_cons, List.any_cons, ih]
    show (x == z || _) = _
    by_cases e : x = z
    · subst e; simp
    · have e2 : ¬ z = x := fun h => e h.symm
      simp [e, e2]
theorem inV_str (z : Str) : ∀ zs : List Str, inV (.str z) (zs.map V.str) = decide (z ∈ zs)
  | [] => rfl
  | x :: zs => by
    have ih := inV_str z zs
    unfold inV at ih ⊢
    rw [List.map_cons, List.any_cons, ih]
    show (x == z || _) = _
    by_cases e : x = z
    · subst e; simp
    · have e2 : ¬ z = x := fun h => e h.symm
      simp [e, e2]
theorem flat_zi (zs : List Int) : (zi zs).all flatV = true := by
  rw [List.all_eq_true]
  intro x hx
  obtain ⟨n, _, rfl⟩ := List.mem_map.mp hx
  rfl
theorem flat_str (zs : List Str) : (zs.map V.str).all flatV = true := by
  rw [List.all_eq_true]
  intro x hx
  obtain ⟨n, _, rfl⟩ := List.mem_map.mp hx
  rfl
theorem a_inZ {z : Int} {zs : List Int} (h : Seq K H p (zi zs)) (q : Q (.bl (decide (z ∈ zs))) H) : rIn K false (.int z) (.ref p) H Q := ⟨p, _, rfl, h, rfl, flat_zi zs, by rw [inV_zi]; exact q⟩
theorem a_ninZ {z : Int} {zs : List Int} (h : Seq K H p (zi zs)) (q : Q (.bl (!decide (z ∈ zs))) H) : rIn K true (.int z) (.ref p) H Q := ⟨p, _, rfl, h, rfl, flat_zi zs, by rw [inV_zi]; exact q⟩
theorem a_inN {z : Nat} {a : List Nat} (h : Seq K H p (vi a)) (q : Q (.bl (decide (z ∈ a))) H) : rIn K false (.int (z : Nat)) (.ref p) H Q := by
  rw [← zi_ni] at h
  refine a_inZ h ?_
  have e : ((z : Int) ∈ ni a) ↔ z ∈ a := ⟨fun h => by unfold ni at h; obtain ⟨x, hx, e⟩ := List.mem_map.mp h; rwa [← Int.ofNat.inj e], fun h => List.mem_map_of_mem h⟩
  rw [decide_eq_decide.mpr e]
  exact q
theorem a_ninN {z : Nat} {a : List Nat} (h : Seq K H p (vi a)) (q : Q (.bl (!decide (z ∈ a))) H) : rIn K true (.int (z : Nat)) (.ref p) H Q := by
  rw [← zi_ni] at h
  refine a_ninZ h ?_
  have e : ((z : Int) ∈ ni a) ↔ z ∈ a := ⟨fun h => by unfold ni at h; obtain ⟨x, hx, e⟩ := List.mem_map.mp h; rwa [← Int.ofNat.inj e], fun h => List.mem_map_of_mem h⟩
  rw [decide_eq_decide.mpr e]
  exact q
theorem a_inT {z : Str} {zs : List Str} (h : Seq K H p (zs.map V.str)) (q : Q (.bl (decide (z ∈ zs))) H) : rIn K false (.str z) (.ref p) H Q := ⟨p, _, rfl, h, rfl, flat_str zs, by rw [inV_str]; exact q⟩
theorem a_ninT {z : Str} {zs : List Str} (h : Seq K H p (zs.map V.str)) (q : Q (.bl (!decide (z ∈ zs))) H) : rIn K true (.str z) (.ref p) H Q := ⟨p, _, rfl, h, rfl, flat_str zs, by rw [inV_str]; exact q⟩
theorem a_any {bs : List Bool} (h : SqL K H p (bs.map V.bl)) (q : Q (.bl (bs.any id)) H) : rAny K [.ref p] H Q := ⟨p, bs, rfl, h, q⟩
theorem a_all {bs : List Bool} (h : SqL K H p (bs.map V.bl)) (q : Q (.bl (bs.all id)) H) : rAll K [.ref p] H Q := ⟨p, bs, rfl, h, q⟩
theorem a_ext {q : Addr} {ys : List V} (h : H p = some (.lst xs)) (h2 : H q = some (.lst ys)) (hl : xs.length + ys.length ≤ 100000) (k : ∀ H2, But p H H2 → H2 p = some (.lst (xs ++ ys)) → Q .non H2) : rExtend (.ref p) [.ref q] H Q := ⟨p, q, xs, ys, rfl, rfl, h, h2, Nat.le_trans hl (by decide), k _ But.upd upd_same⟩
theorem a_inSU {c : Nat} {z : Str} (q : Q (.bl (decide (c ∈ z.cps.toList))) H) : rInS (.str ⟨#[c]⟩) (.str z) H Q := ⟨c, z, rfl, rfl, q⟩
theorem a_lenSU {z : Str} (h : z.cps.size ≤ 100000) (q : Q (.int (z.cps.size : Nat)) H) : rLenS [.str z] H Q := ⟨z, rfl, Nat.le_trans h (by decide), q⟩
end
/-! names -/
def fitsN (z : Str) : Bool := decide (1 ≤ z.cps.size) && decide (z.cps.size ≤ 3) && z.cps.toList.all fun c => decide (c ∈ ("abcdefghijklmnopqrstuvwxyz" : Str).cps.toList)
/-! what can be come to -/
inductive Rch (ways : Nat → Nat → Prop) (b : Nat) : Nat → Prop
  | base : Rch ways b b
  | step {x y : Nat} : Rch ways b x → ways x y → Rch ways b y
/-- the list of what is found goes on till all is found -/
structure Spr (ways : List (List Nat)) (b : Nat) (found : List Nat) (at_ : Nat) : Prop where
  first : found.head? = some b
  nd : found.Nodup
  lt : ∀ x ∈ found, x < ways.length
  rch : ∀ x ∈ found, Rch (fun x y => y ∈ ways.getD x []) b x
  le : at_ ≤ found.length
  done : ∀ i (hi : i < found.length), i < at_ → ∀ y ∈ ways.getD found[i] [], y ∈ found
theorem getDL_lt {b : List (List Nat)} {i : Nat} (h : i < b.length) : b.getD i [] = b[i] := by
  rw [List.getD_eq_getElem?_getD, List.getElem?_eq_getElem h]
  rfl
theorem Spr.len {ways : List (List Nat)} {b : Nat} {found : List Nat} {k : Nat} (h : Spr ways b found k) : found.length ≤ ways.length := by
  have := sub_len (m := List.range ways.length) h.nd fun x hx => List.mem_range.mpr (h.lt x hx)
  rwa [List.length_range] at this
theorem Spr.go {ways : List (List Nat)} {b : Nat} {found : List Nat} {k : Nat} (h : Spr ways b found k) (hk : k < found.length) (wnd : ∀ l ∈ ways, l.Nodup) (wlt : ∀ l ∈ ways, ∀ y ∈ l, y < ways.length) :
    Spr ways b (found ++ (ways.getD found[k] []).filter fun g => decide (g ∉ found)) (k + 1) := by
  have hw : found[k] < ways.length := h.lt _ (List.getElem_mem hk)
  have hm : ways.getD found[k] [] ∈ ways := by rw [getDL_lt hw]; exact List.getElem_mem hw
  refine ⟨?_, ?_, ?_, ?_, ?_, ?_⟩
  · cases found with
    | nil => cases hk
    | cons x l => exact h.first
  · rw [List.nodup_append]
    refine ⟨h.nd, (wnd _ hm).filter _, fun x hx y hy e => ?_⟩
    subst e
    have := (List.mem_filter.mp hy).2
    simp at this
    exact this hx
  · intro x hx
    rcases List.mem_append.mp hx with hx | hx
    · exact h.lt x hx
    · exact wlt _ hm x (List.mem_filter.mp hx).1
  · intro x hx
    rcases List.mem_append.mp hx with hx | hx
    · exact h.rch x hx
    · exact .step (h.rch _ (List.getElem_mem hk)) (List.mem_filter.mp hx).1
  · rw [List.length_append]
    omega
  · intro i hi hik y hy
    have hi2 : i < found.length := by omega
    rw [List.getElem_append_left hi2] at hy
    by_cases e : i = k
    · subst e
      by_cases z : y ∈ found
      · exact List.mem_append_left _ z
      · exact List.mem_append_right _ (List.mem_filter.mpr ⟨hy, by simpa using z⟩)
    · exact List.mem_append_left _ (h.done i hi2 (by omega) y hy)
theorem Spr.fin {ways : List (List Nat)} {b : Nat} {found : List Nat} (h : Spr ways b found found.length) (x : Nat) : x ∈ found ↔ Rch (fun x y => y ∈ ways.getD x []) b x := by
  refine ⟨h.rch x, fun r => ?_⟩
  induction r with
  | base =>
    have := h.first
    cases found with
    | nil => cases this
    | cons y l => cases this; exact List.mem_cons_self ..
  | step _ hw ih =>
    obtain ⟨i, hi, e⟩ := List.getElem_of_mem ih
    exact h.done i hi hi _ (e ▸ hw)
/-! arrows -/
abbrev Ar := Int × Int × Str
def ArV (a : Ar) : List V := [.int a.1, .int a.2.1, .str a.2.2]
def ArS (K : PySem.W.Frag) (H : Hp) (v : V) (a : Ar) : Prop := ∃ q, v = .ref q ∧ Seq K H q (ArV a)
def ArT (K : PySem.W.Frag) (H : Hp) (v : V) (a : Ar) : Prop := ∃ q, v = .ref q ∧ SqT K H q (ArV a)
theorem ArT.s {K : PySem.W.Frag} {H : Hp} {v : V} {a : Ar} (h : ArT K H v a) : ArS K H v a := let ⟨q, e, h⟩ := h; ⟨q, e, .inr h⟩
theorem ArS.same {K : PySem.W.Frag} {H H1 : Hp} {v : V} {a : Ar} (h : ArS K H v a) (s : Same H H1) : ArS K H1 v a := let ⟨q, e, h⟩ := h; ⟨q, e, h.same s⟩
theorem ArT.same {K : PySem.W.Frag} {H H1 : Hp} {v : V} {a : Ar} (h : ArT K H v a) (s : Same H H1) : ArT K H1 v a := let ⟨q, e, h⟩ := h; ⟨q, e, same_t s h⟩
theorem ArT.but {K : PySem.W.Frag} {H H1 : Hp} {v : V} {a : Ar} {p : Addr} {o : HO} (h : ArT K H v a) (b : But p H H1) (hp : H p = some o) (no : ∀ xs, o ≠ .tup xs) (nf : ∀ ob xs, o ≠ .frz ob (.tup xs)) : ArT K H1 v a := by
  obtain ⟨q, e, h⟩ := h
  refine ⟨q, e, ?_⟩
  have ne : ∀ {u : HO}, H q = some u → u ≠ o → q ≠ p := fun hu n z => by
    subst z
    rw [hu] at hp
    exact n (Option.some.inj hp)
  rcases h with (h | ⟨ob, h⟩) | h
  · exact .inl (.inl (b _ _ (ne h fun z => no _ z.symm) h))
  · exact .inl (.inr ⟨ob, b _ _ (ne h fun z => nf _ _ z.symm) h⟩)
  · exact .inr h
/-- a tuple that another object's change leaves -/
theorem sqt_chg {K : PySem.W.Frag} {H H1 : Hp} {p q : Addr} {o : HO} {xs : List V} (h : SqT K H q xs) (b : But p H H1) (hp : H p = some o) (no : ∀ xs, o ≠ .tup xs) (nf : ∀ ob xs, o ≠ .frz ob (.tup xs)) : SqT K H1 q xs := by
  have ne : ∀ {u : HO}, H q = some u → u ≠ o → q ≠ p := fun hu n z => by
    subst z
    rw [hu] at hp
    exact n (Option.some.inj hp)
  rcases h with (h | ⟨ob, h⟩) | h
  · exact .inl (.inl (b _ _ (ne h fun z => no _ z.symm) h))
  · exact .inl (.inr ⟨ob, b _ _ (ne h fun z => nf _ _ z.symm) h⟩)
  · exact .inr h
def badAr (n : Int) (a : Ar) : Bool := decide (min a.1 a.2.1 < 0) || decide (n ≤ max a.1 a.2.1) || !fitsN a.2.2
end TT
namespace TT
open PySem PySem.Spec PyProof.Rows L2
section
variable {K : PySem.W.Frag} {j : Nat} {σ : L2.St} {H : Hp} {te : TE} {tt : TT} {Q : VK}
/-- over a list or a tuple -/
theorem c_s1 {tl : TE} {xs : List V} (f : Nat → V) (hn : xs.length ≤ 100000) (hl : ∀ R : VK, (∀ a H1, Same H H1 → Seq K H1 a xs → R (.ref a) H1) → tl σ H R)
    (hs : ∀ i x H', xs[i]? = some x → Same H H' → ∀ R : VK, (∀ H4, Same H' H4 → R (f i) H4) → te ((σ.set j none).set j (some x)) H' R)
    (hd : ∀ D H', H D = none → Same H H' → H' D = some (.lst ((List.range xs.length).map f)) → Q (.ref D) H') : tLc (iSeq K tl) (gName j) tYes te [j] σ H Q := by
  refine hl _ fun a H1 s1 h => a_iter h fun J w => lc_1 w f hn (fun H' s => s) (fun i x H' H2 hi s y => ?_) fun D H' n s e => hd D H' (s1.free n) (s1.trans s) e
  obtain ⟨rfl, e⟩ := y
  exact ⟨Same.refl _, hs i x _ e (s1.trans s)⟩
theorem cf_s1 {tl : TE} {xs : List V} (b : Nat → Bool) (f : Nat → V) (hn : xs.length ≤ 100000) (hl : ∀ R : VK, (∀ a H1, Same H H1 → Seq K H1 a xs → R (.ref a) H1) → tl σ H R)
    (hs : ∀ i x H', xs[i]? = some x → Same H H' → (∀ R : Bool → Hp → Prop, (∀ H3, Same H' H3 → R (b i) H3) → tt ((σ.set j none).set j (some x)) H' R) ∧
      (b i = true → ∀ H3, Same H' H3 → ∀ R : VK, (∀ H4, Same H3 H4 → R (f i) H4) → te ((σ.set j none).set j (some x)) H3 R))
    (hd : ∀ D H', H D = none → Same H H' → H' D = some (.lst (((List.range xs.length).filter b).map f)) → Q (.ref D) H') : tLc (iSeq K tl) (gName j) tt te [j] σ H Q := by
  refine hl _ fun a H1 s1 h => a_iter h fun J w => lc_f w b f hn (fun H' s => s) (fun i x H' H2 hi s y => ?_) fun D H' n s e => hd D H' (s1.free n) (s1.trans s) e
  obtain ⟨rfl, e⟩ := y
  exact ⟨Same.refl _, hs i x _ e (s1.trans s)⟩
end
end TT
namespace TT
open PySem PySem.Spec PyProof.Rows L2
def rDisp1 (p : Addr) (y z : V) (H : Hp) (Q : VK) : Prop := H p = some (.dK []) ∧ ∃ kvs : List (Key × V), [(y, z)] = kvs.map (fun kv => (kV kv.1, kv.2)) ∧ kvs.length ≤ 15 ∧ Q (.ref p) (upd H p (.dK (mergeK [] kvs)))
theorem g_disp1 {tk tv : TE} {σ : L2.St} {H : Hp} {Q : VK} (h : ∀ p H1, H p = none → Same H H1 → H1 p = some (.dK []) → tk σ H1 fun y H2 => tv σ H2 fun z H3 => rDisp1 p y z H3 Q) : tDisp [(tk, tv)] σ H Q := fun p hp => h p _ hp (same_new hp) upd_same
theorem a_disp1 {p : Addr} {y z : V} {k : Key} {H : Hp} {Q : VK} (e : y = kV k) (h : H p = some (.dK [])) (q : ∀ H2, But p H H2 → H2 p = some (.dK [(k, z)]) → Q (.ref p) H2) : rDisp1 p y z H Q := ⟨h, [(k, z)], by rw [e]; rfl, by show 1 ≤ 15; decide, q _ But.upd upd_same⟩
theorem Rch.pre {w : Nat → Nat → Prop} {x y z : Nat} (h : w x y) (r : Rch w y z) : Rch w x z := by
  induction r with
  | base => exact .step .base h
  | step _ hw ih => exact .step ih hw
theorem Rch.rev {w1 w2 : Nat → Nat → Prop} (h : ∀ x y, w1 x y → w2 y x) {b x : Nat} (r : Rch w1 b x) : Rch w2 x b := by
  induction r with
  | base => exact .base
  | step _ hw ih => exact Rch.pre (h _ _ hw) ih
end TT

set_option Elab.async false
set_option linter.all false
set_option maxRecDepth 100000
set_option maxHeartbeats 4000000
namespace TT
open PySem PySem.Spec PyProof.Rows L2
section
variable {K : PySem.W.Frag} {H : Hp} {Q : VK} {n : Nat} {x y : V} {d e : PyData}
theorem a_eqW (hx : Dq K H n x d) (hy : Dq K H n y e) (q : Q (.bl (PyData.eqv d e)) H) (l : n ≤ 64 := by decide) : rEqU K x y H Q := a_eqD hx.dp hy.dp (hx.sm.sh l) (hy.sm.sh l) q
theorem a_neW (hx : Dq K H n x d) (hy : Dq K H n y e) (q : Q (.bl (!PyData.eqv d e)) H) (l : n ≤ 64 := by decide) : rNeU K x y H Q := .inr ⟨_, _, hx.dp, hy.dp, hx.sm.sh l, hy.sm.sh l, q⟩
end
def rNinS : R2 := fun x y H Q => ∃ (c : Nat) (z : Str), x = .str ⟨#[c]⟩ ∧ y = .str z ∧ Q (.bl (!decide (c ∈ z.cps.toList))) H
theorem op_ninSU {X : Cx} : OpR X (compareOp .NotIn) rNinS := op_notIn_sign
theorem a_ninSU {H : Hp} {Q : VK} {c : Nat} {z : Str} (q : Q (.bl (!decide (c ∈ z.cps.toList))) H) : rNinS (.str ⟨#[c]⟩) (.str z) H Q := ⟨c, z, rfl, rfl, q⟩
section
variable {K : PySem.W.Frag} {j : Nat} {σ : L2.St} {H : Hp} {te : TE} {tt : TT} {Q : VK}
theorem cf_s {td : TE} {z : Str} (b : Nat → Bool) (f : Nat → V) (hn : z.cps.size ≤ 100000) (hl : ∀ R : VK, (∀ H1, Same H H1 → R (.str z) H1) → td σ H R)
    (hs : ∀ i c H', z.cps[i]? = some c → Same H H' → (∀ R : Bool → Hp → Prop, (∀ H3, Same H' H3 → R (b i) H3) → tt ((σ.set j none).set j (some (.str ⟨#[c]⟩))) H' R) ∧
      (b i = true → ∀ H3, Same H' H3 → ∀ R : VK, (∀ H4, Same H3 H4 → R (f i) H4) → te ((σ.set j none).set j (some (.str ⟨#[c]⟩))) H3 R))
    (hd : ∀ D H', H D = none → Same H H' → H' D = some (.lst (((List.range z.cps.size).filter b).map f)) → Q (.ref D) H') : tLc (iStr td) (gName j) tt te [j] σ H Q := by
  refine hl _ fun H1 s1 => ⟨z, rfl, lc_f walk_str b f hn (fun _ _ => True.intro) (fun i x H' H2 hi s y => ?_) fun D H' n s e => hd D H' (s1.free n) (s1.trans s) e⟩
  obtain ⟨rfl, c, e, rfl⟩ := y
  exact ⟨Same.refl _, hs i c _ e (s1.trans s)⟩
end
/-! what pairs lead to, round by round -/
inductive RchZ (prs : List Pr) (b : Int) : Int → Prop
  | base : RchZ prs b b
  | step {x y : Int} : RchZ prs b x → (x, y) ∈ prs → RchZ prs b y
def roundZ (prs : List Pr) (found : List Int) : List Int := found ++ (prs.filter fun p => decide (p.1 ∈ found) && decide (p.2 ∉ found)).map (·.2)
def closedZ (prs : List Pr) (found : List Int) : Prop := ∀ p ∈ prs, p.1 ∈ found → p.2 ∈ found
def cntZ (prs : List Pr) (found : List Int) : Nat := (prs.filter fun p => decide (p.2 ∈ found)).length
theorem closed_round {prs : List Pr} {found : List Int} (h : closedZ prs found) : roundZ prs found = found := by
  unfold roundZ
  have : (prs.filter fun p => decide (p.1 ∈ found) && decide (p.2 ∉ found)) = [] := by
    rw [List.filter_eq_nil_iff]
    intro p hp z
    simp only [Bool.and_eq_true, decide_eq_true_eq] at z
    exact z.2 (h p hp z.1)
  rw [this]
  simp
theorem filter_lt {α : Type} {p q : α → Bool} : ∀ {l : List α}, (∀ x ∈ l, p x = true → q x = true) → (∃ x ∈ l, p x = false ∧ q x = true) → (l.filter p).length < (l.filter q).length
  | [], _, ⟨x, hx, _⟩ => by cases hx
  | y :: l, h, ⟨x, hx, h1, h2⟩ => by
    have mono : (l.filter p).length ≤ (l.filter q).length := by
      have := fun x hx => h x (List.mem_cons_of_mem y hx)
      clear h hx h1 h2 x
      induction l with
      | nil => exact Nat.le_refl _
      | cons z l ih =>
        have ih := ih fun x hx => this x (List.mem_cons_of_mem z hx)
        rw [List.filter_cons, List.filter_cons]
        by_cases hp : p z = true
        · rw [if_pos hp, if_pos (this z (List.mem_cons_self ..) hp)]
          simpa using ih
        · rw [if_neg hp]
          split
          · simp; omega
          · exact ih
    rw [List.filter_cons, List.filter_cons]
    rcases List.mem_cons.mp hx with rfl | hx
    · rw [if_neg (by rw [h1]; decide), if_pos h2]
      simp; omega
    · have ih := filter_lt (fun x hx => h x (List.mem_cons_of_mem y hx)) ⟨x, hx, h1, h2⟩
      by_cases hp : p y = true
      · rw [if_pos hp, if_pos (h y (List.mem_cons_self ..) hp)]
        simpa using ih
      · rw [if_neg hp]
        split
        · simp; omega
        · exact ih
theorem round_next {prs : List Pr} {found : List Int} {i : Nat} (h : closedZ prs found ∨ i ≤ cntZ prs found) : closedZ prs (roundZ prs found) ∨ i + 1 ≤ cntZ prs (roundZ prs found) := by
  by_cases c : closedZ prs found
  · rw [closed_round c]
    exact .inl c
  · refine .inr ?_
    rcases h with h | h
    · exact absurd h c
    unfold closedZ at c
    obtain ⟨p, hp⟩ := Classical.not_forall.mp c
    obtain ⟨hm, hp⟩ := Classical.not_forall.mp hp
    obtain ⟨h1, h2⟩ := Classical.not_forall.mp hp
    refine Nat.lt_of_le_of_lt h (filter_lt (fun x _ hx => ?_) ⟨p, hm, decide_eq_false h2, ?_⟩)
    · exact decide_eq_true (List.mem_append_left _ (of_decide_eq_true hx))
    · refine decide_eq_true (List.mem_append_right _ (List.mem_map_of_mem (List.mem_filter.mpr ⟨hm, ?_⟩)))
      simp [h1, h2]
theorem closed_full {prs : List Pr} {found : List Int} (h : closedZ prs found ∨ prs.length ≤ cntZ prs found) : closedZ prs found := by
  rcases h with h | h
  · exact h
  · intro p hp _
    unfold cntZ at h
    have e := List.filter_sublist.eq_of_length_le (l₂ := prs) (by simpa using h)
    rw [← e] at hp
    exact of_decide_eq_true (List.mem_filter.mp hp).2
theorem rchZ_iff {prs : List Pr} {b : Int} {found : List Int} (hb : b ∈ found) (hr : ∀ x ∈ found, RchZ prs b x) (hc : closedZ prs found) (x : Int) : x ∈ found ↔ RchZ prs b x := by
  refine ⟨hr x, fun r => ?_⟩
  induction r with
  | base => exact hb
  | step _ hp ih => exact hc _ hp ih
theorem round_rch {prs : List Pr} {b : Int} {found : List Int} (hr : ∀ x ∈ found, RchZ prs b x) : ∀ x ∈ roundZ prs found, RchZ prs b x := fun x hx => by
  rcases List.mem_append.mp hx with hx | hx
  · exact hr x hx
  · obtain ⟨p, hp, rfl⟩ := List.mem_map.mp hx
    obtain ⟨h1, h2⟩ := List.mem_filter.mp hp
    simp only [Bool.and_eq_true, decide_eq_true_eq] at h2
    exact .step (hr _ h2.1) h1
end TT

set_option Elab.async false
set_option linter.all false
set_option maxRecDepth 100000
set_option maxHeartbeats 4000000
namespace TT
open PySem PySem.Spec PyProof.Rows L2
/-! errors held as values -/
def rExv (C : Addr) (sp : Sp) (vs : List V) (H1 : Hp) (Q : VK) : Prop := vs.length ≤ 1000 ∧ ∀ a, H1 a = none → sp (.ref a :: (vs ++ [])) (upd H1 a (exo a C none)) (fun v H2 => v = .non ∧ Q (.ref a) H2) (fun _ _ _ => False)
def tExv (C : Addr) (sp : Sp) (ta : TA) : TE := fun σ H Q => ta σ H fun vs H1 => rExv C sp vs H1 Q
def tExv0 (C : Addr) : TE := fun _ H Q => ∀ a, H a = none → Q (.ref a) (upd H a (exo a C none))
section
variable {X : Cx} {x : Str} {C : Addr} {k j : Nat} {sp : Sp} {e : Expr} {es : List Expr} {ta : TA} {p pos : Pos}
theorem pe_exv (c : Rai X.prog X.w X.K X.mg X.base x C k sp) (hr : Room j X.A) (hk : k + 1 ≤ j) (hg : Gl X x) (ha : PA X (e :: es) ta) (hdb : (x == ("__debug__" : Str)) = false := by decide)
    (he : starEach (e :: es) X.env = (false, eval e X.env) :: starEach es X.env := by rfl) (hpl : (backTo pos (starEach es X.env)).any (·.1) = false := by rfl) : PE X (.Call (.Name x p) (e :: es) [] pos) (tExv C sp ta) := by
  obtain ⟨fI, fd, ps, iC, tI, F1, hb⟩ := c.ex
  have T := c.er.ox
  replace hr := hr.mono hk
  refine ⟨fun pins s σ H Q I h => ?_⟩
  obtain ⟨nm, q, N, bs, bm, sn, sub, ab, col, dd, k0, k1, k2, k3, k5, hC, hbm⟩ := T.cls
  refine wpAny_Call_Name_kw (ld_glob I hg c.at_ ?_ hdb)
  refine PySem.W.callWith_K (h₀ := X.base) I.ok.mod.kin T.kC (thn (ha.run pos pins s σ H _ I h) fun us s1 ⟨vs, H1, I1, r1, hz, q1⟩ => ⟨I1.kIn, ?_⟩) he hpl
  show wpAny _ _ (call (.ref C) us) _ _ _
  obtain ⟨hp, g, dr, tk, os⟩ := s1
  have hsz : hp.objs.size ≤ hp.objs.size + 1 := Nat.le_succ _
  have hn : H1 (hp.objs.size + 1) = none := I1.hok.fresh hsz
  have hq := q1 (hp.objs.size + 1) hn
  have kk : ∀ b o, hp.get? b = some o → ((hp.push (PySem.W.kdv_tup us)).push (PySem.HandSPX.excO C hp.objs.size)).get? b = some o := fun b o e => Heap.get?_push_of_some _ (Heap.get?_push_of_some _ e)
  have hget : ((hp.push (PySem.W.kdv_tup us)).push (PySem.HandSPX.excO C hp.objs.size)).get? (hp.objs.size + 1) = some (PySem.HandSPX.excO C hp.objs.size) := by heap_get
  have I2 : Inv X pins σ (upd H1 (hp.objs.size + 1) (exo (hp.objs.size + 1) C none)) ⟨(hp.push (PySem.W.kdv_tup us)).push (PySem.HandSPX.excO C hp.objs.size), g, dr, tk, os⟩ :=
    I1.laid (t' := tk) (a := hp.objs.size + 1) (o := exo (hp.objs.size + 1) C none) (h' := (hp.push (PySem.W.kdv_tup us)).push (PySem.HandSPX.excO C hp.objs.size)) kk hsz (exo_ok hget)
  have r2 : Vals (V.ref (hp.objs.size + 1) :: (vs ++ [])) (Value.ref (hp.objs.size + 1) :: (us ++ [])) := .cons rfl (r1.append .nil)
  have hl : (Value.ref (hp.objs.size + 1) :: us ++ []).length = ps.length := by
    have e := r2.length
    rw [F1.len _ _ _ _ hq] at e
    exact e.symm
  have hus : us.length ≤ sizeLine := by
    rw [← Paired.length r1, sizeLine_eq]
    omega
  refine wpAny_call (PySem.HandSPX.call_own F.excBase_ValueError (fun Y => PySem.HandSPX.refsVE_contains Y bm hbm) (I1.kIn _ _ hC) (PySem.W.looks_findIn I1.kIn iC) (fun self => PySem.W.bind_fn I1.kIn self tI) hus
    (codeAny_mono (F1.run _ X.stack _ _ ⟨Value.ref (hp.objs.size + 1) :: us, []⟩ (Value.ref (hp.objs.size + 1) :: (us ++ [])) _ _ (fun _ _ _ => False) (hr.make C us []) (I2.env0.make C us []) (show BindsTo _ fd ⟨Value.ref (hp.objs.size + 1) :: us, []⟩ (ps.zip (Value.ref (hp.objs.size + 1) :: (us ++ []))) from hb _ (Value.ref (hp.objs.size + 1) :: us) I2.kIn hl) r2 hq) fun r s' hq' => ?_))
  cases r with
  | error er => exact passF pins σ _ _ er s' I2 hq'
  | ok fl =>
    cases fl with
    | ret u =>
      obtain ⟨v, H2, J, rv, ev, q2⟩ := I2.after hq'
      subst ev
      exact ⟨rv, .ref (hp.objs.size + 1), H2, J, rfl, q2⟩
    | next => exact False.elim hq'
    | brk => exact False.elim hq'
    | cont => exact False.elim hq'
theorem pe_exv0 (c : Rai0 X.K X.mg x C) (hg : Gl X x) (hd : (x == ("__debug__" : Str)) = false := by decide) : PE X (.Call (.Name x p) [] [] pos) (tExv0 C) := by
  refine ⟨fun pins s σ H Q I h => ?_⟩
  refine wpAny_Call_Name_kw (ld_glob I hg c.at_ (PySem.W.callWith_K0 (first := []) I.kIn c.er.ox.kC ?_) hd)
  obtain ⟨bm, N, nm, qn, bs, hdct, sn, sub, ab, col, dd, a0, a1, a2, a3, a5, mN, hC, hN, hni, T⟩ := exc_obj I.kIn c.ei
  refine wpAny_call_exc_subT PySem.F.excBase_ValueError T hC hN hni (fun h' a hm => ?_) (by rw [sizeLine_eq]; exact Nat.zero_le _)
  have hn : H a = none := I.hok.gone hm.new
  obtain ⟨t, ht, _, _⟩ := hm.there
  exact ⟨.ref a, upd H a (exo a C none), I.laidN hm.keeps hm.new hn (exo_ok ht), rfl, h a hn⟩
end
def rXe (K : PySem.W.Frag) (n : Str) (x : V) (H : Hp) (Q : VK) : Prop := ∃ (a C dd : Addr) (fs : List (Str × V)) (v : V), x = .ref a ∧ XfC K C ∧ PySem.W.findIn K (.ref C) n = some none ∧ H a = some (exo a C (some dd)) ∧ H dd = some (exd dd fs) ∧ fs.lookup n = some v ∧ Q v H
def tXe (K : PySem.W.Frag) (n : Str) (te : TE) : TE := fun σ H Q => te σ H fun x H1 => rXe K n x H1 Q
theorem pe_fe {X : Cx} {K : PySem.W.Frag} {e : Expr} {te : TE} {pos : Pos} {n : Str} (hK : X.K = K) (he : PE X e te) (hb : attributeBase e n X.env (eval e X.env) = eval e X.env := by rfl) : PE X (.Attribute e n pos) (tXe K n te) := by
  subst hK
  refine ⟨fun pins s σ H Q I h => ?_⟩
  refine attr_of hb (thn (he.run pins s σ H _ I h) fun u s1 hh => ?_)
  obtain ⟨x, H1, I1, rx, a, C, dd, fs, v, ex, T, hno, ha, hd, l, q⟩ := hh
  subst ex
  obtain rfl : u = Value.ref a := rx
  obtain ⟨t1, hget⟩ := (I1.hok a _ ha).1
  obtain ⟨mA, hns, hr⟩ := (I1.hok dd _ hd).1
  obtain ⟨od, ho, hl⟩ := lookIn_ns hns
  obtain ⟨u, hu, ru⟩ := RelO.some_of (v := v) (o := mA n) (by rw [← l]; exact hr n)
  have J : PySem.W.InstAt s1.heap a _ C (some od) := ⟨hget, rfl, rfl, ho⟩
  exact HandSPX.exc_get I1.kIn J T.ga T.gg T.exC (PySem.W.findObj_own T.hdC hno rfl (by rw [hl, hu])) (handed_of ru) ⟨v, H1, I1.tok _, ru, q⟩
def rIsV (K : PySem.W.Frag) : List V → Hp → VK → Prop := fun xs H Q => ∃ (a D : Addr) (od : Option Addr) (c : V) (cv : Value) (b : Bool), Err K D ∧ xs = [.ref a, c] ∧ H a = some (exo a D od) ∧ (∀ dd, od = some dd → ∃ fs, H dd = some (exd dd fs)) ∧ (∀ u, RelV c u → u = cv) ∧ PySem.W.kitOne K (.ref D) cv = some b ∧ Q (.bl b) H
theorem call_isV {X : Cx} {K : PySem.W.Frag} (hK : X.K = K) : CallR X (.builtin "isinstance") (rIsV K) := by
  subst hK
  intro pins s σ H xs us Q I r h
  obtain ⟨a, D, od, c, cv, b, E, rfl, ha, hdd, hcv, e, q⟩ := h
  cases r with
  | cons rx rr =>
    cases rr with
    | cons rt rr =>
      cases rr
      cases rx
      have ec := hcv _ rt
      subst ec
      obtain ⟨t1, hget⟩ := (I.hok a _ ha).1
      have J : ∃ o od, PySem.W.InstAt s.heap a o D od := by
        cases od with
        | none => exact ⟨_, none, hget, rfl, rfl, trivial⟩
        | some dd =>
          obtain ⟨fs, ed⟩ := hdd dd rfl
          obtain ⟨mA, hns, _⟩ := (I.hok dd _ ed).1
          obtain ⟨o, ho, _⟩ := lookIn_ns hns
          exact ⟨_, some o, hget, rfl, rfl, ho⟩
      obtain ⟨_, od, J⟩ := J
      exact PySem.W.kia_one (PySem.W.kitx_exc E.ic E.xf.ga E.xf.gg E.xf.exC E.ca E.cn E.ct E.cm) I.kIn J e (fun z => nomatch z) fun tk => ⟨.bl b, H, I.kept (t' := tk) fun _ _ z => z, rfl, q⟩
section
variable {K : PySem.W.Frag} {σ : L2.St} {H : Hp} {Q : VK} {C : Addr} {sp : Sp} {ta : TA} {te : TE} {n : Str}
theorem g_exv (h : ta σ H fun vs H1 => rExv C sp vs H1 Q) : tExv C sp ta σ H Q := h
def rExv0 (C : Addr) (H : Hp) (Q : VK) : Prop := ∀ a, H a = none → Q (.ref a) (upd H a (exo a C none))
theorem g_exv0 (h : rExv0 C H Q) : tExv0 C σ H Q := h
theorem g_xe (h : te σ H fun x H1 => rXe K n x H1 Q) : tXe K n te σ H Q := h
theorem a_exv0 (q : ∀ a H', H a = none → Same H H' → H' a = some (exo a C none) → Q (.ref a) H') : rExv0 C H Q := fun a ha => q a _ ha (same_new ha) upd_same
theorem a_exv1 {f : Str} {v : V} (q : ∀ a dd H', H a = none → Same H H' → H' a = some (exo a C (some dd)) → H' dd = some (exd dd [(f, v)]) → Q (.ref a) H') : rExv C (spI1 C f) [v] H Q := by
  refine ⟨by show 1 ≤ 1000; decide, fun a ha => ⟨a, v, rfl, upd_same, fun dx hd ne => ⟨rfl, ?_⟩⟩⟩
  rw [upd_ne ne] at hd
  refine q a dx _ ha (fun c o e => ?_) upd_same (by rw [upd_ne ne, upd_same])
  rw [upd_ne (ne_of_none e ha), upd_ne (ne_of_none e hd), upd_ne (ne_of_none e ha)]
  exact e
theorem a_exv2 {f g : Str} {v w : V} (q : ∀ a dd H', H a = none → Same H H' → H' a = some (exo a C (some dd)) → H' dd = some (exd dd [(g, w), (f, v)]) → Q (.ref a) H') : rExv C (spI2 C f g) [v, w] H Q := by
  refine ⟨by show 2 ≤ 1000; decide, fun a ha => ⟨a, v, w, rfl, upd_same, fun dx hd ne => ⟨rfl, ?_⟩⟩⟩
  rw [upd_ne ne] at hd
  refine q a dx _ ha (fun c o e => ?_) (by rw [upd_ne (Ne.symm ne), upd_same]) upd_same
  rw [upd_ne (ne_of_none e hd), upd_ne (ne_of_none e ha), upd_ne (ne_of_none e hd), upd_ne (ne_of_none e ha)]
  exact e
theorem a_xe {a dd : Addr} {fs : List (Str × V)} {v : V} (x : Err K C) (hn : PySem.W.findIn K (.ref C) n = some none) (h : H a = some (exo a C (some dd))) (hd : H dd = some (exd dd fs)) (l : fs.lookup n = some v) (q : Q v H) : rXe K n (.ref a) H Q := ⟨a, C, dd, fs, v, rfl, x.xf, hn, h, hd, l, q⟩
theorem lk1 (f : Str) (v : V) : ([(f, v)] : List (Str × V)).lookup f = some v := by simp [List.lookup]
end
theorem a_three {u v w : V} {R : V → V → V → Prop} (h : R u v w) : ∃ u' v' w', [u, v, w] = [u', v', w'] ∧ R u' v' w' := ⟨u, v, w, rfl, h⟩
theorem g_par3 {i j l : Nat} {ts : TA} {D : Ends} {σ : L2.St} {H : Hp} (h : ts σ H fun vs H1 => ∃ u v w, vs = [u, v, w] ∧ D.nx (((σ.set i (some u)).set j (some v)).set l (some w)) H1) : tPar3 i j l ts D σ H := h
end TT

namespace TT
open PySem PySem.Spec PyProof.Rows L2
local macro_rules | `(tactic| walk_at "tt") => `(tactic| first
  | with_reducible refine g_seq ?_
  | with_reducible refine g_raise ?_
  | with_reducible refine g_cos ?_
  | with_reducible refine g_gone ?_
  | with_reducible refine g_r0 ?_
  | with_reducible refine g_oex ?_
  | with_reducible refine g_try ?_
  | with_reducible refine g_FS ?_
  | with_reducible refine g_MS ?_
  | with_reducible refine g_KS ?_
  | with_reducible refine g_SS ?_
  | with_reducible refine g_BS ?_
  | with_reducible refine g_set ?_
  | with_reducible refine g_c ?_
  | ((with_reducible show tVar _ _ _ _); refine g_var rfl ?_)
  | with_reducible refine g_op ?_
  | with_reducible refine g_un ?_
  | with_reducible refine g_nil ?_
  | with_reducible refine g_cons ?_
  | with_reducible refine g_cb ?_
  | with_reducible refine g_if ?_
  | with_reducible refine g_ife ?_
  | with_reducible refine g_test ?_
  | with_reducible refine a_bl ?_
  | with_reducible refine g_tr ?_
  | with_reducible refine g_not ?_
  | with_reducible refine g_or ?_
  | with_reducible refine g_and ?_
  | with_reducible refine g_F ?_
  | with_reducible refine g_S ?_
  | with_reducible refine g_lst ?_
  | with_reducible refine g_tup ?_
  | with_reducible refine g_fld ?_
  | with_reducible refine g_sfld ?_
  | with_reducible refine g_methR ?_
  | with_reducible refine g_andV ?_
  | with_reducible refine g_orV ?_
  | with_reducible refine g_notT ?_
  | with_reducible refine g_chain ?_
  | with_reducible refine g_bm ?_
  | with_reducible refine g_bm0 ?_
  | with_reducible refine g_sl ?_
  | with_reducible refine g_nop ?_
  | with_reducible refine g_part ?_
  | with_reducible refine g_ret ?_
  | with_reducible refine g_drop ?_
  | with_reducible refine g_next ?_
  | with_reducible refine g_asg ?_
  | with_reducible refine g_sub ?_
  | with_reducible refine g_par ?_
  | with_reducible refine g_for ?_
  | with_reducible refine g_iSeq ?_
  | with_reducible refine g_iTup ?_
  | with_reducible refine g_iList ?_
  | with_reducible refine g_iRng ?_
  | with_reducible refine g_iEt ?_
  | with_reducible refine g_iEn ?_
  | with_reducible refine g_mk ?_
  | with_reducible refine g_lrg ?_
  | with_reducible refine g_rg1 ?_
  | with_reducible refine a_truB ?_
  | with_reducible refine a_truI ?_
  | with_reducible refine g_gcons ?_
  | with_reducible refine g_gnil ?_
  | with_reducible refine g_gname ?_
  | ((with_reducible show gTup _ _ _ (V.ref _) _ _ _); refine g_gtup (SqT.of (by assumption)) rfl ?_)
  | with_reducible refine g_co ?_
  | with_reducible refine a_two ?_
  | with_reducible refine g_dget ?_
  | with_reducible refine g_din ?_
  | with_reducible refine g_dnin ?_
  | with_reducible refine g_dput ?_
  | with_reducible refine g_dnew ?_
  | with_reducible refine g_dnewT ?_
  | with_reducible refine g_tB ?_
  | with_reducible refine g_iKeys ?_
  | with_reducible refine g_iStr ?_
  | with_reducible refine g_trg ?_
  | with_reducible refine g_par3 ?_
  | with_reducible refine a_three ?_
  | with_reducible refine g_exv ?_
  | with_reducible refine g_exv0 ?_
  | with_reducible refine g_xe ?_
  | with_reducible refine g_m1 ?_
  | with_reducible refine a_isStr ?_
  | ((with_reducible show tAug _ _ _ _ _ _); refine g_aug rfl ?_)
  | with_reducible refine a_max2 ?_
  | with_reducible refine a_min2 ?_
  | with_reducible refine a_inSU ?_
  | with_reducible refine a_int ?_
  | with_reducible refine a_addI ?_
  | with_reducible refine a_I0 ?_
  | with_reducible refine a_U ?_
  | with_reducible refine a_ipI ?_
  | with_reducible refine a_int1 ?_
  | ((with_reducible refine a_eq ?_ ?_); (exact rfl))
  | ((with_reducible refine a_ne ?_ ?_); (exact rfl))
  | ((with_reducible show rIx _ (V.ref _) (V.int _) _ _); refine a_ixL (SqL.of (by assumption)) rfl ?_)
  | ((with_reducible show rLenU _ [V.ref _] _ _); refine a_lenL (SqL.of (by assumption)) ?_)
  | ((with_reducible show rLenU _ [V.ref _] _ _); refine a_lenT (SqT.of (by assumption)) ?_)
  | ((with_reducible refine a_mulI ?_ ?_); (dsimp only [CMul]; omega))
  | ((with_reducible refine a_I ?_ ?_); ((try dsimp only [CDiv, CPow, CMul]); omega)))
local macro_rules | `(tactic| walk_at "go") => `(tactic| (repeat walk_at "tt"))
local macro_rules | `(tactic| walk_at "if") => `(tactic| ((repeat ((fail_if_success (with_reducible show tSeq (tIfS _ _ _) _ _ _ _)); walk_at "tt")); (with_reducible show tSeq (tIfS _ _ _) _ _ _ _)))

def top (i : Nat) : Stmt := PySem.Challenge.pw_triedtells_k77_errors_stand_apart.main.body.getD i (.Pass ⟨0, 0, 0, 0⟩)
abbrev s_BadName_init : Stmt := inClass (top 2) 0
abbrev s_BadStep_init : Stmt := inClass (top 3) 0
abbrev s_NoStep_init : Stmt := inClass (top 4) 0
abbrev s_BadScheme_init : Stmt := inClass (top 5) 0
abbrev s_WrongLength_init : Stmt := inClass (top 6) 0
abbrev s_BadTable_init : Stmt := inClass (top 7) 0
abbrev s_OtherSize_init : Stmt := inClass (top 8) 0
abbrev s_NoPoint_init : Stmt := inClass (top 9) 0
abbrev s_NoMeaning_init : Stmt := inClass (top 10) 0
abbrev s_NoPlace_init : Stmt := inClass (top 11) 0
abbrev s_BadArrow_init : Stmt := inClass (top 12) 0
abbrev s_LoosePlace_init : Stmt := inClass (top 13) 0
abbrev s_NoRun_init : Stmt := inClass (top 14) 0
abbrev s_NotFolded_init : Stmt := inClass (top 15) 0
abbrev s_NotOwn_init : Stmt := inClass (top 16) 0
abbrev s_BadPrice_init : Stmt := inClass (top 17) 0
abbrev s_BadCount_init : Stmt := inClass (top 18) 0
abbrev s_BadModulus_init : Stmt := inClass (top 19) 0
abbrev s_BadText_init : Stmt := inClass (top 20) 0
abbrev s__law_state : Stmt := top 25
abbrev s__law_draw : Stmt := top 26
abbrev s__law_pick : Stmt := top 27
abbrev s__law_cell : Stmt := top 28
abbrev s__law_numbered : Stmt := top 29
abbrev s__law_named : Stmt := top 30
abbrev s__law_others : Stmt := top 31
abbrev s__law_kinds : Stmt := top 32
abbrev s_law : Stmt := top 33
def L22 : List Str := ["BadStep", "NoStep", "BadArrow", "NoRun", "NotFolded", "BadPrice", "BadName", "NoMeaning", "NotOwn", "BadScheme", "BadText", "WrongLength", "BadTable", "OtherSize", "NoPoint", "NoPlace", "LoosePlace", "BadCount", "BadModulus", "Circle", "TooGreat", "NothingToUndo"]
structure Txt (K : PySem.W.Frag) (mg : Str → Option Value) : Prop where
  b_ValueError : mg "ValueError" = none
  b_range : mg "range" = none
  b_int : mg "int" = none
  b_len : mg "len" = none
  b_isinstance : mg "isinstance" = none
  b_max : mg "max" = none
  b_min : mg "min" = none
  g_TriedError : mg "TriedError" = some (.ref (He.ga K "TriedError"))
  g_BadName : mg "BadName" = some (.ref (He.ga K "BadName"))
  g_BadStep : mg "BadStep" = some (.ref (He.ga K "BadStep"))
  g_NoStep : mg "NoStep" = some (.ref (He.ga K "NoStep"))
  g_BadScheme : mg "BadScheme" = some (.ref (He.ga K "BadScheme"))
  g_WrongLength : mg "WrongLength" = some (.ref (He.ga K "WrongLength"))
  g_BadTable : mg "BadTable" = some (.ref (He.ga K "BadTable"))
  g_OtherSize : mg "OtherSize" = some (.ref (He.ga K "OtherSize"))
  g_NoPoint : mg "NoPoint" = some (.ref (He.ga K "NoPoint"))
  g_NoMeaning : mg "NoMeaning" = some (.ref (He.ga K "NoMeaning"))
  g_NoPlace : mg "NoPlace" = some (.ref (He.ga K "NoPlace"))
  g_BadArrow : mg "BadArrow" = some (.ref (He.ga K "BadArrow"))
  g_LoosePlace : mg "LoosePlace" = some (.ref (He.ga K "LoosePlace"))
  g_NoRun : mg "NoRun" = some (.ref (He.ga K "NoRun"))
  g_NotFolded : mg "NotFolded" = some (.ref (He.ga K "NotFolded"))
  g_NotOwn : mg "NotOwn" = some (.ref (He.ga K "NotOwn"))
  g_BadPrice : mg "BadPrice" = some (.ref (He.ga K "BadPrice"))
  g_BadCount : mg "BadCount" = some (.ref (He.ga K "BadCount"))
  g_BadModulus : mg "BadModulus" = some (.ref (He.ga K "BadModulus"))
  g_BadText : mg "BadText" = some (.ref (He.ga K "BadText"))
  g_Circle : mg "Circle" = some (.ref (He.ga K "Circle"))
  g_TooGreat : mg "TooGreat" = some (.ref (He.ga K "TooGreat"))
  g_NothingToUndo : mg "NothingToUndo" = some (.ref (He.ga K "NothingToUndo"))
  x_BadStep : Err K (He.ga K "BadStep")
  nx_BadStep_number : PySem.W.findIn K (.ref (He.ga K "BadStep")) "number" = some none
  xi_BadStep : PySem.W.findIn K (.ref (He.ga K "BadStep")) "__init__" = some (some (.ref (He.ma K (He.ga K "BadStep") "__init__")))
  xt_BadStep : PySem.W.typeIn K (.ref (He.ma K (He.ga K "BadStep") "__init__")) = some (.type "function")
  x_NoStep : Err K (He.ga K "NoStep")
  nx_NoStep_number : PySem.W.findIn K (.ref (He.ga K "NoStep")) "number" = some none
  xi_NoStep : PySem.W.findIn K (.ref (He.ga K "NoStep")) "__init__" = some (some (.ref (He.ma K (He.ga K "NoStep") "__init__")))
  xt_NoStep : PySem.W.typeIn K (.ref (He.ma K (He.ga K "NoStep") "__init__")) = some (.type "function")
  x_BadArrow : Err K (He.ga K "BadArrow")
  nx_BadArrow_number : PySem.W.findIn K (.ref (He.ga K "BadArrow")) "number" = some none
  xi_BadArrow : PySem.W.findIn K (.ref (He.ga K "BadArrow")) "__init__" = some (some (.ref (He.ma K (He.ga K "BadArrow") "__init__")))
  xt_BadArrow : PySem.W.typeIn K (.ref (He.ma K (He.ga K "BadArrow") "__init__")) = some (.type "function")
  x_NoRun : Err K (He.ga K "NoRun")
  nx_NoRun_number : PySem.W.findIn K (.ref (He.ga K "NoRun")) "number" = some none
  xi_NoRun : PySem.W.findIn K (.ref (He.ga K "NoRun")) "__init__" = some (some (.ref (He.ma K (He.ga K "NoRun") "__init__")))
  xt_NoRun : PySem.W.typeIn K (.ref (He.ma K (He.ga K "NoRun") "__init__")) = some (.type "function")
  x_NotFolded : Err K (He.ga K "NotFolded")
  nx_NotFolded_number : PySem.W.findIn K (.ref (He.ga K "NotFolded")) "number" = some none
  xi_NotFolded : PySem.W.findIn K (.ref (He.ga K "NotFolded")) "__init__" = some (some (.ref (He.ma K (He.ga K "NotFolded") "__init__")))
  xt_NotFolded : PySem.W.typeIn K (.ref (He.ma K (He.ga K "NotFolded") "__init__")) = some (.type "function")
  x_BadPrice : Err K (He.ga K "BadPrice")
  nx_BadPrice_number : PySem.W.findIn K (.ref (He.ga K "BadPrice")) "number" = some none
  xi_BadPrice : PySem.W.findIn K (.ref (He.ga K "BadPrice")) "__init__" = some (some (.ref (He.ma K (He.ga K "BadPrice") "__init__")))
  xt_BadPrice : PySem.W.typeIn K (.ref (He.ma K (He.ga K "BadPrice") "__init__")) = some (.type "function")
  x_BadName : Err K (He.ga K "BadName")
  nx_BadName_name : PySem.W.findIn K (.ref (He.ga K "BadName")) "name" = some none
  xi_BadName : PySem.W.findIn K (.ref (He.ga K "BadName")) "__init__" = some (some (.ref (He.ma K (He.ga K "BadName") "__init__")))
  xt_BadName : PySem.W.typeIn K (.ref (He.ma K (He.ga K "BadName") "__init__")) = some (.type "function")
  x_NoMeaning : Err K (He.ga K "NoMeaning")
  nx_NoMeaning_name : PySem.W.findIn K (.ref (He.ga K "NoMeaning")) "name" = some none
  xi_NoMeaning : PySem.W.findIn K (.ref (He.ga K "NoMeaning")) "__init__" = some (some (.ref (He.ma K (He.ga K "NoMeaning") "__init__")))
  xt_NoMeaning : PySem.W.typeIn K (.ref (He.ma K (He.ga K "NoMeaning") "__init__")) = some (.type "function")
  x_NotOwn : Err K (He.ga K "NotOwn")
  nx_NotOwn_name : PySem.W.findIn K (.ref (He.ga K "NotOwn")) "name" = some none
  xi_NotOwn : PySem.W.findIn K (.ref (He.ga K "NotOwn")) "__init__" = some (some (.ref (He.ma K (He.ga K "NotOwn") "__init__")))
  xt_NotOwn : PySem.W.typeIn K (.ref (He.ma K (He.ga K "NotOwn") "__init__")) = some (.type "function")
  x_BadScheme : Err K (He.ga K "BadScheme")
  nx_BadScheme_line : PySem.W.findIn K (.ref (He.ga K "BadScheme")) "line" = some none
  xi_BadScheme : PySem.W.findIn K (.ref (He.ga K "BadScheme")) "__init__" = some (some (.ref (He.ma K (He.ga K "BadScheme") "__init__")))
  xt_BadScheme : PySem.W.typeIn K (.ref (He.ma K (He.ga K "BadScheme") "__init__")) = some (.type "function")
  x_BadText : Err K (He.ga K "BadText")
  nx_BadText_line : PySem.W.findIn K (.ref (He.ga K "BadText")) "line" = some none
  xi_BadText : PySem.W.findIn K (.ref (He.ga K "BadText")) "__init__" = some (some (.ref (He.ma K (He.ga K "BadText") "__init__")))
  xt_BadText : PySem.W.typeIn K (.ref (He.ma K (He.ga K "BadText") "__init__")) = some (.type "function")
  x_WrongLength : Err K (He.ga K "WrongLength")
  nx_WrongLength_wanted : PySem.W.findIn K (.ref (He.ga K "WrongLength")) "wanted" = some none
  nx_WrongLength_length : PySem.W.findIn K (.ref (He.ga K "WrongLength")) "length" = some none
  xi_WrongLength : PySem.W.findIn K (.ref (He.ga K "WrongLength")) "__init__" = some (some (.ref (He.ma K (He.ga K "WrongLength") "__init__")))
  xt_WrongLength : PySem.W.typeIn K (.ref (He.ma K (He.ga K "WrongLength") "__init__")) = some (.type "function")
  x_BadTable : Err K (He.ga K "BadTable")
  nx_BadTable_image : PySem.W.findIn K (.ref (He.ga K "BadTable")) "image" = some none
  xi_BadTable : PySem.W.findIn K (.ref (He.ga K "BadTable")) "__init__" = some (some (.ref (He.ma K (He.ga K "BadTable") "__init__")))
  xt_BadTable : PySem.W.typeIn K (.ref (He.ma K (He.ga K "BadTable") "__init__")) = some (.type "function")
  x_OtherSize : Err K (He.ga K "OtherSize")
  nx_OtherSize_size : PySem.W.findIn K (.ref (He.ga K "OtherSize")) "size" = some none
  xi_OtherSize : PySem.W.findIn K (.ref (He.ga K "OtherSize")) "__init__" = some (some (.ref (He.ma K (He.ga K "OtherSize") "__init__")))
  xt_OtherSize : PySem.W.typeIn K (.ref (He.ma K (He.ga K "OtherSize") "__init__")) = some (.type "function")
  x_NoPoint : Err K (He.ga K "NoPoint")
  nx_NoPoint_point : PySem.W.findIn K (.ref (He.ga K "NoPoint")) "point" = some none
  xi_NoPoint : PySem.W.findIn K (.ref (He.ga K "NoPoint")) "__init__" = some (some (.ref (He.ma K (He.ga K "NoPoint") "__init__")))
  xt_NoPoint : PySem.W.typeIn K (.ref (He.ma K (He.ga K "NoPoint") "__init__")) = some (.type "function")
  x_NoPlace : Err K (He.ga K "NoPlace")
  nx_NoPlace_place : PySem.W.findIn K (.ref (He.ga K "NoPlace")) "place" = some none
  xi_NoPlace : PySem.W.findIn K (.ref (He.ga K "NoPlace")) "__init__" = some (some (.ref (He.ma K (He.ga K "NoPlace") "__init__")))
  xt_NoPlace : PySem.W.typeIn K (.ref (He.ma K (He.ga K "NoPlace") "__init__")) = some (.type "function")
  x_LoosePlace : Err K (He.ga K "LoosePlace")
  nx_LoosePlace_place : PySem.W.findIn K (.ref (He.ga K "LoosePlace")) "place" = some none
  xi_LoosePlace : PySem.W.findIn K (.ref (He.ga K "LoosePlace")) "__init__" = some (some (.ref (He.ma K (He.ga K "LoosePlace") "__init__")))
  xt_LoosePlace : PySem.W.typeIn K (.ref (He.ma K (He.ga K "LoosePlace") "__init__")) = some (.type "function")
  x_BadCount : Err K (He.ga K "BadCount")
  nx_BadCount_count : PySem.W.findIn K (.ref (He.ga K "BadCount")) "count" = some none
  xi_BadCount : PySem.W.findIn K (.ref (He.ga K "BadCount")) "__init__" = some (some (.ref (He.ma K (He.ga K "BadCount") "__init__")))
  xt_BadCount : PySem.W.typeIn K (.ref (He.ma K (He.ga K "BadCount") "__init__")) = some (.type "function")
  x_BadModulus : Err K (He.ga K "BadModulus")
  nx_BadModulus_modulus : PySem.W.findIn K (.ref (He.ga K "BadModulus")) "modulus" = some none
  xi_BadModulus : PySem.W.findIn K (.ref (He.ga K "BadModulus")) "__init__" = some (some (.ref (He.ma K (He.ga K "BadModulus") "__init__")))
  xt_BadModulus : PySem.W.typeIn K (.ref (He.ma K (He.ga K "BadModulus") "__init__")) = some (.type "function")
  x_Circle : Err K (He.ga K "Circle")
  r_Circle : Rai0 K mg "Circle" (He.ga K "Circle")
  x_TooGreat : Err K (He.ga K "TooGreat")
  r_TooGreat : Rai0 K mg "TooGreat" (He.ga K "TooGreat")
  x_NothingToUndo : Err K (He.ga K "NothingToUndo")
  r_NothingToUndo : Rai0 K mg "NothingToUndo" (He.ga K "NothingToUndo")
  g__law_state : mg "_law_state" = some (.ref (He.ga K "_law_state"))
  g__law_draw : mg "_law_draw" = some (.ref (He.ga K "_law_draw"))
  g__law_pick : mg "_law_pick" = some (.ref (He.ga K "_law_pick"))
  g__law_cell : mg "_law_cell" = some (.ref (He.ga K "_law_cell"))
  g__law_numbered : mg "_law_numbered" = some (.ref (He.ga K "_law_numbered"))
  g__law_named : mg "_law_named" = some (.ref (He.ga K "_law_named"))
  g__law_others : mg "_law_others" = some (.ref (He.ga K "_law_others"))
  g__law_kinds : mg "_law_kinds" = some (.ref (He.ga K "_law_kinds"))
  g_law : mg "law" = some (.ref (He.ga K "law"))
  kk : ∀ i, i < 22 → ∀ j, j < 22 → PySem.W.kitOne K (.ref (He.ga K (L22.getD i ""))) (.ref (He.ga K (L22.getD j ""))) = some (decide (i = j))
  kt : ∀ i, i < 22 → PySem.W.kitOne K (.ref (He.ga K (L22.getD i ""))) (.ref (He.ga K "TriedError")) = some true
  kv : ∀ i, i < 22 → PySem.W.kitOne K (.ref (He.ga K (L22.getD i ""))) (.type "ValueError") = some true
def facts : List (PySem.W.Frag → Bool) := [
  fun K => (He.Fa.free "ValueError").ok K,
  fun K => (He.Fa.free "range").ok K,
  fun K => (He.Fa.free "int").ok K,
  fun K => (He.Fa.free "len").ok K,
  fun K => (He.Fa.free "isinstance").ok K,
  fun K => (He.Fa.free "max").ok K,
  fun K => (He.Fa.free "min").ok K,
  fun K => (He.Fa.glo "TriedError").ok K,
  fun K => (He.Fa.glo "BadName").ok K,
  fun K => (He.Fa.glo "BadStep").ok K,
  fun K => (He.Fa.glo "NoStep").ok K,
  fun K => (He.Fa.glo "BadScheme").ok K,
  fun K => (He.Fa.glo "WrongLength").ok K,
  fun K => (He.Fa.glo "BadTable").ok K,
  fun K => (He.Fa.glo "OtherSize").ok K,
  fun K => (He.Fa.glo "NoPoint").ok K,
  fun K => (He.Fa.glo "NoMeaning").ok K,
  fun K => (He.Fa.glo "NoPlace").ok K,
  fun K => (He.Fa.glo "BadArrow").ok K,
  fun K => (He.Fa.glo "LoosePlace").ok K,
  fun K => (He.Fa.glo "NoRun").ok K,
  fun K => (He.Fa.glo "NotFolded").ok K,
  fun K => (He.Fa.glo "NotOwn").ok K,
  fun K => (He.Fa.glo "BadPrice").ok K,
  fun K => (He.Fa.glo "BadCount").ok K,
  fun K => (He.Fa.glo "BadModulus").ok K,
  fun K => (He.Fa.glo "BadText").ok K,
  fun K => (He.Fa.glo "Circle").ok K,
  fun K => (He.Fa.glo "TooGreat").ok K,
  fun K => (He.Fa.glo "NothingToUndo").ok K,
  fun K => errB K (He.ga K "BadStep"),
  fun K => He.eqO (PySem.W.findIn K (.ref (He.ga K "BadStep")) "number") (some none),
  fun K => He.eqO (PySem.W.findIn K (.ref (He.ga K "BadStep")) "__init__") (some (some (.ref (He.ma K (He.ga K "BadStep") "__init__")))),
  fun K => PySem.W.typeIn K (.ref (He.ma K (He.ga K "BadStep") "__init__")) == some (.type "function"),
  fun K => errB K (He.ga K "NoStep"),
  fun K => He.eqO (PySem.W.findIn K (.ref (He.ga K "NoStep")) "number") (some none),
  fun K => He.eqO (PySem.W.findIn K (.ref (He.ga K "NoStep")) "__init__") (some (some (.ref (He.ma K (He.ga K "NoStep") "__init__")))),
  fun K => PySem.W.typeIn K (.ref (He.ma K (He.ga K "NoStep") "__init__")) == some (.type "function"),
  fun K => errB K (He.ga K "BadArrow"),
  fun K => He.eqO (PySem.W.findIn K (.ref (He.ga K "BadArrow")) "number") (some none),
  fun K => He.eqO (PySem.W.findIn K (.ref (He.ga K "BadArrow")) "__init__") (some (some (.ref (He.ma K (He.ga K "BadArrow") "__init__")))),
  fun K => PySem.W.typeIn K (.ref (He.ma K (He.ga K "BadArrow") "__init__")) == some (.type "function"),
  fun K => errB K (He.ga K "NoRun"),
  fun K => He.eqO (PySem.W.findIn K (.ref (He.ga K "NoRun")) "number") (some none),
  fun K => He.eqO (PySem.W.findIn K (.ref (He.ga K "NoRun")) "__init__") (some (some (.ref (He.ma K (He.ga K "NoRun") "__init__")))),
  fun K => PySem.W.typeIn K (.ref (He.ma K (He.ga K "NoRun") "__init__")) == some (.type "function"),
  fun K => errB K (He.ga K "NotFolded"),
  fun K => He.eqO (PySem.W.findIn K (.ref (He.ga K "NotFolded")) "number") (some none),
  fun K => He.eqO (PySem.W.findIn K (.ref (He.ga K "NotFolded")) "__init__") (some (some (.ref (He.ma K (He.ga K "NotFolded") "__init__")))),
  fun K => PySem.W.typeIn K (.ref (He.ma K (He.ga K "NotFolded") "__init__")) == some (.type "function"),
  fun K => errB K (He.ga K "BadPrice"),
  fun K => He.eqO (PySem.W.findIn K (.ref (He.ga K "BadPrice")) "number") (some none),
  fun K => He.eqO (PySem.W.findIn K (.ref (He.ga K "BadPrice")) "__init__") (some (some (.ref (He.ma K (He.ga K "BadPrice") "__init__")))),
  fun K => PySem.W.typeIn K (.ref (He.ma K (He.ga K "BadPrice") "__init__")) == some (.type "function"),
  fun K => errB K (He.ga K "BadName"),
  fun K => He.eqO (PySem.W.findIn K (.ref (He.ga K "BadName")) "name") (some none),
  fun K => He.eqO (PySem.W.findIn K (.ref (He.ga K "BadName")) "__init__") (some (some (.ref (He.ma K (He.ga K "BadName") "__init__")))),
  fun K => PySem.W.typeIn K (.ref (He.ma K (He.ga K "BadName") "__init__")) == some (.type "function"),
  fun K => errB K (He.ga K "NoMeaning"),
  fun K => He.eqO (PySem.W.findIn K (.ref (He.ga K "NoMeaning")) "name") (some none),
  fun K => He.eqO (PySem.W.findIn K (.ref (He.ga K "NoMeaning")) "__init__") (some (some (.ref (He.ma K (He.ga K "NoMeaning") "__init__")))),
  fun K => PySem.W.typeIn K (.ref (He.ma K (He.ga K "NoMeaning") "__init__")) == some (.type "function"),
  fun K => errB K (He.ga K "NotOwn"),
  fun K => He.eqO (PySem.W.findIn K (.ref (He.ga K "NotOwn")) "name") (some none),
  fun K => He.eqO (PySem.W.findIn K (.ref (He.ga K "NotOwn")) "__init__") (some (some (.ref (He.ma K (He.ga K "NotOwn") "__init__")))),
  fun K => PySem.W.typeIn K (.ref (He.ma K (He.ga K "NotOwn") "__init__")) == some (.type "function"),
  fun K => errB K (He.ga K "BadScheme"),
  fun K => He.eqO (PySem.W.findIn K (.ref (He.ga K "BadScheme")) "line") (some none),
  fun K => He.eqO (PySem.W.findIn K (.ref (He.ga K "BadScheme")) "__init__") (some (some (.ref (He.ma K (He.ga K "BadScheme") "__init__")))),
  fun K => PySem.W.typeIn K (.ref (He.ma K (He.ga K "BadScheme") "__init__")) == some (.type "function"),
  fun K => errB K (He.ga K "BadText"),
  fun K => He.eqO (PySem.W.findIn K (.ref (He.ga K "BadText")) "line") (some none),
  fun K => He.eqO (PySem.W.findIn K (.ref (He.ga K "BadText")) "__init__") (some (some (.ref (He.ma K (He.ga K "BadText") "__init__")))),
  fun K => PySem.W.typeIn K (.ref (He.ma K (He.ga K "BadText") "__init__")) == some (.type "function"),
  fun K => errB K (He.ga K "WrongLength"),
  fun K => He.eqO (PySem.W.findIn K (.ref (He.ga K "WrongLength")) "wanted") (some none),
  fun K => He.eqO (PySem.W.findIn K (.ref (He.ga K "WrongLength")) "length") (some none),
  fun K => He.eqO (PySem.W.findIn K (.ref (He.ga K "WrongLength")) "__init__") (some (some (.ref (He.ma K (He.ga K "WrongLength") "__init__")))),
  fun K => PySem.W.typeIn K (.ref (He.ma K (He.ga K "WrongLength") "__init__")) == some (.type "function"),
  fun K => errB K (He.ga K "BadTable"),
  fun K => He.eqO (PySem.W.findIn K (.ref (He.ga K "BadTable")) "image") (some none),
  fun K => He.eqO (PySem.W.findIn K (.ref (He.ga K "BadTable")) "__init__") (some (some (.ref (He.ma K (He.ga K "BadTable") "__init__")))),
  fun K => PySem.W.typeIn K (.ref (He.ma K (He.ga K "BadTable") "__init__")) == some (.type "function"),
  fun K => errB K (He.ga K "OtherSize"),
  fun K => He.eqO (PySem.W.findIn K (.ref (He.ga K "OtherSize")) "size") (some none),
  fun K => He.eqO (PySem.W.findIn K (.ref (He.ga K "OtherSize")) "__init__") (some (some (.ref (He.ma K (He.ga K "OtherSize") "__init__")))),
  fun K => PySem.W.typeIn K (.ref (He.ma K (He.ga K "OtherSize") "__init__")) == some (.type "function"),
  fun K => errB K (He.ga K "NoPoint"),
  fun K => He.eqO (PySem.W.findIn K (.ref (He.ga K "NoPoint")) "point") (some none),
  fun K => He.eqO (PySem.W.findIn K (.ref (He.ga K "NoPoint")) "__init__") (some (some (.ref (He.ma K (He.ga K "NoPoint") "__init__")))),
  fun K => PySem.W.typeIn K (.ref (He.ma K (He.ga K "NoPoint") "__init__")) == some (.type "function"),
  fun K => errB K (He.ga K "NoPlace"),
  fun K => He.eqO (PySem.W.findIn K (.ref (He.ga K "NoPlace")) "place") (some none),
  fun K => He.eqO (PySem.W.findIn K (.ref (He.ga K "NoPlace")) "__init__") (some (some (.ref (He.ma K (He.ga K "NoPlace") "__init__")))),
  fun K => PySem.W.typeIn K (.ref (He.ma K (He.ga K "NoPlace") "__init__")) == some (.type "function"),
  fun K => errB K (He.ga K "LoosePlace"),
  fun K => He.eqO (PySem.W.findIn K (.ref (He.ga K "LoosePlace")) "place") (some none),
  fun K => He.eqO (PySem.W.findIn K (.ref (He.ga K "LoosePlace")) "__init__") (some (some (.ref (He.ma K (He.ga K "LoosePlace") "__init__")))),
  fun K => PySem.W.typeIn K (.ref (He.ma K (He.ga K "LoosePlace") "__init__")) == some (.type "function"),
  fun K => errB K (He.ga K "BadCount"),
  fun K => He.eqO (PySem.W.findIn K (.ref (He.ga K "BadCount")) "count") (some none),
  fun K => He.eqO (PySem.W.findIn K (.ref (He.ga K "BadCount")) "__init__") (some (some (.ref (He.ma K (He.ga K "BadCount") "__init__")))),
  fun K => PySem.W.typeIn K (.ref (He.ma K (He.ga K "BadCount") "__init__")) == some (.type "function"),
  fun K => errB K (He.ga K "BadModulus"),
  fun K => He.eqO (PySem.W.findIn K (.ref (He.ga K "BadModulus")) "modulus") (some none),
  fun K => He.eqO (PySem.W.findIn K (.ref (He.ga K "BadModulus")) "__init__") (some (some (.ref (He.ma K (He.ga K "BadModulus") "__init__")))),
  fun K => PySem.W.typeIn K (.ref (He.ma K (He.ga K "BadModulus") "__init__")) == some (.type "function"),
  fun K => errB K (He.ga K "Circle"),
  fun K => PySem.W.excIn K (He.ga K "Circle") [.type "ValueError", .type "Exception", .type "BaseException", .type "object"] "ValueError.__new__",
  fun K => errB K (He.ga K "TooGreat"),
  fun K => PySem.W.excIn K (He.ga K "TooGreat") [.type "ValueError", .type "Exception", .type "BaseException", .type "object"] "ValueError.__new__",
  fun K => errB K (He.ga K "NothingToUndo"),
  fun K => PySem.W.excIn K (He.ga K "NothingToUndo") [.type "ValueError", .type "Exception", .type "BaseException", .type "object"] "ValueError.__new__",
  fun K => (He.Fa.glo "_law_state").ok K,
  fun K => (He.Fa.glo "_law_draw").ok K,
  fun K => (He.Fa.glo "_law_pick").ok K,
  fun K => (He.Fa.glo "_law_cell").ok K,
  fun K => (He.Fa.glo "_law_numbered").ok K,
  fun K => (He.Fa.glo "_law_named").ok K,
  fun K => (He.Fa.glo "_law_others").ok K,
  fun K => (He.Fa.glo "_law_kinds").ok K,
  fun K => (He.Fa.glo "law").ok K,
  fun K => (List.range 22).all fun i => (List.range 22).all fun j => decide (PySem.W.kitOne K (.ref (He.ga K (L22.getD i ""))) (.ref (He.ga K (L22.getD j ""))) = some (decide (i = j))),
  fun K => (List.range 22).all fun i => decide (PySem.W.kitOne K (.ref (He.ga K (L22.getD i ""))) (.ref (He.ga K "TriedError")) = some true),
  fun K => (List.range 22).all fun i => decide (PySem.W.kitOne K (.ref (He.ga K (L22.getD i ""))) (.type "ValueError") = some true)]
def fbs (K : PySem.W.Frag) : Bool := facts.all fun f => f K
structure FbsOk (K : PySem.W.Frag) : Prop where
  ok : fbs K = true
theorem FbsOk.fact {K : PySem.W.Frag} (c : FbsOk K) (i : Nat) {f : PySem.W.Frag → Bool} (h : facts[i]? = some f := by rfl) : f K = true := List.all_eq_true.mp c.ok f (List.mem_of_getElem? h)
theorem txt_of {K : PySem.W.Frag} {h : Heap} {mg : Str → Option Value} (X : K.In h) (G : h.Ns mainGlobals mg) (c : FbsOk K) : Txt K mg where
    b_ValueError := He.free_ok X G (c.fact 0)
    b_range := He.free_ok X G (c.fact 1)
    b_int := He.free_ok X G (c.fact 2)
    b_len := He.free_ok X G (c.fact 3)
    b_isinstance := He.free_ok X G (c.fact 4)
    b_max := He.free_ok X G (c.fact 5)
    b_min := He.free_ok X G (c.fact 6)
    g_TriedError := He.glo_ok X G (c.fact 7)
    g_BadName := He.glo_ok X G (c.fact 8)
    g_BadStep := He.glo_ok X G (c.fact 9)
    g_NoStep := He.glo_ok X G (c.fact 10)
    g_BadScheme := He.glo_ok X G (c.fact 11)
    g_WrongLength := He.glo_ok X G (c.fact 12)
    g_BadTable := He.glo_ok X G (c.fact 13)
    g_OtherSize := He.glo_ok X G (c.fact 14)
    g_NoPoint := He.glo_ok X G (c.fact 15)
    g_NoMeaning := He.glo_ok X G (c.fact 16)
    g_NoPlace := He.glo_ok X G (c.fact 17)
    g_BadArrow := He.glo_ok X G (c.fact 18)
    g_LoosePlace := He.glo_ok X G (c.fact 19)
    g_NoRun := He.glo_ok X G (c.fact 20)
    g_NotFolded := He.glo_ok X G (c.fact 21)
    g_NotOwn := He.glo_ok X G (c.fact 22)
    g_BadPrice := He.glo_ok X G (c.fact 23)
    g_BadCount := He.glo_ok X G (c.fact 24)
    g_BadModulus := He.glo_ok X G (c.fact 25)
    g_BadText := He.glo_ok X G (c.fact 26)
    g_Circle := He.glo_ok X G (c.fact 27)
    g_TooGreat := He.glo_ok X G (c.fact 28)
    g_NothingToUndo := He.glo_ok X G (c.fact 29)
    x_BadStep := errB_ok (c.fact 30)
    nx_BadStep_number := He.eqO_ok (c.fact 31)
    xi_BadStep := He.eqO_ok (c.fact 32)
    xt_BadStep := eq_of_beq (c.fact 33)
    x_NoStep := errB_ok (c.fact 34)
    nx_NoStep_number := He.eqO_ok (c.fact 35)
    xi_NoStep := He.eqO_ok (c.fact 36)
    xt_NoStep := eq_of_beq (c.fact 37)
    x_BadArrow := errB_ok (c.fact 38)
    nx_BadArrow_number := He.eqO_ok (c.fact 39)
    xi_BadArrow := He.eqO_ok (c.fact 40)
    xt_BadArrow := eq_of_beq (c.fact 41)
    x_NoRun := errB_ok (c.fact 42)
    nx_NoRun_number := He.eqO_ok (c.fact 43)
    xi_NoRun := He.eqO_ok (c.fact 44)
    xt_NoRun := eq_of_beq (c.fact 45)
    x_NotFolded := errB_ok (c.fact 46)
    nx_NotFolded_number := He.eqO_ok (c.fact 47)
    xi_NotFolded := He.eqO_ok (c.fact 48)
    xt_NotFolded := eq_of_beq (c.fact 49)
    x_BadPrice := errB_ok (c.fact 50)
    nx_BadPrice_number := He.eqO_ok (c.fact 51)
    xi_BadPrice := He.eqO_ok (c.fact 52)
    xt_BadPrice := eq_of_beq (c.fact 53)
    x_BadName := errB_ok (c.fact 54)
    nx_BadName_name := He.eqO_ok (c.fact 55)
    xi_BadName := He.eqO_ok (c.fact 56)
    xt_BadName := eq_of_beq (c.fact 57)
    x_NoMeaning := errB_ok (c.fact 58)
    nx_NoMeaning_name := He.eqO_ok (c.fact 59)
    xi_NoMeaning := He.eqO_ok (c.fact 60)
    xt_NoMeaning := eq_of_beq (c.fact 61)
    x_NotOwn := errB_ok (c.fact 62)
    nx_NotOwn_name := He.eqO_ok (c.fact 63)
    xi_NotOwn := He.eqO_ok (c.fact 64)
    xt_NotOwn := eq_of_beq (c.fact 65)
    x_BadScheme := errB_ok (c.fact 66)
    nx_BadScheme_line := He.eqO_ok (c.fact 67)
    xi_BadScheme := He.eqO_ok (c.fact 68)
    xt_BadScheme := eq_of_beq (c.fact 69)
    x_BadText := errB_ok (c.fact 70)
    nx_BadText_line := He.eqO_ok (c.fact 71)
    xi_BadText := He.eqO_ok (c.fact 72)
    xt_BadText := eq_of_beq (c.fact 73)
    x_WrongLength := errB_ok (c.fact 74)
    nx_WrongLength_wanted := He.eqO_ok (c.fact 75)
    nx_WrongLength_length := He.eqO_ok (c.fact 76)
    xi_WrongLength := He.eqO_ok (c.fact 77)
    xt_WrongLength := eq_of_beq (c.fact 78)
    x_BadTable := errB_ok (c.fact 79)
    nx_BadTable_image := He.eqO_ok (c.fact 80)
    xi_BadTable := He.eqO_ok (c.fact 81)
    xt_BadTable := eq_of_beq (c.fact 82)
    x_OtherSize := errB_ok (c.fact 83)
    nx_OtherSize_size := He.eqO_ok (c.fact 84)
    xi_OtherSize := He.eqO_ok (c.fact 85)
    xt_OtherSize := eq_of_beq (c.fact 86)
    x_NoPoint := errB_ok (c.fact 87)
    nx_NoPoint_point := He.eqO_ok (c.fact 88)
    xi_NoPoint := He.eqO_ok (c.fact 89)
    xt_NoPoint := eq_of_beq (c.fact 90)
    x_NoPlace := errB_ok (c.fact 91)
    nx_NoPlace_place := He.eqO_ok (c.fact 92)
    xi_NoPlace := He.eqO_ok (c.fact 93)
    xt_NoPlace := eq_of_beq (c.fact 94)
    x_LoosePlace := errB_ok (c.fact 95)
    nx_LoosePlace_place := He.eqO_ok (c.fact 96)
    xi_LoosePlace := He.eqO_ok (c.fact 97)
    xt_LoosePlace := eq_of_beq (c.fact 98)
    x_BadCount := errB_ok (c.fact 99)
    nx_BadCount_count := He.eqO_ok (c.fact 100)
    xi_BadCount := He.eqO_ok (c.fact 101)
    xt_BadCount := eq_of_beq (c.fact 102)
    x_BadModulus := errB_ok (c.fact 103)
    nx_BadModulus_modulus := He.eqO_ok (c.fact 104)
    xi_BadModulus := He.eqO_ok (c.fact 105)
    xt_BadModulus := eq_of_beq (c.fact 106)
    x_Circle := errB_ok (c.fact 107)
    r_Circle := ⟨He.glo_ok X G (c.fact 27), errB_ok (c.fact 107), (c.fact 108)⟩
    x_TooGreat := errB_ok (c.fact 109)
    r_TooGreat := ⟨He.glo_ok X G (c.fact 28), errB_ok (c.fact 109), (c.fact 110)⟩
    x_NothingToUndo := errB_ok (c.fact 111)
    r_NothingToUndo := ⟨He.glo_ok X G (c.fact 29), errB_ok (c.fact 111), (c.fact 112)⟩
    g__law_state := He.glo_ok X G (c.fact 113)
    g__law_draw := He.glo_ok X G (c.fact 114)
    g__law_pick := He.glo_ok X G (c.fact 115)
    g__law_cell := He.glo_ok X G (c.fact 116)
    g__law_numbered := He.glo_ok X G (c.fact 117)
    g__law_named := He.glo_ok X G (c.fact 118)
    g__law_others := He.glo_ok X G (c.fact 119)
    g__law_kinds := He.glo_ok X G (c.fact 120)
    g_law := He.glo_ok X G (c.fact 121)
    kk := (fun i hi j hj => of_decide_eq_true (List.all_eq_true.mp (List.all_eq_true.mp (c.fact 122) i (List.mem_range.mpr hi)) j (List.mem_range.mpr hj)))
    kt := (fun i hi => of_decide_eq_true (List.all_eq_true.mp (c.fact 123) i (List.mem_range.mpr hi)))
    kv := (fun i hi => of_decide_eq_true (List.all_eq_true.mp (c.fact 124) i (List.mem_range.mpr hi)))
theorem sc_BadStep_init : FnScope ["self", "number"] ["self", "number"] (defScope s_BadStep_init) := ⟨rfl, rfl, rfl, by decide +kernel, rfl, by decide +kernel, by decide +kernel⟩
theorem ok_BadStep {P : Program} {w : World} {K : PySem.W.Frag} {mg : Str → Option Value} {base : Heap} {f : Addr} {fd : FuncData} (F : FX K "__init__" "BadStep.__init__" s_BadStep_init [] [] f fd) (T : Txt K mg) : FnOk P w K mg base (L2.CX P w) 1 f fd ["self", "number"] (spI1 (He.ga K "BadStep") "number") := by
  refine F.ok sc_BadStep_init (fun vs H Q E h => ?_) (fun cdv A outer s H vs Q E hr h => ?_)
  · obtain ⟨a, v, rfl, _⟩ := h
    rfl
  · obtain ⟨a, v, rfl, ha, k⟩ := h
    refine ⟨_, PSs.nox (pss_one (ps_ost (pv 0) (pv 1))), ?_⟩
    exact ⟨_, rfl, _, rfl, a, He.ga K "BadStep", rfl, T.x_BadStep.ox, T.nx_BadStep_number, .inl ⟨ha, k⟩⟩
theorem sc_NoStep_init : FnScope ["self", "number"] ["self", "number"] (defScope s_NoStep_init) := ⟨rfl, rfl, rfl, by decide +kernel, rfl, by decide +kernel, by decide +kernel⟩
theorem ok_NoStep {P : Program} {w : World} {K : PySem.W.Frag} {mg : Str → Option Value} {base : Heap} {f : Addr} {fd : FuncData} (F : FX K "__init__" "NoStep.__init__" s_NoStep_init [] [] f fd) (T : Txt K mg) : FnOk P w K mg base (L2.CX P w) 1 f fd ["self", "number"] (spI1 (He.ga K "NoStep") "number") := by
  refine F.ok sc_NoStep_init (fun vs H Q E h => ?_) (fun cdv A outer s H vs Q E hr h => ?_)
  · obtain ⟨a, v, rfl, _⟩ := h
    rfl
  · obtain ⟨a, v, rfl, ha, k⟩ := h
    refine ⟨_, PSs.nox (pss_one (ps_ost (pv 0) (pv 1))), ?_⟩
    exact ⟨_, rfl, _, rfl, a, He.ga K "NoStep", rfl, T.x_NoStep.ox, T.nx_NoStep_number, .inl ⟨ha, k⟩⟩
theorem sc_BadArrow_init : FnScope ["self", "number"] ["self", "number"] (defScope s_BadArrow_init) := ⟨rfl, rfl, rfl, by decide +kernel, rfl, by decide +kernel, by decide +kernel⟩
theorem ok_BadArrow {P : Program} {w : World} {K : PySem.W.Frag} {mg : Str → Option Value} {base : Heap} {f : Addr} {fd : FuncData} (F : FX K "__init__" "BadArrow.__init__" s_BadArrow_init [] [] f fd) (T : Txt K mg) : FnOk P w K mg base (L2.CX P w) 1 f fd ["self", "number"] (spI1 (He.ga K "BadArrow") "number") := by
  refine F.ok sc_BadArrow_init (fun vs H Q E h => ?_) (fun cdv A outer s H vs Q E hr h => ?_)
  · obtain ⟨a, v, rfl, _⟩ := h
    rfl
  · obtain ⟨a, v, rfl, ha, k⟩ := h
    refine ⟨_, PSs.nox (pss_one (ps_ost (pv 0) (pv 1))), ?_⟩
    exact ⟨_, rfl, _, rfl, a, He.ga K "BadArrow", rfl, T.x_BadArrow.ox, T.nx_BadArrow_number, .inl ⟨ha, k⟩⟩
theorem sc_NoRun_init : FnScope ["self", "number"] ["self", "number"] (defScope s_NoRun_init) := ⟨rfl, rfl, rfl, by decide +kernel, rfl, by decide +kernel, by decide +kernel⟩
theorem ok_NoRun {P : Program} {w : World} {K : PySem.W.Frag} {mg : Str → Option Value} {base : Heap} {f : Addr} {fd : FuncData} (F : FX K "__init__" "NoRun.__init__" s_NoRun_init [] [] f fd) (T : Txt K mg) : FnOk P w K mg base (L2.CX P w) 1 f fd ["self", "number"] (spI1 (He.ga K "NoRun") "number") := by
  refine F.ok sc_NoRun_init (fun vs H Q E h => ?_) (fun cdv A outer s H vs Q E hr h => ?_)
  · obtain ⟨a, v, rfl, _⟩ := h
    rfl
  · obtain ⟨a, v, rfl, ha, k⟩ := h
    refine ⟨_, PSs.nox (pss_one (ps_ost (pv 0) (pv 1))), ?_⟩
    exact ⟨_, rfl, _, rfl, a, He.ga K "NoRun", rfl, T.x_NoRun.ox, T.nx_NoRun_number, .inl ⟨ha, k⟩⟩
theorem sc_NotFolded_init : FnScope ["self", "number"] ["self", "number"] (defScope s_NotFolded_init) := ⟨rfl, rfl, rfl, by decide +kernel, rfl, by decide +kernel, by decide +kernel⟩
theorem ok_NotFolded {P : Program} {w : World} {K : PySem.W.Frag} {mg : Str → Option Value} {base : Heap} {f : Addr} {fd : FuncData} (F : FX K "__init__" "NotFolded.__init__" s_NotFolded_init [] [] f fd) (T : Txt K mg) : FnOk P w K mg base (L2.CX P w) 1 f fd ["self", "number"] (spI1 (He.ga K "NotFolded") "number") := by
  refine F.ok sc_NotFolded_init (fun vs H Q E h => ?_) (fun cdv A outer s H vs Q E hr h => ?_)
  · obtain ⟨a, v, rfl, _⟩ := h
    rfl
  · obtain ⟨a, v, rfl, ha, k⟩ := h
    refine ⟨_, PSs.nox (pss_one (ps_ost (pv 0) (pv 1))), ?_⟩
    exact ⟨_, rfl, _, rfl, a, He.ga K "NotFolded", rfl, T.x_NotFolded.ox, T.nx_NotFolded_number, .inl ⟨ha, k⟩⟩
theorem sc_BadPrice_init : FnScope ["self", "number"] ["self", "number"] (defScope s_BadPrice_init) := ⟨rfl, rfl, rfl, by decide +kernel, rfl, by decide +kernel, by decide +kernel⟩
theorem ok_BadPrice {P : Program} {w : World} {K : PySem.W.Frag} {mg : Str → Option Value} {base : Heap} {f : Addr} {fd : FuncData} (F : FX K "__init__" "BadPrice.__init__" s_BadPrice_init [] [] f fd) (T : Txt K mg) : FnOk P w K mg base (L2.CX P w) 1 f fd ["self", "number"] (spI1 (He.ga K "BadPrice") "number") := by
  refine F.ok sc_BadPrice_init (fun vs H Q E h => ?_) (fun cdv A outer s H vs Q E hr h => ?_)
  · obtain ⟨a, v, rfl, _⟩ := h
    rfl
  · obtain ⟨a, v, rfl, ha, k⟩ := h
    refine ⟨_, PSs.nox (pss_one (ps_ost (pv 0) (pv 1))), ?_⟩
    exact ⟨_, rfl, _, rfl, a, He.ga K "BadPrice", rfl, T.x_BadPrice.ox, T.nx_BadPrice_number, .inl ⟨ha, k⟩⟩
theorem sc_BadName_init : FnScope ["self", "name"] ["self", "name"] (defScope s_BadName_init) := ⟨rfl, rfl, rfl, by decide +kernel, rfl, by decide +kernel, by decide +kernel⟩
theorem ok_BadName {P : Program} {w : World} {K : PySem.W.Frag} {mg : Str → Option Value} {base : Heap} {f : Addr} {fd : FuncData} (F : FX K "__init__" "BadName.__init__" s_BadName_init [] [] f fd) (T : Txt K mg) : FnOk P w K mg base (L2.CX P w) 1 f fd ["self", "name"] (spI1 (He.ga K "BadName") "name") := by
  refine F.ok sc_BadName_init (fun vs H Q E h => ?_) (fun cdv A outer s H vs Q E hr h => ?_)
  · obtain ⟨a, v, rfl, _⟩ := h
    rfl
  · obtain ⟨a, v, rfl, ha, k⟩ := h
    refine ⟨_, PSs.nox (pss_one (ps_ost (pv 0) (pv 1))), ?_⟩
    exact ⟨_, rfl, _, rfl, a, He.ga K "BadName", rfl, T.x_BadName.ox, T.nx_BadName_name, .inl ⟨ha, k⟩⟩
theorem sc_NoMeaning_init : FnScope ["self", "name"] ["self", "name"] (defScope s_NoMeaning_init) := ⟨rfl, rfl, rfl, by decide +kernel, rfl, by decide +kernel, by decide +kernel⟩
theorem ok_NoMeaning {P : Program} {w : World} {K : PySem.W.Frag} {mg : Str → Option Value} {base : Heap} {f : Addr} {fd : FuncData} (F : FX K "__init__" "NoMeaning.__init__" s_NoMeaning_init [] [] f fd) (T : Txt K mg) : FnOk P w K mg base (L2.CX P w) 1 f fd ["self", "name"] (spI1 (He.ga K "NoMeaning") "name") := by
  refine F.ok sc_NoMeaning_init (fun vs H Q E h => ?_) (fun cdv A outer s H vs Q E hr h => ?_)
  · obtain ⟨a, v, rfl, _⟩ := h
    rfl
  · obtain ⟨a, v, rfl, ha, k⟩ := h
    refine ⟨_, PSs.nox (pss_one (ps_ost (pv 0) (pv 1))), ?_⟩
    exact ⟨_, rfl, _, rfl, a, He.ga K "NoMeaning", rfl, T.x_NoMeaning.ox, T.nx_NoMeaning_name, .inl ⟨ha, k⟩⟩
theorem sc_NotOwn_init : FnScope ["self", "name"] ["self", "name"] (defScope s_NotOwn_init) := ⟨rfl, rfl, rfl, by decide +kernel, rfl, by decide +kernel, by decide +kernel⟩
theorem ok_NotOwn {P : Program} {w : World} {K : PySem.W.Frag} {mg : Str → Option Value} {base : Heap} {f : Addr} {fd : FuncData} (F : FX K "__init__" "NotOwn.__init__" s_NotOwn_init [] [] f fd) (T : Txt K mg) : FnOk P w K mg base (L2.CX P w) 1 f fd ["self", "name"] (spI1 (He.ga K "NotOwn") "name") := by
  refine F.ok sc_NotOwn_init (fun vs H Q E h => ?_) (fun cdv A outer s H vs Q E hr h => ?_)
  · obtain ⟨a, v, rfl, _⟩ := h
    rfl
  · obtain ⟨a, v, rfl, ha, k⟩ := h
    refine ⟨_, PSs.nox (pss_one (ps_ost (pv 0) (pv 1))), ?_⟩
    exact ⟨_, rfl, _, rfl, a, He.ga K "NotOwn", rfl, T.x_NotOwn.ox, T.nx_NotOwn_name, .inl ⟨ha, k⟩⟩
theorem sc_BadScheme_init : FnScope ["self", "line"] ["self", "line"] (defScope s_BadScheme_init) := ⟨rfl, rfl, rfl, by decide +kernel, rfl, by decide +kernel, by decide +kernel⟩
theorem ok_BadScheme {P : Program} {w : World} {K : PySem.W.Frag} {mg : Str → Option Value} {base : Heap} {f : Addr} {fd : FuncData} (F : FX K "__init__" "BadScheme.__init__" s_BadScheme_init [] [] f fd) (T : Txt K mg) : FnOk P w K mg base (L2.CX P w) 1 f fd ["self", "line"] (spI1 (He.ga K "BadScheme") "line") := by
  refine F.ok sc_BadScheme_init (fun vs H Q E h => ?_) (fun cdv A outer s H vs Q E hr h => ?_)
  · obtain ⟨a, v, rfl, _⟩ := h
    rfl
  · obtain ⟨a, v, rfl, ha, k⟩ := h
    refine ⟨_, PSs.nox (pss_one (ps_ost (pv 0) (pv 1))), ?_⟩
    exact ⟨_, rfl, _, rfl, a, He.ga K "BadScheme", rfl, T.x_BadScheme.ox, T.nx_BadScheme_line, .inl ⟨ha, k⟩⟩
theorem sc_BadText_init : FnScope ["self", "line"] ["self", "line"] (defScope s_BadText_init) := ⟨rfl, rfl, rfl, by decide +kernel, rfl, by decide +kernel, by decide +kernel⟩
theorem ok_BadText {P : Program} {w : World} {K : PySem.W.Frag} {mg : Str → Option Value} {base : Heap} {f : Addr} {fd : FuncData} (F : FX K "__init__" "BadText.__init__" s_BadText_init [] [] f fd) (T : Txt K mg) : FnOk P w K mg base (L2.CX P w) 1 f fd ["self", "line"] (spI1 (He.ga K "BadText") "line") := by
  refine F.ok sc_BadText_init (fun vs H Q E h => ?_) (fun cdv A outer s H vs Q E hr h => ?_)
  · obtain ⟨a, v, rfl, _⟩ := h
    rfl
  · obtain ⟨a, v, rfl, ha, k⟩ := h
    refine ⟨_, PSs.nox (pss_one (ps_ost (pv 0) (pv 1))), ?_⟩
    exact ⟨_, rfl, _, rfl, a, He.ga K "BadText", rfl, T.x_BadText.ox, T.nx_BadText_line, .inl ⟨ha, k⟩⟩
theorem sc_WrongLength_init : FnScope ["self", "wanted", "length"] ["self", "wanted", "length"] (defScope s_WrongLength_init) := ⟨rfl, rfl, rfl, by decide +kernel, rfl, by decide +kernel, by decide +kernel⟩
theorem ok_WrongLength {P : Program} {w : World} {K : PySem.W.Frag} {mg : Str → Option Value} {base : Heap} {f : Addr} {fd : FuncData} (F : FX K "__init__" "WrongLength.__init__" s_WrongLength_init [] [] f fd) (T : Txt K mg) : FnOk P w K mg base (L2.CX P w) 1 f fd ["self", "wanted", "length"] (spI2 (He.ga K "WrongLength") "wanted" "length") := by
  refine F.ok sc_WrongLength_init (fun vs H Q E h => ?_) (fun cdv A outer s H vs Q E hr h => ?_)
  · obtain ⟨a, v, w, rfl, _⟩ := h
    rfl
  · obtain ⟨a, v, w, rfl, ha, k⟩ := h
    refine ⟨_, PSs.nox (pss_cons (ps_ost (pv 0) (pv 1)) (pss_one (ps_ost (pv 0) (pv 2)))), ?_⟩
    refine ⟨_, rfl, _, rfl, a, He.ga K "WrongLength", rfl, T.x_WrongLength.ox, T.nx_WrongLength_wanted, .inl ⟨ha, fun dx hd ne => ?_⟩⟩
    exact ⟨_, rfl, _, rfl, a, He.ga K "WrongLength", rfl, T.x_WrongLength.ox, T.nx_WrongLength_length, .inr ⟨dx, _, upd_same, by rw [upd_ne ne, upd_same], by show 1 ≤ 900; decide, k dx hd ne⟩⟩
theorem sc_BadTable_init : FnScope ["self", "image"] ["self", "image"] (defScope s_BadTable_init) := ⟨rfl, rfl, rfl, by decide +kernel, rfl, by decide +kernel, by decide +kernel⟩
theorem ok_BadTable {P : Program} {w : World} {K : PySem.W.Frag} {mg : Str → Option Value} {base : Heap} {f : Addr} {fd : FuncData} (F : FX K "__init__" "BadTable.__init__" s_BadTable_init [] [] f fd) (T : Txt K mg) : FnOk P w K mg base (L2.CX P w) 1 f fd ["self", "image"] (spI1 (He.ga K "BadTable") "image") := by
  refine F.ok sc_BadTable_init (fun vs H Q E h => ?_) (fun cdv A outer s H vs Q E hr h => ?_)
  · obtain ⟨a, v, rfl, _⟩ := h
    rfl
  · obtain ⟨a, v, rfl, ha, k⟩ := h
    refine ⟨_, PSs.nox (pss_one (ps_ost (pv 0) (pv 1))), ?_⟩
    exact ⟨_, rfl, _, rfl, a, He.ga K "BadTable", rfl, T.x_BadTable.ox, T.nx_BadTable_image, .inl ⟨ha, k⟩⟩
theorem sc_OtherSize_init : FnScope ["self", "size"] ["self", "size"] (defScope s_OtherSize_init) := ⟨rfl, rfl, rfl, by decide +kernel, rfl, by decide +kernel, by decide +kernel⟩
theorem ok_OtherSize {P : Program} {w : World} {K : PySem.W.Frag} {mg : Str → Option Value} {base : Heap} {f : Addr} {fd : FuncData} (F : FX K "__init__" "OtherSize.__init__" s_OtherSize_init [] [] f fd) (T : Txt K mg) : FnOk P w K mg base (L2.CX P w) 1 f fd ["self", "size"] (spI1 (He.ga K "OtherSize") "size") := by
  refine F.ok sc_OtherSize_init (fun vs H Q E h => ?_) (fun cdv A outer s H vs Q E hr h => ?_)
  · obtain ⟨a, v, rfl, _⟩ := h
    rfl
  · obtain ⟨a, v, rfl, ha, k⟩ := h
    refine ⟨_, PSs.nox (pss_one (ps_ost (pv 0) (pv 1))), ?_⟩
    exact ⟨_, rfl, _, rfl, a, He.ga K "OtherSize", rfl, T.x_OtherSize.ox, T.nx_OtherSize_size, .inl ⟨ha, k⟩⟩
theorem sc_NoPoint_init : FnScope ["self", "point"] ["self", "point"] (defScope s_NoPoint_init) := ⟨rfl, rfl, rfl, by decide +kernel, rfl, by decide +kernel, by decide +kernel⟩
theorem ok_NoPoint {P : Program} {w : World} {K : PySem.W.Frag} {mg : Str → Option Value} {base : Heap} {f : Addr} {fd : FuncData} (F : FX K "__init__" "NoPoint.__init__" s_NoPoint_init [] [] f fd) (T : Txt K mg) : FnOk P w K mg base (L2.CX P w) 1 f fd ["self", "point"] (spI1 (He.ga K "NoPoint") "point") := by
  refine F.ok sc_NoPoint_init (fun vs H Q E h => ?_) (fun cdv A outer s H vs Q E hr h => ?_)
  · obtain ⟨a, v, rfl, _⟩ := h
    rfl
  · obtain ⟨a, v, rfl, ha, k⟩ := h
    refine ⟨_, PSs.nox (pss_one (ps_ost (pv 0) (pv 1))), ?_⟩
    exact ⟨_, rfl, _, rfl, a, He.ga K "NoPoint", rfl, T.x_NoPoint.ox, T.nx_NoPoint_point, .inl ⟨ha, k⟩⟩
theorem sc_NoPlace_init : FnScope ["self", "place"] ["self", "place"] (defScope s_NoPlace_init) := ⟨rfl, rfl, rfl, by decide +kernel, rfl, by decide +kernel, by decide +kernel⟩
theorem ok_NoPlace {P : Program} {w : World} {K : PySem.W.Frag} {mg : Str → Option Value} {base : Heap} {f : Addr} {fd : FuncData} (F : FX K "__init__" "NoPlace.__init__" s_NoPlace_init [] [] f fd) (T : Txt K mg) : FnOk P w K mg base (L2.CX P w) 1 f fd ["self", "place"] (spI1 (He.ga K "NoPlace") "place") := by
  refine F.ok sc_NoPlace_init (fun vs H Q E h => ?_) (fun cdv A outer s H vs Q E hr h => ?_)
  · obtain ⟨a, v, rfl, _⟩ := h
    rfl
  · obtain ⟨a, v, rfl, ha, k⟩ := h
    refine ⟨_, PSs.nox (pss_one (ps_ost (pv 0) (pv 1))), ?_⟩
    exact ⟨_, rfl, _, rfl, a, He.ga K "NoPlace", rfl, T.x_NoPlace.ox, T.nx_NoPlace_place, .inl ⟨ha, k⟩⟩
theorem sc_LoosePlace_init : FnScope ["self", "place"] ["self", "place"] (defScope s_LoosePlace_init) := ⟨rfl, rfl, rfl, by decide +kernel, rfl, by decide +kernel, by decide +kernel⟩
theorem ok_LoosePlace {P : Program} {w : World} {K : PySem.W.Frag} {mg : Str → Option Value} {base : Heap} {f : Addr} {fd : FuncData} (F : FX K "__init__" "LoosePlace.__init__" s_LoosePlace_init [] [] f fd) (T : Txt K mg) : FnOk P w K mg base (L2.CX P w) 1 f fd ["self", "place"] (spI1 (He.ga K "LoosePlace") "place") := by
  refine F.ok sc_LoosePlace_init (fun vs H Q E h => ?_) (fun cdv A outer s H vs Q E hr h => ?_)
  · obtain ⟨a, v, rfl, _⟩ := h
    rfl
  · obtain ⟨a, v, rfl, ha, k⟩ := h
    refine ⟨_, PSs.nox (pss_one (ps_ost (pv 0) (pv 1))), ?_⟩
    exact ⟨_, rfl, _, rfl, a, He.ga K "LoosePlace", rfl, T.x_LoosePlace.ox, T.nx_LoosePlace_place, .inl ⟨ha, k⟩⟩
theorem sc_BadCount_init : FnScope ["self", "count"] ["self", "count"] (defScope s_BadCount_init) := ⟨rfl, rfl, rfl, by decide +kernel, rfl, by decide +kernel, by decide +kernel⟩
theorem ok_BadCount {P : Program} {w : World} {K : PySem.W.Frag} {mg : Str → Option Value} {base : Heap} {f : Addr} {fd : FuncData} (F : FX K "__init__" "BadCount.__init__" s_BadCount_init [] [] f fd) (T : Txt K mg) : FnOk P w K mg base (L2.CX P w) 1 f fd ["self", "count"] (spI1 (He.ga K "BadCount") "count") := by
  refine F.ok sc_BadCount_init (fun vs H Q E h => ?_) (fun cdv A outer s H vs Q E hr h => ?_)
  · obtain ⟨a, v, rfl, _⟩ := h
    rfl
  · obtain ⟨a, v, rfl, ha, k⟩ := h
    refine ⟨_, PSs.nox (pss_one (ps_ost (pv 0) (pv 1))), ?_⟩
    exact ⟨_, rfl, _, rfl, a, He.ga K "BadCount", rfl, T.x_BadCount.ox, T.nx_BadCount_count, .inl ⟨ha, k⟩⟩
theorem sc_BadModulus_init : FnScope ["self", "modulus"] ["self", "modulus"] (defScope s_BadModulus_init) := ⟨rfl, rfl, rfl, by decide +kernel, rfl, by decide +kernel, by decide +kernel⟩
theorem ok_BadModulus {P : Program} {w : World} {K : PySem.W.Frag} {mg : Str → Option Value} {base : Heap} {f : Addr} {fd : FuncData} (F : FX K "__init__" "BadModulus.__init__" s_BadModulus_init [] [] f fd) (T : Txt K mg) : FnOk P w K mg base (L2.CX P w) 1 f fd ["self", "modulus"] (spI1 (He.ga K "BadModulus") "modulus") := by
  refine F.ok sc_BadModulus_init (fun vs H Q E h => ?_) (fun cdv A outer s H vs Q E hr h => ?_)
  · obtain ⟨a, v, rfl, _⟩ := h
    rfl
  · obtain ⟨a, v, rfl, ha, k⟩ := h
    refine ⟨_, PSs.nox (pss_one (ps_ost (pv 0) (pv 1))), ?_⟩
    exact ⟨_, rfl, _, rfl, a, He.ga K "BadModulus", rfl, T.x_BadModulus.ox, T.nx_BadModulus_modulus, .inl ⟨ha, k⟩⟩
theorem Txt.er {K : PySem.W.Frag} {mg : Str → Option Value} (T : Txt K mg) : ∀ i, i < 22 → Err K (He.ga K (L22.getD i ""))
  | 0, _ => T.x_BadStep
  | 1, _ => T.x_NoStep
  | 2, _ => T.x_BadArrow
  | 3, _ => T.x_NoRun
  | 4, _ => T.x_NotFolded
  | 5, _ => T.x_BadPrice
  | 6, _ => T.x_BadName
  | 7, _ => T.x_NoMeaning
  | 8, _ => T.x_NotOwn
  | 9, _ => T.x_BadScheme
  | 10, _ => T.x_BadText
  | 11, _ => T.x_WrongLength
  | 12, _ => T.x_BadTable
  | 13, _ => T.x_OtherSize
  | 14, _ => T.x_NoPoint
  | 15, _ => T.x_NoPlace
  | 16, _ => T.x_LoosePlace
  | 17, _ => T.x_BadCount
  | 18, _ => T.x_BadModulus
  | 19, _ => T.x_Circle
  | 20, _ => T.x_TooGreat
  | 21, _ => T.x_NothingToUndo
  | (i + 22), h => absurd h (by omega)

/-! ### the pen: what the law draws from -/
structure Pen (H : Hp) (p : Addr) (n : Nat) : Prop where
  ex : ∃ (a b k : Int), H p = some (.lst [.int a, .int b, .int k]) ∧ 0 ≤ k ∧ k + (n : Int) ≤ 1000000000
theorem Pen.le {H : Hp} {p : Addr} {n m : Nat} (h : Pen H p n) (l : m ≤ n) : Pen H p m := by
  obtain ⟨a, b, k, h1, h5, h6⟩ := h.ex
  exact ⟨a, b, k, h1, h5, by omega⟩
theorem Pen.mv {H H1 : Hp} {p : Addr} {n : Nat} (h : Pen H p n) (s : ∀ o, H p = some o → H1 p = some o) : Pen H1 p n := by
  obtain ⟨a, b, k, h1, h3⟩ := h.ex
  exact ⟨a, b, k, s _ h1, h3⟩
theorem Pen.same {H H1 : Hp} {p : Addr} {n : Nat} (h : Pen H p n) (s : Same H H1) : Pen H1 p n := h.mv fun o e => s p o e
theorem Pen.but {H H1 : Hp} {p q : Addr} {n : Nat} (h : Pen H p n) (s : But q H H1) (n1 : p ≠ q) : Pen H1 p n := h.mv fun o e => s p o n1 e
theorem Pen.at_ {H : Hp} {p : Addr} {n : Nat} (h : Pen H p n) : ∃ xs, H p = some (.lst xs) := by
  obtain ⟨a, b, k, h1, _⟩ := h.ex
  exact ⟨_, h1⟩
theorem Pen.ne {H : Hp} {p q : Addr} {n : Nat} (h : Pen H p n) (hq : H q = none) : p ≠ q := by
  obtain ⟨_, h1⟩ := h.at_
  exact ne_of_none h1 hq
theorem Pen.free {H H1 : Hp} {p q : Addr} {n : Nat} (h : Pen H1 p n) (b : But p H H1) (hq : H1 q = none) : H q = none := by
  cases e : H q with
  | none => rfl
  | some o =>
    have := b q o (Ne.symm (h.ne hq)) e
    rw [hq] at this
    cases this
def spState : Sp := fun vs H Q _ => ∃ (c : Int), vs = [.int c] ∧ ∀ p H', H p = none → Same H H' → Pen H' p 1000000000 → Q (.ref p) H'
def spDraw : Sp := fun vs H Q _ => ∃ (p : Addr) (m : Int) (n : Nat), vs = [.ref p, .int m] ∧ Pen H p (n + 1) ∧ 0 < m ∧ m < 1073741824 ∧
  ∀ (r : Int) H', 0 ≤ r → r < m → But p H H' → Pen H' p n → Q (.int r) H'
def spCell (K : PySem.W.Frag) : Sp := fun vs H Q _ => ∃ (a : Addr) (ns : List Int) (i : Nat), vs = [.ref a, .int (i : Nat)] ∧ SqL K H a (ns.map V.int) ∧ ∀ c : Int, Q (.int c) H
section
variable {P : Program} {w : World} {K : PySem.W.Frag} {mg : Str → Option Value} {base : Heap} {f : Addr} {fd : FuncData}
theorem sc__law_draw : FnScope ["_law_state_here", "_law_many", "_law_drawn", "_law_mixed"] ["_law_state_here", "_law_many"] (defScope s__law_draw) := ⟨rfl, rfl, rfl, by decide +kernel, rfl, by decide +kernel, by decide +kernel⟩
theorem ok_draw (F : FX K "_law_draw" "_law_draw" s__law_draw [] [] f fd) (T : Txt K mg) : FnOk P w K mg base (L2.CX P w) 2 f fd ["_law_state_here", "_law_many"] spDraw := by
  refine F.ok sc__law_draw (fun vs H Q E h => ?_) (fun cdv A outer s H vs Q E hr h => ?_)
  · obtain ⟨p, m, n, rfl, _⟩ := h
    rfl
  · obtain ⟨p, m, n, rfl, hp, m0, m1, k⟩ := h
    refine ⟨_, PSs.nox ((pss_cons (ps_asg (pe_op (k_add (K := K) rfl) (pe_ix (k_ix (K := K) rfl) (pv 0) pe_int (fun _ _ => rfl)) pe_int) (pg_sub (pv 0) pe_int set_list)) 
      (pss_cons (ps_if (pt_cmpR (k_eq (K := K) rfl hr.units) (pe_ix (k_ix (K := K) rfl) (pv 0) pe_int (fun _ _ => rfl)) pe_int (nomark _)) (pss_cons (ps_set (i := 2) sc__law_draw.nd rfl (Or.inl rfl) (pe_op op_mod (pe_callTy call_int1U (by rfl) T.b_int (by decide +kernel) (pa_cons (pe_ix (k_ix (K := K) rfl) (pv 0) pe_int (fun _ _ => rfl)) pa_nil)) (pv 1))) 
      (pss_cons (ps_asg (pe_op op_fdiv (pe_ix (k_ix (K := K) rfl) (pv 0) pe_int (fun _ _ => rfl)) (pv 1)) (pg_sub (pv 0) pe_int set_list)) (pss_one (ps_ret (pv 2))))) pss_nil) 
      (pss_cons (ps_set (i := 3) sc__law_draw.nd rfl (Or.inl rfl) (pe_op op_pow (pe_callTy call_int1U (by rfl) T.b_int (by decide +kernel) (pa_cons (pe_op (k_add (K := K) rfl) (pe_op (k_add (K := K) rfl) (pe_op op_mod (pe_callTy call_int1U (by rfl) T.b_int (by decide +kernel) (pa_cons (pe_ix (k_ix (K := K) rfl) (pv 0) pe_int (fun _ _ => rfl)) pa_nil)) pe_int) (pe_op (k_mul (K := K) rfl) (pe_ix (k_ix (K := K) rfl) (pv 0) pe_int (fun _ _ => rfl)) pe_int)) pe_int) pa_nil)) pe_int)) (pss_one (ps_ret (pe_op op_mod (pe_callTy call_int1U (by rfl) T.b_int (by decide +kernel) (pa_cons (pe_op op_fdiv (pe_op op_mod (pe_callTy call_int1U (by rfl) T.b_int (by decide +kernel) (pa_cons (pv 3) pa_nil)) pe_int) pe_int) pa_nil)) (pv 1)))))))), ?_⟩
    try dsimp only [cxOf]
    obtain ⟨a, b, n2, h1, k0, k1⟩ := hp.ex
    walk_at "go"
    refine a_setB h1 rfl fun H2 b1 g1 => ?_
    walk_at "go"
    refine a_ite (fun hc => ?_) (fun hc => ?_)
    · walk_at "go"
      refine a_setB g1 rfl fun H3 b2 g2 => ?_
      walk_at "go"
      exact k _ _ (Int.emod_nonneg _ (by omega)) (Int.emod_lt_of_pos _ m0) (b1.trans b2) ⟨_, _, _, g2, by omega, by omega⟩
    · walk_at "go"
      exact k _ _ (Int.emod_nonneg _ (by omega)) (Int.emod_lt_of_pos _ m0) b1 ⟨_, _, _, g1, by omega, by omega⟩
theorem sc__law_state : FnScope ["_law_cell_here"] ["_law_cell_here"] (defScope s__law_state) := ⟨rfl, rfl, rfl, by decide +kernel, rfl, by decide +kernel, by decide +kernel⟩
theorem ok_state (F : FX K "_law_state" "_law_state" s__law_state [] [] f fd) (T : Txt K mg) : FnOk P w K mg base (L2.CX P w) 2 f fd ["_law_cell_here"] spState := by
  refine F.ok sc__law_state (fun vs H Q E h => ?_) (fun cdv A outer s H vs Q E hr h => ?_)
  · obtain ⟨c, rfl, _⟩ := h
    rfl
  · obtain ⟨c, rfl, k⟩ := h
    refine ⟨_, PSs.nox ((pss_one (ps_ret (pe_lst (pa_cons (pe_callTy call_int1U (by rfl) T.b_int (by decide +kernel) (pa_cons (pv 0) pa_nil)) (pa_cons (pe_callTy call_int1U (by rfl) T.b_int (by decide +kernel) (pa_cons (pe_cmpR op_ge (pv 0) (pe_op op_pow pe_int pe_int) (nomark _)) pa_nil)) (pa_cons pe_int pa_nil))))))), ?_⟩
    try dsimp only [cxOf]
    walk_at "go"
    refine .inr ⟨_, rfl, ?_⟩
    walk_at "go"
    refine a_newL (by show 3 ≤ 100000; decide) fun p H2 np s2 h2 => ?_
    exact k p H2 np s2 ⟨_, _, _, h2, by omega, by omega⟩
theorem sc__law_cell : FnScope ["_law_script", "_law_at"] ["_law_script", "_law_at"] (defScope s__law_cell) := ⟨rfl, rfl, rfl, by decide +kernel, rfl, by decide +kernel, by decide +kernel⟩
theorem ok_cell (F : FX K "_law_cell" "_law_cell" s__law_cell [] [] f fd) (T : Txt K mg) : FnOk P w K mg base (L2.CX P w) 2 f fd ["_law_script", "_law_at"] (spCell K) := by
  refine F.ok sc__law_cell (fun vs H Q E h => ?_) (fun cdv A outer s H vs Q E hr h => ?_)
  · obtain ⟨a, ns, i, rfl, _⟩ := h
    rfl
  · obtain ⟨a, ns, i, rfl, hs, k⟩ := h
    refine ⟨_, PSs.nox ((pss_cons (ps_if (pt_cmpR op_lt (pv 1) (pe_callB (k_len (K := K) rfl) (by rfl) T.b_len PySem.boot_len (pa_cons (pv 0) pa_nil)) (nomark _)) (pss_one (ps_ret (pe_ix (k_ix (K := K) rfl) (pv 0) (pv 1) (fun _ _ => rfl)))) pss_nil) (pss_one (ps_ret (pe_op (k_add (K := K) rfl) pe_int (pv 1)))))), ?_⟩
    try dsimp only [cxOf]
    walk_at "go"
    refine a_lenL hs ?_
    walk_at "go"
    refine a_ite (fun hl => ?_) (fun hl => ?_)
    · rw [List.length_map] at hl
      have hj : i < ns.length := by omega
      walk_at "go"
      refine a_ixL hs (atI_of (j := i) (z := V.int ns[i]) rfl (by rw [List.getElem?_map, List.getElem?_eq_getElem hj]; rfl)) ?_
      exact k _
    · walk_at "go"
      exact k _
end

def ErrV (K : PySem.W.Frag) (H : Hp) (v : V) (i : Nat) : Prop := ∃ a od, v = .ref a ∧ H a = some (exo a (He.ga K (L22.getD i "")) od) ∧ ∀ dd, od = some dd → ∃ fs, H dd = some (exd dd fs)
theorem ErrV.same {K : PySem.W.Frag} {H H1 : Hp} {v : V} {i : Nat} (h : ErrV K H v i) (s : Same H H1) : ErrV K H1 v i := by
  obtain ⟨a, od, e, h1, h2⟩ := h
  exact ⟨a, od, e, s _ _ h1, fun dd z => let ⟨fs, h⟩ := h2 dd z; ⟨fs, s _ _ h⟩⟩
def ErrsAt (K : PySem.W.Frag) (H : Hp) (vs : List V) (lo : Nat) : Prop := ∀ j v, vs[j]? = some v → ErrV K H v (lo + j)
theorem ErrsAt.same {K : PySem.W.Frag} {H H1 : Hp} {vs : List V} {lo : Nat} (h : ErrsAt K H vs lo) (s : Same H H1) : ErrsAt K H1 vs lo := fun j v e => (h j v e).same s
theorem errV1 {K : PySem.W.Frag} {H : Hp} {a dd : Addr} {fs : List (Str × V)} {i : Nat} (h : H a = some (exo a (He.ga K (L22.getD i "")) (some dd))) (g : H dd = some (exd dd fs)) : ErrV K H (.ref a) i := ⟨a, _, rfl, h, fun d e => by cases e; exact ⟨fs, g⟩⟩
theorem errV0 {K : PySem.W.Frag} {H : Hp} {a : Addr} {i : Nat} (h : H a = some (exo a (He.ga K (L22.getD i "")) none)) : ErrV K H (.ref a) i := ⟨a, _, rfl, h, fun d e => by cases e⟩
theorem ErrsAt.append {K : PySem.W.Frag} {H : Hp} {vs us : List V} {lo : Nat} (h : ErrsAt K H vs lo) (g : ErrsAt K H us (lo + vs.length)) : ErrsAt K H (vs ++ us) lo := fun j v e => by
  by_cases hj : j < vs.length
  · rw [List.getElem?_append_left hj] at e
    exact h j v e
  · rw [List.getElem?_append_right (by omega)] at e
    have := g _ v e
    have e2 : lo + vs.length + (j - vs.length) = lo + j := by omega
    rwa [e2] at this
theorem a_isV {K : PySem.W.Frag} {mg : Str → Option Value} (T : Txt K mg) {H : Hp} {Q : VK} {v : V} {i j : Nat} (hv : ErrV K H v i) (hi : i < 22) (hj : j < 22) (q : Q (.bl (decide (i = j))) H) : rIsV K [v, .ref (He.ga K (L22.getD j ""))] H Q := by
  obtain ⟨a, od, rfl, h1, h2⟩ := hv
  exact ⟨a, _, od, _, _, _, T.er i hi, rfl, h1, h2, fun u r => r, T.kk i hi j hj, q⟩
theorem a_isT {K : PySem.W.Frag} {mg : Str → Option Value} (T : Txt K mg) {H : Hp} {Q : VK} {v : V} {i : Nat} (hv : ErrV K H v i) (hi : i < 22) (q : Q (.bl true) H) : rIsV K [v, .ref (He.ga K "TriedError")] H Q := by
  obtain ⟨a, od, rfl, h1, h2⟩ := hv
  exact ⟨a, _, od, _, _, _, T.er i hi, rfl, h1, h2, fun u r => r, T.kt i hi, q⟩
theorem a_isE {K : PySem.W.Frag} {mg : Str → Option Value} (T : Txt K mg) {H : Hp} {Q : VK} {v : V} {i : Nat} (hv : ErrV K H v i) (hi : i < 22) (q : Q (.bl true) H) : rIsV K [v, .ty "ValueError"] H Q := by
  obtain ⟨a, od, rfl, h1, h2⟩ := hv
  exact ⟨a, _, od, _, _, _, T.er i hi, rfl, h1, h2, fun u r => r, T.kv i hi, q⟩
theorem dqc {K : PySem.W.Frag} {H : Hp} {n : Nat} {v : V} {d : PyData} (h : Dq K H n v d) (m : Nat) : DqA K H n ((List.range m).map fun _ => v) ((List.range m).map fun _ => d) := by
  rw [List.map_const', List.map_const', List.length_range]
  induction m with
  | zero => exact .nil
  | succ m ih => exact .cons h ih
theorem g_st {t : TS} {D : Ends} {σ σ' : L2.St} {H : Hp} (e : σ = σ') (h : t D σ' H) : t D σ H := e ▸ h
def spMany (K : PySem.W.Frag) (m lo : Nat) : Sp := fun vs H Q _ => ∃ (v : V) (d : PyData), vs = [v] ∧ (∀ H, Dq K H 3 v d) ∧ ∀ t l es H', Same H H' → H' t = some (.tup [.ref l, .bl true]) → H' l = some (.lst es) → es.length = m → ErrsAt K H' es lo → Q (.ref t) H'
def spOthers (K : PySem.W.Frag) : Sp := fun vs H Q _ => ∃ (n m : Int) (v : V) (d : PyData), vs = [.int n, .int m, v] ∧ (∀ H', Same H H' → Dq K H' 3 v d) ∧ ∀ t l es H', Same H H' → H' t = some (.tup [.ref l, .bl true]) → H' l = some (.lst es) → es.length = 10 → ErrsAt K H' es 9 → Q (.ref t) H'
def spKinds (K : PySem.W.Frag) : Sp := fun vs H Q _ => ∃ (v : V) (i : Nat), vs = [v] ∧ i < 22 ∧ ErrV K H v i ∧ ∀ l H', Same H H' → H' l = some (.lst ((List.range 22).map fun j => V.bl (decide (i = j)))) → Q (.ref l) H'
section
variable {P : Program} {w : World} {K : PySem.W.Frag} {mg : Str → Option Value} {base : Heap} {f : Addr} {fd : FuncData}
theorem sc__law_numbered : FnScope ["_law_thing", "_law_errors", "_law_e", "_law_k"] ["_law_thing"] (defScope s__law_numbered) := ⟨rfl, rfl, rfl, by decide +kernel, rfl, by decide +kernel, by decide +kernel⟩
theorem ok_numbered (F : FX K "_law_numbered" "_law_numbered" s__law_numbered [] [] f fd) (T : Txt K mg) (c_BadStep : Rai P w K mg base "BadStep" (He.ga K "BadStep") 1 (spI1 (He.ga K "BadStep") "number")) (c_NoStep : Rai P w K mg base "NoStep" (He.ga K "NoStep") 1 (spI1 (He.ga K "NoStep") "number")) (c_BadArrow : Rai P w K mg base "BadArrow" (He.ga K "BadArrow") 1 (spI1 (He.ga K "BadArrow") "number")) (c_NoRun : Rai P w K mg base "NoRun" (He.ga K "NoRun") 1 (spI1 (He.ga K "NoRun") "number")) (c_NotFolded : Rai P w K mg base "NotFolded" (He.ga K "NotFolded") 1 (spI1 (He.ga K "NotFolded") "number")) (c_BadPrice : Rai P w K mg base "BadPrice" (He.ga K "BadPrice") 1 (spI1 (He.ga K "BadPrice") "number")) : FnOk P w K mg base (L2.CX P w) 3 f fd ["_law_thing"] (spMany K 6 0) := by
  refine F.ok sc__law_numbered (fun vs H Q E h => ?_) (fun cdv A outer s H vs Q E hr h => ?_)
  · obtain ⟨v, d, rfl, _⟩ := h
    rfl
  · obtain ⟨v, d, rfl, hv, k⟩ := h
    refine ⟨_, PSs.nox ((pss_cons (ps_set (i := 1) sc__law_numbered.nd rfl (Or.inl rfl) (pe_lst (pa_cons (pe_exv c_BadStep hr (by decide) rfl (pa_cons (pv 0) pa_nil)) (pa_cons (pe_exv c_NoStep hr (by decide) rfl (pa_cons (pv 0) pa_nil)) (pa_cons (pe_exv c_BadArrow hr (by decide) rfl (pa_cons (pv 0) pa_nil)) (pa_cons (pe_exv c_NoRun hr (by decide) rfl (pa_cons (pv 0) pa_nil)) (pa_cons (pe_exv c_NotFolded hr (by decide) rfl (pa_cons (pv 0) pa_nil)) (pa_cons (pe_exv c_BadPrice hr (by decide) rfl (pa_cons (pv 0) pa_nil)) pa_nil)))))))) (pss_one (ps_ret (pe_tup (pa_cons (pv 1) (pa_cons (pe_cmpR (k_eq (K := K) rfl hr.units) (by exact (pe_lc (own := [("_law_e", 2)]) rfl sc__law_numbered.nd (k_iL (K := K) rfl (pv 1)) (blkOk_by (own := [("_law_e", 2)]) (N := ["_law_thing", "_law_errors", "_law_e", "_law_k"]) (sc := defScope s__law_numbered) (by decide +kernel)) (fun _ _ _ _ _ => by exact (pg_name (i := 2) sc__law_numbered.nd rfl (Or.inl rfl))) (fun _ _ _ _ _ => by exact pts_nil) (fun _ _ _ _ _ => by exact (pe_fe (K := K) rfl (pv 2))))) (by exact (pe_lc (own := [("_law_k", 3)]) rfl sc__law_numbered.nd (pi_range1 (by rfl) T.b_range (pa_cons pe_int pa_nil)) (blkOk_by (own := [("_law_k", 3)]) (N := ["_law_thing", "_law_errors", "_law_e", "_law_k"]) (sc := defScope s__law_numbered) (by decide +kernel)) (fun _ _ _ _ _ => by exact (pg_name (i := 3) sc__law_numbered.nd rfl (Or.inl rfl))) (fun _ _ _ _ _ => by exact pts_nil) (fun _ _ _ _ _ => by exact (pv 0)))) (nomark _)) pa_nil))))))), ?_⟩
    try dsimp only [cxOf]
    walk_at "go"
    refine a_exv1 fun a1 d1 H1 n1 s1 h1 g1 => ?_
    walk_at "go"
    refine a_exv1 fun a2 d2 H2 n2 s2 h2 g2 => ?_
    walk_at "go"
    refine a_exv1 fun a3 d3 H3 n3 s3 h3 g3 => ?_
    walk_at "go"
    refine a_exv1 fun a4 d4 H4 n4 s4 h4 g4 => ?_
    walk_at "go"
    refine a_exv1 fun a5 d5 H5 n5 s5 h5 g5 => ?_
    walk_at "go"
    refine a_exv1 fun a6 d6 H6 n6 s6 h6 g6 => ?_
    walk_at "go"
    refine a_newL (by show 6 ≤ 100000; decide) fun l H7 nl s7 hl => ?_
    have x1 := (s7 _ _ (s6 _ _ (s5 _ _ (s4 _ _ (s3 _ _ (s2 _ _ h1))))))
    have y1 := (s7 _ _ (s6 _ _ (s5 _ _ (s4 _ _ (s3 _ _ (s2 _ _ g1))))))
    have x2 := (s7 _ _ (s6 _ _ (s5 _ _ (s4 _ _ (s3 _ _ h2)))))
    have y2 := (s7 _ _ (s6 _ _ (s5 _ _ (s4 _ _ (s3 _ _ g2)))))
    have x3 := (s7 _ _ (s6 _ _ (s5 _ _ (s4 _ _ h3))))
    have y3 := (s7 _ _ (s6 _ _ (s5 _ _ (s4 _ _ g3))))
    have x4 := (s7 _ _ (s6 _ _ (s5 _ _ h4)))
    have y4 := (s7 _ _ (s6 _ _ (s5 _ _ g4)))
    have x5 := (s7 _ _ (s6 _ _ h5))
    have y5 := (s7 _ _ (s6 _ _ g5))
    have x6 := (s7 _ _ h6)
    have y6 := (s7 _ _ g6)
    have st := (Same.trans (Same.trans (Same.trans (Same.trans (Same.trans (Same.trans s1 s2) s3) s4) s5) s6) s7)
    walk_at "go"
    refine c_l (K := K) (xs := [.ref a1, .ref a2, .ref a3, .ref a4, .ref a5, .ref a6]) (fun _ => v) (by show 6 ≤ 100000; decide) ?_ ?_ ?_
    · intro R r
      walk_at "go"
      exact r _ _ (Same.refl _) (SqL.of hl)
    · intro i x H' hx s' R r
      match i, hx with
      | 0, hx =>
        cases hx
        walk_at "go"
        exact a_xe T.x_BadStep T.nx_BadStep_number (s' _ _ x1) (s' _ _ y1) (lk1 _ _) (r _ (Same.refl _))
      | 1, hx =>
        cases hx
        walk_at "go"
        exact a_xe T.x_NoStep T.nx_NoStep_number (s' _ _ x2) (s' _ _ y2) (lk1 _ _) (r _ (Same.refl _))
      | 2, hx =>
        cases hx
        walk_at "go"
        exact a_xe T.x_BadArrow T.nx_BadArrow_number (s' _ _ x3) (s' _ _ y3) (lk1 _ _) (r _ (Same.refl _))
      | 3, hx =>
        cases hx
        walk_at "go"
        exact a_xe T.x_NoRun T.nx_NoRun_number (s' _ _ x4) (s' _ _ y4) (lk1 _ _) (r _ (Same.refl _))
      | 4, hx =>
        cases hx
        walk_at "go"
        exact a_xe T.x_NotFolded T.nx_NotFolded_number (s' _ _ x5) (s' _ _ y5) (lk1 _ _) (r _ (Same.refl _))
      | 5, hx =>
        cases hx
        walk_at "go"
        exact a_xe T.x_BadPrice T.nx_BadPrice_number (s' _ _ x6) (s' _ _ y6) (lk1 _ _) (r _ (Same.refl _))
      | (i + 6), hx => simp at hx
    intro D HD nD sD hD
    walk_at "go"
    refine c_r (k := 6) (fun _ => v) (by omega) ?_ ?_ ?_
    · intro R r
      walk_at "go"
      exact r _ (Same.refl _)
    · intro i H' hi s' R r
      walk_at "go"
      exact r _ (Same.refl _)
    intro D2 HE nD2 sE hD2
    refine a_eqQ (n := 4) (.lst (SqL.of (sE _ _ hD)) (dqc (hv _) 6)) (.lst (SqL.of hD2) (dqc (hv _) 6)) ?_
    walk_at "go"
    refine a_newT (by show 2 ≤ 100000; decide) fun t HF nt sF ht => ?_
    have sx := sD.trans (sE.trans sF)
    refine k t l _ HF (st.trans sx) ht (sx _ _ hl) rfl fun j u hu => ?_
    match j, hu with
    | 0, hu => cases hu; exact errV1 (i := 0) (sx _ _ x1) (sx _ _ y1)
    | 1, hu => cases hu; exact errV1 (i := 1) (sx _ _ x2) (sx _ _ y2)
    | 2, hu => cases hu; exact errV1 (i := 2) (sx _ _ x3) (sx _ _ y3)
    | 3, hu => cases hu; exact errV1 (i := 3) (sx _ _ x4) (sx _ _ y4)
    | 4, hu => cases hu; exact errV1 (i := 4) (sx _ _ x5) (sx _ _ y5)
    | 5, hu => cases hu; exact errV1 (i := 5) (sx _ _ x6) (sx _ _ y6)
    | (j + 6), hu => simp at hu
theorem sc__law_named : FnScope ["_law_thing", "_law_errors", "_law_e", "_law_k"] ["_law_thing"] (defScope s__law_named) := ⟨rfl, rfl, rfl, by decide +kernel, rfl, by decide +kernel, by decide +kernel⟩
theorem ok_named (F : FX K "_law_named" "_law_named" s__law_named [] [] f fd) (T : Txt K mg) (c_BadName : Rai P w K mg base "BadName" (He.ga K "BadName") 1 (spI1 (He.ga K "BadName") "name")) (c_NoMeaning : Rai P w K mg base "NoMeaning" (He.ga K "NoMeaning") 1 (spI1 (He.ga K "NoMeaning") "name")) (c_NotOwn : Rai P w K mg base "NotOwn" (He.ga K "NotOwn") 1 (spI1 (He.ga K "NotOwn") "name")) : FnOk P w K mg base (L2.CX P w) 3 f fd ["_law_thing"] (spMany K 3 6) := by
  refine F.ok sc__law_named (fun vs H Q E h => ?_) (fun cdv A outer s H vs Q E hr h => ?_)
  · obtain ⟨v, d, rfl, _⟩ := h
    rfl
  · obtain ⟨v, d, rfl, hv, k⟩ := h
    refine ⟨_, PSs.nox ((pss_cons (ps_set (i := 1) sc__law_named.nd rfl (Or.inl rfl) (pe_lst (pa_cons (pe_exv c_BadName hr (by decide) rfl (pa_cons (pv 0) pa_nil)) (pa_cons (pe_exv c_NoMeaning hr (by decide) rfl (pa_cons (pv 0) pa_nil)) (pa_cons (pe_exv c_NotOwn hr (by decide) rfl (pa_cons (pv 0) pa_nil)) pa_nil))))) (pss_one (ps_ret (pe_tup (pa_cons (pv 1) (pa_cons (pe_cmpR (k_eq (K := K) rfl hr.units) (by exact (pe_lc (own := [("_law_e", 2)]) rfl sc__law_named.nd (k_iL (K := K) rfl (pv 1)) (blkOk_by (own := [("_law_e", 2)]) (N := ["_law_thing", "_law_errors", "_law_e", "_law_k"]) (sc := defScope s__law_named) (by decide +kernel)) (fun _ _ _ _ _ => by exact (pg_name (i := 2) sc__law_named.nd rfl (Or.inl rfl))) (fun _ _ _ _ _ => by exact pts_nil) (fun _ _ _ _ _ => by exact (pe_fe (K := K) rfl (pv 2))))) (by exact (pe_lc (own := [("_law_k", 3)]) rfl sc__law_named.nd (pi_range1 (by rfl) T.b_range (pa_cons pe_int pa_nil)) (blkOk_by (own := [("_law_k", 3)]) (N := ["_law_thing", "_law_errors", "_law_e", "_law_k"]) (sc := defScope s__law_named) (by decide +kernel)) (fun _ _ _ _ _ => by exact (pg_name (i := 3) sc__law_named.nd rfl (Or.inl rfl))) (fun _ _ _ _ _ => by exact pts_nil) (fun _ _ _ _ _ => by exact (pv 0)))) (nomark _)) pa_nil))))))), ?_⟩
    try dsimp only [cxOf]
    walk_at "go"
    refine a_exv1 fun a1 d1 H1 n1 s1 h1 g1 => ?_
    walk_at "go"
    refine a_exv1 fun a2 d2 H2 n2 s2 h2 g2 => ?_
    walk_at "go"
    refine a_exv1 fun a3 d3 H3 n3 s3 h3 g3 => ?_
    walk_at "go"
    refine a_newL (by show 3 ≤ 100000; decide) fun l H4 nl s4 hl => ?_
    have x1 := (s4 _ _ (s3 _ _ (s2 _ _ h1)))
    have y1 := (s4 _ _ (s3 _ _ (s2 _ _ g1)))
    have x2 := (s4 _ _ (s3 _ _ h2))
    have y2 := (s4 _ _ (s3 _ _ g2))
    have x3 := (s4 _ _ h3)
    have y3 := (s4 _ _ g3)
    have st := (Same.trans (Same.trans (Same.trans s1 s2) s3) s4)
    walk_at "go"
    refine c_l (K := K) (xs := [.ref a1, .ref a2, .ref a3]) (fun _ => v) (by show 3 ≤ 100000; decide) ?_ ?_ ?_
    · intro R r
      walk_at "go"
      exact r _ _ (Same.refl _) (SqL.of hl)
    · intro i x H' hx s' R r
      match i, hx with
      | 0, hx =>
        cases hx
        walk_at "go"
        exact a_xe T.x_BadName T.nx_BadName_name (s' _ _ x1) (s' _ _ y1) (lk1 _ _) (r _ (Same.refl _))
      | 1, hx =>
        cases hx
        walk_at "go"
        exact a_xe T.x_NoMeaning T.nx_NoMeaning_name (s' _ _ x2) (s' _ _ y2) (lk1 _ _) (r _ (Same.refl _))
      | 2, hx =>
        cases hx
        walk_at "go"
        exact a_xe T.x_NotOwn T.nx_NotOwn_name (s' _ _ x3) (s' _ _ y3) (lk1 _ _) (r _ (Same.refl _))
      | (i + 3), hx => simp at hx
    intro D HD nD sD hD
    walk_at "go"
    refine c_r (k := 3) (fun _ => v) (by omega) ?_ ?_ ?_
    · intro R r
      walk_at "go"
      exact r _ (Same.refl _)
    · intro i H' hi s' R r
      walk_at "go"
      exact r _ (Same.refl _)
    intro D2 HE nD2 sE hD2
    refine a_eqQ (n := 4) (.lst (SqL.of (sE _ _ hD)) (dqc (hv _) 3)) (.lst (SqL.of hD2) (dqc (hv _) 3)) ?_
    walk_at "go"
    refine a_newT (by show 2 ≤ 100000; decide) fun t HF nt sF ht => ?_
    have sx := sD.trans (sE.trans sF)
    refine k t l _ HF (st.trans sx) ht (sx _ _ hl) rfl fun j u hu => ?_
    match j, hu with
    | 0, hu => cases hu; exact errV1 (i := 6) (sx _ _ x1) (sx _ _ y1)
    | 1, hu => cases hu; exact errV1 (i := 7) (sx _ _ x2) (sx _ _ y2)
    | 2, hu => cases hu; exact errV1 (i := 8) (sx _ _ x3) (sx _ _ y3)
    | (j + 3), hu => simp at hu
set_option maxHeartbeats 0
theorem sc__law_others : FnScope ["_law_thing", "_law_more", "_law_image", "_law_scheme", "_law_text", "_law_both", "_law_table", "_law_size", "_law_point", "_law_place", "_law_loose", "_law_count", "_law_modulus", "_law_kept", "_law_right", "_law_k"] ["_law_thing", "_law_more", "_law_image"] (defScope s__law_others) := ⟨rfl, rfl, rfl, by decide +kernel, rfl, by decide +kernel, by decide +kernel⟩
theorem ok_others (F : FX K "_law_others" "_law_others" s__law_others [] [] f fd) (T : Txt K mg) (c_BadScheme : Rai P w K mg base "BadScheme" (He.ga K "BadScheme") 1 (spI1 (He.ga K "BadScheme") "line")) (c_BadText : Rai P w K mg base "BadText" (He.ga K "BadText") 1 (spI1 (He.ga K "BadText") "line")) (c_BadTable : Rai P w K mg base "BadTable" (He.ga K "BadTable") 1 (spI1 (He.ga K "BadTable") "image")) (c_OtherSize : Rai P w K mg base "OtherSize" (He.ga K "OtherSize") 1 (spI1 (He.ga K "OtherSize") "size")) (c_NoPoint : Rai P w K mg base "NoPoint" (He.ga K "NoPoint") 1 (spI1 (He.ga K "NoPoint") "point")) (c_NoPlace : Rai P w K mg base "NoPlace" (He.ga K "NoPlace") 1 (spI1 (He.ga K "NoPlace") "place")) (c_LoosePlace : Rai P w K mg base "LoosePlace" (He.ga K "LoosePlace") 1 (spI1 (He.ga K "LoosePlace") "place")) (c_BadCount : Rai P w K mg base "BadCount" (He.ga K "BadCount") 1 (spI1 (He.ga K "BadCount") "count")) (c_BadModulus : Rai P w K mg base "BadModulus" (He.ga K "BadModulus") 1 (spI1 (He.ga K "BadModulus") "modulus")) (c_WrongLength : Rai P w K mg base "WrongLength" (He.ga K "WrongLength") 1 (spI2 (He.ga K "WrongLength") "wanted" "length")) : FnOk P w K mg base (L2.CX P w) 3 f fd ["_law_thing", "_law_more", "_law_image"] (spOthers K) := by
  refine F.ok sc__law_others (fun vs H Q E h => ?_) (fun cdv A outer s H vs Q E hr h => ?_)
  · obtain ⟨n, m, v, d, rfl, _⟩ := h
    rfl
  · obtain ⟨n, m, v, d, rfl, hv, k⟩ := h
    refine ⟨_, PSs.nox ((pss_cons (ps_par3 (i := 3) (j := 4) (l := 5) (by rfl) sc__law_others.nd rfl rfl rfl (by decide) (by decide) (by decide) rfl rfl rfl (pa_cons (pe_exv c_BadScheme hr (by decide) rfl (pa_cons (pv 0) pa_nil)) (pa_cons (pe_exv c_BadText hr (by decide) rfl (pa_cons (pv 0) pa_nil)) (pa_cons (pe_exv c_WrongLength hr (by decide) rfl (pa_cons (pv 0) (pa_cons (pv 1) pa_nil))) pa_nil))) (by rfl)) 
      (pss_cons (ps_par3 (i := 6) (j := 7) (l := 8) (by rfl) sc__law_others.nd rfl rfl rfl (by decide) (by decide) (by decide) rfl rfl rfl (pa_cons (pe_exv c_BadTable hr (by decide) rfl (pa_cons (pv 2) pa_nil)) (pa_cons (pe_exv c_OtherSize hr (by decide) rfl (pa_cons (pv 0) pa_nil)) (pa_cons (pe_exv c_NoPoint hr (by decide) rfl (pa_cons (pv 0) pa_nil)) pa_nil))) (by rfl)) 
      (pss_cons (ps_par (i := 9) (j := 10) (by rfl) sc__law_others.nd rfl rfl (by decide) rfl rfl (pa_cons (pe_exv c_NoPlace hr (by decide) rfl (pa_cons (pv 0) pa_nil)) (pa_cons (pe_exv c_LoosePlace hr (by decide) rfl (pa_cons (pv 0) pa_nil)) pa_nil)) (by rfl)) 
      (pss_cons (ps_par (i := 11) (j := 12) (by rfl) sc__law_others.nd rfl rfl (by decide) rfl rfl (pa_cons (pe_exv c_BadCount hr (by decide) rfl (pa_cons (pv 0) pa_nil)) (pa_cons (pe_exv c_BadModulus hr (by decide) rfl (pa_cons (pv 0) pa_nil)) pa_nil)) (by rfl)) 
      (pss_cons (ps_set (i := 13) sc__law_others.nd rfl (Or.inl rfl) (pe_lst (pa_cons (pe_fe (K := K) rfl (pv 3)) (pa_cons (pe_fe (K := K) rfl (pv 4)) (pa_cons (pe_fe (K := K) rfl (pv 5)) (pa_cons (pe_fe (K := K) rfl (pv 7)) (pa_cons (pe_fe (K := K) rfl (pv 8)) (pa_cons (pe_fe (K := K) rfl (pv 9)) (pa_cons (pe_fe (K := K) rfl (pv 10)) pa_nil))))))))) 
      (pss_cons (ps_set (i := 14) sc__law_others.nd rfl (Or.inl rfl) (pe_cmpR (k_eq (K := K) rfl hr.units) (pe_op (k_add (K := K) rfl) (pv 13) (pe_lst (pa_cons (pe_fe (K := K) rfl (pv 11)) (pa_cons (pe_fe (K := K) rfl (pv 12)) pa_nil)))) (by exact (pe_lc (own := [("_law_k", 15)]) rfl sc__law_others.nd (pi_range1 (by rfl) T.b_range (pa_cons pe_int pa_nil)) (blkOk_by (own := [("_law_k", 15)]) (N := ["_law_thing", "_law_more", "_law_image", "_law_scheme", "_law_text", "_law_both", "_law_table", "_law_size", "_law_point", "_law_place", "_law_loose", "_law_count", "_law_modulus", "_law_kept", "_law_right", "_law_k"]) (sc := defScope s__law_others) (by decide +kernel)) (fun _ _ _ _ _ => by exact (pg_name (i := 15) sc__law_others.nd rfl (Or.inl rfl))) (fun _ _ _ _ _ => by exact pts_nil) (fun _ _ _ _ _ => by exact (pv 0)))) (nomark _))) 
      (pss_cons (ps_set (i := 14) sc__law_others.nd rfl (Or.inl rfl) (pe_and (pv 14) (pe_and (pe_cmpR (k_eq (K := K) rfl hr.units) (pe_fe (K := K) rfl (pv 5)) (pv 1) (nomark _)) (pe_one (pe_cmpR (k_eq (K := K) rfl hr.units) (pe_fe (K := K) rfl (pv 6)) (pv 2) (nomark _)))))) (pss_one (ps_ret (pe_tup (pa_cons (pe_lst (pa_cons (pv 3) (pa_cons (pv 4) (pa_cons (pv 5) (pa_cons (pv 6) (pa_cons (pv 7) (pa_cons (pv 8) (pa_cons (pv 9) (pa_cons (pv 10) (pa_cons (pv 11) (pa_cons (pv 12) pa_nil))))))))))) (pa_cons (pv 14) pa_nil))))))))))))), ?_⟩
    try dsimp only [cxOf]
    walk_at "go"
    refine a_exv1 fun a1 d1 H1 n1 s1 h1 g1 => ?_
    walk_at "go"
    refine a_exv1 fun a2 d2 H2 n2 s2 h2 g2 => ?_
    walk_at "go"
    refine a_exv2 fun a3 d3 H3 n3 s3 h3 g3 => ?_
    walk_at "go"
    refine a_exv1 fun a4 d4 H4 n4 s4 h4 g4 => ?_
    walk_at "go"
    refine a_exv1 fun a5 d5 H5 n5 s5 h5 g5 => ?_
    walk_at "go"
    refine a_exv1 fun a6 d6 H6 n6 s6 h6 g6 => ?_
    walk_at "go"
    refine a_exv1 fun a7 d7 H7 n7 s7 h7 g7 => ?_
    walk_at "go"
    refine a_exv1 fun a8 d8 H8 n8 s8 h8 g8 => ?_
    walk_at "go"
    refine a_exv1 fun a9 d9 H9 n9 s9 h9 g9 => ?_
    walk_at "go"
    refine a_exv1 fun a10 d10 H10 n10 s10 h10 g10 => ?_
    repeat ((fail_if_success (with_reducible show tSeq (tAsg (tLst _) _) _ _ _ _)); walk_at "tt")
    refine g_st (σ' := [some (.int n), some (.int m), some v, some (.ref a1), some (.ref a2), some (.ref a3), some (.ref a4), some (.ref a5), some (.ref a6), some (.ref a7), some (.ref a8), some (.ref a9), some (.ref a10), none, none, none]) rfl ?_
    have x1 := (s10 _ _ (s9 _ _ (s8 _ _ (s7 _ _ (s6 _ _ (s5 _ _ (s4 _ _ (s3 _ _ (s2 _ _ h1)))))))))
    have y1 := (s10 _ _ (s9 _ _ (s8 _ _ (s7 _ _ (s6 _ _ (s5 _ _ (s4 _ _ (s3 _ _ (s2 _ _ g1)))))))))
    have x2 := (s10 _ _ (s9 _ _ (s8 _ _ (s7 _ _ (s6 _ _ (s5 _ _ (s4 _ _ (s3 _ _ h2))))))))
    have y2 := (s10 _ _ (s9 _ _ (s8 _ _ (s7 _ _ (s6 _ _ (s5 _ _ (s4 _ _ (s3 _ _ g2))))))))
    have x3 := (s10 _ _ (s9 _ _ (s8 _ _ (s7 _ _ (s6 _ _ (s5 _ _ (s4 _ _ h3)))))))
    have y3 := (s10 _ _ (s9 _ _ (s8 _ _ (s7 _ _ (s6 _ _ (s5 _ _ (s4 _ _ g3)))))))
    have x4 := (s10 _ _ (s9 _ _ (s8 _ _ (s7 _ _ (s6 _ _ (s5 _ _ h4))))))
    have y4 := (s10 _ _ (s9 _ _ (s8 _ _ (s7 _ _ (s6 _ _ (s5 _ _ g4))))))
    have x5 := (s10 _ _ (s9 _ _ (s8 _ _ (s7 _ _ (s6 _ _ h5)))))
    have y5 := (s10 _ _ (s9 _ _ (s8 _ _ (s7 _ _ (s6 _ _ g5)))))
    have x6 := (s10 _ _ (s9 _ _ (s8 _ _ (s7 _ _ h6))))
    have y6 := (s10 _ _ (s9 _ _ (s8 _ _ (s7 _ _ g6))))
    have x7 := (s10 _ _ (s9 _ _ (s8 _ _ h7)))
    have y7 := (s10 _ _ (s9 _ _ (s8 _ _ g7)))
    have x8 := (s10 _ _ (s9 _ _ h8))
    have y8 := (s10 _ _ (s9 _ _ g8))
    have x9 := (s10 _ _ h9)
    have y9 := (s10 _ _ g9)
    have x10 := h10
    have y10 := g10
    have st := (Same.trans (Same.trans (Same.trans (Same.trans (Same.trans (Same.trans (Same.trans (Same.trans (Same.trans s1 s2) s3) s4) s5) s6) s7) s8) s9) s10)
    have lw : ([(("length" : Str), V.int m), (("wanted" : Str), V.int n)] : List (Str × V)).lookup ("wanted" : Str) = some (V.int n) := by
      have h1 : (("wanted" : Str) == ("length" : Str)) = false := by decide +kernel
      simp [List.lookup, h1]
    have ll : ([(("length" : Str), V.int m), (("wanted" : Str), V.int n)] : List (Str × V)).lookup ("length" : Str) = some (V.int m) := by
      simp [List.lookup]
    walk_at "go"
    refine a_xe T.x_BadScheme T.nx_BadScheme_line (id x1) (id y1) (lk1 _ _) ?_
    walk_at "go"
    refine a_xe T.x_BadText T.nx_BadText_line (id x2) (id y2) (lk1 _ _) ?_
    walk_at "go"
    refine a_xe T.x_WrongLength T.nx_WrongLength_wanted (id x3) (id y3) lw ?_
    walk_at "go"
    refine a_xe T.x_OtherSize T.nx_OtherSize_size (id x5) (id y5) (lk1 _ _) ?_
    walk_at "go"
    refine a_xe T.x_NoPoint T.nx_NoPoint_point (id x6) (id y6) (lk1 _ _) ?_
    walk_at "go"
    refine a_xe T.x_NoPlace T.nx_NoPlace_place (id x7) (id y7) (lk1 _ _) ?_
    walk_at "go"
    refine a_xe T.x_LoosePlace T.nx_LoosePlace_place (id x8) (id y8) (lk1 _ _) ?_
    walk_at "go"
    refine a_newL (by show 7 ≤ 100000; decide) fun l1 HA nl1 sA hl1 => ?_
    walk_at "go"
    refine a_xe T.x_BadCount T.nx_BadCount_count (sA _ _ x9) (sA _ _ y9) (lk1 _ _) ?_
    walk_at "go"
    refine a_xe T.x_BadModulus T.nx_BadModulus_modulus (sA _ _ x10) (sA _ _ y10) (lk1 _ _) ?_
    walk_at "go"
    refine a_newL (by show 2 ≤ 100000; decide) fun l2 HB nl2 sB hl2 => ?_
    refine a_cat (sB _ _ hl1) hl2 (by show 7 + 2 ≤ 100000; decide) fun l3 HC nl3 sC hl3 => ?_
    walk_at "go"
    refine c_r (k := 9) (fun _ => V.int n) (by omega) ?_ ?_ ?_
    · intro R r
      walk_at "go"
      exact r _ (Same.refl _)
    · intro i H' hi s' R r
      walk_at "go"
      exact r _ (Same.refl _)
    intro D2 HE nD2 sE hD2
    have hl3' : HE l3 = some (.lst ((List.range 9).map fun _ => V.int n)) := sE _ _ hl3
    refine a_eqQ (n := 4) (.lst (SqL.of hl3') (dqc (.int _) 9)) (.lst (SqL.of hD2) (dqc (.int _) 9)) ?_
    have sx := sA.trans (sB.trans (sC.trans sE))
    walk_at "go"
    refine a_T rfl ?_
    walk_at "go"
    refine a_xe T.x_WrongLength T.nx_WrongLength_length (sx _ _ x3) (sx _ _ y3) ll ?_
    walk_at "go"
    refine a_yes rfl ?_
    walk_at "go"
    refine a_xe T.x_BadTable T.nx_BadTable_image (sx _ _ x4) (sx _ _ y4) (lk1 _ _) ?_
    walk_at "go"
    refine a_eqQ (n := 3) (hv _ (st.trans sx)) (hv _ (st.trans sx)) ?_
    walk_at "go"
    refine a_newL (by show 10 ≤ 100000; decide) fun l HG nl sG hl => ?_
    walk_at "go"
    refine a_newT (by show 2 ≤ 100000; decide) fun t HF nt sF ht => ?_
    have sy := sx.trans (sG.trans sF)
    refine k t l _ HF (st.trans sy) ht (sF _ _ hl) rfl fun j u hu => ?_
    match j, hu with
    | 0, hu => cases hu; exact errV1 (i := 9) (sy _ _ x1) (sy _ _ y1)
    | 1, hu => cases hu; exact errV1 (i := 10) (sy _ _ x2) (sy _ _ y2)
    | 2, hu => cases hu; exact errV1 (i := 11) (sy _ _ x3) (sy _ _ y3)
    | 3, hu => cases hu; exact errV1 (i := 12) (sy _ _ x4) (sy _ _ y4)
    | 4, hu => cases hu; exact errV1 (i := 13) (sy _ _ x5) (sy _ _ y5)
    | 5, hu => cases hu; exact errV1 (i := 14) (sy _ _ x6) (sy _ _ y6)
    | 6, hu => cases hu; exact errV1 (i := 15) (sy _ _ x7) (sy _ _ y7)
    | 7, hu => cases hu; exact errV1 (i := 16) (sy _ _ x8) (sy _ _ y8)
    | 8, hu => cases hu; exact errV1 (i := 17) (sy _ _ x9) (sy _ _ y9)
    | 9, hu => cases hu; exact errV1 (i := 18) (sy _ _ x10) (sy _ _ y10)
    | (j + 10), hu => simp at hu
theorem sc__law_kinds : FnScope ["_law_e", "_law_found"] ["_law_e"] (defScope s__law_kinds) := ⟨rfl, rfl, rfl, by decide +kernel, rfl, by decide +kernel, by decide +kernel⟩
theorem ok_kinds (F : FX K "_law_kinds" "_law_kinds" s__law_kinds [] [] f fd) (T : Txt K mg) : FnOk P w K mg base (L2.CX P w) 2 f fd ["_law_e"] (spKinds K) := by
  refine F.ok sc__law_kinds (fun vs H Q E h => ?_) (fun cdv A outer s H vs Q E hr h => ?_)
  · obtain ⟨v, i, rfl, _⟩ := h
    rfl
  · obtain ⟨v, i, rfl, hi, hv, k⟩ := h
    refine ⟨_, PSs.nox ((pss_cons (ps_set (i := 1) sc__law_kinds.nd rfl (Or.inl rfl) (pe_lst (pa_cons (pe_callB (call_isV (K := K) rfl) (by rfl) T.b_isinstance (by decide +kernel) (pa_cons (pv 0) (pa_cons (pe_gv (v := .ref (He.ga K "BadStep")) rfl ⟨_, T.g_BadStep, rfl⟩) pa_nil))) (pa_cons (pe_callB (call_isV (K := K) rfl) (by rfl) T.b_isinstance (by decide +kernel) (pa_cons (pv 0) (pa_cons (pe_gv (v := .ref (He.ga K "NoStep")) rfl ⟨_, T.g_NoStep, rfl⟩) pa_nil))) (pa_cons (pe_callB (call_isV (K := K) rfl) (by rfl) T.b_isinstance (by decide +kernel) (pa_cons (pv 0) (pa_cons (pe_gv (v := .ref (He.ga K "BadArrow")) rfl ⟨_, T.g_BadArrow, rfl⟩) pa_nil))) (pa_cons (pe_callB (call_isV (K := K) rfl) (by rfl) T.b_isinstance (by decide +kernel) (pa_cons (pv 0) (pa_cons (pe_gv (v := .ref (He.ga K "NoRun")) rfl ⟨_, T.g_NoRun, rfl⟩) pa_nil))) pa_nil)))))) 
      (pss_cons (ps_set (i := 1) sc__law_kinds.nd rfl (Or.inl rfl) (pe_op (k_add (K := K) rfl) (pv 1) (pe_lst (pa_cons (pe_callB (call_isV (K := K) rfl) (by rfl) T.b_isinstance (by decide +kernel) (pa_cons (pv 0) (pa_cons (pe_gv (v := .ref (He.ga K "NotFolded")) rfl ⟨_, T.g_NotFolded, rfl⟩) pa_nil))) (pa_cons (pe_callB (call_isV (K := K) rfl) (by rfl) T.b_isinstance (by decide +kernel) (pa_cons (pv 0) (pa_cons (pe_gv (v := .ref (He.ga K "BadPrice")) rfl ⟨_, T.g_BadPrice, rfl⟩) pa_nil))) (pa_cons (pe_callB (call_isV (K := K) rfl) (by rfl) T.b_isinstance (by decide +kernel) (pa_cons (pv 0) (pa_cons (pe_gv (v := .ref (He.ga K "BadName")) rfl ⟨_, T.g_BadName, rfl⟩) pa_nil))) pa_nil)))))) 
      (pss_cons (ps_set (i := 1) sc__law_kinds.nd rfl (Or.inl rfl) (pe_op (k_add (K := K) rfl) (pv 1) (pe_lst (pa_cons (pe_callB (call_isV (K := K) rfl) (by rfl) T.b_isinstance (by decide +kernel) (pa_cons (pv 0) (pa_cons (pe_gv (v := .ref (He.ga K "NoMeaning")) rfl ⟨_, T.g_NoMeaning, rfl⟩) pa_nil))) (pa_cons (pe_callB (call_isV (K := K) rfl) (by rfl) T.b_isinstance (by decide +kernel) (pa_cons (pv 0) (pa_cons (pe_gv (v := .ref (He.ga K "NotOwn")) rfl ⟨_, T.g_NotOwn, rfl⟩) pa_nil))) (pa_cons (pe_callB (call_isV (K := K) rfl) (by rfl) T.b_isinstance (by decide +kernel) (pa_cons (pv 0) (pa_cons (pe_gv (v := .ref (He.ga K "BadScheme")) rfl ⟨_, T.g_BadScheme, rfl⟩) pa_nil))) pa_nil)))))) 
      (pss_cons (ps_set (i := 1) sc__law_kinds.nd rfl (Or.inl rfl) (pe_op (k_add (K := K) rfl) (pv 1) (pe_lst (pa_cons (pe_callB (call_isV (K := K) rfl) (by rfl) T.b_isinstance (by decide +kernel) (pa_cons (pv 0) (pa_cons (pe_gv (v := .ref (He.ga K "BadText")) rfl ⟨_, T.g_BadText, rfl⟩) pa_nil))) (pa_cons (pe_callB (call_isV (K := K) rfl) (by rfl) T.b_isinstance (by decide +kernel) (pa_cons (pv 0) (pa_cons (pe_gv (v := .ref (He.ga K "WrongLength")) rfl ⟨_, T.g_WrongLength, rfl⟩) pa_nil))) pa_nil))))) 
      (pss_cons (ps_set (i := 1) sc__law_kinds.nd rfl (Or.inl rfl) (pe_op (k_add (K := K) rfl) (pv 1) (pe_lst (pa_cons (pe_callB (call_isV (K := K) rfl) (by rfl) T.b_isinstance (by decide +kernel) (pa_cons (pv 0) (pa_cons (pe_gv (v := .ref (He.ga K "BadTable")) rfl ⟨_, T.g_BadTable, rfl⟩) pa_nil))) (pa_cons (pe_callB (call_isV (K := K) rfl) (by rfl) T.b_isinstance (by decide +kernel) (pa_cons (pv 0) (pa_cons (pe_gv (v := .ref (He.ga K "OtherSize")) rfl ⟨_, T.g_OtherSize, rfl⟩) pa_nil))) (pa_cons (pe_callB (call_isV (K := K) rfl) (by rfl) T.b_isinstance (by decide +kernel) (pa_cons (pv 0) (pa_cons (pe_gv (v := .ref (He.ga K "NoPoint")) rfl ⟨_, T.g_NoPoint, rfl⟩) pa_nil))) (pa_cons (pe_callB (call_isV (K := K) rfl) (by rfl) T.b_isinstance (by decide +kernel) (pa_cons (pv 0) (pa_cons (pe_gv (v := .ref (He.ga K "NoPlace")) rfl ⟨_, T.g_NoPlace, rfl⟩) pa_nil))) pa_nil))))))) 
      (pss_cons (ps_set (i := 1) sc__law_kinds.nd rfl (Or.inl rfl) (pe_op (k_add (K := K) rfl) (pv 1) (pe_lst (pa_cons (pe_callB (call_isV (K := K) rfl) (by rfl) T.b_isinstance (by decide +kernel) (pa_cons (pv 0) (pa_cons (pe_gv (v := .ref (He.ga K "LoosePlace")) rfl ⟨_, T.g_LoosePlace, rfl⟩) pa_nil))) (pa_cons (pe_callB (call_isV (K := K) rfl) (by rfl) T.b_isinstance (by decide +kernel) (pa_cons (pv 0) (pa_cons (pe_gv (v := .ref (He.ga K "BadCount")) rfl ⟨_, T.g_BadCount, rfl⟩) pa_nil))) (pa_cons (pe_callB (call_isV (K := K) rfl) (by rfl) T.b_isinstance (by decide +kernel) (pa_cons (pv 0) (pa_cons (pe_gv (v := .ref (He.ga K "BadModulus")) rfl ⟨_, T.g_BadModulus, rfl⟩) pa_nil))) pa_nil)))))) (pss_one (ps_ret (pe_op (k_add (K := K) rfl) (pv 1) (pe_lst (pa_cons (pe_callB (call_isV (K := K) rfl) (by rfl) T.b_isinstance (by decide +kernel) (pa_cons (pv 0) (pa_cons (pe_gv (v := .ref (He.ga K "Circle")) rfl ⟨_, T.g_Circle, rfl⟩) pa_nil))) (pa_cons (pe_callB (call_isV (K := K) rfl) (by rfl) T.b_isinstance (by decide +kernel) (pa_cons (pv 0) (pa_cons (pe_gv (v := .ref (He.ga K "TooGreat")) rfl ⟨_, T.g_TooGreat, rfl⟩) pa_nil))) (pa_cons (pe_callB (call_isV (K := K) rfl) (by rfl) T.b_isinstance (by decide +kernel) (pa_cons (pv 0) (pa_cons (pe_gv (v := .ref (He.ga K "NothingToUndo")) rfl ⟨_, T.g_NothingToUndo, rfl⟩) pa_nil))) pa_nil)))))))))))))), ?_⟩
    try dsimp only [cxOf]
    walk_at "go"
    refine a_isV (j := 0) T hv hi (by omega) ?_
    walk_at "go"
    refine a_isV (j := 1) T hv hi (by omega) ?_
    walk_at "go"
    refine a_isV (j := 2) T hv hi (by omega) ?_
    walk_at "go"
    refine a_isV (j := 3) T hv hi (by omega) ?_
    walk_at "go"
    refine a_newL (by show 4 ≤ 100000; decide) fun p0 G0 m0 t0 b0 => ?_
    walk_at "go"
    refine a_isV (j := 4) T ((hv).same t0) hi (by omega) ?_
    walk_at "go"
    refine a_isV (j := 5) T ((hv).same t0) hi (by omega) ?_
    walk_at "go"
    refine a_isV (j := 6) T ((hv).same t0) hi (by omega) ?_
    walk_at "go"
    refine a_newL (by show 3 ≤ 100000; decide) fun p1 G1 m1 t1 b1 => ?_
    refine a_cat (t1 _ _ b0) b1 (by show _ ≤ 100000; simp) fun q1 K1 o1 u1 c1 => ?_
    walk_at "go"
    refine a_isV (j := 7) T ((((((hv).same t0)).same t1)).same u1) hi (by omega) ?_
    walk_at "go"
    refine a_isV (j := 8) T ((((((hv).same t0)).same t1)).same u1) hi (by omega) ?_
    walk_at "go"
    refine a_isV (j := 9) T ((((((hv).same t0)).same t1)).same u1) hi (by omega) ?_
    walk_at "go"
    refine a_newL (by show 3 ≤ 100000; decide) fun p2 G2 m2 t2 b2 => ?_
    refine a_cat (t2 _ _ c1) b2 (by show _ ≤ 100000; simp) fun q2 K2 o2 u2 c2 => ?_
    walk_at "go"
    refine a_isV (j := 10) T ((((((((((hv).same t0)).same t1)).same u1)).same t2)).same u2) hi (by omega) ?_
    walk_at "go"
    refine a_isV (j := 11) T ((((((((((hv).same t0)).same t1)).same u1)).same t2)).same u2) hi (by omega) ?_
    walk_at "go"
    refine a_newL (by show 2 ≤ 100000; decide) fun p3 G3 m3 t3 b3 => ?_
    refine a_cat (t3 _ _ c2) b3 (by show _ ≤ 100000; simp) fun q3 K3 o3 u3 c3 => ?_
    walk_at "go"
    refine a_isV (j := 12) T ((((((((((((((hv).same t0)).same t1)).same u1)).same t2)).same u2)).same t3)).same u3) hi (by omega) ?_
    walk_at "go"
    refine a_isV (j := 13) T ((((((((((((((hv).same t0)).same t1)).same u1)).same t2)).same u2)).same t3)).same u3) hi (by omega) ?_
    walk_at "go"
    refine a_isV (j := 14) T ((((((((((((((hv).same t0)).same t1)).same u1)).same t2)).same u2)).same t3)).same u3) hi (by omega) ?_
    walk_at "go"
    refine a_isV (j := 15) T ((((((((((((((hv).same t0)).same t1)).same u1)).same t2)).same u2)).same t3)).same u3) hi (by omega) ?_
    walk_at "go"
    refine a_newL (by show 4 ≤ 100000; decide) fun p4 G4 m4 t4 b4 => ?_
    refine a_cat (t4 _ _ c3) b4 (by show _ ≤ 100000; simp) fun q4 K4 o4 u4 c4 => ?_
    walk_at "go"
    refine a_isV (j := 16) T ((((((((((((((((((hv).same t0)).same t1)).same u1)).same t2)).same u2)).same t3)).same u3)).same t4)).same u4) hi (by omega) ?_
    walk_at "go"
    refine a_isV (j := 17) T ((((((((((((((((((hv).same t0)).same t1)).same u1)).same t2)).same u2)).same t3)).same u3)).same t4)).same u4) hi (by omega) ?_
    walk_at "go"
    refine a_isV (j := 18) T ((((((((((((((((((hv).same t0)).same t1)).same u1)).same t2)).same u2)).same t3)).same u3)).same t4)).same u4) hi (by omega) ?_
    walk_at "go"
    refine a_newL (by show 3 ≤ 100000; decide) fun p5 G5 m5 t5 b5 => ?_
    refine a_cat (t5 _ _ c4) b5 (by show _ ≤ 100000; simp) fun q5 K5 o5 u5 c5 => ?_
    walk_at "go"
    refine a_isV (j := 19) T ((((((((((((((((((((((hv).same t0)).same t1)).same u1)).same t2)).same u2)).same t3)).same u3)).same t4)).same u4)).same t5)).same u5) hi (by omega) ?_
    walk_at "go"
    refine a_isV (j := 20) T ((((((((((((((((((((((hv).same t0)).same t1)).same u1)).same t2)).same u2)).same t3)).same u3)).same t4)).same u4)).same t5)).same u5) hi (by omega) ?_
    walk_at "go"
    refine a_isV (j := 21) T ((((((((((((((((((((((hv).same t0)).same t1)).same u1)).same t2)).same u2)).same t3)).same u3)).same t4)).same u4)).same t5)).same u5) hi (by omega) ?_
    walk_at "go"
    refine a_newL (by show 3 ≤ 100000; decide) fun p6 G6 m6 t6 b6 => ?_
    refine a_cat (t6 _ _ c5) b6 (by show _ ≤ 100000; simp) fun q6 K6 o6 u6 c6 => ?_
    exact k q6 K6 ((((((t0.trans (t1.trans u1)).trans (t2.trans u2)).trans (t3.trans u3)).trans (t4.trans u4)).trans (t5.trans u5)).trans (t6.trans u6)) c6
end

theorem dqb {K : PySem.W.Frag} {H : Hp} {n : Nat} : ∀ bs : List Bool, DqA K H (n + 1) (bs.map V.bl) (bs.map PyData.bool)
  | [] => .nil
  | b :: bs => .cons (.bl b) (dqb bs)
def spLaw (K : PySem.W.Frag) : Sp := fun vs H Q _ => ∃ (a : Addr) (ns : List Int), vs = [.ref a] ∧ SqL K H a (ns.map V.int) ∧ ns.length ≤ 63 ∧ ∀ H', Q (.bl true) H'
section
variable {P : Program} {w : World} {K : PySem.W.Frag} {mg : Str → Option Value} {base : Heap} {f : Addr} {fd : FuncData}
theorem sc_law : FnScope ["_law_script", "_law_at", "_law_state_here", "_law_number", "_law_image", "_law_first", "_law_right", "_law_second", "_law_fits", "_law_third", "_law_whole", "_law_errors", "_law_k", "_law_j"] ["_law_script"] (defScope s_law) := ⟨rfl, rfl, rfl, by decide +kernel, rfl, by decide +kernel, by decide +kernel⟩
theorem ok_law (F : FX K "law" "law" s_law [] [] f fd) (T : Txt K mg) (c__law_state : Cal P w K mg base "_law_state" 2 spState) (c__law_cell : Cal P w K mg base "_law_cell" 2 (spCell K)) (c__law_draw : Cal P w K mg base "_law_draw" 2 spDraw) (c__law_numbered : Cal P w K mg base "_law_numbered" 3 (spMany K 6 0)) (c__law_named : Cal P w K mg base "_law_named" 3 (spMany K 3 6)) (c__law_others : Cal P w K mg base "_law_others" 3 (spOthers K)) (c__law_kinds : Cal P w K mg base "_law_kinds" 2 (spKinds K)) : FnOk P w K mg base (L2.CX P w) 6 f fd ["_law_script"] (spLaw K) := by
  refine F.ok sc_law (fun vs H Q E h => ?_) (fun cdv A outer s H vs Q E hr h => ?_)
  · obtain ⟨a, ns, rfl, _⟩ := h
    rfl
  · obtain ⟨sa, zs, rfl, hs, hlen, k⟩ := h
    refine ⟨_, PSs.nox ((pss_cons (ps_for PassesOwn.never rfl (pi_range1 (by rfl) T.b_range (pa_cons (pe_callB (call_max2U rfl) (by rfl) T.b_max (by decide +kernel) (pa_cons pe_int (pa_cons (pe_callB (call_min2U rfl) (by rfl) T.b_min (by decide +kernel) (pa_cons pe_int (pa_cons (pe_callB (k_len (K := K) rfl) (by rfl) T.b_len PySem.boot_len (pa_cons (pv 0) pa_nil)) pa_nil))) pa_nil))) pa_nil)) (pg_name (i := 1) sc_law.nd rfl (Or.inl rfl)) (pss_cons (ps_set (i := 2) sc_law.nd rfl (Or.inl rfl) (pe_f c__law_state hr (by decide) rfl passL (pa_cons (pe_f c__law_cell hr (by decide) rfl passL (pa_cons (pv 0) (pa_cons (pv 1) pa_nil))) pa_nil))) 
      (pss_cons (ps_set (i := 3) sc_law.nd rfl (Or.inl rfl) (pe_op (k_mul (K := K) rfl) (pe_op op_sub (pe_f c__law_draw hr (by decide) rfl passL (pa_cons (pv 2) (pa_cons pe_int pa_nil))) pe_int) (pe_ix (k_ix (K := K) rfl) (pe_lst (pa_cons pe_int (pa_cons (pe_op op_pow pe_int pe_int) pa_nil))) (pe_f c__law_draw hr (by decide) rfl passL (pa_cons (pv 2) (pa_cons pe_int pa_nil))) (fun _ _ => rfl)))) 
      (pss_cons (ps_set (i := 4) sc_law.nd rfl (Or.inl rfl) (pe_ix (k_ix (K := K) rfl) (pe_lst (pa_cons (pe_tup pa_nil) (pa_cons (pe_tup (pa_cons pe_int (pa_cons pe_int pa_nil))) (pa_cons (pe_tup (pa_cons pe_int (pa_cons pe_int (pa_cons (pe_un un_neg pe_int) pa_nil)))) (pa_cons (pe_tup (pa_cons pe_int pa_nil)) pa_nil))))) (pe_f c__law_draw hr (by decide) rfl passL (pa_cons (pv 2) (pa_cons pe_int pa_nil))) (fun _ _ => rfl))) 
      (pss_cons (ps_asg (pe_f c__law_numbered hr (by decide) rfl passL (pa_cons (pv 3) pa_nil)) (k_gtup (K := K) (n := 2) rfl (by rfl) (pgs_cons (pg_name (i := 5) sc_law.nd rfl (Or.inl rfl)) (pgs_cons (pg_name (i := 6) sc_law.nd rfl (Or.inl rfl)) pgs_nil)))) 
      (pss_cons (ps_asg (pe_f c__law_named hr (by decide) rfl passL (pa_cons (pe_ix (k_ix (K := K) rfl) (pe_lst (pa_cons pe_str (pa_cons pe_str (pa_cons pe_str (pa_cons pe_str pa_nil))))) (pe_f c__law_draw hr (by decide) rfl passL (pa_cons (pv 2) (pa_cons pe_int pa_nil))) (fun _ _ => rfl)) pa_nil)) (k_gtup (K := K) (n := 2) rfl (by rfl) (pgs_cons (pg_name (i := 7) sc_law.nd rfl (Or.inl rfl)) (pgs_cons (pg_name (i := 8) sc_law.nd rfl (Or.inl rfl)) pgs_nil)))) 
      (pss_cons (ps_asg (pe_f c__law_others hr (by decide) rfl passL (pa_cons (pv 3) (pa_cons (pe_op (k_add (K := K) rfl) (pv 3) pe_int) (pa_cons (pv 4) pa_nil)))) (k_gtup (K := K) (n := 2) rfl (by rfl) (pgs_cons (pg_name (i := 9) sc_law.nd rfl (Or.inl rfl)) (pgs_cons (pg_name (i := 10) sc_law.nd rfl (Or.inl rfl)) pgs_nil)))) 
      (pss_cons (ps_set (i := 11) sc_law.nd rfl (Or.inl rfl) (pe_op (k_add (K := K) rfl) (pe_op (k_add (K := K) rfl) (pe_op (k_add (K := K) rfl) (pv 5) (pv 7)) (pv 9)) (pe_lst (pa_cons (pe_exv0 T.r_Circle rfl) (pa_cons (pe_exv0 T.r_TooGreat rfl) (pa_cons (pe_exv0 T.r_NothingToUndo rfl) pa_nil)))))) 
      (pss_cons (ps_if (PW.pt (pw_or (pt_not (k_tr (K := K) rfl (pv 6))) (pw_or (pt_not (k_tr (K := K) rfl (pv 8))) (pw_or1 (pt_not (k_tr (K := K) rfl (pv 10))))))) (pss_one (ps_ret pe_bl)) pss_nil) (pss_one (ps_for PassesOwn.never rfl (pi_range1 (by rfl) T.b_range (pa_cons (pe_callB (k_len (K := K) rfl) (by rfl) T.b_len PySem.boot_len (pa_cons (pv 11) pa_nil)) pa_nil)) (pg_name (i := 12) sc_law.nd rfl (Or.inr rfl)) (pss_cons (ps_if (pt_cmpR (k_ne (K := K) rfl hr.units) (pe_f c__law_kinds hr (by decide) rfl passL (pa_cons (pe_ix (k_ix (K := K) rfl) (pv 11) (pv 12) (fun _ _ => rfl)) pa_nil)) (by exact (pe_lc (own := [("_law_j", 13)]) rfl sc_law.nd (pi_range1 (by rfl) T.b_range (pa_cons pe_int pa_nil)) (blkOk_by (own := [("_law_j", 13)]) (N := ["_law_script", "_law_at", "_law_state_here", "_law_number", "_law_image", "_law_first", "_law_right", "_law_second", "_law_fits", "_law_third", "_law_whole", "_law_errors", "_law_k", "_law_j"]) (sc := defScope s_law) (by decide +kernel)) (fun _ _ _ _ _ => by exact (pg_name (i := 13) sc_law.nd rfl (Or.inl rfl))) (fun _ _ _ _ _ => by exact pts_nil) (fun _ _ _ _ _ => by exact (pe_cmpR (k_eq (K := K) rfl hr.units) (pv 13) (pv 12) (nomark _))))) (nomark _)) (pss_one (ps_ret pe_bl)) pss_nil) (pss_one (ps_if (PW.pt (pw_or (pt_not (k_tr (K := K) rfl (pe_callB (call_isV (K := K) rfl) (by rfl) T.b_isinstance (by decide +kernel) (pa_cons (pe_ix (k_ix (K := K) rfl) (pv 11) (pv 12) (fun _ _ => rfl)) (pa_cons (pe_gv (v := .ref (He.ga K "TriedError")) rfl ⟨_, T.g_TriedError, rfl⟩) pa_nil))))) (pw_or1 (pt_not (k_tr (K := K) rfl (pe_callB (call_isV (K := K) rfl) (by rfl) T.b_isinstance (by decide +kernel) (pa_cons (pe_ix (k_ix (K := K) rfl) (pv 11) (pv 12) (fun _ _ => rfl)) (pa_cons (pe_bltn (v := .ty "ValueError") rfl T.b_ValueError (by decide +kernel) rfl) pa_nil)))))))) (pss_one (ps_ret pe_bl)) pss_nil)))))))))))))) (pss_one (ps_ret pe_bl)))), ?_⟩
    try dsimp only [cxOf]
    walk_at "go"
    refine a_lenL hs ?_
    walk_at "go"
    rw [List.length_map]
    obtain ⟨N, eN, N6⟩ : ∃ N : Nat, max (1 : Int) (min 3 (zs.length : Int)) = (N : Int) ∧ N ≤ 6 := ⟨(max (1 : Int) (min 3 (zs.length : Int))).toNat, by omega, by omega⟩
    rw [eN]
    refine ⟨(N : Int), rfl, by omega, by omega, ?_⟩
    refine for_range (n := N) (fun i σ H' => ∃ v1 v2 v3 v4 v5 v6 v7 v8 v9 v10 v11 v12 v13 : Option V, σ = [some (.ref sa), v1, v2, v3, v4, v5, v6, v7, v8, v9, v10, v11, v12, v13] ∧ SqL K H' sa (zs.map V.int))
      ⟨none, none, none, none, none, none, none, none, none, none, none, none, none, rfl, hs⟩ ?_ ?_
    · rintro i σ H1 hi ⟨v1, v2, v3, v4, v5, v6, v7, v8, v9, v10, v11, v12, v13, rfl, hs1⟩
      have e00 : (0 : Int) + (i : Nat) = (i : Nat) := by omega
      walk_at "go"
      rw [e00]
      refine ⟨sa, zs, i, rfl, hs1, fun c => ?_⟩
      walk_at "go"
      refine ⟨c, rfl, fun p H2 np s2 hp => ?_⟩
      walk_at "go"
      refine ⟨p, 2001, 10000, rfl, hp.le (by omega), by omega, by omega, fun r1 H3 q0 q1 b3 hp3 => ?_⟩
      walk_at "go"
      refine a_newL (by show 2 ≤ 100000; decide) fun l4 H4 nl4 s4 h4 => ?_
      walk_at "go"
      refine ⟨p, 2, 9000, rfl, (hp3.same s4).le (by omega), by omega, by omega, fun r2 H5 q2 q3 b5 hp5 => ?_⟩
      obtain ⟨j, rfl⟩ : ∃ j : Nat, r2 = (j : Int) := ⟨r2.toNat, by omega⟩
      have h45 := b5 _ _ (Ne.symm (hp3.ne nl4)) h4
      obtain ⟨y, ej⟩ : ∃ y : Int, ([.int 1, .int (10 ^ Int.toNat 20)] : List V)[j]? = some (.int y) := by
        match j, q3 with
        | 0, _ => exact ⟨_, rfl⟩
        | 1, _ => exact ⟨_, rfl⟩
        | (j + 2), h => exact absurd h (by omega)
      walk_at "go"
      refine a_ixL (SqL.of h45) (atI_of rfl ej) ?_
      walk_at "go"
      have s15 : Same H1 H5 := fun a o ee => b5 a o (ne_of_none ee np) (s4 a o (b3 a o (ne_of_none ee np) (s2 a o ee)))
      refine a_newT (by show 0 ≤ 100000; decide) fun t1 G1 nt1 u1 k1 => ?_
      walk_at "go"
      refine a_newT (by show 2 ≤ 100000; decide) fun t2 G2 nt2 u2 k2 => ?_
      walk_at "go"
      refine a_newT (by show 3 ≤ 100000; decide) fun t3 G3 nt3 u3 k3 => ?_
      walk_at "go"
      refine a_newT (by show 1 ≤ 100000; decide) fun t4 G4 nt4 u4 k4 => ?_
      walk_at "go"
      refine a_newL (by show 4 ≤ 100000; decide) fun l5 G5 nl5 u5 k5 => ?_
      have u15 := u1.trans (u2.trans (u3.trans (u4.trans u5)))
      have hpG := hp5.same u15
      have nl5p : l5 ≠ p := Ne.symm ((hp5.same (u1.trans (u2.trans (u3.trans u4)))).ne nl5)
      obtain ⟨pxG, hpxG⟩ := hpG.at_
      walk_at "go"
      refine ⟨p, 4, 8000, rfl, hpG.le (by omega), by omega, by omega, fun r3 H6 q4 q5 b6 hp6 => ?_⟩
      obtain ⟨j2, rfl⟩ : ∃ j : Nat, r3 = (j : Int) := ⟨r3.toNat, by omega⟩
      have k16 := b6 t1 _ (ne_of (u5 _ _ (u4 _ _ (u3 _ _ (u2 _ _ k1)))) hpxG (by intro z; cases z)) (u5 _ _ (u4 _ _ (u3 _ _ (u2 _ _ k1))))
      have k26 := b6 t2 _ (ne_of (u5 _ _ (u4 _ _ (u3 _ _ k2))) hpxG (by intro z; cases z)) (u5 _ _ (u4 _ _ (u3 _ _ k2)))
      have k36 := b6 t3 _ (ne_of (u5 _ _ (u4 _ _ k3)) hpxG (by intro z; cases z)) (u5 _ _ (u4 _ _ k3))
      have k46 := b6 t4 _ (ne_of (u5 _ _ k4) hpxG (by intro z; cases z)) (u5 _ _ k4)
      obtain ⟨tv, ws, ej2, htv⟩ : ∃ (tv : Addr) (ws : List Int), ([.ref t1, .ref t2, .ref t3, .ref t4] : List V)[j2]? = some (.ref tv) ∧ H6 tv = some (.tup (zi ws)) := by
        match j2, q5 with
        | 0, _ => exact ⟨t1, [], rfl, k16⟩
        | 1, _ => exact ⟨t2, [0, 0], rfl, k26⟩
        | 2, _ => exact ⟨t3, [1, 2, -3], rfl, k36⟩
        | 3, _ => exact ⟨t4, [7], rfl, k46⟩
        | (j + 4), h => exact absurd h (by omega)
      have s16 : Same H1 H6 := fun a o ee => b6 a o (ne_of_none ee np) (u15 a o (s15 a o ee))
      walk_at "go"
      refine a_ixL (SqL.of (b6 _ _ nl5p k5)) (atI_of rfl ej2) ?_
      walk_at "go"
      refine ⟨_, .int _, rfl, fun _ => .int _, fun t7 l7 e7 H7 s7 ht7 hl7 len7 er7 => ?_⟩
      walk_at "go"
      refine a_newL (by show 4 ≤ 100000; decide) fun l8 H8 nl8 s8 h8 => ?_
      have hp8 := hp6.same (s7.trans s8)
      have nl8p : l8 ≠ p := Ne.symm ((hp6.same s7).ne nl8)
      obtain ⟨px8, hpx8⟩ := hp8.at_
      walk_at "go"
      refine ⟨p, 4, 7000, rfl, hp8.le (by omega), by omega, by omega, fun r4 H9 q6 q7 b9 hp9 => ?_⟩
      obtain ⟨j3, rfl⟩ : ∃ j : Nat, r4 = (j : Int) := ⟨r4.toNat, by omega⟩
      obtain ⟨nm, ej3, nok⟩ : ∃ nm : Str, ([.str "a", .str "", .str "ABCD", .str "a1"] : List V)[j3]? = some (.str nm) ∧ PyData.strOk nm = true := by
        match j3, q7 with
        | 0, _ => exact ⟨_, rfl, by decide +kernel⟩
        | 1, _ => exact ⟨_, rfl, by decide +kernel⟩
        | 2, _ => exact ⟨_, rfl, by decide +kernel⟩
        | 3, _ => exact ⟨_, rfl, by decide +kernel⟩
        | (j + 4), h => exact absurd h (by omega)
      have nch : ∀ (x : Addr) (o : HO), H8 x = some o → (∀ xs, o ≠ .lst xs) → H9 x = some o := fun x o ee no => b9 x o (fun z => by subst z; rw [hpx8] at ee; cases ee; exact no _ rfl) ee
      have er9 : ErrsAt K H9 e7 0 := fun jj v ee => by
        obtain ⟨a, od, e1, h1, h2⟩ := er7 jj v ee
        exact ⟨a, od, e1, nch _ _ (s8 _ _ h1) (by intro xs z; cases z), fun dd z => let ⟨fs, hh⟩ := h2 dd z; ⟨fs, nch _ _ (s8 _ _ hh) (by intro xs z; cases z)⟩⟩
      have nl7p : l7 ≠ p := fun z => by
        subst z
        rw [s8 _ _ hl7] at hpx8
        cases hpx8
        obtain ⟨aa, bb, kk, hx, _⟩ := hp8.ex
        rw [s8 _ _ hl7] at hx
        cases hx
        simp at len7
      have hl9 := b9 _ _ nl7p (s8 _ _ hl7)
      have htv9 := nch _ _ (s8 _ _ (s7 _ _ htv)) (by intro xs z; cases z)
      have s19 : Same H1 H9 := fun a o ee => b9 a o (ne_of_none ee np) (s8 a o (s7 a o (s16 a o ee)))
      walk_at "go"
      refine a_ixL (SqL.of (b9 _ _ nl8p h8)) (atI_of rfl ej3) ?_
      walk_at "go"
      refine ⟨_, .str nm, rfl, fun _ => .str nm nok, fun t10 l10 e10 H10 s10 ht10 hl10 len10 er10 => ?_⟩
      walk_at "go"
      refine ⟨_, _, .ref tv, .tuple (zd ws), rfl, fun H' s' => .tup (SqT.of (s' _ _ (s10 _ _ htv9))) (dqz ws), fun t11 l11 e11 H11 s11 ht11 hl11 len11 er11 => ?_⟩
      walk_at "go"
      refine a_cat (s11 _ _ (s10 _ _ hl9)) (s11 _ _ hl10) (by omega) fun l12 H12 nl12 s12 h12 => ?_
      walk_at "go"
      refine a_cat h12 (s12 _ _ hl11) (by rw [List.length_append]; omega) fun l13 H13 nl13 s13 h13 => ?_
      walk_at "go"
      refine a_exv0 fun x1 H14 nx1 s14 hx1 => ?_
      walk_at "go"
      refine a_exv0 fun x2 H15 nx2 s15' hx2 => ?_
      walk_at "go"
      refine a_exv0 fun x3 H16 nx3 s16' hx3 => ?_
      walk_at "go"
      refine a_newL (by show 3 ≤ 100000; decide) fun l17 H17 nl17 s17 h17 => ?_
      walk_at "go"
      refine a_cat (s17 _ _ (s16' _ _ (s15' _ _ (s14 _ _ h13)))) h17 (by rw [List.length_append, List.length_append]; show _ + 3 ≤ _; omega) fun l18 H18 nl18 s18 h18 => ?_
      have s1318 := s14.trans (s15'.trans (s16'.trans (s17.trans s18)))
      have s1118 := s12.trans (s13.trans s1318)
      have ers : ErrsAt K H18 (e7 ++ e10 ++ e11 ++ [V.ref x1, V.ref x2, V.ref x3]) 0 := by
        refine ErrsAt.append (ErrsAt.append (ErrsAt.append (er9.same (s10.trans (s11.trans s1118))) ?_) ?_) ?_
        · rw [len7]
          exact er10.same (s11.trans s1118)
        · rw [List.length_append, len7, len10]
          exact er11.same s1118
        · rw [List.length_append, List.length_append, len7, len10, len11]
          intro jj v ee
          match jj, ee with
          | 0, ee => cases ee; exact errV0 (i := 19) (s18 _ _ (s17 _ _ (s16' _ _ (s15' _ _ hx1))))
          | 1, ee => cases ee; exact errV0 (i := 20) (s18 _ _ (s17 _ _ (s16' _ _ hx2)))
          | 2, ee => cases ee; exact errV0 (i := 21) (s18 _ _ (s17 _ _ hx3))
          | (jj + 3), ee => simp at ee
      have elen : (e7 ++ e10 ++ e11 ++ [V.ref x1, V.ref x2, V.ref x3]).length = 22 := by
        rw [List.length_append, List.length_append, List.length_append, len7, len10, len11]
        rfl
      generalize e7 ++ e10 ++ e11 ++ [V.ref x1, V.ref x2, V.ref x3] = errs at h18 ers elen
      have s118 : Same H1 H18 := s19.trans (s10.trans (s11.trans s1118))
      walk_at "go"
      refine a_F rfl ?_
      walk_at "go"
      refine a_F rfl ?_
      walk_at "go"
      refine a_F rfl ?_
      walk_at "go"
      rw [elen]
      refine ⟨22, rfl, by decide, by decide, ?_⟩
      refine for_range (n := 22) (fun kk σ H' => ∃ v12 v13 : Option V, σ = [some (.ref sa), some (.int (i : Nat)), some (.ref p), some (.int ((r1 - 1000) * y)), some (.ref tv), some (.ref l7), some (.bl true), some (.ref l10), some (.bl true), some (.ref l11), some (.bl true), some (.ref l18), v12, v13] ∧ Same H18 H')
        ⟨v12, v13, rfl, Same.refl _⟩ ?_ ?_
      · rintro kk σ H19 hk ⟨v12, v13, rfl, s19'⟩
        have e01 : (0 : Int) + (kk : Nat) = (kk : Nat) := by omega
        have hkk : kk < errs.length := by omega
        have he := ers kk _ (List.getElem?_eq_getElem hkk)
        rw [Nat.zero_add] at he
        walk_at "go"
        rw [e01]
        refine a_ixL (SqL.of (s19' _ _ h18)) (atI_of rfl (List.getElem?_eq_getElem hkk)) ?_
        walk_at "go"
        refine ⟨_, kk, rfl, hk, he.same s19', fun l20 H20 s20 h20 => ?_⟩
        walk_at "go"
        refine c_r (k := 22) (fun j => V.bl (decide (kk = j))) (by omega) ?_ ?_ ?_
        · intro R r
          walk_at "go"
          exact r _ (Same.refl _)
        · intro jj H' hj s' R r
          walk_at "go"
          rw [decide_eq_decide.mpr (show (V.int (jj : Nat) = V.int (kk : Nat)) ↔ kk = jj from ⟨fun z => by have := V.int.inj z; omega, fun z => by rw [z]⟩)]
          exact r _ (Same.refl _)
        intro D21 H21 nD21 s21 hD21
        have eb : (List.range 22).map (fun j => V.bl (decide (kk = j))) = ((List.range 22).map fun j => decide (kk = j)).map V.bl := by
          rw [List.map_map]
          rfl
        rw [eb] at h20 hD21
        refine a_neQ (n := 2) (.lst (SqL.of (s21 _ _ h20)) (dqb _)) (.lst (SqL.of hD21) (dqb _)) ?_
        walk_at "go"
        refine a_F rfl ?_
        have s1821 := s19'.trans (s20.trans s21)
        walk_at "go"
        refine a_ixL (SqL.of (s1821 _ _ h18)) (atI_of rfl (List.getElem?_eq_getElem hkk)) ?_
        walk_at "go"
        refine a_isT T (he.same s1821) hk ?_
        walk_at "go"
        refine a_F rfl ?_
        walk_at "go"
        refine a_ixL (SqL.of (s1821 _ _ h18)) (atI_of rfl (List.getElem?_eq_getElem hkk)) ?_
        walk_at "go"
        refine a_isE T (he.same s1821) hk ?_
        walk_at "go"
        refine a_F rfl ?_
        walk_at "go"
        exact ⟨_, _, rfl, s1821⟩
      · rintro σ H19 ⟨v12, v13, rfl, s19'⟩
        exact ⟨_, _, _, _, _, _, _, _, _, _, _, _, _, rfl, same_l (s118.trans s19') hs1⟩
    · rintro σ H1 ⟨v1, v2, v3, v4, v5, v6, v7, v8, v9, v10, v11, v12, v13, rfl, hs1⟩
      walk_at "go"
      exact k _
end

def dfs : List DX := [
  ⟨fun K => He.ma K (He.ga K "BadStep") "__init__", "__init__", "BadStep.__init__", s_BadStep_init, [], []⟩,
  ⟨fun K => He.ma K (He.ga K "NoStep") "__init__", "__init__", "NoStep.__init__", s_NoStep_init, [], []⟩,
  ⟨fun K => He.ma K (He.ga K "BadArrow") "__init__", "__init__", "BadArrow.__init__", s_BadArrow_init, [], []⟩,
  ⟨fun K => He.ma K (He.ga K "NoRun") "__init__", "__init__", "NoRun.__init__", s_NoRun_init, [], []⟩,
  ⟨fun K => He.ma K (He.ga K "NotFolded") "__init__", "__init__", "NotFolded.__init__", s_NotFolded_init, [], []⟩,
  ⟨fun K => He.ma K (He.ga K "BadPrice") "__init__", "__init__", "BadPrice.__init__", s_BadPrice_init, [], []⟩,
  ⟨fun K => He.ma K (He.ga K "BadName") "__init__", "__init__", "BadName.__init__", s_BadName_init, [], []⟩,
  ⟨fun K => He.ma K (He.ga K "NoMeaning") "__init__", "__init__", "NoMeaning.__init__", s_NoMeaning_init, [], []⟩,
  ⟨fun K => He.ma K (He.ga K "NotOwn") "__init__", "__init__", "NotOwn.__init__", s_NotOwn_init, [], []⟩,
  ⟨fun K => He.ma K (He.ga K "BadScheme") "__init__", "__init__", "BadScheme.__init__", s_BadScheme_init, [], []⟩,
  ⟨fun K => He.ma K (He.ga K "BadText") "__init__", "__init__", "BadText.__init__", s_BadText_init, [], []⟩,
  ⟨fun K => He.ma K (He.ga K "WrongLength") "__init__", "__init__", "WrongLength.__init__", s_WrongLength_init, [], []⟩,
  ⟨fun K => He.ma K (He.ga K "BadTable") "__init__", "__init__", "BadTable.__init__", s_BadTable_init, [], []⟩,
  ⟨fun K => He.ma K (He.ga K "OtherSize") "__init__", "__init__", "OtherSize.__init__", s_OtherSize_init, [], []⟩,
  ⟨fun K => He.ma K (He.ga K "NoPoint") "__init__", "__init__", "NoPoint.__init__", s_NoPoint_init, [], []⟩,
  ⟨fun K => He.ma K (He.ga K "NoPlace") "__init__", "__init__", "NoPlace.__init__", s_NoPlace_init, [], []⟩,
  ⟨fun K => He.ma K (He.ga K "LoosePlace") "__init__", "__init__", "LoosePlace.__init__", s_LoosePlace_init, [], []⟩,
  ⟨fun K => He.ma K (He.ga K "BadCount") "__init__", "__init__", "BadCount.__init__", s_BadCount_init, [], []⟩,
  ⟨fun K => He.ma K (He.ga K "BadModulus") "__init__", "__init__", "BadModulus.__init__", s_BadModulus_init, [], []⟩,
  ⟨fun K => He.ga K "_law_state", "_law_state", "_law_state", s__law_state, [], []⟩,
  ⟨fun K => He.ga K "_law_draw", "_law_draw", "_law_draw", s__law_draw, [], []⟩,
  ⟨fun K => He.ga K "_law_cell", "_law_cell", "_law_cell", s__law_cell, [], []⟩,
  ⟨fun K => He.ga K "_law_numbered", "_law_numbered", "_law_numbered", s__law_numbered, [], []⟩,
  ⟨fun K => He.ga K "_law_named", "_law_named", "_law_named", s__law_named, [], []⟩,
  ⟨fun K => He.ga K "_law_others", "_law_others", "_law_others", s__law_others, [], []⟩,
  ⟨fun K => He.ga K "_law_kinds", "_law_kinds", "_law_kinds", s__law_kinds, [], []⟩,
  ⟨fun K => He.ga K "law", "law", "law", s_law, [], []⟩]
def others : List Str := (["TriedError", "BadName", "BadStep", "NoStep", "BadScheme", "WrongLength", "BadTable", "OtherSize", "NoPoint", "NoMeaning", "NoPlace", "BadArrow", "LoosePlace", "NoRun", "NotFolded", "NotOwn", "BadPrice", "BadCount", "BadModulus", "BadText", "Circle", "TooGreat", "NothingToUndo", "_law_state", "_law_draw", "_law_pick", "_law_cell", "_law_numbered", "_law_named", "_law_others"] : List Str) ++ (["_law_kinds"] : List Str)
abbrev R : PySem.W.OpenRow := PySem.W.OpenLaw.row PySem.Challenge.rw_triedtells_k77_errors_stand_apart
abbrev hk : PySem.W.Hook := hookX 5 fbs dfs
def ob (s : PySem.W.SharedT) : SeenX := seenG 5 fbs dfs (HandSHeadRun.getT s)
theorem ob_eq (s : PySem.W.SharedT) : ob s = hk.obs s.abs := seenG_eq (HandSHeadRun.getT_eq s)
set_option maxHeartbeats 0 in
theorem run (w : World) : HandSHeadRun.RunEq R (PySem.W.view R.prog [33]) hk ob 6000 others w := by
  intro os
  kernel_rfl
theorem whole {P : Program} {w : World} {K : PySem.W.Frag} {h : Heap} {mg : Str → Option Value} {f : Addr} (X : K.In h) (G : h.Ns mainGlobals mg) (hfa : mg ("law" : Str) = some (.ref f)) (c : Tells fbs dfs K) :
    ∃ fd : FuncData, (∀ (s : Shared) (v : Value), BindsTo s fd ⟨[v], []⟩ [("_law_script", v)]) ∧ ∀ base : Heap, K.In base → base.Ns mainGlobals mg → FnOk P w K mg base CX0 6 f fd ["_law_script"] (spLaw K) := by
  have T : Txt K mg := txt_of X G ⟨c.fb⟩
  obtain ⟨d0, F0⟩ := c.fx 0 rfl
  obtain ⟨d1, F1⟩ := c.fx 1 rfl
  obtain ⟨d2, F2⟩ := c.fx 2 rfl
  obtain ⟨d3, F3⟩ := c.fx 3 rfl
  obtain ⟨d4, F4⟩ := c.fx 4 rfl
  obtain ⟨d5, F5⟩ := c.fx 5 rfl
  obtain ⟨d6, F6⟩ := c.fx 6 rfl
  obtain ⟨d7, F7⟩ := c.fx 7 rfl
  obtain ⟨d8, F8⟩ := c.fx 8 rfl
  obtain ⟨d9, F9⟩ := c.fx 9 rfl
  obtain ⟨d10, F10⟩ := c.fx 10 rfl
  obtain ⟨d11, F11⟩ := c.fx 11 rfl
  obtain ⟨d12, F12⟩ := c.fx 12 rfl
  obtain ⟨d13, F13⟩ := c.fx 13 rfl
  obtain ⟨d14, F14⟩ := c.fx 14 rfl
  obtain ⟨d15, F15⟩ := c.fx 15 rfl
  obtain ⟨d16, F16⟩ := c.fx 16 rfl
  obtain ⟨d17, F17⟩ := c.fx 17 rfl
  obtain ⟨d18, F18⟩ := c.fx 18 rfl
  obtain ⟨d19, F19⟩ := c.fx 19 rfl
  obtain ⟨d20, F20⟩ := c.fx 20 rfl
  obtain ⟨d21, F21⟩ := c.fx 21 rfl
  obtain ⟨d22, F22⟩ := c.fx 22 rfl
  obtain ⟨d23, F23⟩ := c.fx 23 rfl
  obtain ⟨d24, F24⟩ := c.fx 24 rfl
  obtain ⟨d25, F25⟩ := c.fx 25 rfl
  obtain ⟨d26, F26⟩ := c.fx 26 rfl
  have e := hfa.symm.trans T.g_law
  cases e
  refine ⟨d26, fun s v => FunD.bindsA (ps := ["_law_script"]) F26 (fun _ _ _ _ _ _ us hl => match us, hl with | [_], _ => rfl) s [v] rfl, fun base _ _ => cx0_of ?_ fun vs H Q E z => z⟩
  have c_BadStep := rai_of (P := P) (w := w) (base := base) F0 T.g_BadStep T.x_BadStep T.xi_BadStep T.xt_BadStep (ok_BadStep F0 T) (fun _ _ _ _ _ _ us hl => match us, hl with | [_, _], _ => rfl)
  have c_NoStep := rai_of (P := P) (w := w) (base := base) F1 T.g_NoStep T.x_NoStep T.xi_NoStep T.xt_NoStep (ok_NoStep F1 T) (fun _ _ _ _ _ _ us hl => match us, hl with | [_, _], _ => rfl)
  have c_BadArrow := rai_of (P := P) (w := w) (base := base) F2 T.g_BadArrow T.x_BadArrow T.xi_BadArrow T.xt_BadArrow (ok_BadArrow F2 T) (fun _ _ _ _ _ _ us hl => match us, hl with | [_, _], _ => rfl)
  have c_NoRun := rai_of (P := P) (w := w) (base := base) F3 T.g_NoRun T.x_NoRun T.xi_NoRun T.xt_NoRun (ok_NoRun F3 T) (fun _ _ _ _ _ _ us hl => match us, hl with | [_, _], _ => rfl)
  have c_NotFolded := rai_of (P := P) (w := w) (base := base) F4 T.g_NotFolded T.x_NotFolded T.xi_NotFolded T.xt_NotFolded (ok_NotFolded F4 T) (fun _ _ _ _ _ _ us hl => match us, hl with | [_, _], _ => rfl)
  have c_BadPrice := rai_of (P := P) (w := w) (base := base) F5 T.g_BadPrice T.x_BadPrice T.xi_BadPrice T.xt_BadPrice (ok_BadPrice F5 T) (fun _ _ _ _ _ _ us hl => match us, hl with | [_, _], _ => rfl)
  have c_BadName := rai_of (P := P) (w := w) (base := base) F6 T.g_BadName T.x_BadName T.xi_BadName T.xt_BadName (ok_BadName F6 T) (fun _ _ _ _ _ _ us hl => match us, hl with | [_, _], _ => rfl)
  have c_NoMeaning := rai_of (P := P) (w := w) (base := base) F7 T.g_NoMeaning T.x_NoMeaning T.xi_NoMeaning T.xt_NoMeaning (ok_NoMeaning F7 T) (fun _ _ _ _ _ _ us hl => match us, hl with | [_, _], _ => rfl)
  have c_NotOwn := rai_of (P := P) (w := w) (base := base) F8 T.g_NotOwn T.x_NotOwn T.xi_NotOwn T.xt_NotOwn (ok_NotOwn F8 T) (fun _ _ _ _ _ _ us hl => match us, hl with | [_, _], _ => rfl)
  have c_BadScheme := rai_of (P := P) (w := w) (base := base) F9 T.g_BadScheme T.x_BadScheme T.xi_BadScheme T.xt_BadScheme (ok_BadScheme F9 T) (fun _ _ _ _ _ _ us hl => match us, hl with | [_, _], _ => rfl)
  have c_BadText := rai_of (P := P) (w := w) (base := base) F10 T.g_BadText T.x_BadText T.xi_BadText T.xt_BadText (ok_BadText F10 T) (fun _ _ _ _ _ _ us hl => match us, hl with | [_, _], _ => rfl)
  have c_WrongLength := rai_of (P := P) (w := w) (base := base) F11 T.g_WrongLength T.x_WrongLength T.xi_WrongLength T.xt_WrongLength (ok_WrongLength F11 T) (fun _ _ _ _ _ _ us hl => match us, hl with | [_, _, _], _ => rfl)
  have c_BadTable := rai_of (P := P) (w := w) (base := base) F12 T.g_BadTable T.x_BadTable T.xi_BadTable T.xt_BadTable (ok_BadTable F12 T) (fun _ _ _ _ _ _ us hl => match us, hl with | [_, _], _ => rfl)
  have c_OtherSize := rai_of (P := P) (w := w) (base := base) F13 T.g_OtherSize T.x_OtherSize T.xi_OtherSize T.xt_OtherSize (ok_OtherSize F13 T) (fun _ _ _ _ _ _ us hl => match us, hl with | [_, _], _ => rfl)
  have c_NoPoint := rai_of (P := P) (w := w) (base := base) F14 T.g_NoPoint T.x_NoPoint T.xi_NoPoint T.xt_NoPoint (ok_NoPoint F14 T) (fun _ _ _ _ _ _ us hl => match us, hl with | [_, _], _ => rfl)
  have c_NoPlace := rai_of (P := P) (w := w) (base := base) F15 T.g_NoPlace T.x_NoPlace T.xi_NoPlace T.xt_NoPlace (ok_NoPlace F15 T) (fun _ _ _ _ _ _ us hl => match us, hl with | [_, _], _ => rfl)
  have c_LoosePlace := rai_of (P := P) (w := w) (base := base) F16 T.g_LoosePlace T.x_LoosePlace T.xi_LoosePlace T.xt_LoosePlace (ok_LoosePlace F16 T) (fun _ _ _ _ _ _ us hl => match us, hl with | [_, _], _ => rfl)
  have c_BadCount := rai_of (P := P) (w := w) (base := base) F17 T.g_BadCount T.x_BadCount T.xi_BadCount T.xt_BadCount (ok_BadCount F17 T) (fun _ _ _ _ _ _ us hl => match us, hl with | [_, _], _ => rfl)
  have c_BadModulus := rai_of (P := P) (w := w) (base := base) F18 T.g_BadModulus T.x_BadModulus T.xi_BadModulus T.xt_BadModulus (ok_BadModulus F18 T) (fun _ _ _ _ _ _ us hl => match us, hl with | [_, _], _ => rfl)
  have c__law_state := cal_of (P := P) (w := w) (base := base) F19 T.g__law_state (ok_state F19 T) (fun _ _ _ _ _ _ us hl => match us, hl with | [_], _ => rfl)
  have c__law_draw := cal_of (P := P) (w := w) (base := base) F20 T.g__law_draw (ok_draw F20 T) (fun _ _ _ _ _ _ us hl => match us, hl with | [_, _], _ => rfl)
  have c__law_cell := cal_of (P := P) (w := w) (base := base) F21 T.g__law_cell (ok_cell F21 T) (fun _ _ _ _ _ _ us hl => match us, hl with | [_, _], _ => rfl)
  have c__law_numbered := cal_of (P := P) (w := w) (base := base) F22 T.g__law_numbered (ok_numbered F22 T c_BadStep c_NoStep c_BadArrow c_NoRun c_NotFolded c_BadPrice) (fun _ _ _ _ _ _ us hl => match us, hl with | [_], _ => rfl)
  have c__law_named := cal_of (P := P) (w := w) (base := base) F23 T.g__law_named (ok_named F23 T c_BadName c_NoMeaning c_NotOwn) (fun _ _ _ _ _ _ us hl => match us, hl with | [_], _ => rfl)
  have c__law_others := cal_of (P := P) (w := w) (base := base) F24 T.g__law_others (ok_others F24 T c_BadScheme c_BadText c_BadTable c_OtherSize c_NoPoint c_NoPlace c_LoosePlace c_BadCount c_BadModulus c_WrongLength) (fun _ _ _ _ _ _ us hl => match us, hl with | [_, _, _], _ => rfl)
  have c__law_kinds := cal_of (P := P) (w := w) (base := base) F25 T.g__law_kinds (ok_kinds F25 T) (fun _ _ _ _ _ _ us hl => match us, hl with | [_], _ => rfl)
  exact ok_law F26 T c__law_state c__law_cell c__law_draw c__law_numbered c__law_named c__law_others c__law_kinds

end TT
open PySem PySem.W PySem.Calls PyProof.Rows
set_option maxRecDepth 100000 in
set_option maxHeartbeats 0 in
theorem PySem.Challenge.cw_triedtells_k77_errors_stand_apart_holds : PySem.Challenge.rw_triedtells_k77_errors_stand_apart.Holds := by
  w_on; o_law
  refine HandSHeadRun.head_any (r := OpenLaw.row PySem.Challenge.rw_triedtells_k77_errors_stand_apart) (q := view (OpenLaw.row PySem.Challenge.rw_triedtells_k77_errors_stand_apart).prog [33])
    (H := TT.hk) (ob := TT.ob) (M := 6000) (loose := TT.others) (d := HandSHeadRun.topDef (OpenLaw.row PySem.Challenge.rw_triedtells_k77_errors_stand_apart).prog 33) (kwd := []) TT.ob_eq
    (by kernel_rfl) (fun s => by kernel_rfl) TT.run (by kernel_rfl) (by kernel_rfl) (by kernel_rfl) (by rfl) (by first | assumption | decide +kernel) (by decide +kernel) ⟨rfl, rfl, rfl, rfl, rfl, by decide +kernel⟩ ?hw ?hc
  case hw => w_witness2
  case hc =>
    refine L2.walk_ofE (l := PySem.Challenge.rw_triedtells_k77_errors_stand_apart) (n := 63) (k := 6) (x := "_law_script") (CX := L2.CX0) rfl (by decide) (by kernel_rfl) ⟨rfl, by decide, by decide⟩ ?F (fun _ _ _ _ z => z)
    intro w mg fa h Y G hmg0
    obtain ⟨K, KX, c⟩ := Y
    have hmg : mg ("law" : PySem.Str) = some (.ref fa) := by
      have e : (HandSHeadRun.topDef (OpenLaw.row PySem.Challenge.rw_triedtells_k77_errors_stand_apart).prog 33).name = ("law" : PySem.Str) := by kernel_rfl
      rw [← e]
      exact hmg0
    obtain ⟨fd, hb, hF⟩ := TT.whole (P := (PySem.Challenge.rw_triedtells_k77_errors_stand_apart).prog) (w := w) KX G hmg c
    exact ⟨K, fd, TT.spLaw K, KX, hb, fun H a ns hl _ hS => ⟨a, ns, rfl, hS, hl, fun _ => rfl⟩, hF⟩
