import PyProof.Rows.All
import Wide.All
import OpenK.AllK
import Wide.FinOn
import KE.KStateDown
import KE.KOpsOwn
import KE.GoesMore
import KE.GoesEnum
import HandS.ForMost
import HandS.ForExc
import HandS.ForSpec
import HandS.More
import HandS.Conv
import HandS.Zip
import HandS.Walk
import HandS.IsInst
import HandS.Flow
import HandS.Style
import HandS.Defaults
import HandS.ExcInit
import HandS.ExcField
import HandS.ExcIs
import HandS.TryMany
import HandS.Codes
import HandS.Star
import HandS.ClsMeth
import HandS.OwnEq
import HandS.SlotsOwn
import HandS.Wide
import HandS.Sort
import HandS.SortKw
import HandS.SortInts
import HandS.Deep
import HandS.DictComp
import HandS.ListItems
import HandS.TupLe
import HandS.TupAny
import HandS.TupMul
import HandS.DictTup
import HandS.CallSlots
import HandS.EndBits
import HandS.Head0
import HandS.Head1
import HandS.Head2
import HandS.HeadEnd
import HandS.HeadHook1
import HandS.HeadHook2
import HandS.HeadNt
import KE.KExcIs
import PySem.Challenge.RW_triedtells_k12_whole_far_schemes
set_option Elab.async false
set_option linter.all false
set_option maxRecDepth 100000
set_option maxHeartbeats 4000000
namespace TT
open PySem PySem.Spec PyProof.Rows L2

/-! ### the head: defs by addresses, facts by one Bool -/
structure DX where
  ad : PySem.W.Frag → Addr
  name : Str
  qual : Str
  st : Stmt
  dfl : List He.Dv := []
  kwd : List (Str × He.Dv) := []

def fnAt (K : PySem.W.Frag) (f : Addr) : He.FnW :=
  match K.lookup f with
  | some ⟨_, _, .func fd, _⟩ => some (fd.name, fd.qualname, fd.params, fd.body, fd.scope, fd.globals, fd.closure, fd.builtins)
  | _ => none

def fnGood (K : PySem.W.Frag) (f : Addr) (q : Str) (ds : List V) (ks : List (Str × V)) : Bool :=
  PySem.W.keepIn K (.ref f) &&
  match K.lookup f with
  | some ⟨_, _, .func fd, _⟩ => PySem.W.codeIn K fd.code q && He.dflB K fd.defaults ds && He.kwdB K fd.kwdefaults ks
  | _ => false

def DX.dvs (K : PySem.W.Frag) (d : DX) : List V := d.dfl.map fun z => z.v K
def DX.kws (K : PySem.W.Frag) (d : DX) : List (Str × V) := d.kwd.map fun z => (z.1, z.2.v K)
def DX.good (K : PySem.W.Frag) (d : DX) : Bool := fnGood K (d.ad K) d.qual (d.dvs K) (d.kws K)
def DX.want (d : DX) : He.FnW :=
  some (d.name, d.qual, defArgs d.st, .stmts (defBody d.st), defScope d.st, mainGlobals, [], builtinsNs)

abbrev FX (K : PySem.W.Frag) (x q : Str) (st : Stmt) (ds : List V) (ks : List (Str × V)) (f : Addr) (fd : FuncData) : Prop :=
  FunD K x q (defArgs st) (defBody st) (defScope st) ds ks f fd

theorem fx_of {K : PySem.W.Frag} {f : Addr} {x q : Str} {st : Stmt} {ds : List V} {ks : List (Str × V)}
    (e : fnAt K f = some (x, q, defArgs st, .stmts (defBody st), defScope st, mainGlobals, [], builtinsNs))
    (g : fnGood K f q ds ks = true) : ∃ fd, FX K x q st ds ks f fd := by
  unfold fnGood at g
  rw [Bool.and_eq_true] at g
  obtain ⟨kp, g⟩ := g
  unfold fnAt at e
  rcases hk : K.lookup f with _ | ⟨oc, od, dt, sl⟩
  · simp [hk] at g
  · rw [hk] at e g
    cases dt <;> try (simp at g; done)
    rename_i fd
    simp only [Bool.and_eq_true] at g
    obtain ⟨⟨g1, g2⟩, g3⟩ := g
    have e' := Option.some.inj e
    obtain ⟨a1, a2, a3, a4, a5, a6, a7, a8, a9, a10, a11, a12, a13, a14, a15⟩ := fd
    simp only [Prod.mk.injEq] at e'
    obtain ⟨h1, h2, h3, h4, h5, h6, h7, h8⟩ := e'
    subst h1 h2 h3 h4 h5 h6 h7 h8
    exact ⟨_, ⟨oc, od, a8, a9, a10, a11, a12, a13, a14, sl, rfl, hk, g1, He.dflB_ok g2, He.kwdB_ok g3⟩, kp⟩

abbrev SeenX : Type := Bool × List He.FnW
def seenX (fb : PySem.W.Frag → Bool) (fn : List DX) (K : PySem.W.Frag) : SeenX :=
  (fb K && fn.all (fun d => d.good K), fn.map fun d => fnAt K (d.ad K))
def wantX (fn : List DX) : SeenX := (true, fn.map DX.want)
def seenG (n : Nat) (fb : PySem.W.Frag → Bool) (fn : List DX) (g : Addr → Option Obj) : SeenX := seenX fb fn (He.frG g (cStatics :: He.asD g n))
/-- what the head's run tells of the written part -/
def Tells (fb : PySem.W.Frag → Bool) (fn : List DX) (K : PySem.W.Frag) : Prop := seenX fb fn K = wantX fn
def hookX (n : Nat) (fb : PySem.W.Frag → Bool) (fn : List DX) : PySem.W.Hook where
  α := SeenX
  obs := fun s => seenG n fb fn s.heap.get?
  val := fun _ => wantX fn
  says := fun _ h => ∃ K : PySem.W.Frag, K.In h ∧ Tells fb fn K
  of := fun _ _ e => ⟨_, He.frG_in, e⟩
  keeps := fun _ _ _ ⟨K, hK, c⟩ k => ⟨K, hK.keeps k, c⟩
theorem seenG_eq {n : Nat} {fb : PySem.W.Frag → Bool} {fn : List DX} {g : Addr → Option Obj} {s : Shared} (h : ∀ a, g a = s.heap.get? a) :
    seenG n fb fn g = (hookX n fb fn).obs s := by
  have e : g = s.heap.get? := funext h
  subst e
  rfl
theorem Tells.fb {fb : PySem.W.Frag → Bool} {fn : List DX} {K : PySem.W.Frag} (c : Tells fb fn K) : fb K = true := by
  have z : (fb K && fn.all (fun d => d.good K)) = true := congrArg Prod.fst c
  rw [Bool.and_eq_true] at z
  exact z.1
theorem Tells.fx {fb : PySem.W.Frag → Bool} {fn : List DX} {K : PySem.W.Frag} (c : Tells fb fn K) (i : Nat) {d : DX} (h : fn[i]? = some d) :
    ∃ fd, FX K d.name d.qual d.st (d.dvs K) (d.kws K) (d.ad K) fd := by
  have z : (fb K && fn.all (fun d => d.good K)) = true := congrArg Prod.fst c
  rw [Bool.and_eq_true] at z
  have y : fn.map (fun d => fnAt K (d.ad K)) = fn.map DX.want := congrArg Prod.snd c
  have y2 : (fn.map (fun d => fnAt K (d.ad K)))[i]? = (fn.map DX.want)[i]? := by rw [y]
  rw [List.getElem?_map, List.getElem?_map, h] at y2
  exact fx_of (Option.some.inj y2) (List.all_eq_true.mp z.2 d (List.mem_of_getElem? h))
end TT

set_option Elab.async false
set_option linter.all false
set_option maxRecDepth 100000
set_option maxHeartbeats 4000000
namespace TT
open PySem PySem.Spec PyProof.Rows L2

/-! ### heaps that grow -/
theorem same_new {H : Hp} {p : Addr} {o : HO} (h : H p = none) : Same H (upd H p o) := fun a u e => by
  rw [upd_ne (ne_of_none e h)]
  exact e
/-- an object that was not there may change -/
theorem same_mut {H H1 : Hp} {p : Addr} {o : HO} (s : Same H H1) (h : H p = none) : Same H (upd H1 p o) := fun a u e => by
  rw [upd_ne (ne_of_none e h)]
  exact s a u e
theorem same_t {K : PySem.W.Frag} {H H1 : Hp} {a : Addr} {xs : List V} (s : Same H H1) (h : SqT K H a xs) : SqT K H1 a xs := h.ext s
theorem same_l {K : PySem.W.Frag} {H H1 : Hp} {a : Addr} {xs : List V} (s : Same H H1) (h : SqL K H a xs) : SqL K H1 a xs := h.ext s
mutual
theorem same_d {K : PySem.W.Frag} {H H1 : Hp} (s : Same H H1) : ∀ {v : V} (d : PyData), Dp K H v d → Dp K H1 v d
  | _, .none, h => by cases h; exact .non
  | _, .bool b, h => by cases h; exact .bl b
  | _, .int i, h => by cases h; exact .int i
  | _, .str x, h => by cases h; exact .str x
  | _, .list ds, h => by
    cases h with
    | lst a b => exact .lst (same_l s a) (same_ds s ds b)
  | _, .tuple ds, h => by
    cases h with
    | tup a b => exact .tup (same_t s a) (same_ds s ds b)
  | _, .dict _, h => by cases h
theorem same_ds {K : PySem.W.Frag} {H H1 : Hp} (s : Same H H1) : ∀ {vs : List V} (ds : List PyData), DpAll K H vs ds → DpAll K H1 vs ds
  | _, [], h => by cases h; exact .nil
  | _, d :: ds, h => by
    cases h with
    | cons a b => exact .cons (same_d s d a) (same_ds s ds b)
end
/-- all but p stands -/
def But (p : Addr) (H H1 : Hp) : Prop := ∀ a o, a ≠ p → H a = some o → H1 a = some o
theorem But.refl (p : Addr) (H : Hp) : But p H H := fun _ _ _ h => h
theorem But.trans {p : Addr} {H H1 H2 : Hp} (x : But p H H1) (y : But p H1 H2) : But p H H2 := fun a o n h => y a o n (x a o n h)
theorem But.of {p : Addr} {H H1 : Hp} (s : Same H H1) : But p H H1 := fun a o _ h => s a o h
theorem But.upd {p : Addr} {H : Hp} {o : HO} : But p H (upd H p o) := fun a u n h => by rw [upd_ne n]; exact h
/-- the part without p -/
def off (H : Hp) (p : Addr) : Hp := fun a => if a = p then none else H a
theorem off_ne {H : Hp} {p a : Addr} (h : a ≠ p) : off H p a = H a := if_neg h
theorem off_at {H : Hp} {p : Addr} : off H p p = none := if_pos rfl
theorem off_sub {H : Hp} {p : Addr} : Same (off H p) H := fun a o h => by
  by_cases e : a = p
  · rw [e, off_at] at h; cases h
  · rw [off_ne e] at h; exact h
theorem But.off {p : Addr} {H H1 : Hp} (x : But p H H1) : Same (off H p) (off H1 p) := fun a o h => by
  by_cases e : a = p
  · rw [e, off_at] at h; cases h
  · rw [off_ne e] at h ⊢
    exact x a o e h
theorem off_of {p a : Addr} {H : Hp} {o : HO} (n : a ≠ p) (h : H a = some o) : TT.off H p a = some o := by rw [off_ne n]; exact h

/-! ### defs by their names, methods, makers -/
structure Cal (P : Program) (w : World) (K : PySem.W.Frag) (mg : Str → Option Value) (base : Heap) (x : Str) (k : Nat) (sp : Sp) : Prop where
  ex : ∃ f : Addr, mg x = some (.ref f) ∧ PySem.W.keepIn K (.ref f) = true ∧ FnR P w K mg base (L2.CX P w) k f sp
structure Met (P : Program) (w : World) (K : PySem.W.Frag) (mg : Str → Option Value) (base : Heap) (C : Addr) (m : Str) (k : Nat) (sp : Sp) : Prop where
  cl : Cls K C
  ex : ∃ f : Addr, Meth K C m f ∧ FnR P w K mg base (L2.CX P w) k f sp
structure Mak (P : Program) (w : World) (K : PySem.W.Frag) (mg : Str → Option Value) (base : Heap) (x : Str) (C : Addr) (k : Nat) (sp : Sp) : Prop where
  at_ : mg x = some (.ref C)
  ex : ∃ f : Addr, Mk K C f ∧ FnR P w K mg base (L2.CX P w) k f sp
/-- a static method of the class named x -/
structure Sta (P : Program) (w : World) (K : PySem.W.Frag) (mg : Str → Option Value) (base : Heap) (C : Addr) (m : Str) (k : Nat) (sp : Sp) : Prop where
  rd : PySem.W.readsIn K C (.type "type") = true
  ga : PySem.W.specialIn K (.ref C) "__getattribute__" = some (some (.builtin "type.__getattribute__"))
  ex : ∃ p f : Addr, PySem.W.findCls K (.ref C) (.type "type") m = some (.get (.builtin "staticmethod.__get__") (.ref p) .none (.ref C)) ∧
    (∃ rest, PySem.W.recIn K p "staticmethod" = some (.ref f :: rest)) ∧ PySem.W.keepIn K (.ref f) = true ∧ FnR P w K mg base (L2.CX P w) k f sp

def tF (sp : Sp) (E : XK) (t : TA) : TE := fun σ H Q => t σ H fun vs H1 => sp vs H1 Q E
def tS (C : Addr) (sp : Sp) (E : XK) (to : TE) (t : TA) : TE := fun σ H Q => to σ H fun x H1 => x = .ref C ∧ t σ H1 fun vs H2 => sp vs H2 Q E
section
variable {X : Cx} {x m : Str} {C : Addr} {k j : Nat} {sp : Sp} {E : XK} {e o : Expr} {es : List Expr} {to : TE} {t : TA} {p pos apos : Pos} {pl : Sem Bool}
theorem pe_f (c : Cal X.prog X.w X.K X.mg X.base x k sp) (hr : Room j X.A) (hk : k ≤ j) (hg : Gl X x) (hx : Passes (L2.CX X.prog X.w) X E) (ha : PA X (e :: es) t)
    (hd : (x == ("__debug__" : Str)) = false := by decide) (h1 : starEach (e :: es) X.env = (false, eval e X.env) :: starEach es X.env := by rfl)
    (h2 : (backTo pos (starEach es X.env)).any (·.1) = false := by rfl) : PE X (.Call (.Name x p) (e :: es) [] pos) (tF sp E t) := ⟨fun pins s σ H Q I h => by
  obtain ⟨f, hm, kp, F⟩ := c.ex
  exact wpAny_Call_Name_kw (ld_glob I hg hm (PySem.W.callWith_K (h₀ := X.base) I.ok.mod.kin kp
    (thn (ha.run pos pins s σ H _ I h) fun us s1 ⟨vs, H1, I1, r, q⟩ => ⟨I1.kIn, wpAny_call (run_fnR F (hr.mono hk) hx I1 r q)⟩) h1 h2) hd)⟩
theorem pe_f0 (c : Cal X.prog X.w X.K X.mg X.base x k sp) (hr : Room j X.A) (hk : k ≤ j) (hg : Gl X x) (hx : Passes (L2.CX X.prog X.w) X E)
    (hd : (x == ("__debug__" : Str)) = false := by decide) : PE X (.Call (.Name x p) [] [] pos) (tF sp E tNil) := ⟨fun pins s σ H Q I h => by
  obtain ⟨f, hm, kp, F⟩ := c.ex
  exact wpAny_Call_Name_kw (ld_glob I hg hm (PySem.W.callWith_K0 I.kIn kp (wpAny_call (run_fnR (us := []) (vs := []) F (hr.mono hk) hx I .nil h))) hd)⟩
theorem pe_m (c : Met X.prog X.w X.K X.mg X.base C m k sp) (hr : Room j X.A) (hk : k ≤ j) (hx : Passes (L2.CX X.prog X.w) X E) (ho : PE X o to) (ha : PA X (e :: es) t)
    (h1 : starEach (e :: es) X.env = (false, eval e X.env) :: starEach es X.env := by rfl) (h2 : (backTo pos (starEach es X.env)).any (·.1) = false := by rfl)
    (h3 : eval (.Call (.Attribute o m apos) (e :: es) [] pos) X.env = (eval o X.env >>= fun ov => standAt apos.atName >>= fun _ => holding [ov] (getMethod ov m pl) >>= fun fr =>
      callWith pos fr.1 fr.2 (backTo pos (starEach (e :: es) X.env)) (backToKw pos (keywordEach [] X.env))) := by rfl) :
    PE X (.Call (.Attribute o m apos) (e :: es) [] pos) (tMethR C m sp E to t) := by
  obtain ⟨f, hm, F⟩ := c.ex
  exact pe_methR (pl := pl) ho c.cl hm F (hr.mono hk) hx ha h1 h2 h3
theorem pe_m0 (c : Met X.prog X.w X.K X.mg X.base C m k sp) (hr : Room j X.A) (hk : k ≤ j) (hx : Passes (L2.CX X.prog X.w) X E) (ho : PE X o to)
    (h3 : eval (.Call (.Attribute o m apos) [] [] pos) X.env = (eval o X.env >>= fun ov => standAt apos.atName >>= fun _ => holding [ov] (getMethod ov m pl) >>= fun fr =>
      callWith pos fr.1 fr.2 (backTo pos (starEach [] X.env)) (backToKw pos (keywordEach [] X.env))) := by rfl) :
    PE X (.Call (.Attribute o m apos) [] [] pos) (tMethR C m sp E to tNil) := ⟨fun pins s σ H Q I h => by
  obtain ⟨f, hm, F⟩ := c.ex
  refine PySem.W.methodCall_KW (pl := pl) (thn (ho.run pins s σ H _ I h) fun u s1 hh => ?_) h3
  obtain ⟨v, H1, I1, rv, a, dx, fs, ev, ea, l, q⟩ := hh
  subst ev
  cases (show u = Value.ref a from rv)
  exact getmeth_ok I1 ea c.cl hm l (PySem.W.callWith_K0 (first := [.ref a]) I1.kIn hm.kp (wpAny_call (run_fnR (us := [.ref a]) (vs := [.ref a]) F (hr.mono hk) hx I1 (.cons rfl .nil) q)))⟩
theorem pe_k (c : Mak X.prog X.w X.K X.mg X.base x C k sp) (hr : Room j X.A) (hk : k + 1 ≤ j) (hg : Gl X x) (hx : Passes (L2.CX X.prog X.w) X E) (ha : PA X (e :: es) t)
    (hd : (x == ("__debug__" : Str)) = false := by decide) (h1 : starEach (e :: es) X.env = (false, eval e X.env) :: starEach es X.env := by rfl)
    (h2 : (backTo pos (starEach es X.env)).any (·.1) = false := by rfl) : PE X (.Call (.Name x p) (e :: es) [] pos) (StX.tMakeR C sp E t) := by
  obtain ⟨f, M, F⟩ := c.ex
  exact StX.pe_makeR M F (hr.mono hk) hg c.at_ hx ha hd h1 h2
theorem pe_k0 (c : Mak X.prog X.w X.K X.mg X.base x C k sp) (hr : Room j X.A) (hk : k + 1 ≤ j) (hg : Gl X x) (hx : Passes (L2.CX X.prog X.w) X E)
    (hd : (x == ("__debug__" : Str)) = false := by decide) : PE X (.Call (.Name x p) [] [] pos) (StX.tMakeR C sp E tNil) := ⟨fun pins s σ H Q I h => by
  obtain ⟨f, M, F⟩ := c.ex
  exact wpAny_Call_Name_kw (ld_glob I hg c.at_ (PySem.W.callWith_K0 I.kIn M.kp (StX.run_makeR (us := []) M F (hr.mono hk) hx I .nil h)) hd)⟩
theorem pe_s (c : Sta X.prog X.w X.K X.mg X.base C m k sp) (hr : Room j X.A) (hk : k ≤ j) (hx : Passes (L2.CX X.prog X.w) X E) (ho : PE X o to) (ha : PA X (e :: es) t)
    (h1 : starEach (e :: es) X.env = (false, eval e X.env) :: starEach es X.env := by rfl) (h2 : (backTo pos (starEach es X.env)).any (·.1) = false := by rfl)
    (h3 : eval (.Call (.Attribute o m apos) (e :: es) [] pos) X.env = (eval o X.env >>= fun ov => standAt apos.atName >>= fun _ => holding [ov] (getMethod ov m pl) >>= fun fr =>
      callWith pos fr.1 fr.2 (backTo pos (starEach (e :: es) X.env)) (backToKw pos (keywordEach [] X.env))) := by rfl) :
    PE X (.Call (.Attribute o m apos) (e :: es) [] pos) (tS C sp E to t) := ⟨fun pins s σ H Q I h => by
  obtain ⟨p, f, hf, ⟨rest, hrec⟩, kp, F⟩ := c.ex
  refine PySem.W.methodCall_KW (pl := pl) (thn (ho.run pins s σ H _ I h) fun u s1 hh => ?_) h3
  obtain ⟨v, H1, I1, rv, ev, q⟩ := hh
  subst ev
  cases (show u = Value.ref C from rv)
  refine PySem.W.method_cls I1.kIn c.ga (PySem.W.cls_bind I1.kIn c.rd hf (wpAny_call ?_))
  refine PySem.W.sm_get (s := { s1 with toks := s1.toks + 1 }) I1.kIn hrec (PySem.W.handed_on rfl ?_)
  exact PySem.W.callWith_K (first := []) (h₀ := X.base) I.ok.mod.kin kp (thn (ha.run pos pins _ σ H1 _ (I1.tok _) q) fun us s2 ⟨vs, H2, I2, r, q2⟩ =>
    ⟨I2.kIn, wpAny_call (run_fnR F (hr.mono hk) hx I2 r q2)⟩) h1 h2⟩
end

/-! ### operators of own classes -/
/-- what isinstance and the operators ask of a class -/
structure Own (K : PySem.W.Frag) (C : Addr) : Prop where
  cl : Cls K C
  ca : PySem.W.findIn K (.ref C) "__class__" = some (some (.builtin "object.__class__"))
  cn : PySem.W.specialIn K (.builtin "object.__class__") "__get__" = some (some (.builtin "getset_descriptor.__get__"))
  ct : PySem.W.takesIn K (.builtin "object.__class__") = some true
  cm : PySem.W.mroIn K C (.type "object") = some true
  sf : PySem.W.selfFirst K C = true
theorem Own.ty {K : PySem.W.Frag} {H : Hp} {a C dx : Addr} {fs : List (Str × V)} (c : Own K C) (h : H a = some (.ins C dx fs)) : TyX K H (.ref a) (.ref C) :=
  .base (.ins h c.cl c.ca c.cn c.ct c.cm)
theorem ty_t {K : PySem.W.Frag} {H : Hp} {a : Addr} {xs : List V} (h : SqT K H a xs) : TyX K H (.ref a) (.type "tuple") := by
  rcases h with (h | ⟨o, h⟩) | ⟨o, its, n, h, c, _⟩
  · exact .base (.tup h)
  · exact .fTuple h
  · exact .kTuple h c
section
variable {X : Cx} {C : Addr} {k j : Nat} {sp : Sp} {E : XK} {f : Addr}
/-- x op y by the class's own def, y of a type t that does not go first -/
def rOwnC (K : PySem.W.Frag) (C : Addr) (sp : Sp) (E : XK) : R2 := fun x y H Q => ∃ a dx fs t, x = .ref a ∧ H a = some (.ins C dx fs) ∧ TyX K H y t ∧ PySem.W.notFirst K C t = true ∧ sp [x, y] H Q E
theorem op_eqO (c : Met X.prog X.w X.K X.mg X.base C "__eq__" k sp) (hr : Room j X.A) (hk : k ≤ j) (hx : Passes (L2.CX X.prog X.w) X E) : OpR X (compareOp .Eq) (rOwnC X.K C sp E) := by
  intro pins s σ H x y v u Q I rx ry h
  obtain ⟨a, dx, fs, t, rfl, ha, ty, nf, q⟩ := h
  obtain ⟨f, hm, F⟩ := c.ex
  cases (show v = Value.ref a from rx)
  obtain ⟨mA, O, _⟩ := ins_get I.hok ha
  obtain ⟨od, J, _⟩ := O.look
  obtain ⟨P, Z, hp, _⟩ := kit_of I ry ty
  obtain ⟨m, hF⟩ := I.fr
  show wpAny _ _ (richCompare .Eq (.ref a) u) _ _ s
  refine PySem.W.cmp_K (op := .Eq) (tb := t) hr.units0 hF I.ok.mod.kin J (Z.ty _ _ I.kIn hp) nf hm.at_ hm.fn ?_
  refine wpAny_mono (wpAny_call (run_fnR (us := [.ref a, u]) (vs := [.ref a, y]) F (hr.mono hk) hx I (.cons rfl (.cons ry .nil)) q)) (fun w s' z => ?_) fun _ _ z => z
  obtain ⟨z', H', I', rz, qz⟩ := z
  exact SlX.cmpback rz ⟨z', H', I', rz, qz⟩
/-- x op y, two of one class -/
def rOwnB (C : Addr) (sp : Sp) (E : XK) : R2 := fun x y H Q => ∃ a dx fs b dy gs, x = .ref a ∧ y = .ref b ∧ H a = some (.ins C dx fs) ∧ H b = some (.ins C dy gs) ∧ sp [x, y] H Q E
theorem op_mulO (ow : Own X.K C) (c : Met X.prog X.w X.K X.mg X.base C "__mul__" k sp) (hr : Room j X.A) (hk : k ≤ j) (hx : Passes (L2.CX X.prog X.w) X E) : OpR X (binaryOp .Mult) (rOwnB C sp E) := by
  intro pins s σ H x y v u Q I rx ry h
  obtain ⟨a, dx, fs, b, dy, gs, rfl, rfl, ha, hb, q⟩ := h
  obtain ⟨f, hm, F⟩ := c.ex
  cases (show v = Value.ref a from rx)
  cases (show u = Value.ref b from ry)
  obtain ⟨mA, O, _⟩ := ins_get I.hok ha
  obtain ⟨od, J, _⟩ := O.look
  obtain ⟨mB, O', _⟩ := ins_get I.hok hb
  obtain ⟨od', J', _⟩ := O'.look
  obtain ⟨m, hF⟩ := I.fr
  refine PySem.W.binop_K (op := .Mult) hF I.ok.mod.kin J J'.type ow.sf hm.at_ hm.fn ?_
  refine wpAny_mono (wpAny_call (run_fnR (us := [.ref a, .ref b]) (vs := [.ref a, .ref b]) F (hr.mono hk) hx I (.cons rfl (.cons rfl .nil)) q)) (fun w s' z => ?_) fun _ _ z => z
  obtain ⟨z', H', I', rz, qz⟩ := z
  exact SlX.cmpback rz ⟨z', H', I', rz, qz⟩
def rOwnU (C : Addr) (sp : Sp) (E : XK) : V → Hp → VK → Prop := fun x H Q => ∃ a dx fs, x = .ref a ∧ H a = some (.ins C dx fs) ∧ sp [x] H Q E
theorem un_invO (c : Met X.prog X.w X.K X.mg X.base C "__invert__" k sp) (hr : Room j X.A) (hk : k ≤ j) (hx : Passes (L2.CX X.prog X.w) X E) : UnR X (unaryOp .Invert) (rOwnU C sp E) := by
  intro pins s σ H x v Q I rx h
  obtain ⟨a, dx, fs, rfl, ha, q⟩ := h
  obtain ⟨f, hm, F⟩ := c.ex
  cases (show v = Value.ref a from rx)
  obtain ⟨mA, O, _⟩ := ins_get I.hok ha
  obtain ⟨od, J, _⟩ := O.look
  obtain ⟨m, hF⟩ := I.fr
  exact PySem.W.ksp_inv hF I.ok.mod.kin J hm.at_ hm.fn (wpAny_call (run_fnR (us := [.ref a]) (vs := [.ref a]) F (hr.mono hk) hx I (.cons rfl .nil) q))
/-- len(x) by the class's own def -/
def rOwnL (C : Addr) (sp : Sp) (E : XK) : List V → Hp → VK → Prop := fun xs H Q => ∃ a dx fs, xs = [.ref a] ∧ H a = some (.ins C dx fs) ∧ sp [.ref a] H (fun v H' => ∃ n : Int, v = .int n ∧ 0 ≤ n ∧ n < 2 ^ 63 ∧ Q v H') E
theorem call_lenO (c : Met X.prog X.w X.K X.mg X.base C "__len__" k sp) (hr : Room j X.A) (hk : k + 1 ≤ j) (hx : Passes (L2.CX X.prog X.w) X E) : CallR X (.builtin "len") (rOwnL C sp E) := by
  intro pins s σ H xs us Q I r h
  obtain ⟨a, dx, fs, rfl, ha, q⟩ := h
  obtain ⟨f, hm, F⟩ := c.ex
  obtain ⟨u, rfl, ru⟩ := r.one
  cases (show u = Value.ref a from ru)
  obtain ⟨mA, O, _⟩ := ins_get I.hok ha
  obtain ⟨od, J, _⟩ := O.look
  obtain ⟨m, hF⟩ := I.fr
  have hr2 : Room k X.A.in1 := (show Room (k + 1) X.A from hr.mono hk).in1
  refine PySem.W.len_K hF I.ok.mod.kin J hm.at_ hm.fn (wpAny_mono (wpAny_call (SlX.run_at (us := [.ref a]) (ws := [.ref a]) F hr2 I.env0.in1 hx I (.cons rfl .nil) q)) (fun w s' z => ?_) fun _ _ z => z)
  obtain ⟨z', H', I', rz, n, en, n0, n1, qz⟩ := z
  subst en
  obtain ⟨t, e⟩ := (show ∃ t, w = Value.int n t from rz)
  subst e
  exact ⟨⟨n0, n1⟩, .int n, H', I'.tok _, ⟨_, rfl⟩, qz⟩
theorem CallR_or {g : Value} {r r' : List V → Hp → VK → Prop} (h : CallR X g r) (h' : CallR X g r') : CallR X g (fun xs H Q => r xs H Q ∨ r' xs H Q) := h.or h'
theorem OpR_or {g : Value → Value → Sem Value} {r r' : R2} (h : OpR X g r) (h' : OpR X g r') : OpR X g (fun x y H Q => r x y H Q ∨ r' x y H Q) := by
  intro pins s σ H x y v u Q I rx ry q
  rcases q with q | q
  · exact h pins s σ H x y v u Q I rx ry q
  · exact h' pins s σ H x y v u Q I rx ry q
theorem UnR_or {g : Value → Sem Value} {r r' : V → Hp → VK → Prop} (h : UnR X g r) (h' : UnR X g r') : UnR X g (fun x H Q => r x H Q ∨ r' x H Q) := by
  intro pins s σ H x v Q I rx q
  rcases q with q | q
  · exact h pins s σ H x v Q I rx q
  · exact h' pins s σ H x v Q I rx q
end
end TT

set_option Elab.async false
set_option linter.all false
set_option maxRecDepth 100000
set_option maxHeartbeats 4000000
namespace PySem
open Sem (wp)
open AutoSeq1 (wpAny_loadPart')
set_option maxHeartbeats 1000000 in
/-- enumerate(t), t a tuple: the two new cells -/
theorem tt_enum_new (t : Addr) (items : Array Value) :
    Meets (Builtin.«enumerate.__new__» ⟨[.type "enumerate", .ref t], []⟩) (fun _ R s => s.heap.IsTuple t items ∧
      R (.ok (.ret (.ref (s.heap.push { cls := .type "tuple_iterator", data := .fields #[.ref t, .int 0 0] }).objs.size)))
        { s with heap := ((s.heap.push { cls := .type "tuple_iterator", data := .fields #[.ref t, .int 0 0] }).push ({ cls := .type "enumerate", data := .fields #[.none, .bool false, .ref s.heap.objs.size, rawInt 0, .none, .none] } : Obj)) }) :=
  .of_wp fun prog w A R s h => by
    obtain ⟨hp, g, d, tk, os⟩ := s
    obtain ⟨hl, h⟩ := h
    have hsub := sub_enumerate
    have hT : Heap.IsTuple (Shared.heap ⟨hp, g, d, tk, os⟩) t items := hl
    wp_walk
    refine wpAny_stack_any fun st => wpAny_pure ?_
    split
    · rename_i c _ _ _ _ _
      cases (c == Value.type "enumerate") <;>
        (wp_walk using wpAny_pyIter_tuple hT; exact ⟨_, rfl, h⟩)
    · wp_walk using wpAny_pyIter_tuple hT
      exact ⟨_, rfl, h⟩
theorem tt_enum_tuple {prog : Program} {w : World} {A : Around} {E : Value → Shared → Prop} {s : Shared} {t : Addr} {items : Array Value} {Q : Value → Shared → Prop} (ht : s.heap.IsTuple t items)
    (h : ∀ h', IsEnum h' (s.heap.objs.size + 1) s.heap.objs.size 0 .none → h'.IsTupleIter s.heap.objs.size t 0 →
      (∀ b o, s.heap.get? b = some o → h'.get? b = some o) → Q (.ref (s.heap.objs.size + 1)) { s with heap := h' }) :
    wpAny (model prog w) A (call (.type "enumerate") [.ref t]) Q E s := by
  refine callType_new F.called_enumerate (by decide) (F.typeCall_enumerate_1 _) (F.newCall_enumerate_1 _) (fun obj => F.args_object_init_2 obj _) F.entry_enumerate_new (tt_enum_new t items) ⟨ht, ?_⟩
  generalize ho : ({ cls := .type "tuple_iterator", data := .fields #[.ref t, .int 0 0] } : Obj) = o
  have hz : (s.heap.push o).objs.size = s.heap.objs.size + 1 := Heap.size_push ..
  have fr : o.isFreed = false := by subst ho; rfl
  show _ ∧ _
  rw [hz]
  generalize hn : ({ cls := .type "enumerate", data := .fields #[.none, .bool false, .ref s.heap.objs.size, rawInt 0, .none, .none] } : Obj) = en
  have fe : en.isFreed = false := by subst hn; rfl
  have z := Heap.get?_push_size (s.heap.push o) fe
  rw [hz] at z
  have he : IsEnum ((s.heap.push o).push en) (s.heap.objs.size + 1) s.heap.objs.size 0 .none := by
    subst hn
    exact z
  refine ⟨⟨_, he, rfl⟩, h _ he ⟨o, Heap.get?_push_of_some _ (Heap.get?_push_size _ fr), by subst ho; rfl, by subst ho; rfl⟩ fun b ob x => ?_⟩
  exact Heap.get?_push_of_some _ (Heap.get?_push_of_some _ x)
end PySem
namespace TT
open PySem PySem.Spec PyProof.Rows L2

/-! ### enumerate of a tuple -/
def Iet (K : PySem.W.Frag) (a : Addr) : It where
  go := fun i H => ∃ (xs : List V) (x : V), SqT K H a xs ∧ xs[i]? = some x
  yld := fun i H v H' => ∃ q x, v = .ref q ∧ H q = none ∧ H' = upd H q (.tup [.int (i : Nat), x]) ∧ ∀ xs, SqT K H a xs → xs[i]? = some x
  stop := fun i H => ∃ xs : List V, SqT K H a xs ∧ xs.length ≤ i
theorem turn_et {P : Program} {w : World} {K : PySem.W.Frag} {elts : List Expr} {kk : Nat} {tpos : Pos} (a e it : Addr) (hai : a ≠ it) :
    Turn P w K (.Tuple elts kk tpos) (Iet K a) [e, it] e (fun i h => (∃ old, IsEnum h e it ((i : Nat) : Int) old) ∧ h.IsTupleIter it a i ∧ e ≠ it ∧ e ≠ a) where
  mem := by simp
  obj := fun i h st b hb => by
    obtain ⟨⟨old, he⟩, ⟨o, ho, hc, hd⟩, _⟩ := st
    rcases (show b = e ∨ b = it by simpa using hb) with rfl | rfl
    · exact ⟨_, he, fun v q => nomatch q⟩
    · exact ⟨o, ho, fun v q => by rw [hd] at q; cases q⟩
  keep := fun i h h' st k => by
    obtain ⟨⟨old, he⟩, hi, hne⟩ := st
    exact ⟨⟨old, k e (by simp) _ he⟩, hi.at fun o q => k it (by simp) o q, hne⟩
  item := by
    intro X hP hw hK hc i pins s σ H E I hf st hg
    subst hP hw hK
    obtain ⟨⟨old, he⟩, hit, hne, hea⟩ := st
    obtain ⟨xs, x, hq, hx⟩ := hg
    obtain ⟨its, rv, p, hz⟩ := I.tuple hq
    obtain ⟨u, hu, ru⟩ := rv.get hx
    have le : e < s.heap.objs.size := Heap.lt_size he
    have li : it < s.heap.objs.size := by obtain ⟨_, q, _⟩ := hit; exact Heap.lt_size q
    have hlt : i < its.toArray.size := by
      have := (List.getElem?_eq_some_iff.mp hu).1
      simpa using this
    have D := Draws.tuple (prog := X.prog) (w := X.w) (A := X.A.in1) (I.ok.hd hc) it a hai its.toArray
    refine wpAny_pyNext_enum_itemD D he ⟨hit, p⟩ hlt hne (by simp [hne, hea]) fun y h' tk hy ho st' hT hsz hk => ?_
    have ey : y = u := by
      have z : its.toArray[i]? = some u := by simpa using hu
      rw [z] at hy
      exact (Option.some.inj hy).symm
    subst ey
    refine ⟨_, rfl, wpAny_letOwnedTupleGo_enum (s := { s with heap := h', toks := tk + 1 }) ho fun h2 he' sb => ?_⟩
    have hT2 := (sb.2 _ (Nat.ne_of_gt le)).trans hT
    have new : ObjOk X.prog X.w (upd H s.heap.objs.size (.tup [.int (i : Nat), x])) h2 s.heap.objs.size (.tup [.int (i : Nat), x]) :=
      ⟨by show 2 ≤ sizeLine; decide, [.int i tk, y], .cons ⟨_, rfl⟩ (.cons ru .nil), ⟨_, hT2, rfl, _, rfl⟩⟩
    have I1 := I.turnedNew (t' := tk + 1) (ch := [e, it]) (h' := h2) (fun b ob hb q => (sb.2 b (fun z => hb (by simp [z]))).trans
      (hk b ob (fun z => hb (by simp [z])) (fun z => hb (by simp [z])) q)) hf (Nat.le_refl _) new
    refine ⟨.ref s.heap.objs.size, _, I1, rfl, ⟨_, x, rfl, I.hok.fresh (Nat.le_refl _), rfl, fun ys hy' => by rw [I.tuple_inj hy' hq]; exact hx⟩,
      ⟨⟨y, ?_⟩, st'.1.at fun o q => (sb.2 it (Ne.symm hne)).trans q, hne, hea⟩, fun b hb => ?_⟩
    · have e1 : ((i + 1 : Nat) : Int) = (i : Int) + 1 := by omega
      rw [e1]
      exact he'
    · have hb' : b < s.heap.objs.size := by
        rcases (show b = e ∨ b = it by simpa using hb) with rfl | rfl
        · exact le
        · exact li
      rw [upd_ne (Nat.ne_of_lt hb')]
      exact (hf b hb).1
  done := by
    intro X hP hw hK hc i pins s σ H E I hf st hg
    subst hP hw hK
    obtain ⟨⟨old, he⟩, hit, hne, hea⟩ := st
    obtain ⟨xs, hq, hx⟩ := hg
    obtain ⟨its, rv, p, hz⟩ := I.tuple hq
    obtain ⟨f0, f1, f2, f3, f4, f5⟩ := hf it (by simp)
    have hl := rv.length
    refine wpAny_bind (wpAny_attempt (wpAny_callSpecial?_slot (name := Str.ofString "__next__") ⟨_, he, rfl⟩ F.slot_enumerate_next
      (wpAny_call_entry F.slot_enumerate_next ⟨_, he, rfl⟩ F.entry_enumerate_next ?_ (F.args_enumerate_next_1 _))))
    show wpAny _ _ (field (.ref e) 2 >>= _) _ _ _
    refine wpAny_bind (wpAny_field he rfl (x := .ref it) rfl ?_)
    refine wpAny_bind (wpAny_nextOf_tuple_end (A := X.A.in1) (I.ok.hd hc) hit p (by simp; omega) fun h' x he' hx' => ?_)
    obtain ⟨o, ho, hcl⟩ := hx'
    refine wpAny_bind (wpAny_isInstance (T := "StopIteration") (b := true) ⟨o, ho, hcl⟩ isSubtype_stop ?_)
    exact wpAny_pure ⟨rfl, I.turned (t' := s.toks) (fun b o hb q => he' b o hb q) f0 f1 f3 f4 f5⟩
  self := fun A i s Q E st h => let ⟨⟨_, he⟩, _⟩ := st; wpAny_pyIter_enum he h
def iEt (K : PySem.W.Frag) (ta : TA) : TI := fun σ H R => ta σ H fun vs H1 => ∃ a xs, vs = [.ref a] ∧ SqT K H1 a xs ∧ R (Iet K a) H1
theorem pi_enumT {X : Cx} {e : Expr} {ta : TA} {p pos tpos : Pos} {elts : List Expr} {kk : Nat} (hg : Gl X "enumerate") (hm : X.mg "enumerate" = none) (ha : PA X [e] ta) (hs : starEach [e] X.env = [(false, eval e X.env)] := by rfl) :
    PI X (.Tuple elts kk tpos) (.Call (.Name "enumerate" p) [e] [] pos) (iEt X.K ta) := by
  refine ⟨fun pins s σ H R I h => Call_ (ld_blt I hg hm boot_enumerate (PyProof.Rows.callWith_type1 (thn (ha.run pos pins s σ H _ I h) fun us s1 hh => ?_) hs rfl))⟩
  obtain ⟨vs, H1, I1, r1, a, xs, ex, hq, q⟩ := hh
  subst ex
  cases r1 with
  | cons r rr =>
    cases rr
    cases r
    obtain ⟨its, rv, p', hz⟩ := I1.tuple hq
    have la : a < s1.heap.objs.size := by obtain ⟨_, z, _⟩ := p'; exact Heap.lt_size z
    refine tt_enum_tuple p' fun h' he hit hk => wpAny_pyIter_enum he ?_
    have I2 : Inv X pins σ H1 { s1 with heap := h' } := I1.kept (t' := s1.toks) hk
    refine ⟨s1.heap.objs.size + 1, [s1.heap.objs.size + 1, s1.heap.objs.size], _, _, H1, rfl, I2, turn_et a (s1.heap.objs.size + 1) s1.heap.objs.size (Nat.ne_of_lt la),
      ⟨⟨.none, he⟩, hit, Nat.succ_ne_self _, (Nat.ne_of_gt (Nat.lt_succ_of_lt la))⟩, fun b hb => ?_, q⟩
    have hle : s1.heap.objs.size ≤ b := by
      rcases (show b = s1.heap.objs.size + 1 ∨ b = s1.heap.objs.size by simpa using hb) with rfl | rfl
      · exact Nat.le_add_right _ _
      · exact Nat.le_refl _
    exact I1.fpOk hle (I1.hok.fresh hle)
theorem walk_et {K : PySem.W.Frag} {a : Addr} {xs : List V} : Walk (Iet K a) xs.length (fun H => SqT K H a xs) (YPair (fun i => some (.int (i : Nat))) (fun i => xs[i]?)) where
  goes := fun i H hi hq => ⟨xs, xs[i], hq, by simp [hi]⟩
  stops := fun H hq => ⟨xs, hq, Nat.le_refl _⟩
  yields := fun i H v H' hi hq ⟨q, x, e1, e2, e3, e4⟩ => ⟨q, _, x, e1, e2, e3, rfl, e4 xs hq⟩

/-! ### unions -/
def rAddU (K : PySem.W.Frag) : R2 := fun x y H Q => (rI0 fun i j => .int (i + j)) x y H Q ∨ rCat x y H Q ∨ rCatA K x y H Q
def rMulU (K : PySem.W.Frag) : R2 := fun x y H Q => rI CMul (fun i j => .int (i * j)) x y H Q ∨ rRep x y H Q
def rEqU (K : PySem.W.Frag) : R2 := fun x y H Q => rEq x y H Q ∨ rEqD K x y H Q
def rNeU (K : PySem.W.Frag) : R2 := fun x y H Q => rNe x y H Q ∨ rNeD K x y H Q
def rLenU (K : PySem.W.Frag) : List V → Hp → VK → Prop := fun xs H Q => ∃ p ys, xs = [.ref p] ∧ (SqL K H p ys ∨ SqT K H p ys) ∧ Q (.int ys.length) H
def rSlU (K : PySem.W.Frag) : V → Option Int → Option Int → Hp → VK → Prop := fun x lo hi H Q => rSlL K x lo hi H Q ∨ rSlA K x lo hi H Q
section
variable {X : Cx}
theorem op_addU : OpR X (binaryOp .Add) (rAddU X.K) := OpR_or op_add (OpR_or op_cat op_catA)
theorem op_mulU : OpR X (binaryOp .Mult) (rMulU X.K) := OpR_or op_mul op_rep
theorem op_eqU (hu : X.A.units + 64 < cLine) : OpR X (compareOp .Eq) (rEqU X.K) := OpR_or op_eq (op_eqD hu)
theorem op_neU (hu : X.A.units + 64 < cLine) : OpR X (compareOp .NotEq) (rNeU X.K) := OpR_or op_ne (op_neD hu)
theorem call_lenU : CallR X (.builtin "len") (rLenU X.K) := call_len_seq
theorem sl_U : SlR X (rSlU X.K) := sl_list.or sl_tupA
variable {K : PySem.W.Frag}
theorem opK {g : Value → Value → Sem Value} {r : PySem.W.Frag → R2} (h : OpR X g (r X.K)) (hK : X.K = K) : OpR X g (r K) := by subst hK; exact h
theorem k_add (hK : X.K = K) : OpR X (binaryOp .Add) (rAddU K) := opK (r := rAddU) op_addU hK
theorem k_mul (hK : X.K = K) : OpR X (binaryOp .Mult) (rMulU K) := opK (r := rMulU) op_mulU hK
theorem k_eq (hK : X.K = K) (hu : X.A.units + 64 < cLine) : OpR X (compareOp .Eq) (rEqU K) := opK (r := rEqU) (op_eqU hu) hK
theorem k_ne (hK : X.K = K) (hu : X.A.units + 64 < cLine) : OpR X (compareOp .NotEq) (rNeU K) := opK (r := rNeU) (op_neU hu) hK
theorem k_in (hK : X.K = K) : OpR X (compareOp .In) (rIn K false) := opK (r := fun K => rIn K false) op_in_seq hK
theorem k_notin (hK : X.K = K) : OpR X (compareOp .NotIn) (rIn K true) := opK (r := fun K => rIn K true) op_notIn_seq hK
theorem k_len (hK : X.K = K) : CallR X (.builtin "len") (rLenU K) := by subst hK; exact call_lenU
theorem k_isi (hK : X.K = K) : CallR X (.builtin "isinstance") (rIsi K) := by subst hK; exact call_isi
theorem k_sum (hK : X.K = K) (hc : X.calm = true) : CallR X (.builtin "sum") (rSum K) := by subst hK; exact cr_sum hc
theorem k_all (hK : X.K = K) (hc : X.calm = true) : CallR X (.builtin "all") (rAll K) := by subst hK; exact cr_all hc
theorem k_any (hK : X.K = K) (hc : X.calm = true) : CallR X (.builtin "any") (rAny K) := by subst hK; exact cr_any hc
theorem k_ix (hK : X.K = K) : IxR X (rIx K) := by subst hK; exact ix_seq
theorem k_sl (hK : X.K = K) : SlR X (rSlU K) := by subst hK; exact sl_U
theorem k_index (hK : X.K = K) : MtR X "list.index" (rIndex K) := by subst hK; exact mt_index
section
variable {e : Expr} {te : TE} {f : Str} {pos pos' : Pos} {o value : Expr} {ta tv : TE} {tg l : Expr} {ts : TA} {es : List Expr}
theorem k_fld (hK : X.K = K) (he : PE X e te) (hb : attributeBase e f X.env (eval e X.env) = eval e X.env := by rfl) : PE X (.Attribute e f pos) (tFld K te f) := by subst hK; exact pe_fld he hb
theorem k_put (hK : X.K = K) (ha : PE X o ta) (hv : PE X value tv) (hs : swapsWith value (some (.Attribute o f pos')) pos.line X.env = pure false := by rfl) : PS X (.Assign [.Attribute o f pos'] value pos) (sFld K ta tv f) := by subst hK; exact ps_fld ha hv hs
def tTr (K : PySem.W.Frag) (ta : TE) : TT := fun σ H Q => ta σ H fun x H' => ∃ k, TruV K x H' k ∧ Q k H'
theorem k_tr (hK : X.K = K) (ha : PE X e te) (he : ∀ whole, isTrue e X.env whole = (do let v ← whole; standAt e.pos; holding [v] (truthy v)) := by intro _; rfl) : PT X e (tTr K te) := by subst hK; exact pt_truth ha he
theorem k_not (hK : X.K = K) (ha : PE X e te) : PE X (.UnaryOp .Not e pos) (tNotT K te) := by subst hK; exact pe_notT ha
theorem k_iL (hK : X.K = K) (hl : PE X l te) : PI X tg l (iList K te) := by subst hK; exact pi_list hl
theorem k_iT (hK : X.K = K) (hl : PE X l te) : PI X tg l (iTup K te) := by subst hK; exact pi_tup hl
theorem k_iE {elts : List Expr} {kk : Nat} {p tpos : Pos} (hK : X.K = K) (hg : Gl X "enumerate") (hm : X.mg "enumerate" = none) (ha : PA X [e] ts) (hs : starEach [e] X.env = [(false, eval e X.env)] := by rfl) : PI X (.Tuple elts kk tpos) (.Call (.Name "enumerate" p) [e] [] pos) (iEnum K ts) := by subst hK; exact pi_enum hg hm ha hs
theorem k_iEt {elts : List Expr} {kk : Nat} {p tpos : Pos} (hK : X.K = K) (hg : Gl X "enumerate") (hm : X.mg "enumerate" = none) (ha : PA X [e] ts) (hs : starEach [e] X.env = [(false, eval e X.env)] := by rfl) : PI X (.Tuple elts kk tpos) (.Call (.Name "enumerate" p) [e] [] pos) (iEt K ts) := by subst hK; exact pi_enumT hg hm ha hs
theorem k_gtup {k : Nat} {t : TGs} {n : Nat} (hK : X.K = K) (hc : X.calm = true) (h : PGs X es t) (hn : (assignEach es X.env).length = n := by rfl) (hst : (assignEach es X.env).findIdx? (·.1) = none := by rfl) : PG X (.Tuple es k pos) (gTup K n t) := by subst hK; exact pg_tup hc h hn hst
theorem k_bm0 {T : String} {name : Str} {id : String} {r : V → List V → Hp → VK → Prop} {apos cpos : Pos} (hK : X.K = K) (pa : PlainAttrs T) (slot : Slot T name id) (hty : typeOf (.builtin id) = pure (.type "method_descriptor")) (hm : MtR X id r) (ho : PE X o te)
    (h1 : attributeBase o name X.env (eval o X.env) = eval o X.env := by rfl) (h2 : (apos.endLine == cpos.line) = true := by rfl) : PE X (.Call (.Attribute o name apos) [] [] cpos) (tBM0 K T r te) := by
  subst hK
  exact pe_bm0 pa slot hty hm ho h1 h2
theorem k_bm {T : String} {name : Str} {id : String} {r : V → List V → Hp → VK → Prop} {apos cpos : Pos} {e1 : Expr} (hK : X.K = K) (pa : PlainAttrs T) (slot : Slot T name id) (hty : typeOf (.builtin id) = pure (.type "method_descriptor")) (hm : MtR X id r) (ho : PE X o te) (ha : PA X (e1 :: es) ts)
    (h1 : attributeBase o name X.env (eval o X.env) = eval o X.env := by rfl) (h2 : ((backTo cpos (starEach (e1 :: es) X.env)).all (fun x => !x.1) && (backToKw cpos (keywordEach [] X.env)).all (fun x => x.1.isSome) && decide ((e1 :: es).length + ([] : List Keyword).length + (if ([] : List Keyword).isEmpty then 0 else 1) < 30)) = true := by rfl)
    (h3 : (apos.endLine == cpos.line) = true := by rfl) (h4 : starEach (e1 :: es) X.env = (false, eval e1 X.env) :: starEach es X.env := by rfl) (h5 : (backTo cpos (starEach es X.env)).any (·.1) = false := by rfl) : PE X (.Call (.Attribute o name apos) (e1 :: es) [] cpos) (tBM K T r te ts) := by
  subst hK
  exact pe_bm pa slot hty hm ho ha h1 h2 h3 h4 h5
end
theorem pe_gv {x : Str} {pos : Pos} {v : V} (hg : Gl X x) (h : ∃ u, X.mg x = some u ∧ RelV v u) (hd : (x == ("__debug__" : Str)) = false := by decide) : PE X (.Name x pos) (tC v) := by
  obtain ⟨u, h1, h2⟩ := h
  exact pe_glob hg h1 h2 hd
end
end TT

set_option Elab.async false
set_option linter.all false
set_option maxRecDepth 100000
set_option maxHeartbeats 4000000
namespace TT
open PySem PySem.Spec PyProof.Rows L2
/-! ### readings, step by step -/
def rNewL (xs : List V) (H : Hp) (Q : VK) : Prop := xs.length ≤ sizeLine ∧ ∀ p, H p = none → Q (.ref p) (upd H p (.lst xs))
def rNewT (xs : List V) (H : Hp) (Q : VK) : Prop := xs.length ≤ sizeLine ∧ ∀ p, H p = none → Q (.ref p) (upd H p (.tup xs))
def rFld (K : PySem.W.Frag) (f : Str) (x : V) (H : Hp) (Q : VK) : Prop := ∃ a C dx fs v, x = .ref a ∧ H a = some (.ins C dx fs) ∧ Cls K C ∧ NoAttr K C f ∧ fs.lookup f = some v ∧ Q v H
def rPut (K : PySem.W.Frag) (f : Str) (x y : V) (H : Hp) (R : Hp → Prop) : Prop := ∃ a C dx fs, x = .ref a ∧ H a = some (.ins C dx fs) ∧ Cls K C ∧ NoAttr K C f ∧ fs.length < 1000 ∧ R (upd H a (.ins C dx (putF f y fs)))
def rInt1 : List V → Hp → VK → Prop := fun xs H Q => (∃ i, xs = [.int i] ∧ Q (.int i) H) ∨ ∃ k, xs = [.bl k] ∧ Q (.int (if k then 1 else 0)) H
theorem call_int1U {X : Cx} : CallR X (.type "int") rInt1 := call_int1
def rListU (K : PySem.W.Frag) : List V → Hp → VK → Prop := fun xs H Q => ∃ p ys, xs = [.ref p] ∧ (SqL K H p ys ∨ SqT K H p ys) ∧ ∀ l, H l = none → Q (.ref l) (upd H l (.lst ys))
theorem k_list {X : Cx} {K : PySem.W.Frag} (hK : X.K = K) : CallR X (.type "list") (rListU K) := by subst hK; exact call_list_of
def rTupU (K : PySem.W.Frag) : List V → Hp → VK → Prop := fun xs H Q => ∃ p ys, xs = [.ref p] ∧ ((SqL K H p ys ∧ ∀ l, H l = none → Q (.ref l) (upd H l (.tup ys))) ∨ (SqT K H p ys ∧ Q (.ref p) H))
theorem k_tuple {X : Cx} {K : PySem.W.Frag} (hK : X.K = K) : CallR X (.type "tuple") (rTupU K) := by subst hK; exact call_tuple_of
section
variable {K : PySem.W.Frag} {σ : L2.St} {H H1 : Hp} {Q : VK} {QA : List V → Hp → Prop} {QB : Bool → Hp → Prop} {D : Ends} {t u : TS} {ta tb tc te : TE} {ts : TA} {tt : TT} {i : Nat} {v x y : V} {a p b : Addr} {xs ys : List V} {m n : Int}
theorem g_seq (h : t { D with nx := u D } σ H) : tSeq t u D σ H := h
theorem g_next (h : D.nx σ H) : tNext D σ H := h
theorem g_set (h : te σ H fun z H1 => D.nx (σ.set i (some z)) H1) : tAsg te (gName i) D σ H := h
theorem g_asg {g : TG} (h : te σ H fun z H1 => g z σ H1 D.nx) : tAsg te g D σ H := h
theorem g_sub {to ti : TE} {r : TSet} {R : L2.St → Hp → Prop} (h : to σ H fun o H1 => ti σ H1 fun j H2 => r o j v H2 fun H3 => R σ H3) : gSub to ti r v σ H R := h
theorem g_aug {ti : TIp} (h : σ[i]? = some (some x)) (q : te σ H fun y H1 => ti x y H1 fun z H2 => D.nx (σ.set i (some z)) H2) : tAug i te ti D σ H := ⟨x, h, q⟩
theorem g_par {j : Nat} (h : ts σ H fun vs H1 => ∃ v w, vs = [v, w] ∧ D.nx ((σ.set i (some v)).set j (some w)) H1) : tPar i j ts D σ H := h
theorem a_two {w : V} {R : V → V → Prop} (h : R v w) : ∃ v' w', [v, w] = [v', w'] ∧ R v' w' := ⟨v, w, rfl, h⟩
theorem g_drop (h : te σ H fun _ H1 => D.nx σ H1) : tDrop te D σ H := h
theorem g_ret (h : te σ H D.rt) : tRet te D σ H := h
theorem g_var (h : σ[i]? = some (some v)) (q : Q v H) : tVar i σ H Q := ⟨v, h, q⟩
theorem g_c (q : Q v H) : tC v σ H Q := q
theorem g_op {r : R2} (h : ta σ H fun x H1 => tb σ H1 fun y H2 => r x y H2 Q) : tOp r ta tb σ H Q := h
theorem g_un {r : V → Hp → VK → Prop} (h : ta σ H fun x H1 => r x H1 Q) : tUn r ta σ H Q := h
theorem g_nil (q : QA [] H) : tNil σ H QA := q
theorem g_cons (h : ta σ H fun x H1 => ts σ H1 fun xs H2 => QA (x :: xs) H2) : tCons ta ts σ H QA := h
theorem g_cb {r : List V → Hp → VK → Prop} (h : ts σ H fun vs H1 => r vs H1 Q) : tCB r ts σ H Q := h
theorem g_if {c : TT} (h : c σ H fun b H1 => if b = true then t D σ H1 else u D σ H1) : tIfS c t u D σ H := h
theorem g_ife {c : TT} (h : c σ H fun b H1 => if b = true then ta σ H1 Q else tb σ H1 Q) : tIf c ta tb σ H Q := h
theorem g_test (h : te σ H fun x H' => ∃ k, x = .bl k ∧ QB k H') : tTest te σ H QB := h
theorem a_bl {c : Bool} {R : Bool → Prop} (h : R c) : ∃ k, V.bl c = .bl k ∧ R k := ⟨c, rfl, h⟩
theorem g_tr (h : ta σ H fun x H1 => ∃ k, TruV K x H1 k ∧ QB k H1) : tTr K ta σ H QB := h
theorem g_not {c : TT} (h : c σ H fun b H1 => QB (!b) H1) : tNot c σ H QB := h
theorem g_or {c d : TT} (h : c σ H fun b H1 => if b = true then QB true H1 else d σ H1 QB) : tOr c d σ H QB := h
theorem g_and {c d : TT} (h : c σ H fun b H1 => if b = true then d σ H1 QB else QB false H1) : tAnd c d σ H QB := h
theorem g_F {sp : Sp} {E : XK} (h : ts σ H fun vs H1 => sp vs H1 Q E) : tF sp E ts σ H Q := h
theorem g_S {C : Addr} {sp : Sp} {E : XK} (h : te σ H fun x H1 => x = .ref C ∧ ts σ H1 fun vs H2 => sp vs H2 Q E) : tS C sp E te ts σ H Q := h
theorem g_lst (h : ts σ H fun xs H1 => rNewL xs H1 Q) : tLst ts σ H Q := h
theorem g_tup (h : ts σ H fun xs H1 => rNewT xs H1 Q) : tTup ts σ H Q := h
theorem g_fld {f : Str} (h : ta σ H fun x H1 => rFld K f x H1 Q) : tFld K ta f σ H Q := h
theorem g_sfld {f : Str} (h : tb σ H fun y H1 => ta σ H1 fun x H2 => rPut K f x y H2 fun H3 => D.nx σ H3) : sFld K ta tb f D σ H := h
theorem g_methR {C : Addr} {f : Str} {sp : Sp} {E : XK} (h : ta σ H fun x H1 => ∃ a dx fs, x = .ref a ∧ H1 a = some (.ins C dx fs) ∧ fs.lookup f = none ∧ ts σ H1 fun vs H2 => sp (x :: vs) H2 Q E) : tMethR C f sp E ta ts σ H Q := h
theorem g_andV (h : ta σ H fun x H1 => ∃ c, x = .bl c ∧ if c = true then tb σ H1 Q else Q (.bl false) H1) : tAndV ta tb σ H Q := h
theorem g_orV (h : ta σ H fun x H1 => ∃ c, x = .bl c ∧ if c = true then Q (.bl true) H1 else tb σ H1 Q) : tOrV ta tb σ H Q := h
theorem g_notT (h : ta σ H fun x H1 => ∃ k, TruV K x H1 k ∧ Q (.bl (!k)) H1) : tNotT K ta σ H Q := h
theorem g_chain {r r' : R2} (h : ta σ H fun x H1 => tb σ H1 fun y H2 => r x y H2 fun z H3 => ∃ k, z = .bl k ∧ (if k = true then tc σ H3 fun w' H4 => r' y w' H4 Q else Q (.bl false) H3)) : tChain r r' ta tb tc σ H Q := h
theorem g_bm {T : String} {r : V → List V → Hp → VK → Prop} (h : ta σ H fun x H1 => tyV K T x H1 ∧ ts σ H1 fun xs H2 => r x xs H2 Q) : tBM K T r ta ts σ H Q := h
theorem g_bm0 {T : String} {r : V → List V → Hp → VK → Prop} (h : ta σ H fun x H1 => tyV K T x H1 ∧ r x [] H1 Q) : tBM0 K T r ta σ H Q := h
theorem g_sl {r : V → Option Int → Option Int → Hp → VK → Prop} {tl th : TO} (h : te σ H fun x H1 => tl σ H1 fun l H2 => th σ H2 fun u H3 => r x l u H3 Q) : tSl r te tl th σ H Q := h
theorem g_nop {R : Option Int → Hp → Prop} (q : R none H) : tNoPart σ H R := q
theorem g_part {R : Option Int → Hp → Prop} (h : te σ H fun x H1 => ∃ i, x = .int i ∧ R (some i) H1) : tPart te σ H R := h
theorem a_int {R : Int → Prop} (h : R n) : ∃ i, V.int n = .int i ∧ R i := ⟨n, rfl, h⟩
/-! values that have come -/
theorem a_addI (q : Q (.int (m + n)) H) : rAddU K (.int m) (.int n) H Q := .inl ⟨_, _, rfl, rfl, q⟩
theorem a_mulI (hc : CMul m n) (q : Q (.int (m * n)) H) : rMulU K (.int m) (.int n) H Q := .inl ⟨_, _, rfl, rfl, hc, q⟩
theorem a_I0 {g : Int → Int → V} (q : Q (g m n) H) : rI0 g (.int m) (.int n) H Q := ⟨_, _, rfl, rfl, q⟩
theorem a_I {C : Int → Int → Prop} {g : Int → Int → V} (hc : C m n) (q : Q (g m n) H) : rI C g (.int m) (.int n) H Q := ⟨_, _, rfl, rfl, hc, q⟩
theorem a_U {g : Int → V} (q : Q (g m) H) : rU g (.int m) H Q := ⟨_, rfl, q⟩
theorem a_ipI {f : Int → Int → Int} (q : Q (.int (f m n)) H) : ipI f (.int m) (.int n) H Q := ⟨_, _, rfl, rfl, q⟩
theorem a_eq (h : scal x y = true) (q : Q (.bl (decide (x = y))) H) : rEqU K x y H Q := .inl ⟨h, q⟩
theorem a_ne (h : scal x y = true) (q : Q (.bl (!decide (x = y))) H) : rNeU K x y H Q := .inl ⟨h, q⟩
theorem a_eqD {d e : PyData} (hd : Dp K H x d) (he : Dp K H y e) (sd : SeqAt.shaped d = true) (se : SeqAt.shaped e = true) (q : Q (.bl (PyData.eqv d e)) H) : rEqU K x y H Q := .inr ⟨d, e, hd, he, sd, se, q⟩
theorem a_neD {d e : PyData} (hd : Dp K H x d) (he : Dp K H y e) (sd : SeqAt.shaped d = true) (se : SeqAt.shaped e = true) (q : Q (.bl (!PyData.eqv d e)) H) : rNeU K x y H Q := .inr ⟨d, e, hd, he, sd, se, q⟩
theorem a_lenL (h : SqL K H p ys) (q : Q (.int ys.length) H) : rLenU K [.ref p] H Q := ⟨p, ys, rfl, .inl h, q⟩
theorem a_lenT (h : SqT K H p ys) (q : Q (.int ys.length) H) : rLenU K [.ref p] H Q := ⟨p, ys, rfl, .inr h, q⟩
theorem a_ixL (h : SqL K H p xs) (ha : atI xs n = some v) (q : Q v H) : rIx K (.ref p) (.int n) H Q := .inl ⟨p, xs, n, v, rfl, rfl, h, ha, q⟩
theorem a_ixT (h : SqT K H p xs) (ha : atI xs n = some v) (q : Q v H) : rIx K (.ref p) (.int n) H Q := .inr (.inl ⟨p, xs, n, v, rfl, rfl, h, ha, q⟩)
theorem a_setL {R : Hp → Prop} {j : Nat} (h : H p = some (.lst xs)) (ha : ixN xs.length n = some j) (q : R (upd H p (.lst (xs.set j v)))) : rSetL (.ref p) (.int n) v H R := ⟨p, xs, n, j, rfl, rfl, h, ha, q⟩
theorem a_newL (hl : xs.length ≤ 100000) (h : ∀ p H2, H p = none → Same H H2 → H2 p = some (.lst xs) → Q (.ref p) H2) : rNewL xs H Q := ⟨Nat.le_trans hl (by decide), fun p hp => h p _ hp (same_new hp) upd_same⟩
theorem a_newT (hl : xs.length ≤ 100000) (h : ∀ p H2, H p = none → Same H H2 → H2 p = some (.tup xs) → Q (.ref p) H2) : rNewT xs H Q := ⟨Nat.le_trans hl (by decide), fun p hp => h p _ hp (same_new hp) upd_same⟩
theorem a_fld {f : Str} {C dx : Addr} {fs : List (Str × V)} (h : H a = some (.ins C dx fs)) (c : Cls K C) (n : NoAttr K C f) (l : fs.lookup f = some v) (q : Q v H) : rFld K f (.ref a) H Q := ⟨a, C, dx, fs, v, rfl, h, c, n, l, q⟩
theorem a_put {f : Str} {C dx : Addr} {fs : List (Str × V)} {R : Hp → Prop} (h : H a = some (.ins C dx fs)) (c : Cls K C) (n : NoAttr K C f) (l : fs.length < 1000) (q : ∀ H2, But a H H2 → H2 a = some (.ins C dx (putF f y fs)) → R H2) : rPut K f (.ref a) y H R := ⟨a, C, dx, fs, rfl, h, c, n, l, q _ But.upd upd_same⟩
theorem a_isi {c : V} {t u : Value} {b : Bool} (k : ClsV c u) (ty : TyX K H x t) (e : PySem.W.kitOne K t u = some b) (q : Q (.bl b) H) : rIsi K [x, c] H Q := ⟨x, c, t, u, b, rfl, k, ty, e, q⟩
theorem a_ite {c A B : Prop} [Decidable c] (h1 : c → A) (h2 : ¬ c → B) : if decide c = true then A else B := by
  by_cases h : c
  · rw [if_pos (decide_eq_true h)]; exact h1 h
  · rw [if_neg (by rw [decide_eq_false h]; exact Bool.false_ne_true)]; exact h2 h
theorem a_itn {c A B : Prop} [Decidable c] (h1 : ¬ c → A) (h2 : c → B) : if (!decide c) = true then A else B := by
  by_cases h : c
  · rw [if_neg (by rw [decide_eq_true h]; exact Bool.false_ne_true)]; exact h2 h
  · rw [if_pos (by rw [decide_eq_false h]; rfl)]; exact h1 h
theorem a_yes {c A B : Prop} [Decidable c] (hc : c) (h : A) : if decide c = true then A else B := by rw [if_pos (decide_eq_true hc)]; exact h
theorem a_no {c A B : Prop} [Decidable c] (hc : ¬ c) (h : B) : if decide c = true then A else B := by
  rw [if_neg (by rw [decide_eq_false hc]; exact Bool.false_ne_true)]; exact h
theorem a_T {A B : Prop} {c : Bool} (hc : c = true) (h : A) : if c = true then A else B := by rw [if_pos hc]; exact h
theorem a_F {A B : Prop} {c : Bool} (hc : c = false) (h : B) : if c = true then A else B := by rw [hc]; rw [if_neg Bool.false_ne_true]; exact h
theorem a_setB {R : Hp → Prop} {j : Nat} (h : H p = some (.lst xs)) (ha : ixN xs.length n = some j) (q : ∀ H2, But p H H2 → H2 p = some (.lst (xs.set j v)) → R H2) : rSetL (.ref p) (.int n) v H R := a_setL h ha (q _ But.upd upd_same)
theorem a_int1 (q : Q (.int n) H) : rInt1 [.int n] H Q := .inl ⟨n, rfl, q⟩
theorem a_list {L : List V} (h : SqL K H p L ∨ SqT K H p L) (q : ∀ l H2, H l = none → Same H H2 → H2 l = some (.lst L) → Q (.ref l) H2) : rListU K [.ref p] H Q := ⟨p, L, rfl, h, fun l hl => q l _ hl (same_new hl) upd_same⟩
theorem a_tupL {L : List V} (h : SqL K H p L) (q : ∀ l H2, H l = none → Same H H2 → H2 l = some (.tup L) → Q (.ref l) H2) : rTupU K [.ref p] H Q := ⟨p, L, rfl, .inl ⟨h, fun l hl => q l _ hl (same_new hl) upd_same⟩⟩
theorem a_tupT {L : List V} (h : SqT K H p L) (q : Q (.ref p) H) : rTupU K [.ref p] H Q := ⟨p, L, rfl, .inr ⟨h, q⟩⟩
/-- tuple(x), x a list or a tuple: some tuple of the same items -/
theorem a_tup {L : List V} (h : SqL K H p L ∨ SqT K H p L) (q : ∀ l H2, Same H H2 → SqT K H2 l L → Q (.ref l) H2) : rTupU K [.ref p] H Q := by
  rcases h with h | h
  · exact a_tupL h fun l H2 _ s e => q l H2 s (SqT.of e)
  · exact a_tupT h (q p H (Same.refl H) h)
theorem a_app {L : List V} {z : V} (h : H p = some (.lst L)) (hl : L.length < sizeLine) (q : ∀ H2, But p H H2 → H2 p = some (.lst (L ++ [z])) → Q .non H2) : rAppend (.ref p) [z] H Q := ⟨p, L, z, rfl, rfl, h, hl, q _ But.upd upd_same⟩
theorem a_ty {L : List V} {R : Prop} (h : H p = some (.lst L)) (q : R) : tyV K "list" (.ref p) H ∧ R := ⟨Or.inl ⟨rfl, _, SqL.of h⟩, q⟩
theorem atI_of {α : Type} {l : List α} {j : Nat} {z : α} {k : Int} (e : k = (j : Int)) (h : l[j]? = some z) : atI l k = some z := by rw [e]; exact atI_nat h
theorem sz {k : Nat} (h : k ≤ 100000) : k ≤ sizeLine := Nat.le_trans h (by decide)
theorem szl {k : Nat} (h : k < 100000) : k < sizeLine := Nat.lt_of_lt_of_le h (by decide)
end
end TT
open TT L2 in
local macro_rules | `(tactic| walk_at "tt") => `(tactic| first
  | with_reducible refine g_seq ?_
  | with_reducible refine g_set ?_
  | with_reducible refine g_c ?_)

set_option Elab.async false
set_option linter.all false
set_option maxRecDepth 100000
set_option maxHeartbeats 4000000
namespace TT
open PySem PySem.Spec PyProof.Rows L2
/-! ### facts of classes as Bools -/
def ownB (K : PySem.W.Frag) (C : Addr) : Bool :=
  PySem.W.plainGet K C Str.empty && PySem.W.hasDictIn K C && PySem.W.plainOver K C && He.eqO (PySem.W.findIn K (.ref C) "__setattr__") (some (some (.builtin "object.__setattr__"))) &&
  He.eqO (PySem.W.findIn K (.ref C) "__class__") (some (some (.builtin "object.__class__"))) &&
  He.eqO (PySem.W.specialIn K (.builtin "object.__class__") "__get__") (some (some (.builtin "getset_descriptor.__get__"))) &&
  decide (PySem.W.takesIn K (.builtin "object.__class__") = some true) && decide (PySem.W.mroIn K C (.type "object") = some true) && PySem.W.selfFirst K C
theorem ownB_ok {K : PySem.W.Frag} {C : Addr} (h : ownB K C = true) : Own K C := by
  unfold ownB at h
  simp only [Bool.and_eq_true] at h
  obtain ⟨⟨⟨⟨⟨⟨⟨⟨h1, h2⟩, h3⟩, h4⟩, h5⟩, h6⟩, h7⟩, h8⟩, h9⟩ := h
  exact ⟨⟨h1, h2, h3, He.eqO_ok h4⟩, He.eqO_ok h5, He.eqO_ok h6, of_decide_eq_true h7, of_decide_eq_true h8, h9⟩
structure StaF (K : PySem.W.Frag) (C : Addr) (m : Str) (f : Addr) : Prop where
  rd : PySem.W.readsIn K C (.type "type") = true
  ga : PySem.W.specialIn K (.ref C) "__getattribute__" = some (some (.builtin "type.__getattribute__"))
  at_ : ∃ p, PySem.W.findCls K (.ref C) (.type "type") m = some (.get (.builtin "staticmethod.__get__") (.ref p) .none (.ref C)) ∧ ∃ rest, PySem.W.recIn K p "staticmethod" = some (.ref f :: rest)
def staB (K : PySem.W.Frag) (C : Addr) (m : Str) : Bool :=
  PySem.W.readsIn K C (.type "type") && He.eqO (PySem.W.specialIn K (.ref C) "__getattribute__") (some (some (.builtin "type.__getattribute__"))) && He5.wrapB K C "staticmethod" "staticmethod.__get__" m
theorem staB_ok {K : PySem.W.Frag} {C : Addr} {m : Str} (h : staB K C m = true) : StaF K C m (He5.wf K C "staticmethod" m) := by
  unfold staB at h
  simp only [Bool.and_eq_true] at h
  obtain ⟨⟨h1, h2⟩, h3⟩ := h
  obtain ⟨h4, h5⟩ := He5.wrapB_ok h3
  exact ⟨h1, He.eqO_ok h2, _, h4, h5⟩
/-- nothing leaves it -/
theorem cx0_of {P : Program} {w : World} {K : PySem.W.Frag} {mg : Str → Option Value} {base : Heap} {f : Addr} {fd : FuncData} {ps : List Str} {k : Nat} {sp : Sp} (G : FnOk P w K mg base (L2.CX P w) k f fd ps sp) (h : ∀ vs H Q E, sp vs H Q E → sp vs H Q E0) : FnOk P w K mg base CX0 k f fd ps sp :=
  ⟨G.len, fun A outer s H args us vs Q E hr e0 hb hv hs => codeAny_mono (G.run A outer s H args us vs Q E0 hr e0 hb hv (h _ _ _ _ hs)) fun r s' q => by
    cases r with
    | ok fl => cases fl <;> exact q
    | error e =>
      obtain ⟨_, _, _, _, _, _, _, _, _, _, _, _, z⟩ := q
      exact z.elim⟩
/-! ### from a def's promise to its contract -/
section
variable {P : Program} {w : World} {K : PySem.W.Frag} {mg : Str → Option Value} {base : Heap} {x q m : Str} {st : Stmt} {f C : Addr} {fd : FuncData} {ps : List Str} {k : Nat} {sp : Sp} {ks : List (Str × V)}
theorem fnr_of (F : FX K x q st [] ks f fd) (G : FnOk P w K mg base (L2.CX P w) k f fd ps sp)
    (b : ∀ (kV doc pm : Value) (an : Option Addr) (cdv ct : Value) (us : List Value), us.length = ps.length → bindArgs (PySem.W.fnOf x q (defArgs st) (defBody st) (defScope st) .none kV doc pm an cdv ct) ⟨us, []⟩ = pure (ps.zip us)) :
    FnR P w K mg base (L2.CX P w) k f sp := (G.raw (F.bindsN b) .nil).imp fun vs H Q E h => by
  show sp (vs ++ []) H Q E
  rw [List.append_nil]
  exact h
theorem cal_of (F : FX K x q st [] ks f fd) (hm : mg x = some (.ref f)) (G : FnOk P w K mg base (L2.CX P w) k f fd ps sp)
    (b : ∀ (kV doc pm : Value) (an : Option Addr) (cdv ct : Value) (us : List Value), us.length = ps.length → bindArgs (PySem.W.fnOf x q (defArgs st) (defBody st) (defScope st) .none kV doc pm an cdv ct) ⟨us, []⟩ = pure (ps.zip us)) :
    Cal P w K mg base x k sp := ⟨f, hm, F.kp, fnr_of F G b⟩
theorem met_of (F : FX K x q st [] ks f fd) (cl : Cls K C) (hm : Meth K C m f) (G : FnOk P w K mg base (L2.CX P w) k f fd ps sp)
    (b : ∀ (kV doc pm : Value) (an : Option Addr) (cdv ct : Value) (us : List Value), us.length = ps.length → bindArgs (PySem.W.fnOf x q (defArgs st) (defBody st) (defScope st) .none kV doc pm an cdv ct) ⟨us, []⟩ = pure (ps.zip us)) :
    Met P w K mg base C m k sp := ⟨cl, f, hm, fnr_of F G b⟩
theorem mak_of {y : Str} (F : FX K x q st [] ks f fd) (hm : mg y = some (.ref C)) (M : Mk K C f) (G : FnOk P w K mg base (L2.CX P w) k f fd ps sp)
    (b : ∀ (kV doc pm : Value) (an : Option Addr) (cdv ct : Value) (us : List Value), us.length = ps.length → bindArgs (PySem.W.fnOf x q (defArgs st) (defBody st) (defScope st) .none kV doc pm an cdv ct) ⟨us, []⟩ = pure (ps.zip us)) :
    Mak P w K mg base y C k sp := ⟨hm, f, M, fnr_of F G b⟩
theorem sta_of (F : FX K x q st [] ks f fd) (S : StaF K C m f) (G : FnOk P w K mg base (L2.CX P w) k f fd ps sp)
    (b : ∀ (kV doc pm : Value) (an : Option Addr) (cdv ct : Value) (us : List Value), us.length = ps.length → bindArgs (PySem.W.fnOf x q (defArgs st) (defBody st) (defScope st) .none kV doc pm an cdv ct) ⟨us, []⟩ = pure (ps.zip us)) :
    Sta P w K mg base C m k sp := by
  obtain ⟨p, h1, h2⟩ := S.at_
  exact ⟨S.rd, S.ga, p, f, h1, h2, F.kp, fnr_of F G b⟩
end
end TT

set_option Elab.async false
set_option linter.all false
set_option maxRecDepth 100000
set_option maxHeartbeats 4000000
namespace TT
open PySem PySem.Spec PyProof.Rows L2
def rMk (C : Addr) (sp : Sp) (E : XK) (vs : List V) (H : Hp) (Q : VK) : Prop := ∀ x dx, H x = none → H dx = none → dx ≠ x → sp (V.ref x :: vs) (upd (upd H dx (.own x)) x (.ins C dx [])) (fun v H2 => v = .non ∧ Q (.ref x) H2) E
def rLrg (a b : Int) (H : Hp) (Q : VK) : Prop := RgOk a b ∧ ∀ q, H q = none → Q (.ref q) (upd H q (.lst (rgV a b)))
/-- what is made stands on what stood -/
theorem a_mk {C : Addr} {sp : Sp} {E : XK} {vs : List V} {H : Hp} {Q : VK} (h : ∀ x dx H1, H x = none → Same H H1 → H1 x = some (.ins C dx []) → sp (V.ref x :: vs) H1 (fun v H2 => v = .non ∧ Q (.ref x) H2) E) : rMk C sp E vs H Q :=
  fun x dx hx hd _ => h x dx _ hx (same_mut (same_new hd) hx) upd_same
/-! ### comprehensions whose parts only make objects -/
section
variable {K : PySem.W.Frag} {J : It} {n j : Nat} {G : Hp → Prop} {Y : Nat → Hp → V → Hp → Prop} {σ : L2.St} {H H1 : Hp} {te : TE} {tt : TT} {Q : VK}
theorem set_none (σ : L2.St) (j : Nat) (x : Option V) : ((σ.set j none).set j x).set j none = σ.set j none := by
  rw [List.set_set, List.set_set]
theorem filt_succ {α : Type} (b : Nat → Bool) (f : Nat → α) (i : Nat) : ((List.range (i + 1)).filter b).map f = ((List.range i).filter b).map f ++ (if b i = true then [f i] else []) := by
  rw [List.range_succ, List.filter_append, List.map_append]
  cases h : b i <;> simp [h]
theorem filt_len (b : Nat → Bool) (f : Nat → V) (i : Nat) : (((List.range i).filter b).map f).length ≤ i := by
  rw [List.length_map]
  exact Nat.le_trans (List.length_filter_le _ _) (by rw [List.length_range]; exact Nat.le_refl i)
theorem lc_f (w : Walk J n G Y) (b : Nat → Bool) (f : Nat → V) (hn : n ≤ 100000) (hG : ∀ H', Same H1 H' → G H')
    (hs : ∀ i x H' H2, i < n → Same H1 H' → Y i H' x H2 → Same H' H2 ∧ (∀ R : Bool → Hp → Prop, (∀ H3, Same H2 H3 → R (b i) H3) → tt ((σ.set j none).set j (some x)) H2 R) ∧
      (b i = true → ∀ H3, Same H2 H3 → ∀ R : VK, (∀ H4, Same H3 H4 → R (f i) H4) → te ((σ.set j none).set j (some x)) H3 R))
    (hd : ∀ D H', H1 D = none → Same H1 H' → H' D = some (.lst (((List.range n).filter b).map f)) → Q (.ref D) H') :
    ∀ D, H1 D = none → ∃ W : Nat → Nat → Hp → Prop, (∃ m, W 0 m (upd H1 D (.lst []))) ∧ ∀ i m H, W i m H →
      (J.stop i H ∧ Q (.ref D) H) ∨ (J.go i H ∧ ∃ Nx : Hp → Prop, (∀ H', Nx H' → ∃ m', m' < m ∧ W (i + 1) m' H') ∧ ∀ x H', J.yld i H x H' → gName j x (wipe σ [j]) H' fun σ2 H2 => wipe σ2 [j] = wipe σ [j] ∧ tt σ2 H2 fun b H3 =>
        if b = true then te σ2 H3 fun y H4 => ∃ acc, H4 D = some (.lst acc) ∧ acc.length < sizeLine ∧ Nx (upd H4 D (.lst (acc ++ [y]))) else Nx H3) := by
  intro D hD
  refine lc_it w (fun i H' => Same H1 H' ∧ H' D = some (.lst (((List.range i).filter b).map f))) ⟨same_new hD, upd_same⟩ (fun i H' _ q => hG H' q.1) ?_ fun H' q => hd D H' hD q.1 q.2
  rintro i x H' H2 hi ⟨q1, q2⟩ hy
  obtain ⟨s2, htt, hte⟩ := hs i x H' H2 hi q1 hy
  refine ⟨set_none σ j (some x), htt _ fun H3 s3 => ?_⟩
  have e3 := s3 _ _ (s2 _ _ q2)
  cases hb : b i with
  | false =>
    rw [if_neg Bool.false_ne_true]
    refine ⟨(q1.trans s2).trans s3, ?_⟩
    rw [e3, filt_succ, hb]
    simp
  | true =>
    rw [if_pos rfl]
    refine hte hb H3 s3 _ fun H4 s4 => ⟨_, s4 _ _ e3, szl (Nat.lt_of_le_of_lt (filt_len b f i) (by omega)), ?_⟩
    refine ⟨same_mut (((q1.trans s2).trans s3).trans s4) hD, ?_⟩
    rw [upd_same, filt_succ, hb]
    rfl
theorem lc_1 (w : Walk J n G Y) (f : Nat → V) (hn : n ≤ 100000) (hG : ∀ H', Same H1 H' → G H')
    (hs : ∀ i x H' H2, i < n → Same H1 H' → Y i H' x H2 → Same H' H2 ∧ ∀ R : VK, (∀ H4, Same H2 H4 → R (f i) H4) → te ((σ.set j none).set j (some x)) H2 R)
    (hd : ∀ D H', H1 D = none → Same H1 H' → H' D = some (.lst ((List.range n).map f)) → Q (.ref D) H') :
    ∀ D, H1 D = none → ∃ W : Nat → Nat → Hp → Prop, (∃ m, W 0 m (upd H1 D (.lst []))) ∧ ∀ i m H, W i m H →
      (J.stop i H ∧ Q (.ref D) H) ∨ (J.go i H ∧ ∃ Nx : Hp → Prop, (∀ H', Nx H' → ∃ m', m' < m ∧ W (i + 1) m' H') ∧ ∀ x H', J.yld i H x H' → gName j x (wipe σ [j]) H' fun σ2 H2 => wipe σ2 [j] = wipe σ [j] ∧ tYes σ2 H2 fun b H3 =>
        if b = true then te σ2 H3 fun y H4 => ∃ acc, H4 D = some (.lst acc) ∧ acc.length < sizeLine ∧ Nx (upd H4 D (.lst (acc ++ [y]))) else Nx H3) := by
  intro D hD
  refine lc_it w (fun i H' => Same H1 H' ∧ H' D = some (.lst ((List.range i).map f))) ⟨same_new hD, upd_same⟩ (fun i H' _ q => hG H' q.1) ?_ fun H' q => hd D H' hD q.1 q.2
  rintro i x H' H2 hi ⟨q1, q2⟩ hy
  obtain ⟨s2, hte⟩ := hs i x H' H2 hi q1 hy
  refine ⟨set_none σ j (some x), ?_⟩
  unfold tYes
  dsimp only
  rw [if_pos rfl]
  refine hte _ fun H4 s4 => ⟨_, s4 _ _ (s2 _ _ q2), szl (by rw [List.length_map, List.length_range]; omega), same_mut ((q1.trans s2).trans s4) hD, ?_⟩
  rw [upd_same, List.range_succ, List.map_append]
  rfl
/-- over a list, a tuple, a range: the i-th value of the target -/
theorem c_l {tl : TE} {xs : List V} (f : Nat → V) (hn : xs.length ≤ 100000) (hl : ∀ R : VK, (∀ a H1, Same H H1 → SqL K H1 a xs → R (.ref a) H1) → tl σ H R)
    (hs : ∀ i x H', xs[i]? = some x → Same H H' → ∀ R : VK, (∀ H4, Same H' H4 → R (f i) H4) → te ((σ.set j none).set j (some x)) H' R)
    (hd : ∀ D H', H D = none → Same H H' → H' D = some (.lst ((List.range xs.length).map f)) → Q (.ref D) H') : tLc (iList K tl) (gName j) tYes te [j] σ H Q := by
  refine hl _ fun a H1 s1 h => ⟨a, rfl, ⟨xs, h⟩, lc_1 walk_list f hn (fun H' s => same_l s h) (fun i x H' H2 hi s y => ?_) fun D H' n s e => hd D H' (s1.free n) (s1.trans s) e⟩
  obtain ⟨rfl, e⟩ := y
  exact ⟨Same.refl _, hs i x _ e (s1.trans s)⟩
theorem c_t {tl : TE} {xs : List V} (f : Nat → V) (hn : xs.length ≤ 100000) (hl : ∀ R : VK, (∀ a H1, Same H H1 → SqT K H1 a xs → R (.ref a) H1) → tl σ H R)
    (hs : ∀ i x H', xs[i]? = some x → Same H H' → ∀ R : VK, (∀ H4, Same H' H4 → R (f i) H4) → te ((σ.set j none).set j (some x)) H' R)
    (hd : ∀ D H', H D = none → Same H H' → H' D = some (.lst ((List.range xs.length).map f)) → Q (.ref D) H') : tLc (iTup K tl) (gName j) tYes te [j] σ H Q := by
  refine hl _ fun a H1 s1 h => ⟨a, rfl, ⟨xs, h⟩, lc_1 walk_tup f hn (fun H' s => same_t s h) (fun i x H' H2 hi s y => ?_) fun D H' n s e => hd D H' (s1.free n) (s1.trans s) e⟩
  obtain ⟨rfl, e⟩ := y
  exact ⟨Same.refl _, hs i x _ e (s1.trans s)⟩
theorem c_r {ta : TA} {k : Nat} (f : Nat → V) (hn : k ≤ 100000) (hl : ∀ R : List V → Hp → Prop, (∀ H1, Same H H1 → R [.int (k : Nat)] H1) → ta σ H R)
    (hs : ∀ (i : Nat) H', i < k → Same H H' → ∀ R : VK, (∀ H4, Same H' H4 → R (f i) H4) → te ((σ.set j none).set j (some (.int (i : Nat)))) H' R)
    (hd : ∀ D H', H D = none → Same H H' → H' D = some (.lst ((List.range k).map f)) → Q (.ref D) H') : tLc (iRng1 ta) (gName j) tYes te [j] σ H Q := by
  refine hl _ fun H1 s1 => ⟨(k : Int), rfl, by omega, by omega, lc_1 walk_range f (by omega) (fun _ _ => True.intro) (fun i x H' H2 hi s y => ?_) fun D H' n s e => hd D H' (s1.free n) (s1.trans s) e⟩
  obtain ⟨rfl, e⟩ := y
  subst e
  refine ⟨Same.refl _, ?_⟩
  have e0 : (0 : Int) + (i : Int) = i := by omega
  show ∀ R : VK, _ → te ((σ.set j none).set j (some (.int (0 + (i : Int))))) H2 R
  rw [e0]
  exact hs i _ (by omega) (s1.trans s)
/-! .. with a test -/
theorem cf_l {tl : TE} {xs : List V} (b : Nat → Bool) (f : Nat → V) (hn : xs.length ≤ 100000) (hl : ∀ R : VK, (∀ a H1, Same H H1 → SqL K H1 a xs → R (.ref a) H1) → tl σ H R)
    (hs : ∀ i x H', xs[i]? = some x → Same H H' → (∀ R : Bool → Hp → Prop, (∀ H3, Same H' H3 → R (b i) H3) → tt ((σ.set j none).set j (some x)) H' R) ∧
      (b i = true → ∀ H3, Same H' H3 → ∀ R : VK, (∀ H4, Same H3 H4 → R (f i) H4) → te ((σ.set j none).set j (some x)) H3 R))
    (hd : ∀ D H', H D = none → Same H H' → H' D = some (.lst (((List.range xs.length).filter b).map f)) → Q (.ref D) H') : tLc (iList K tl) (gName j) tt te [j] σ H Q := by
  refine hl _ fun a H1 s1 h => ⟨a, rfl, ⟨xs, h⟩, lc_f walk_list b f hn (fun H' s => same_l s h) (fun i x H' H2 hi s y => ?_) fun D H' n s e => hd D H' (s1.free n) (s1.trans s) e⟩
  obtain ⟨rfl, e⟩ := y
  exact ⟨Same.refl _, hs i x _ e (s1.trans s)⟩
theorem cf_t {tl : TE} {xs : List V} (b : Nat → Bool) (f : Nat → V) (hn : xs.length ≤ 100000) (hl : ∀ R : VK, (∀ a H1, Same H H1 → SqT K H1 a xs → R (.ref a) H1) → tl σ H R)
    (hs : ∀ i x H', xs[i]? = some x → Same H H' → (∀ R : Bool → Hp → Prop, (∀ H3, Same H' H3 → R (b i) H3) → tt ((σ.set j none).set j (some x)) H' R) ∧
      (b i = true → ∀ H3, Same H' H3 → ∀ R : VK, (∀ H4, Same H3 H4 → R (f i) H4) → te ((σ.set j none).set j (some x)) H3 R))
    (hd : ∀ D H', H D = none → Same H H' → H' D = some (.lst (((List.range xs.length).filter b).map f)) → Q (.ref D) H') : tLc (iTup K tl) (gName j) tt te [j] σ H Q := by
  refine hl _ fun a H1 s1 h => ⟨a, rfl, ⟨xs, h⟩, lc_f walk_tup b f hn (fun H' s => same_t s h) (fun i x H' H2 hi s y => ?_) fun D H' n s e => hd D H' (s1.free n) (s1.trans s) e⟩
  obtain ⟨rfl, e⟩ := y
  exact ⟨Same.refl _, hs i x _ e (s1.trans s)⟩
theorem cf_r {ta : TA} {k : Nat} (b : Nat → Bool) (f : Nat → V) (hn : k ≤ 100000) (hl : ∀ R : List V → Hp → Prop, (∀ H1, Same H H1 → R [.int (k : Nat)] H1) → ta σ H R)
    (hs : ∀ (i : Nat) H', i < k → Same H H' → (∀ R : Bool → Hp → Prop, (∀ H3, Same H' H3 → R (b i) H3) → tt ((σ.set j none).set j (some (.int (i : Nat)))) H' R) ∧
      (b i = true → ∀ H3, Same H' H3 → ∀ R : VK, (∀ H4, Same H3 H4 → R (f i) H4) → te ((σ.set j none).set j (some (.int (i : Nat)))) H3 R))
    (hd : ∀ D H', H D = none → Same H H' → H' D = some (.lst (((List.range k).filter b).map f)) → Q (.ref D) H') : tLc (iRng1 ta) (gName j) tt te [j] σ H Q := by
  refine hl _ fun H1 s1 => ⟨(k : Int), rfl, by omega, by omega, lc_f walk_range b f (by omega) (fun _ _ => True.intro) (fun i x H' H2 hi s y => ?_) fun D H' n s e => hd D H' (s1.free n) (s1.trans s) e⟩
  obtain ⟨rfl, e⟩ := y
  subst e
  refine ⟨Same.refl _, ?_⟩
  have e0 : (0 : Int) + (i : Int) = i := by omega
  dsimp only
  rw [e0]
  exact hs i _ (by omega) (s1.trans s)
theorem g_lcT {wi : TI} {g : TG} {vs : List Nat} (h : wi σ H fun J H1 => ∀ D, H1 D = none → ∃ W : Nat → Nat → Hp → Prop, (∃ m, W 0 m (upd H1 D (.lst []))) ∧ ∀ i m H, W i m H →
      (J.stop i H ∧ Q (.ref D) H) ∨ (J.go i H ∧ ∃ Nx : Hp → Prop, (∀ H', Nx H' → ∃ m', m' < m ∧ W (i + 1) m' H') ∧ ∀ x H', J.yld i H x H' → g x (wipe σ vs) H' fun σ2 H2 => wipe σ2 vs = wipe σ vs ∧ tt σ2 H2 fun b H3 =>
        if b = true then te σ2 H3 fun y H4 => ∃ acc, H4 D = some (.lst acc) ∧ acc.length < sizeLine ∧ Nx (upd H4 D (.lst (acc ++ [y]))) else Nx H3)) : tLc wi g tt te vs σ H Q := h
theorem g_iTup {tl : TE} {R : It → Hp → Prop} (h : tl σ H fun x H1 => ∃ a, x = .ref a ∧ (∃ xs, SqT K H1 a xs) ∧ R (Itt K a) H1) : iTup K tl σ H R := h
theorem g_iList {tl : TE} {R : It → Hp → Prop} (h : tl σ H fun x H1 => ∃ a, x = .ref a ∧ (∃ xs, SqL K H1 a xs) ∧ R (Itl K a) H1) : iList K tl σ H R := h
theorem g_iRng {ta : TA} {R : It → Hp → Prop} (h : ta σ H fun vs H1 => ∃ j : Int, vs = [.int j] ∧ -(2 ^ 62) ≤ j ∧ j < 2 ^ 62 ∧ R (Itr 0 j.toNat) H1) : iRng1 ta σ H R := h
theorem g_iEt {ta : TA} {R : It → Hp → Prop} (h : ta σ H fun vs H1 => ∃ a xs, vs = [.ref a] ∧ SqT K H1 a xs ∧ R (Iet K a) H1) : iEt K ta σ H R := h
theorem g_iEn {ta : TA} {R : It → Hp → Prop} (h : ta σ H fun vs H1 => ∃ a xs, vs = [.ref a] ∧ SqL K H1 a xs ∧ R (Ite K a) H1) : iEnum K ta σ H R := h
theorem g_for {wi : TI} {g : TG} {tb : TS} {D : Ends} (h : wi σ H fun J H1 => ∃ W : Nat → Nat → L2.St → Hp → Prop, (∃ m, W 0 m σ H1) ∧ ∀ i m σ H, W i m σ H →
      (J.stop i H ∧ D.nx σ H) ∨ (J.go i H ∧ ∃ N : L2.St → Hp → Prop, (∀ σ' H', N σ' H' → ∃ m', m' < m ∧ W (i + 1) m' σ' H') ∧ ∀ x H', J.yld i H x H' → g x σ H' fun σ2 H2 => tb { D with nx := N, ct := N, bk := D.nx } σ2 H2)) : tFor wi g tb D σ H := h
theorem g_mk {C : Addr} {sp : Sp} {E : XK} {ts : TA} (h : ts σ H fun vs H1 => rMk C sp E vs H1 Q) : StX.tMakeR C sp E ts σ H Q := h
theorem g_lrg {tr : L2.St → Hp → (Int → Int → Hp → Prop) → Prop} (h : tr σ H fun a b H1 => rLrg a b H1 Q) : tLstRg tr σ H Q := h
theorem g_rg1 {ta : TE} {R : Int → Int → Hp → Prop} (h : ta σ H fun x H1 => ∃ n, x = .int n ∧ R 0 n H1) : tRg1 ta σ H R := h
theorem g_yes {R : Bool → Hp → Prop} (h : R true H) : tYes σ H R := h
theorem g_gtup {t : TGs} {k : Nat} {a : Addr} {xs : List V} {R : L2.St → Hp → Prop} (h : SqT K H a xs) (hn : xs.length = k) (q : t xs σ H R) : gTup K k t (.ref a) σ H R := ⟨a, xs, rfl, h, hn, q⟩
theorem g_gcons {t : TG} {u : TGs} {v : V} {r : List V} {R : L2.St → Hp → Prop} (q : t v σ H fun σ' H' => u r σ' H' R) : gCons t u (v :: r) σ H R := ⟨v, r, rfl, q⟩
theorem g_gnil {R : L2.St → Hp → Prop} (q : R σ H) : gNil [] σ H R := ⟨rfl, q⟩
theorem g_gname {i : Nat} {v : V} {R : L2.St → Hp → Prop} (q : R (σ.set i (some v)) H) : gName i v σ H R := q
/-- x(e, ..), x an instance of C -/
def tCO (C : Addr) (sp : Sp) (E : XK) (tf : TE) (t : TA) : TE := fun σ H Q => tf σ H fun y H1 => ∃ a, y = V.ref a ∧ t σ H1 fun vs H2 => (∃ dx fs, H2 a = some (.ins C dx fs)) ∧ sp (V.ref a :: vs) H2 Q E
theorem pe_co {X : Cx} {C : Addr} {sp : Sp} {E : XK} {k i : Nat} {fe e : Expr} {es : List Expr} {tf : TE} {t : TA} {pos : Pos} (c : Met X.prog X.w X.K X.mg X.base C "__call__" k sp) (fi : ∀ g, Meth X.K C "__call__" g → PySem.W.fnIn X.K g = true) (hr : Room i X.A) (hk : k ≤ i) (hx : Passes (L2.CX X.prog X.w) X E) (hf : PE X fe tf) (ha : PA X (e :: es) t)
    (h1 : eval (.Call fe (e :: es) [] pos) X.env = (eval fe X.env >>= fun z => callWith pos z [] (backTo pos (starEach (e :: es) X.env)) (backToKw pos (keywordEach [] X.env))) := by rfl)
    (h2 : starEach (e :: es) X.env = (false, eval e X.env) :: starEach es X.env := by rfl) (h3 : (backTo pos (starEach es X.env)).any (·.1) = false := by rfl) : PE X (.Call fe (e :: es) [] pos) (tCO C sp E tf t) := ⟨fun pins s σ H Q I h => by
  obtain ⟨g, hm, F⟩ := c.ex
  refine Call_ (thn (hf.run pins s σ H _ I h) fun u s1 hh => ?_) h1
  obtain ⟨y, H1, I1, ry, a, ey, q⟩ := hh
  subst ey
  cases (show u = Value.ref a from ry)
  refine StX.callO_with (thn (ha.run pos pins s1 σ H1 _ I1 q) fun us s2 hh2 => ?_) h2 h3
  obtain ⟨vs, H2, I2, r, ⟨dx, fs, hi⟩, q2⟩ := hh2
  obtain ⟨ox, od, J, hd⟩ := StX.insC_at (C := C) I2 (.inr ⟨dx, fs, hi⟩)
  exact ⟨⟨C, ox, od, J, hd⟩, StX.run_callO ⟨hm.at_, hm.fn, fi g hm⟩ F (hr.mono hk) hx I2 (.inr ⟨dx, fs, hi⟩) r q2⟩⟩
theorem g_co {C : Addr} {sp : Sp} {E : XK} {tf : TE} {t : TA} (h : tf σ H fun y H1 => ∃ a, y = V.ref a ∧ t σ H1 fun vs H2 => (∃ dx fs, H2 a = some (.ins C dx fs)) ∧ sp (V.ref a :: vs) H2 Q E) : tCO C sp E tf t σ H Q := h
theorem a_ref {a : Addr} {R : Addr → Prop} (h : R a) : ∃ b, V.ref a = .ref b ∧ R b := ⟨a, rfl, h⟩
theorem a_pop {p : Addr} {L : List V} {m : Int} {k : Nat} {y : V} (h : H p = some (.lst L)) (e : m = (k : Int)) (hk : L[k]? = some y) (hl : L.length ≤ 100000) (q : ∀ H2, But p H H2 → H2 p = some (.lst (L.eraseIdx k)) → Q y H2) : rPopAt (.ref p) [.int m] H Q := by
  have hlt := (List.getElem?_eq_some_iff.mp hk).1
  refine ⟨p, L, m, k, y, rfl, rfl, h, by omega, by omega, ?_, hk, q _ But.upd upd_same⟩
  subst e
  exact (L2.ixN_seq (by unfold ixN; rw [if_pos (by omega), if_pos (by omega)]; rfl)).1
theorem a_truB {b : Bool} {R : Bool → Prop} (h : R b) : ∃ k, TruV K (.bl b) H k ∧ R k := ⟨b, rfl, h⟩
theorem a_truI {m : Int} {R : Bool → Prop} (h : R (m != 0)) : ∃ k, TruV K (.int m) H k ∧ R k := ⟨_, rfl, h⟩
theorem a_truL {p : Addr} {xs : List V} {R : Bool → Prop} (e : SqL K H p xs) (h : R (!xs.isEmpty)) : ∃ k, TruV K (.ref p) H k ∧ R k := ⟨_, .inl ⟨xs, e, rfl⟩, h⟩
theorem a_truT {p : Addr} {xs : List V} {R : Bool → Prop} (e : SqT K H p xs) (h : R (!xs.isEmpty)) : ∃ k, TruV K (.ref p) H k ∧ R k := ⟨_, .inr (.inl ⟨xs, e, rfl⟩), h⟩
theorem a_nyes {c A B : Prop} [Decidable c] (hc : c) (h : B) : if (!decide c) = true then A else B := iteNS hc h
theorem a_nno {c A B : Prop} [Decidable c] (hc : ¬ c) (h : A) : if (!decide c) = true then A else B := by
  rw [if_pos (by rw [decide_eq_false hc]; rfl)]; exact h
theorem a_lrg {n : Int} (h0 : 0 ≤ n) (hn : n ≤ 100000) (q : ∀ p H2, H p = none → Same H H2 → H2 p = some (.lst ((List.range n.toNat).map fun i => V.int (i : Nat))) → Q (.ref p) H2) :
    rLrg 0 n H Q := by
  refine ⟨⟨by omega, by omega, by omega, by omega, by omega⟩, fun p hp => q p _ hp (same_new hp) ?_⟩
  rw [upd_same]
  have e : rgV 0 n = (List.range n.toNat).map fun i => V.int (i : Nat) := by
    unfold rgV
    rw [Int.sub_zero]
    apply List.map_congr_left
    intro i _
    rw [Int.zero_add]
  rw [e]
end
end TT

set_option Elab.async false
set_option linter.all false
set_option maxRecDepth 100000
set_option maxHeartbeats 4000000
namespace TT
open PySem PySem.Spec PyProof.Rows L2
/-! ### plain lists -/
theorem sub_len {α : Type} [DecidableEq α] : ∀ {l m : List α}, l.Nodup → (∀ x ∈ l, x ∈ m) → l.length ≤ m.length
  | [], _, _, _ => Nat.zero_le _
  | a :: l, m, nd, h => by
    have na := List.nodup_cons.mp nd
    have ha : a ∈ m := h a (List.mem_cons_self ..)
    have ih := sub_len (l := l) (m := m.erase a) na.2 fun x hx => (List.mem_erase_of_ne (fun e => na.1 (by rw [← e]; exact hx))).mpr (h x (List.mem_cons_of_mem _ hx))
    have e := List.length_erase_of_mem ha
    have p : 0 < m.length := List.length_pos_of_mem ha
    show l.length + 1 ≤ m.length
    omega
/-- an image of a permutation -/
structure OkImg (a : List Nat) : Prop where
  nd : a.Nodup
  lt : ∀ x ∈ a, x < a.length
theorem OkImg.has {a : List Nat} (h : OkImg a) {j : Nat} (hj : j < a.length) : j ∈ a := by
  by_cases hm : j ∈ a
  · exact hm
  · have := sub_len (l := j :: a) (m := List.range a.length) (List.nodup_cons.mpr ⟨hm, h.nd⟩) fun x hx => by
      rw [List.mem_range]
      rcases List.mem_cons.mp hx with rfl | hx
      · exact hj
      · exact h.lt x hx
    rw [List.length_range, List.length_cons] at this
    omega
theorem nd_inj {a : List Nat} (nd : a.Nodup) {i j : Nat} (hi : i < a.length) (hj : j < a.length) (e : a[i] = a[j]) : i = j :=
  L2.nd_ix nd (List.getElem?_eq_getElem hi) (by rw [List.getElem?_eq_getElem hj, e])
theorem idx_at {a : List Nat} {j : Nat} (h : j ∈ a) : ∃ hl : a.idxOf j < a.length, a[a.idxOf j] = j := by
  have hl := List.idxOf_lt_length_of_mem h
  exact ⟨hl, List.getElem_idxOf hl⟩
theorem idx_uniq {a : List Nat} (nd : a.Nodup) {i j : Nat} (hi : i < a.length) (e : a[i] = j) : a.idxOf j = i := by
  have hm : j ∈ a := e ▸ List.getElem_mem hi
  obtain ⟨hl, hx⟩ := idx_at hm
  exact nd_inj nd hl hi (by rw [hx, e])
def comp (a b : List Nat) : List Nat := a.map fun i => b.getD i 0
def inv (a : List Nat) : List Nat := (List.range a.length).map fun j => a.idxOf j
theorem comp_len (a b : List Nat) : (comp a b).length = a.length := List.length_map _
theorem inv_len (a : List Nat) : (inv a).length = a.length := by unfold inv; rw [List.length_map, List.length_range]
theorem getD_lt {b : List Nat} {i : Nat} (h : i < b.length) : b.getD i 0 = b[i] := by
  rw [List.getD_eq_getElem?_getD, List.getElem?_eq_getElem h]
  rfl
theorem comp_get {a b : List Nat} {i : Nat} (h : i < a.length) (h' : i < (comp a b).length := by rw [comp_len]; assumption) : (comp a b)[i] = b.getD a[i] 0 := by
  simp [comp]
theorem inv_get {a : List Nat} {i : Nat} (h : i < (inv a).length) : (inv a)[i] = a.idxOf i := by
  simp [inv]
theorem OkImg.of_inj {a : List Nat} (h : ∀ i j (hi : i < a.length) (hj : j < a.length), a[i] = a[j] → i = j) (l : ∀ i (hi : i < a.length), a[i] < a.length) : OkImg a := by
  refine ⟨?_, fun x hx => ?_⟩
  · rw [List.nodup_iff_pairwise_ne]
    rw [List.pairwise_iff_getElem]
    intro i j hi hj hij e
    exact absurd (h i j hi hj e) (Nat.ne_of_lt hij)
  · obtain ⟨i, hi, e⟩ := List.getElem_of_mem hx
    rw [← e]
    exact l i hi
theorem OkImg.comp {a b : List Nat} (ha : OkImg a) (hb : OkImg b) (e : a.length = b.length) : OkImg (TT.comp a b) := by
  have hl : ∀ i (hi : i < a.length), a[i] < b.length := fun i hi => e ▸ ha.lt _ (List.getElem_mem hi)
  refine .of_inj (fun i j hi hj q => ?_) fun i hi => ?_
  · rw [comp_len] at hi hj
    rw [comp_get hi, comp_get hj, getD_lt (hl i hi), getD_lt (hl j hj)] at q
    exact nd_inj ha.nd hi hj (nd_inj hb.nd (hl i hi) (hl j hj) q)
  · rw [comp_len] at hi ⊢
    rw [comp_get hi, getD_lt (hl i hi), e]
    exact hb.lt _ (List.getElem_mem _)
theorem OkImg.inv {a : List Nat} (ha : OkImg a) : OkImg (TT.inv a) := by
  refine .of_inj (fun i j hi hj q => ?_) fun i hi => ?_
  · rw [inv_get, inv_get] at q
    rw [inv_len] at hi hj
    obtain ⟨h1, h2⟩ := idx_at (ha.has hi)
    obtain ⟨h3, h4⟩ := idx_at (ha.has hj)
    rw [← h2, ← h4]
    exact getElem_congr_idx q
  · rw [inv_get]
    rw [inv_len] at hi ⊢
    exact (idx_at (ha.has hi)).1
theorem OkImg.range (n : Nat) : OkImg (List.range n) := ⟨List.nodup_range, fun x hx => by rw [List.length_range]; exact List.mem_range.mp hx⟩
theorem comp_inv {a : List Nat} (ha : OkImg a) : comp a (inv a) = List.range a.length := by
  refine List.ext_getElem (by rw [comp_len, List.length_range]) fun i h1 h2 => ?_
  rw [comp_len] at h1
  rw [comp_get h1, List.getElem_range, getD_lt (by rw [inv_len]; exact ha.lt _ (List.getElem_mem _)), inv_get]
  exact idx_uniq ha.nd h1 rfl
theorem inv_comp {a b : List Nat} (ha : OkImg a) (hb : OkImg b) (e : a.length = b.length) : inv (comp a b) = comp (inv b) (inv a) := by
  refine List.ext_getElem (by rw [inv_len, comp_len, comp_len, inv_len, e]) fun j h1 h2 => ?_
  rw [inv_get]
  rw [inv_len, comp_len] at h1
  have hj : j < b.length := e ▸ h1
  obtain ⟨p1, p2⟩ := idx_at (hb.has hj)
  have hk : b.idxOf j < a.length := by rw [e]; exact p1
  obtain ⟨p3, p4⟩ := idx_at (ha.has hk)
  have hj' : j < (inv b).length := by rw [inv_len]; exact hj
  rw [comp_get hj', inv_get, getD_lt (by rw [inv_len]; exact hk), inv_get]
  refine idx_uniq (ha.comp hb e).nd (by rw [comp_len]; exact p3) ?_
  rw [comp_get p3, p4, getD_lt p1, p2]
/-! ### values -/
def vi (a : List Nat) : List V := a.map fun n => V.int (n : Nat)
def di (a : List Nat) : List PyData := a.map fun n => PyData.int (n : Nat)
theorem vi_len (a : List Nat) : (vi a).length = a.length := List.length_map _
theorem vi_get {a : List Nat} {i : Nat} {x : V} (h : (vi a)[i]? = some x) : ∃ hi : i < a.length, x = V.int (a[i] : Nat) := by
  obtain ⟨h1, h2⟩ := List.getElem?_eq_some_iff.mp h
  rw [vi_len] at h1
  refine ⟨h1, ?_⟩
  rw [← h2]
  simp [vi]
theorem vi_at {a : List Nat} {i : Nat} (h : i < a.length) : (vi a)[i]? = some (V.int (a[i] : Nat)) := by
  unfold vi
  rw [List.getElem?_map, List.getElem?_eq_getElem h]
  rfl
theorem dp_vi {K : PySem.W.Frag} {H : Hp} : ∀ a : List Nat, DpAll K H (vi a) (di a)
  | [] => .nil
  | n :: a => .cons (.int _) (dp_vi a)
theorem lay_di : ∀ a : List Nat, PyData.canLayAll0 (di a) = true
  | [] => by simp [di, PyData.canLayAll0]
  | n :: a => by
    have ih := lay_di a
    simp [di, PyData.canLayAll0, PyData.canLay0] at ih ⊢
    exact ih
theorem dep_di : ∀ a : List Nat, PyData.depthAll (di a) ≤ 1
  | [] => by simp [di, PyData.depthAll]
  | n :: a => by
    have ih := dep_di a
    simp [di, PyData.depthAll, PyData.depth] at ih ⊢
    omega
theorem sh_t (a : List Nat) : SeqAt.shaped (.tuple (di a)) = true := by
  unfold SeqAt.shaped
  have h1 := lay_di a
  have h2 := dep_di a
  simp [PyData.canLay0, PyData.depth, h1]
  omega
theorem sh_l (a : List Nat) : SeqAt.shaped (.list (di a)) = true := by
  unfold SeqAt.shaped
  have h1 := lay_di a
  have h2 := dep_di a
  simp [PyData.canLay0, PyData.depth, h1]
  omega
theorem eqv_di : ∀ a b : List Nat, PyData.eqvAll (di a) (di b) = decide (a = b)
  | [], [] => by simp [di, PyData.eqvAll]
  | [], _ :: _ => by simp [di, PyData.eqvAll]
  | _ :: _, [] => by simp [di, PyData.eqvAll]
  | n :: a, m :: b => by
    have ih := eqv_di a b
    simp only [di, List.map_cons, PyData.eqvAll, PyData.eqv] at ih ⊢
    rw [ih]
    by_cases h : n = m
    · subst h
      simp
    · have h' : ((n : Int) == (m : Int)) = false := by
        rw [beq_eq_false_iff_ne]
        omega
      rw [h']
      simp [h]
theorem eqv_tt (a b : List Nat) : PyData.eqv (.tuple (di a)) (.tuple (di b)) = decide (a = b) := by
  simp only [PyData.eqv]
  exact eqv_di a b
theorem eqv_ll (a b : List Nat) : PyData.eqv (.list (di a)) (.list (di b)) = decide (a = b) := by
  simp only [PyData.eqv]
  exact eqv_di a b
end TT

set_option Elab.async false
set_option linter.all false
set_option maxRecDepth 100000
set_option maxHeartbeats 4000000
namespace TT
open PySem PySem.Spec PyProof.Rows L2
/-! ### errors of the program: classes below ValueError by way of a class of the program -/
structure Err (K : PySem.W.Frag) (C : Addr) : Prop where
  ox : OexC K C
  xf : XfC K C
  ca : PySem.W.findIn K (.ref C) "__class__" = some (some (.builtin "object.__class__"))
  cn : PySem.W.specialIn K (.builtin "object.__class__") "__get__" = some (some (.builtin "getset_descriptor.__get__"))
  ct : PySem.W.takesIn K (.builtin "object.__class__") = some true
  cm : PySem.W.mroIn K C (.type "object") = some true
  ic : (PySem.W.clsIn K C).isSome = true
  em : PySem.W.exmOne K (.ref C) (.ref C) = some true
def oexB (K : PySem.W.Frag) (C : Addr) : Bool := match K.lookup C with
  | some ⟨.type "type", _, .cls cd, sl⟩ => (match cd.mro, sl.toList with
    | .ref D :: bm, [_, _, _, _, some (.builtin n), _] => D == C && n == "ValueError.__new__" && !cd.hasDel && cd.hasDict && PySem.HandSPX.refsVE bm
    | _, _ => false)
  | _ => false
theorem oexB_ok {K : PySem.W.Frag} {C : Addr} (q : oexB K C = true) :
    ∃ nm q N bs bm sn sub ab col dd k0 k1 k2 k3 k5, K.lookup C = some (excClassObj nm q C N bs bm true sn sub ab col dd k0 k1 k2 k3 k5 "ValueError.__new__") ∧ PySem.HandSPX.refsVE bm = true := by
  unfold oexB at q
  split at q
  · rename_i dd cd sl ho
    split at q
    · rename_i D bm a0 a1 a2 a3 n a5 hm hs
      simp only [Bool.and_eq_true, beq_iff_eq, Bool.not_eq_true'] at q
      obtain ⟨⟨⟨⟨rfl, rfl⟩, q1⟩, q2⟩, q3⟩ := q
      obtain ⟨nm, bs, mro, ns, qn, hd, sn, sub, ab, col, dl⟩ := cd
      dsimp only at hm q1 q2
      subst hm q1 q2
      have es : sl = #[a0, a1, a2, a3, some (.builtin "ValueError.__new__"), a5] := by
        cases sl
        simp only at hs
        rw [hs]
      subst es
      exact ⟨nm, qn, ns, bs, bm, sn, sub, ab, col, dd, a0, a1, a2, a3, a5, ho, q3⟩
    · cases q
  · cases q
def errB (K : PySem.W.Frag) (C : Addr) : Bool :=
  oexB K C && He.eqO (PySem.W.findIn K (.ref C) "__setattr__") (some (some (.builtin "object.__setattr__"))) && decide (PySem.W.subIn K (.ref C) (.type "BaseException") = some true) &&
  (PySem.W.typeIn K (.ref C) == some (.type "type")) && PySem.W.keepIn K (.ref C) && xfB K C &&
  He.eqO (PySem.W.findIn K (.ref C) "__class__") (some (some (.builtin "object.__class__"))) && He.eqO (PySem.W.specialIn K (.builtin "object.__class__") "__get__") (some (some (.builtin "getset_descriptor.__get__"))) &&
  decide (PySem.W.takesIn K (.builtin "object.__class__") = some true) && decide (PySem.W.mroIn K C (.type "object") = some true) && (PySem.W.clsIn K C).isSome && decide (PySem.W.exmOne K (.ref C) (.ref C) = some true)
theorem errB_ok {K : PySem.W.Frag} {C : Addr} (h : errB K C = true) : Err K C := by
  unfold errB at h
  simp only [Bool.and_eq_true] at h
  obtain ⟨⟨⟨⟨⟨⟨⟨⟨⟨⟨⟨h1, h2⟩, h3⟩, h4⟩, h5⟩, h6⟩, h7⟩, h8⟩, h9⟩, h10⟩, h11⟩, h12⟩ := h
  exact ⟨⟨oexB_ok h1, He.eqO_ok h2, of_decide_eq_true h3, eq_of_beq h4, h5⟩, xfB_ok h6, He.eqO_ok h7, He.eqO_ok h8, of_decide_eq_true h9, of_decide_eq_true h10, h11, of_decide_eq_true h12⟩
/-- isinstance(e, c) where a suite holds e -/
def rIsX (K : PySem.W.Frag) (cls : Value) (d : Option Addr) (a : Addr) : List V → Hp → VK → Prop := fun xs H Q => ∃ (D : Addr) (c : V) (cv : Value) (b : Bool), cls = .ref D ∧ Err K D ∧ xs = [.ref a, c] ∧ (∀ dd, d = some dd → ∃ fs, H dd = some (.xd fs)) ∧
  (∀ u, RelV c u → u = cv) ∧ PySem.W.kitOne K (.ref D) cv = some b ∧ Q (.bl b) H
theorem call_isX {X : Cx} {a : Addr} {cls : Value} {d : Option Addr} {oe : Obj} {pn : List (Addr × Obj)} (hz : Zc cls d oe) (hf : ∃ vs, oe.data = .fields vs) : CallR (X.suite a ((a, oe) :: pn)) (.builtin "isinstance") (rIsX X.K cls d a) := by
  intro pins s σ H xs us Q I r h
  obtain ⟨D, c, cv, b, rfl, E, rfl, hdd, hcv, e, q⟩ := h
  cases r with
  | cons rx rr =>
    cases rr with
    | cons rt rr =>
      cases rr
      cases rx
      have ec := hcv _ rt
      subst ec
      obtain ⟨hget, _⟩ := I.pin (a, oe) (List.mem_append.mpr (.inl List.mem_cons_self))
      obtain ⟨vs, hv⟩ := hf
      have J : ∃ od, PySem.W.InstAt s.heap a oe D od := by
        obtain ⟨oc, od, oda, osl⟩ := oe
        obtain ⟨h1, h2⟩ := hz
        dsimp only at h1 h2 hv
        subst h1 h2 hv
        cases od with
        | none => exact ⟨none, hget, rfl, rfl, trivial⟩
        | some dd =>
          obtain ⟨fs, ed⟩ := hdd dd rfl
          have hx : ObjOk X.prog X.w H s.heap dd (.xd fs) := I.hok dd _ ed
          obtain ⟨mA, ⟨o, es, ep, ho, _⟩, _⟩ := hx
          exact ⟨some o, hget, rfl, rfl, ho⟩
      obtain ⟨od, J⟩ := J
      exact PySem.W.kia_one (PySem.W.kitx_exc E.ic E.xf.ga E.xf.gg E.xf.exC E.ca E.cn E.ct E.cm) I.kIn J e (fun z => nomatch z) fun tk => ⟨.bl b, H, I.kept (t' := tk) fun _ _ z => z, rfl, q⟩
/-! ### making an error -/
def rOex (C : Addr) (sp : Sp) (vs : List V) (H1 : Hp) (Q : XK) : Prop := vs.length ≤ 1000 ∧ ∀ a, H1 a = none → sp (.ref a :: (vs ++ [])) (upd H1 a (exo a C none))
  (fun v H2 => v = .non ∧ ∃ (d : Addr) (fs : List (Str × V)), H2 a = some (exo a C (some d)) ∧ H2 d = some (exd d fs) ∧ H1 d = none ∧ Q (.ref C) (some d) (upd (del H2 a) d (.xd fs))) (fun _ _ _ => False)
def tOex (C : Addr) (sp : Sp) (ta : TA) : L2.St → Hp → XK → Prop := fun σ H Q => ta σ H fun vs H1 => rOex C sp vs H1 Q
/-- __init__ of one field -/
def spI1 (C : Addr) (f : Str) : Sp := fun vs H Q _ => ∃ a v, vs = [.ref a, v] ∧ H a = some (exo a C none) ∧ ∀ dx, H dx = none → dx ≠ a → Q .non (upd (upd H dx (exd dx [(f, v)])) a (exo a C (some dx)))
def spI2 (C : Addr) (f g : Str) : Sp := fun vs H Q _ => ∃ a v w, vs = [.ref a, v, w] ∧ H a = some (exo a C none) ∧ ∀ dx, H dx = none → dx ≠ a → Q .non (upd (upd (upd H dx (exd dx [(f, v)])) a (exo a C (some dx))) dx (exd dx [(g, w), (f, v)]))
theorem a_oex1 {C : Addr} {f : Str} {v : V} {H : Hp} {Q : XK} (q : ∀ d H', H d = none → Same H H' → H' d = some (.xd [(f, v)]) → Q (.ref C) (some d) H') : rOex C (spI1 C f) [v] H Q := by
  refine ⟨by show 1 ≤ 1000; decide, fun a ha => ⟨a, v, rfl, upd_same, fun dx hd ne => ⟨rfl, dx, [(f, v)], upd_same, by rw [upd_ne ne, upd_same], ?_, ?_⟩⟩⟩
  · rw [upd_ne ne] at hd
    exact hd
  · rw [upd_ne ne] at hd
    refine q dx _ hd (fun c o e => ?_) upd_same
    rw [upd_ne (ne_of_none e hd), del_ne (ne_of_none e ha), upd_ne (ne_of_none e ha), upd_ne (ne_of_none e hd), upd_ne (ne_of_none e ha)]
    exact e
theorem a_oex2 {C : Addr} {f g : Str} {v w : V} {H : Hp} {Q : XK} (q : ∀ d H', H d = none → Same H H' → H' d = some (.xd [(g, w), (f, v)]) → Q (.ref C) (some d) H') : rOex C (spI2 C f g) [v, w] H Q := by
  refine ⟨by show 2 ≤ 1000; decide, fun a ha => ⟨a, v, w, rfl, upd_same, fun dx hd ne => ⟨rfl, dx, [(g, w), (f, v)], by rw [upd_ne (Ne.symm ne), upd_same], upd_same, ?_, ?_⟩⟩⟩
  · rw [upd_ne ne] at hd
    exact hd
  · rw [upd_ne ne] at hd
    refine q dx _ hd (fun c o e => ?_) upd_same
    rw [upd_ne (ne_of_none e hd), del_ne (ne_of_none e ha), upd_ne (ne_of_none e hd), upd_ne (ne_of_none e ha), upd_ne (ne_of_none e hd), upd_ne (ne_of_none e ha)]
    exact e
/-- a class whose __init__ keeps sp -/
structure Rai (P : Program) (w : World) (K : PySem.W.Frag) (mg : Str → Option Value) (base : Heap) (x : Str) (C : Addr) (k : Nat) (sp : Sp) : Prop where
  at_ : mg x = some (.ref C)
  er : Err K C
  ex : ∃ (f : Addr) (fd : FuncData) (ps : List Str), PySem.W.findIn K (.ref C) "__init__" = some (some (.ref f)) ∧ PySem.W.typeIn K (.ref f) = some (.type "function") ∧ FnOk P w K mg base (L2.CX P w) k f fd ps sp ∧ Binds K fd ps []
section
variable {X : Cx} {x : Str} {C : Addr} {k j : Nat} {sp : Sp} {e : Expr} {es : List Expr} {ta : TA} {p pos : Pos}
theorem passF {X : Cx} : Passes (L2.CX X.prog X.w) X (fun _ _ _ => False) := fun _ _ _ _ _ _ _ h => by
  obtain ⟨_, _, _, _, _, _, _, _, _, _, _, _, z⟩ := h
  exact z.elim
theorem pmk_r (c : Rai X.prog X.w X.K X.mg X.base x C k sp) (hr : Room j X.A) (hk : k + 1 ≤ j) (hg : Gl X x) (ha : PA X (e :: es) ta) (hd : (x == ("__debug__" : Str)) = false := by decide)
    (h1 : starEach (e :: es) X.env = (false, eval e X.env) :: starEach es X.env := by rfl) (h2 : (backTo pos (starEach es X.env)).any (·.1) = false := by rfl) : PMk X (.Call (.Name x p) (e :: es) [] pos) (tOex C sp ta) := by
  obtain ⟨f, fd, ps, h3, h4, F, b⟩ := c.ex
  exact pmk_oex c.er.ox h3 h4 F (hr.mono hk) b .nil passF hg c.at_ ha hd h1 h2
/-- C(): no __init__ of its own -/
structure Rai0 (K : PySem.W.Frag) (mg : Str → Option Value) (x : Str) (C : Addr) : Prop where
  at_ : mg x = some (.ref C)
  er : Err K C
  ei : PySem.W.excIn K C [.type "ValueError", .type "Exception", .type "BaseException", .type "object"] "ValueError.__new__" = true
theorem pmk_r0 (c : Rai0 X.K X.mg x C) (hg : Gl X x) (hd : (x == ("__debug__" : Str)) = false := by decide) : PMk X (.Call (.Name x p) [] [] pos) (fun _ H Q => Q (.ref C) none H) := by
  intro pins s σ H Q I h
  obtain ⟨hp, g, dr, tk, os⟩ := s
  refine wpAny_Call_Name_kw (ld_glob I hg c.at_ (PySem.W.callWith_K0 (first := []) I.kIn c.er.ox.kC ?_) hd)
  obtain ⟨bm, N, nm, qn, bs, hdct, sn, sub, ab, col, dd, a0, a1, a2, a3, a5, mN, hC, hN, hni, T⟩ := exc_obj I.kIn c.ei
  refine wpAny_call_exc_subT PySem.F.excBase_ValueError T hC hN hni (fun h' e hm => ?_) (by rw [sizeLine_eq]; exact Nat.zero_le _)
  exact mk_of I hm (raises_own c.er.ox.exC c.er.ox.tyC) h (I.hok.gone hm.new)
end
end TT

set_option Elab.async false
set_option linter.all false
set_option maxRecDepth 100000
set_option maxHeartbeats 4000000
namespace TT
open PySem PySem.Spec PyProof.Rows L2
open L2 (St)
/-! ### calls whose errors are wished for at the caller's slots -/
abbrev PassS (X : Cx) (E : L2.St → XK) : Prop := ∀ σ, PassesAt (L2.CX X.prog X.w) X σ (E σ)
theorem passS {X : Cx} {W : WX} (tk : Takes X W) : PassS X (WE W) := fun σ => passAt tk σ
section
variable {X : Cx} {x m : Str} {C f : Addr} {k j : Nat} {sp : Sp} {E : L2.St → XK} {e o a b : Expr} {es : List Expr} {to ta tb : TE} {t : TA} {p pos apos : Pos} {pl : Sem Bool}
theorem run_s {pins : List (Addr × Obj)} {σ : L2.St} {H : Hp} {s : Shared} {E : XK} {Q : VK} {us : List Value} {vs : List V} (F : FnR X.prog X.w X.K X.mg X.base (L2.CX X.prog X.w) k f sp) (hr : Room k X.A) (hx : PassesAt (L2.CX X.prog X.w) X σ E) (I : Inv X pins σ H s) (r : Vals vs us) (h : sp vs H Q E) :
    codeAny (model X.prog X.w) X.A (.call (.ref f) ⟨us, []⟩) (fun r s' => match r with | .ok (.ret v) => EP X pins σ Q v s' | .ok _ => False | .error e => X.xe e s') s :=
  codeAny_mono (F X.A X.stack s H us vs Q E hr I.env0 r h) fun r s' q => by
    rcases r with z | fl
    · exact hx pins H s z s' I q
    · cases fl with
      | ret u => exact I.after q
      | next => exact q.elim
      | brk => exact q.elim
      | cont => exact q.elim
def tFS (sp : Sp) (E : L2.St → XK) (t : TA) : TE := fun σ H Q => t σ H fun vs H1 => sp vs H1 Q (E σ)
theorem pe_fS (c : Cal X.prog X.w X.K X.mg X.base x k sp) (hr : Room j X.A) (hk : k ≤ j) (hg : Gl X x) (hx : PassS X E) (ha : PA X (e :: es) t)
    (hd : (x == ("__debug__" : Str)) = false := by decide) (h1 : starEach (e :: es) X.env = (false, eval e X.env) :: starEach es X.env := by rfl)
    (h2 : (backTo pos (starEach es X.env)).any (·.1) = false := by rfl) : PE X (.Call (.Name x p) (e :: es) [] pos) (tFS sp E t) := ⟨fun pins s σ H Q I h => by
  obtain ⟨f, hm, kp, F⟩ := c.ex
  exact wpAny_Call_Name_kw (ld_glob I hg hm (PySem.W.callWith_K (h₀ := X.base) I.ok.mod.kin kp
    (thn (ha.run pos pins s σ H _ I h) fun us s1 ⟨vs, H1, I1, r, q⟩ => ⟨I1.kIn, wpAny_call (run_s F (hr.mono hk) (hx σ) I1 r q)⟩) h1 h2) hd)⟩
theorem pe_fS0 (c : Cal X.prog X.w X.K X.mg X.base x k sp) (hr : Room j X.A) (hk : k ≤ j) (hg : Gl X x) (hx : PassS X E)
    (hd : (x == ("__debug__" : Str)) = false := by decide) : PE X (.Call (.Name x p) [] [] pos) (tFS sp E tNil) := ⟨fun pins s σ H Q I h => by
  obtain ⟨f, hm, kp, F⟩ := c.ex
  exact wpAny_Call_Name_kw (ld_glob I hg hm (PySem.W.callWith_K0 I.kIn kp (wpAny_call (run_s (us := []) (vs := []) F (hr.mono hk) (hx σ) I .nil h))) hd)⟩
def tMS (C : Addr) (m : Str) (sp : Sp) (E : L2.St → XK) (to : TE) (t : TA) : TE := fun σ H Q => to σ H fun x H1 => ∃ a dx fs, x = .ref a ∧ H1 a = some (.ins C dx fs) ∧ fs.lookup m = none ∧ t σ H1 fun vs H2 => sp (x :: vs) H2 Q (E σ)
theorem pe_mS0 (c : Met X.prog X.w X.K X.mg X.base C m k sp) (hr : Room j X.A) (hk : k ≤ j) (hx : PassS X E) (ho : PE X o to)
    (h3 : eval (.Call (.Attribute o m apos) [] [] pos) X.env = (eval o X.env >>= fun ov => standAt apos.atName >>= fun _ => holding [ov] (getMethod ov m pl) >>= fun fr =>
      callWith pos fr.1 fr.2 (backTo pos (starEach [] X.env)) (backToKw pos (keywordEach [] X.env))) := by rfl) :
    PE X (.Call (.Attribute o m apos) [] [] pos) (tMS C m sp E to tNil) := ⟨fun pins s σ H Q I h => by
  obtain ⟨f, hm, F⟩ := c.ex
  refine PySem.W.methodCall_KW (pl := pl) (thn (ho.run pins s σ H _ I h) fun u s1 hh => ?_) h3
  obtain ⟨v, H1, I1, rv, a, dx, fs, ev, ea, l, q⟩ := hh
  subst ev
  cases (show u = Value.ref a from rv)
  exact getmeth_ok I1 ea c.cl hm l (PySem.W.callWith_K0 (first := [.ref a]) I1.kIn hm.kp (wpAny_call (run_s (us := [.ref a]) (vs := [.ref a]) F (hr.mono hk) (hx σ) I1 (.cons rfl .nil) q)))⟩
theorem pe_mS (c : Met X.prog X.w X.K X.mg X.base C m k sp) (hr : Room j X.A) (hk : k ≤ j) (hx : PassS X E) (ho : PE X o to) (ha : PA X (e :: es) t)
    (h1 : starEach (e :: es) X.env = (false, eval e X.env) :: starEach es X.env := by rfl) (h2 : (backTo pos (starEach es X.env)).any (·.1) = false := by rfl)
    (h3 : eval (.Call (.Attribute o m apos) (e :: es) [] pos) X.env = (eval o X.env >>= fun ov => standAt apos.atName >>= fun _ => holding [ov] (getMethod ov m pl) >>= fun fr =>
      callWith pos fr.1 fr.2 (backTo pos (starEach (e :: es) X.env)) (backToKw pos (keywordEach [] X.env))) := by rfl) :
    PE X (.Call (.Attribute o m apos) (e :: es) [] pos) (tMS C m sp E to t) := ⟨fun pins s σ H Q I h => by
  obtain ⟨f, hm, F⟩ := c.ex
  refine PySem.W.methodCall_KW (pl := pl) (thn (ho.run pins s σ H _ I h) fun u s1 hh => ?_) h3
  obtain ⟨v, H1, I1, rv, a, dx, fs, ev, ea, l, q⟩ := hh
  subst ev
  cases (show u = Value.ref a from rv)
  exact getmeth_ok I1 ea c.cl hm l (PySem.W.callWith_K (first := [.ref a]) (h₀ := X.base) I1.ok.mod.kin hm.kp (thn (ha.run pos pins _ σ H1 _ (I1.tok _) q) fun us s2 ⟨vs, H2, I2, r, q2⟩ =>
    ⟨I2.kIn, wpAny_call (run_s (us := .ref a :: us) (vs := .ref a :: vs) F (hr.mono hk) (hx σ) I2 (.cons rfl r) q2)⟩) h1 h2)⟩
def tKS (C : Addr) (sp : Sp) (E : L2.St → XK) (t : TA) : TE := fun σ H Q => t σ H fun vs H1 => rMk C sp (E σ) vs H1 Q
theorem pe_kS (c : Mak X.prog X.w X.K X.mg X.base x C k sp) (hr : Room j X.A) (hk : k + 1 ≤ j) (hg : Gl X x) (hx : PassS X E) (ha : PA X (e :: es) t)
    (hd : (x == ("__debug__" : Str)) = false := by decide) (h1 : starEach (e :: es) X.env = (false, eval e X.env) :: starEach es X.env := by rfl)
    (h2 : (backTo pos (starEach es X.env)).any (·.1) = false := by rfl) : PE X (.Call (.Name x p) (e :: es) [] pos) (tKS C sp E t) := ⟨fun pins s σ H Q I h => by
  obtain ⟨f, M, F⟩ := c.ex
  refine wpAny_Call_Name_kw (ld_glob I hg c.at_ (PySem.W.callWith_K (h₀ := X.base) I.ok.mod.kin M.kp (thn (ha.run pos pins s σ H _ I h) fun us s1 ⟨vs, H1, I1, r, q⟩ => ⟨I1.kIn, ?_⟩) h1 h2) hd)
  have q0 := q (s1.heap.objs.size + 1) s1.heap.objs.size (I1.hok.fresh (Nat.le_succ _)) (I1.hok.fresh (Nat.le_refl _)) (Nat.ne_of_lt (Nat.lt_succ_self _))
  have I2 := Inv.made (C := C) I1
  refine wpAny_call (make_map (f := f) I1.kIn M.makes M.init (beq_iff_eq.mp M.fn) (codeAny_mono (F _ X.stack _ _ (Value.ref (s1.heap.objs.size + 1) :: us) (V.ref (s1.heap.objs.size + 1) :: vs) _ (E σ) ((hr.mono hk).make C us []) (I2.env0.make C us []) (.cons rfl r) q0) fun z s' q' => ?_))
  rcases z with z | fl
  · exact hx σ pins _ _ z s' I2 q'
  · cases fl with
    | ret u =>
      obtain ⟨v, H', I3, rv, ev, q3⟩ := I2.after q'
      subst ev
      exact ⟨rv, V.ref (s1.heap.objs.size + 1), H', I3, rfl, q3⟩
    | next => exact q'.elim
    | brk => exact q'.elim
    | cont => exact q'.elim⟩
def tSS (C : Addr) (sp : Sp) (E : L2.St → XK) (to : TE) (t : TA) : TE := fun σ H Q => to σ H fun x H1 => x = .ref C ∧ t σ H1 fun vs H2 => sp vs H2 Q (E σ)
theorem pe_sS (c : Sta X.prog X.w X.K X.mg X.base C m k sp) (hr : Room j X.A) (hk : k ≤ j) (hx : PassS X E) (ho : PE X o to) (ha : PA X (e :: es) t)
    (h1 : starEach (e :: es) X.env = (false, eval e X.env) :: starEach es X.env := by rfl) (h2 : (backTo pos (starEach es X.env)).any (·.1) = false := by rfl)
    (h3 : eval (.Call (.Attribute o m apos) (e :: es) [] pos) X.env = (eval o X.env >>= fun ov => standAt apos.atName >>= fun _ => holding [ov] (getMethod ov m pl) >>= fun fr =>
      callWith pos fr.1 fr.2 (backTo pos (starEach (e :: es) X.env)) (backToKw pos (keywordEach [] X.env))) := by rfl) :
    PE X (.Call (.Attribute o m apos) (e :: es) [] pos) (tSS C sp E to t) := ⟨fun pins s σ H Q I h => by
  obtain ⟨p, f, hf, ⟨rest, hrec⟩, kp, F⟩ := c.ex
  refine PySem.W.methodCall_KW (pl := pl) (thn (ho.run pins s σ H _ I h) fun u s1 hh => ?_) h3
  obtain ⟨v, H1, I1, rv, ev, q⟩ := hh
  subst ev
  cases (show u = Value.ref C from rv)
  refine PySem.W.method_cls I1.kIn c.ga (PySem.W.cls_bind I1.kIn c.rd hf (wpAny_call ?_))
  refine PySem.W.sm_get (s := { s1 with toks := s1.toks + 1 }) I1.kIn hrec (PySem.W.handed_on rfl ?_)
  exact PySem.W.callWith_K (first := []) (h₀ := X.base) I.ok.mod.kin kp (thn (ha.run pos pins _ σ H1 _ (I1.tok _) q) fun us s2 ⟨vs, H2, I2, r, q2⟩ =>
    ⟨I2.kIn, wpAny_call (run_s F (hr.mono hk) (hx σ) I2 r q2)⟩) h1 h2⟩
/-- a * b by the class's own def -/
def tBS (C : Addr) (sp : Sp) (E : L2.St → XK) (ta tb : TE) : TE := fun σ H Q => ta σ H fun x H1 => tb σ H1 fun y H2 => rOwnB C sp (E σ) x y H2 Q
theorem pe_mulS (ow : Own X.K C) (c : Met X.prog X.w X.K X.mg X.base C "__mul__" k sp) (hr : Room j X.A) (hk : k ≤ j) (hx : PassS X E) (ha : PE X a ta) (hb : PE X b tb) : PE X (.BinOp a .Mult b pos) (tBS C sp E ta tb) := ⟨fun pins s σ H Q I h =>
  wpAny_BinOp (binT ha hb I h fun v u s2 x y H2 I2 rx ry q => by
    obtain ⟨o1, dx, fs, o2, dy, gs, rfl, rfl, h1, h2, q⟩ := q
    obtain ⟨f, hm, F⟩ := c.ex
    cases (show v = Value.ref o1 from rx)
    cases (show u = Value.ref o2 from ry)
    obtain ⟨mA, O, _⟩ := ins_get I2.hok h1
    obtain ⟨od, J, _⟩ := O.look
    obtain ⟨mB, O', _⟩ := ins_get I2.hok h2
    obtain ⟨od', J', _⟩ := O'.look
    obtain ⟨m, hF⟩ := I2.fr
    refine PySem.W.binop_K (op := .Mult) hF I2.ok.mod.kin J J'.type ow.sf hm.at_ hm.fn ?_
    refine wpAny_mono (wpAny_call (run_s (us := [.ref o1, .ref o2]) (vs := [.ref o1, .ref o2]) F (hr.mono hk) (hx σ) I2 (.cons rfl (.cons rfl .nil)) q)) (fun w s' z => ?_) fun _ _ z => z
    obtain ⟨z', H', I', rz, qz⟩ := z
    exact SlX.cmpback rz ⟨z', H', I', rz, qz⟩)⟩
end
/-! ### try with any number of clauses «except x as n» -/
/-- what stands behind a suite: its name is gone -/
def gone (D : Ends) (i : Nat) : Ends := { nx := fun σ H => D.nx (σ.set i none) H, rt := D.rt, bk := fun σ H => D.bk (σ.set i none) H, ct := fun σ H => D.ct (σ.set i none) H }
def wN (K : PySem.W.Frag) (Wout : WX) (D : Ends) : List (Value × Nat × (Addr → Value → Option Addr → TS)) → WX
  | [] => Wout
  | (c, i, ts) :: r => fun cls d σ H => ∃ b, PySem.W.exmOne K cls c = some b ∧ (b = true → ∀ a, H a = none → ts a cls d (gone D i) (σ.set i (some (.ref a))) H) ∧ (b = false → wN K Wout D r cls d σ H)
inductive HdsN (X : Cx) : List ExceptHandler → List (Value × Nat × (Addr → Value → Option Addr → TS)) → Prop
  | nil : HdsN X [] []
  | cons {x n : Str} {c : Value} {i : Nat} {ts : Addr → Value → Option Addr → TS} {b₀ : Stmt} {suite : List Stmt} {np pos' : Pos} {hds : List ExceptHandler} {l : List (Value × Nat × (Addr → Value → Option Addr → TS))} (hi : X.N[i]? = some n) (hln : X.env.kindOf n = some .local) (hc : Names X x c)
      (hsu : ∀ (a : Addr) (oe : Obj) (cls : Value) (d : Option Addr) (pn : List (Addr × Obj)), Zc cls d oe → (∃ vs, oe.data = .fields vs) → PSs (X.suite a ((a, oe) :: pn)) (b₀ :: suite) (ts a cls d)) (r : HdsN X hds l) :
      HdsN X (.ExceptHandler (some (.Name x np)) (some n) (b₀ :: suite) pos' :: hds) ((c, i, ts) :: l)
section
variable {X : Cx} {body : List Stmt} {h₀ : ExceptHandler} {hds : List ExceptHandler} {l : List (Value × Nat × (Addr → Value → Option Addr → TS))} {pos : Pos} {tb : WX → TS} {Wout : WX}
theorem ps_tryN (hs : X.stack = X.env :: X.outer) (hf : X.env.frame = some X.env.locals) (hN : X.N.Nodup) (tk : Takes X Wout)
    (hb : ∀ (W : WX) (pn : List (Addr × Obj)) (xe : Value → Shared → Prop), Takes (X.tr pn xe) W → PassesOwn (model X.prog X.w) X.A X.env xe → PSs (X.tr pn xe) body (tb W))
    (hh : HdsN X (h₀ :: hds) l) : PS X (.Try body (h₀ :: hds) [] [] pos) (fun D σ H => tb (wN X.K Wout D l) D σ H) := ⟨fun pins s σ H D I h => by
  have ok := I.ok
  have fr0 : X.A.frames = some (X.env :: X.outer) := ok.frames.trans (by rw [hs])
  refine wpAny_Try_except (wpAny_mono ((hb (wN X.K Wout D l) (X.pn ++ pins) (fun z t1 => wpAny (model X.prog X.w) X.A (noteFrame z X.env) (fun _ t2 => wpAny (model X.prog X.w) X.A (setFlight z none) (fun _ t3 =>
    wpAny (model X.prog X.w) X.A (handleBy z X.env (h₀ :: hds)) (SP X pins D) X.xe t3) X.xe t2) X.xe t1) (fun u s' xx => ?_) PassesOwn.looking).run [] s σ H D (I.toTry _) h) (fun fl s1 hsp => ?_) fun _ _ z => z)
  · obtain ⟨a, B, sI, pins', σ', H', cls, d, rfl, J0, nb, up, sk0, na, os, ag, wi⟩ := xx
    have J : Inv X pins σ' H' sI := J0.ofTry ok
    have sk : Sky B (X.env :: X.outer) a (Zc cls d) X.env.locals s'.heap := hs ▸ sk0
    refine Sky.land Zc.steady fr0 hf sk fun h3 fl3 up3 => ?_
    have J3 : Inv X pins σ' H' { s' with heap := h3 } := J.landed nb fl3.1 (up.trans up3) os ag
    obtain ⟨oe3, vs3, he3, hz3, hd3⟩ := fl3.there
    have nfr : a ∉ frs (X.env :: X.outer) := fun hm => by
      obtain ⟨_, o', e', hnf⟩ := fl3.2.2.1.mem hm
      rw [he3] at e'
      cases e'
      exact hnf _ hd3
    have nL : a ≠ X.env.locals := fun z => nfr (List.mem_filterMap.mpr ⟨X.env, List.mem_cons_self, hf.trans (by rw [z])⟩)
    have nF : a ∉ X.fs := fun hm => by
      obtain ⟨en, he, q⟩ := List.mem_filterMap.mp hm
      exact nfr (List.mem_filterMap.mpr ⟨en, List.mem_cons_of_mem _ he, q⟩)
    have S3 := J3.suite he3 hd3 na nL nF
    have go : ∀ {g : List ExceptHandler} {l' : List (Value × Nat × (Addr → Value → Option Addr → TS))}, HdsN X g l' → wN X.K Wout D l' cls d σ' H' →
        wpAny (model X.prog X.w) X.A (handleBy (.ref a) X.env g) (SP X pins D) X.xe { s' with heap := h3 } := by
      intro g l' hk
      induction hk with
      | nil =>
        intro wi
        refine wpAny_handleBy_nil ?_
        obtain ⟨_, _, _, oe, vs, T, oT, ts', he, hz, hd, h1, _⟩ := id fl3
        unfold PySem.passOn
        refine wpAny_bind (wpAny_field he hd h1 ?_)
        rw [if_neg (by simp : ¬ ((Value.ref T == Value.none) = true))]
        have out : wpAny (model X.prog X.w) X.A (setFlight (.ref a) X.env.frame) (fun _ t4 => wpAny (model X.prog X.w) X.A (throw (.ref a) : Sem Flow) (SP X pins D) X.xe t4) X.xe { s' with heap := h3 } := by
          rw [hf]
          exact HandSPX.setFlight_upZ fl3 fun h4 hh4 up4 => wpAny_throw (tk _ _ ⟨a, B, sI, pins, σ', H', cls, d, rfl, J, nb, (up.trans up3).trans up4, .inr (.inr (by rw [hs]; exact hh4)), na, os, ag, wi⟩)
        first
          | exact wpAny_bind (wpAny_pure (wpAny_bind out))
          | exact wpAny_bind out
      | @cons x n c i ts b₀ suite np pos' g2 l2 hi hln hc hsu r ih =>
        intro wi
        obtain ⟨b, hb1, yes, no⟩ := wi
        refine wpAny_handleBy_cons (codeAny_handlers_test ?_) (fun q => by cases q)
        have LT : PySem.W.Looks (model X.prog X.w) h3 (typeOf (.ref a)) cls := fun A Q E t k q => wpAny_typeOf_ref (k _ _ he3) (hz3.1 ▸ q)
        have LM := PySem.W.exm_one (M := model X.prog X.w) (J3.kIn) LT hb1
        have test : ∀ {Q : Value → Shared → Prop} {E : Value → Shared → Prop}, Q c { s' with heap := h3 } → wpAny (model X.prog X.w) (X.A.mark (some (.ref a))) (eval (.Name x np) X.env) Q E { s' with heap := h3 } := fun {Q E} q => by
          obtain ⟨c1, c2, c3 | ⟨c3, c4, c5⟩⟩ := hc
          · exact ld_glob (X := X.suite a ((a, oe3) :: (X.pn ++ pins))) S3 c1 c3 q c2
          · exact ld_blt (X := X.suite a ((a, oe3) :: (X.pn ++ pins))) S3 c1 c3 c4 q c5 c2
        refine test (LM.here ?_)
        cases b with
        | true =>
          refine codeAny_handlers_suite_as (HandSPX.lands_againZ fl3 fun h4 fl4 up4 => ?_)
          have J4 : Inv X pins σ' H' { s' with heap := h4 } := J.landed nb fl4.1 ((up.trans up3).trans up4) os ag
          obtain ⟨oe4, vs4, he4, hz4, hd4⟩ := fl4.there
          have S4 := J4.suite he4 hd4 na nL nF
          refine store_ok (X := X.suite a ((a, oe4) :: (X.pn ++ pins))) (v := .ref a) S4 hN hi (.inl hln) rfl (fun s5 S5 => ?_) (.inr hln)
          refine wpAny_mono ((hsu a oe4 cls d (X.pn ++ pins) hz4 ⟨_, hd4⟩).run [] s5 _ H' _ S5 (yes rfl a na)) (fun fl t6 hsp => ?_) (fun _ _ z => z.elim)
          have fin : ∀ {σ6 : L2.St} {H6 : Hp} {Q : Shared → Prop}, Inv (X.suite a ((a, oe4) :: (X.pn ++ pins))) [] σ6 H6 t6 → (∀ t7, Inv X pins (σ6.set i none) H6 t7 → Q t7) →
              wpAny (model X.prog X.w) X.A (do bindName X.env n .none; unbindBehindTheSuite X.env n pos') (fun _ t7 => Q t7) X.xe t6 := fun {σ6 H6 Q} S6 hq => gone_ok (S6.unsuite ok) hN hi hln hq
          cases fl with
          | next =>
            obtain ⟨_, _, S6, q6⟩ := hsp
            exact fin S6 fun t7 J7 => ⟨_, _, J7, q6⟩
          | brk =>
            obtain ⟨_, _, S6, q6⟩ := hsp
            exact fin S6 fun t7 J7 => ⟨_, _, J7, q6⟩
          | cont =>
            obtain ⟨_, _, S6, q6⟩ := hsp
            exact fin S6 fun t7 J7 => ⟨_, _, J7, q6⟩
          | ret u =>
            obtain ⟨_, _, _, S6, r6, q6⟩ := hsp
            exact fin S6 fun t7 J7 => ⟨_, _, _, J7, r6, q6⟩
        | false => exact ih (no rfl)
    exact go hh wi
  · cases fl with
    | next =>
      obtain ⟨_, _, J1, q⟩ := hsp
      exact wpAny_execs_nil ⟨_, _, J1.ofTry ok, q⟩
    | brk =>
      obtain ⟨_, _, J1, q⟩ := hsp
      exact ⟨_, _, J1.ofTry ok, q⟩
    | cont =>
      obtain ⟨_, _, J1, q⟩ := hsp
      exact ⟨_, _, J1.ofTry ok, q⟩
    | ret u =>
      obtain ⟨_, _, _, J1, r, q⟩ := hsp
      exact ⟨_, _, _, J1.ofTry ok, r, q⟩⟩
end
end TT

set_option Elab.async false
set_option linter.all false
set_option maxRecDepth 100000
set_option maxHeartbeats 4000000
namespace TT
open PySem PySem.Spec PyProof.Rows L2
/-! ### raise and try, named -/
def tRaise (W : WX) (t : L2.St → Hp → XK → Prop) : TS := fun _ σ H => t σ H fun cls d H' => W cls d σ H'
theorem ps_rs {X : Cx} {W : WX} {e : Expr} {t : L2.St → Hp → XK → Prop} {pos : Pos} (hc : X.calm = true) (tk : Takes X W) (he : PMk X e t) : PS X (.Raise (some e) none pos) (tRaise W t) := ps_raise hc tk he
def tR0 (C : Addr) : L2.St → Hp → XK → Prop := fun _ H Q => Q (.ref C) none H
theorem pmk_n {X : Cx} {x : Str} {C : Addr} {p pos : Pos} (c : Rai0 X.K X.mg x C) (hg : Gl X x) (hd : (x == ("__debug__" : Str)) = false := by decide) : PMk X (.Call (.Name x p) [] [] pos) (tR0 C) := pmk_r0 c hg hd
def tTry (K : PySem.W.Frag) (Wout : WX) (l : List (Value × Nat × (Addr → Value → Option Addr → TS))) (tb : WX → TS) : TS := fun D σ H => tb (wN K Wout D l) D σ H
theorem ps_tr {X : Cx} {K : PySem.W.Frag} {body : List Stmt} {h₀ : ExceptHandler} {hds : List ExceptHandler} {l : List (Value × Nat × (Addr → Value → Option Addr → TS))} {pos : Pos} {tb : WX → TS} {Wout : WX} (hK : X.K = K) (hs : X.stack = X.env :: X.outer) (hf : X.env.frame = some X.env.locals) (hN : X.N.Nodup) (tk : Takes X Wout)
    (hb : ∀ (W : WX) (pn : List (Addr × Obj)) (xe : Value → Shared → Prop), Takes (X.tr pn xe) W → PassesOwn (model X.prog X.w) X.A X.env xe → PSs (X.tr pn xe) body (tb W))
    (hh : HdsN X (h₀ :: hds) l) : PS X (.Try body (h₀ :: hds) [] [] pos) (tTry K Wout l tb) := by subst hK; exact ps_tryN hs hf hN tk hb hh
theorem k_isX {X : Cx} {K : PySem.W.Frag} {a : Addr} {cls : Value} {d : Option Addr} {oe : Obj} {pn : List (Addr × Obj)} (hK : X.K = K) (hz : Zc cls d oe) (hf : ∃ vs, oe.data = .fields vs) : CallR (X.suite a ((a, oe) :: pn)) (.builtin "isinstance") (rIsX K cls d a) := by subst hK; exact call_isX hz hf
theorem k_xf {X : Cx} {K : PySem.W.Frag} {a C : Addr} {oe : Obj} {cls : Value} {d : Option Addr} {pn : List (Addr × Obj)} {e : Expr} {te : TE} {pos : Pos} {n : Str} (hK : X.K = K) (T : XfC K C) (hno : PySem.W.findIn K (.ref C) n = some none)
    (hz : Zc cls d oe) (hf : ∃ vs, oe.data = .fields vs) (he : PE (X.suite a ((a, oe) :: pn)) e te) (hb : attributeBase e n X.env (eval e X.env) = eval e X.env := by rfl) :
    PE (X.suite a ((a, oe) :: pn)) (.Attribute e n pos) (tXf a cls d C n te) := by subst hK; exact pe_xf T hno hz hf he hb
def tCOS (C : Addr) (sp : Sp) (E : L2.St → XK) (tf : TE) (t : TA) : TE := fun σ H Q => tf σ H fun y H1 => ∃ a, y = V.ref a ∧ t σ H1 fun vs H2 => (∃ dx fs, H2 a = some (.ins C dx fs)) ∧ sp (V.ref a :: vs) H2 Q (E σ)
theorem pe_coS {X : Cx} {C : Addr} {sp : Sp} {E : L2.St → XK} {k i : Nat} {fe e : Expr} {es : List Expr} {tf : TE} {t : TA} {pos : Pos} (c : Met X.prog X.w X.K X.mg X.base C "__call__" k sp) (fi : ∀ g, Meth X.K C "__call__" g → PySem.W.fnIn X.K g = true) (hr : Room i X.A) (hk : k ≤ i) (hx : PassS X E) (hf : PE X fe tf) (ha : PA X (e :: es) t)
    (h1 : eval (.Call fe (e :: es) [] pos) X.env = (eval fe X.env >>= fun z => callWith pos z [] (backTo pos (starEach (e :: es) X.env)) (backToKw pos (keywordEach [] X.env))) := by rfl)
    (h2 : starEach (e :: es) X.env = (false, eval e X.env) :: starEach es X.env := by rfl) (h3 : (backTo pos (starEach es X.env)).any (·.1) = false := by rfl) : PE X (.Call fe (e :: es) [] pos) (tCOS C sp E tf t) := ⟨fun pins s σ H Q I h => by
  obtain ⟨g, hm, F⟩ := c.ex
  refine Call_ (thn (hf.run pins s σ H _ I h) fun u s1 hh => ?_) h1
  obtain ⟨y, H1, I1, ry, a, ey, q⟩ := hh
  subst ey
  cases (show u = Value.ref a from ry)
  refine StX.callO_with (thn (ha.run pos pins s1 σ H1 _ I1 q) fun us s2 hh2 => ?_) h2 h3
  obtain ⟨vs, H2, I2, r, ⟨dx, fs, hi⟩, q2⟩ := hh2
  obtain ⟨ox, od, J, hd⟩ := StX.insC_at (C := C) I2 (.inr ⟨dx, fs, hi⟩)
  exact ⟨⟨C, ox, od, J, hd⟩, wpAny_call (PySem.W.kco_code I2.kIn J hd hm.at_ hm.fn (fi g hm) (run_s (us := .ref a :: us) (vs := .ref a :: vs) F (hr.mono hk) (hx σ) I2 (.cons rfl r) q2))⟩⟩
theorem g_cos {σ : L2.St} {H : Hp} {Q : VK} {C : Addr} {sp : Sp} {E : L2.St → XK} {tf : TE} {t : TA} (h : tf σ H fun y H1 => ∃ a, y = V.ref a ∧ t σ H1 fun vs H2 => (∃ dx fs, H2 a = some (.ins C dx fs)) ∧ sp (V.ref a :: vs) H2 Q (E σ)) : tCOS C sp E tf t σ H Q := h
section
variable {K : PySem.W.Frag} {σ : L2.St} {H H1 : Hp} {Q : VK} {QX : XK} {D : Ends} {t u : TS} {ta tb te : TE} {ts : TA} {i : Nat} {v x y : V} {a p b C : Addr} {sp : Sp} {E : L2.St → XK} {W Wout : WX} {cls : Value} {d : Option Addr}
theorem g_raise {t : L2.St → Hp → XK → Prop} (h : t σ H fun cls d H' => W cls d σ H') : tRaise W t D σ H := h
theorem g_r0 (h : QX (.ref C) none H) : tR0 C σ H QX := h
theorem g_oex (h : ts σ H fun vs H1 => rOex C sp vs H1 QX) : tOex C sp ts σ H QX := h
theorem g_try {l : List (Value × Nat × (Addr → Value → Option Addr → TS))} {tb : WX → TS} (h : tb (wN K Wout D l) D σ H) : tTry K Wout l tb D σ H := h
theorem g_FS (h : ts σ H fun vs H1 => sp vs H1 Q (E σ)) : tFS sp E ts σ H Q := h
theorem g_MS {m : Str} (h : ta σ H fun x H1 => ∃ a dx fs, x = .ref a ∧ H1 a = some (.ins C dx fs) ∧ fs.lookup m = none ∧ ts σ H1 fun vs H2 => sp (x :: vs) H2 Q (E σ)) : tMS C m sp E ta ts σ H Q := h
theorem g_KS (h : ts σ H fun vs H1 => rMk C sp (E σ) vs H1 Q) : tKS C sp E ts σ H Q := h
theorem g_SS (h : ta σ H fun x H1 => x = .ref C ∧ ts σ H1 fun vs H2 => sp vs H2 Q (E σ)) : tSS C sp E ta ts σ H Q := h
theorem g_BS (h : ta σ H fun x H1 => tb σ H1 fun y H2 => rOwnB C sp (E σ) x y H2 Q) : tBS C sp E ta tb σ H Q := h
/-- e.f, its class and its dict known -/
theorem g_xf {f : Str} {dd : Addr} {fs : List (Str × V)} (h : te σ H fun x H1 => x = .ref a ∧ ∃ fs v, H1 dd = some (.xd fs) ∧ fs.lookup f = some v ∧ Q v H1) (mono : ∀ R R' : VK, (∀ x H, R x H → R' x H) → te σ H R → te σ H R') : tXf a (.ref C) (some dd) C f te σ H Q :=
  mono _ _ (fun x H1 ⟨e, fs, v, h1, h2, q⟩ => ⟨e, rfl, dd, fs, v, rfl, h1, h2, q⟩) h
theorem g_xfv {f : Str} {dd : Addr} {fs : List (Str × V)} {i : Nat} (h1 : σ[i]? = some (some (.ref a))) (h2 : H dd = some (.xd fs)) (h3 : fs.lookup f = some v) (q : Q v H) : tXf a (.ref C) (some dd) C f (tVar i) σ H Q :=
  ⟨_, h1, rfl, rfl, dd, fs, v, rfl, h2, h3, q⟩
theorem g_xf1 {f : Str} {dd : Addr} {i : Nat} (h1 : σ[i]? = some (some (.ref a))) (h2 : H dd = some (.xd [(f, v)])) (q : Q v H) : tXf a (.ref C) (some dd) C f (tVar i) σ H Q :=
  g_xfv h1 h2 (by simp [List.lookup]) q
theorem g_gone {i : Nat} (h : D.nx (σ.set i none) H) : (gone D i).nx σ H := h
theorem a_isX {c : V} {u : Value} {b : Bool} (er : Err K C) (hd : ∀ dd, d = some dd → ∃ fs, H dd = some (.xd fs)) (k : ∀ z, RelV c z → z = u) (e : PySem.W.kitOne K (.ref C) u = some b) (q : Q (.bl b) H) : rIsX K (.ref C) d a [.ref a, c] H Q := ⟨C, c, u, b, rfl, er, rfl, hd, k, e, q⟩
theorem a_isX0 {D : Addr} {b : Bool} (er : Err K C) (e : PySem.W.kitOne K (.ref C) (.ref D) = some b) (q : Q (.bl b) H) : rIsX K (.ref C) none a [.ref a, .ref D] H Q := a_isX er (fun _ z => by cases z) (fun _ z => z) e q
theorem a_isX1 {D dd : Addr} {fs : List (Str × V)} {b : Bool} (er : Err K C) (h : H dd = some (.xd fs)) (e : PySem.W.kitOne K (.ref C) (.ref D) = some b) (q : Q (.bl b) H) : rIsX K (.ref C) (some dd) a [.ref a, .ref D] H Q :=
  a_isX er (fun _ z => by cases z; exact ⟨_, h⟩) (fun _ z => z) e q
theorem a_catch {c : Value} {i : Nat} {f : Addr → Value → Option Addr → TS} {r : List (Value × Nat × (Addr → Value → Option Addr → TS))} (e : PySem.W.exmOne K cls c = some true) (h : ∀ a, H a = none → f a cls d (gone D i) (σ.set i (some (.ref a))) H) : wN K Wout D ((c, i, f) :: r) cls d σ H :=
  ⟨true, e, fun _ => h, fun z => Bool.noConfusion z⟩
theorem a_skip {c : Value} {i : Nat} {f : Addr → Value → Option Addr → TS} {r : List (Value × Nat × (Addr → Value → Option Addr → TS))} (e : PySem.W.exmOne K cls c = some false) (h : wN K Wout D r cls d σ H) : wN K Wout D ((c, i, f) :: r) cls d σ H :=
  ⟨false, e, fun z => Bool.noConfusion z, fun _ => h⟩
theorem a_nite {c A B : Prop} [Decidable c] (h1 : ¬ c → A) (h2 : c → B) : if (!decide c) = true then A else B := by
  by_cases h : c
  · rw [decide_eq_true h]
    exact h2 h
  · rw [decide_eq_false h]
    exact h1 h
end
/-! ### weaker promises -/
section
variable {P : Program} {w : World} {K : PySem.W.Frag} {mg : Str → Option Value} {base : Heap} {x m : Str} {C : Addr} {k : Nat} {sp sp' : Sp}
theorem Cal.imp (c : Cal P w K mg base x k sp) (h : ∀ vs H Q E, sp' vs H Q E → sp vs H Q E) : Cal P w K mg base x k sp' := let ⟨f, a, b, F⟩ := c.ex; ⟨f, a, b, F.imp h⟩
theorem Met.imp (c : Met P w K mg base C m k sp) (h : ∀ vs H Q E, sp' vs H Q E → sp vs H Q E) : Met P w K mg base C m k sp' := let ⟨f, a, F⟩ := c.ex; ⟨c.cl, f, a, F.imp h⟩
theorem Mak.imp (c : Mak P w K mg base x C k sp) (h : ∀ vs H Q E, sp' vs H Q E → sp vs H Q E) : Mak P w K mg base x C k sp' := let ⟨f, a, F⟩ := c.ex; ⟨c.at_, f, a, F.imp h⟩
theorem Sta.imp (c : Sta P w K mg base C m k sp) (h : ∀ vs H Q E, sp' vs H Q E → sp vs H Q E) : Sta P w K mg base C m k sp' := let ⟨p, f, a, b, d, F⟩ := c.ex; ⟨c.rd, c.ga, p, f, a, b, d, F.imp h⟩
theorem rai_of {q : Str} {st : Stmt} {f : Addr} {fd : FuncData} {ps : List Str} {ks : List (Str × V)} (F : FX K "__init__" q st [] ks f fd) (hm : mg x = some (.ref C)) (er : Err K C) (i1 : PySem.W.findIn K (.ref C) "__init__" = some (some (.ref f))) (i2 : PySem.W.typeIn K (.ref f) = some (.type "function"))
    (G : FnOk P w K mg base (L2.CX P w) k f fd ps sp)
    (b : ∀ (kV doc pm : Value) (an : Option Addr) (cdv ct : Value) (us : List Value), us.length = ps.length → bindArgs (PySem.W.fnOf "__init__" q (defArgs st) (defBody st) (defScope st) .none kV doc pm an cdv ct) ⟨us, []⟩ = pure (ps.zip us)) :
    Rai P w K mg base x C k sp := ⟨hm, er, f, fd, ps, i1, i2, G, F.bindsN b⟩
end
end TT

set_option Elab.async false
set_option linter.all false
set_option maxRecDepth 100000
set_option maxHeartbeats 4000000
namespace TT
open PySem PySem.Spec PyProof.Rows L2
/-! ### data of small depth, that can be compared -/
structure Sm (n : Nat) (d : PyData) : Prop where
  lay : d.canLay0 = true
  dep : d.depth ≤ n
def SmA (n : Nat) (ds : List PyData) : Prop := PyData.canLayAll0 ds = true ∧ PyData.depthAll ds ≤ n
theorem Sm.le {n m : Nat} {d : PyData} (h : Sm n d) (l : n ≤ m) : Sm m d := ⟨h.lay, Nat.le_trans h.dep l⟩
theorem Sm.sh {n : Nat} {d : PyData} (h : Sm n d) (l : n ≤ 64 := by decide) : SeqAt.shaped d = true := by
  unfold SeqAt.shaped
  rw [h.lay, decide_eq_true (Nat.le_trans h.dep l)]
  rfl
theorem SmA.nil {n : Nat} : SmA n [] := ⟨by simp [PyData.canLayAll0], by simp [PyData.depthAll]⟩
theorem SmA.cons {n : Nat} {d : PyData} {ds : List PyData} (h : Sm n d) (t : SmA n ds) : SmA n (d :: ds) := ⟨by simp [PyData.canLayAll0, h.lay, t.1], by
  have h1 := h.dep
  have h2 := t.2
  simp only [PyData.depthAll]
  omega⟩
theorem SmA.of {n : Nat} : ∀ {ds : List PyData}, (∀ d ∈ ds, Sm n d) → SmA n ds
  | [], _ => .nil
  | d :: ds, h => .cons (h d (List.mem_cons_self ..)) (SmA.of fun e he => h e (List.mem_cons_of_mem _ he))
theorem Sm.int {n : Nat} (i : Int) : Sm (n + 1) (.int i) := ⟨by simp [PyData.canLay0], by simp [PyData.depth]⟩
theorem Sm.bl {n : Nat} (b : Bool) : Sm (n + 1) (.bool b) := ⟨by simp [PyData.canLay0], by simp [PyData.depth]⟩
theorem Sm.non {n : Nat} : Sm (n + 1) .none := ⟨by simp [PyData.canLay0], by simp [PyData.depth]⟩
theorem Sm.str {n : Nat} (x : Str) (h : PyData.strOk x = true) : Sm (n + 1) (.str x) := ⟨by simp [PyData.canLay0, h], by simp [PyData.depth]⟩
theorem Sm.tup {n : Nat} {ds : List PyData} (h : SmA n ds) : Sm (n + 1) (.tuple ds) := ⟨by simp [PyData.canLay0, h.1], by
  have h2 := h.2
  simp only [PyData.depth]
  omega⟩
theorem Sm.lst {n : Nat} {ds : List PyData} (h : SmA n ds) : Sm (n + 1) (.list ds) := ⟨by simp [PyData.canLay0, h.1], by
  have h2 := h.2
  simp only [PyData.depth]
  omega⟩
/-- a value that reads as small data -/
structure Dq (K : PySem.W.Frag) (H : Hp) (n : Nat) (v : V) (d : PyData) : Prop where
  dp : Dp K H v d
  sm : Sm n d
structure DqA (K : PySem.W.Frag) (H : Hp) (n : Nat) (vs : List V) (ds : List PyData) : Prop where
  dp : DpAll K H vs ds
  sm : SmA n ds
section
variable {K : PySem.W.Frag} {H H1 : Hp} {n : Nat} {v x y : V} {vs : List V} {d e : PyData} {ds : List PyData} {a : Addr} {Q : VK}
theorem DqA.nil : DqA K H n [] [] := ⟨.nil, .nil⟩
theorem DqA.cons (h : Dq K H n v d) (t : DqA K H n vs ds) : DqA K H n (v :: vs) (d :: ds) := ⟨.cons h.dp t.dp, .cons h.sm t.sm⟩
theorem Dq.int (i : Int) : Dq K H (n + 1) (.int i) (.int i) := ⟨.int i, .int i⟩
theorem Dq.bl (b : Bool) : Dq K H (n + 1) (.bl b) (.bool b) := ⟨.bl b, .bl b⟩
theorem Dq.non : Dq K H (n + 1) .non .none := ⟨.non, .non⟩
theorem Dq.str (x : Str) (h : PyData.strOk x = true) : Dq K H (n + 1) (.str x) (.str x) := ⟨.str x, .str x h⟩
theorem Dq.tup (h : SqT K H a vs) (t : DqA K H n vs ds) : Dq K H (n + 1) (.ref a) (.tuple ds) := ⟨.tup h t.dp, .tup t.sm⟩
theorem Dq.lst (h : SqL K H a vs) (t : DqA K H n vs ds) : Dq K H (n + 1) (.ref a) (.list ds) := ⟨.lst h t.dp, .lst t.sm⟩
theorem Dq.same (h : Dq K H n v d) (s : Same H H1) : Dq K H1 n v d := ⟨same_d s d h.dp, h.sm⟩
/-- == and != of what is the same -/
theorem a_eqQ (hx : Dq K H n x d) (hy : Dq K H n y d) (q : Q (.bl true) H) (l : n ≤ 64 := by decide) : rEqU K x y H Q := by
  refine a_eqD hx.dp hy.dp (hx.sm.sh l) (hy.sm.sh l) ?_
  rw [SeqAt.eqv_refl d hx.sm.lay]
  exact q
theorem a_neQ (hx : Dq K H n x d) (hy : Dq K H n y d) (q : Q (.bl false) H) (l : n ≤ 64 := by decide) : rNeU K x y H Q := by
  refine a_neD hx.dp hy.dp (hx.sm.sh l) (hy.sm.sh l) ?_
  rw [SeqAt.eqv_refl d hx.sm.lay]
  exact q
end
def zd (zs : List Int) : List PyData := zs.map .int
def zi (zs : List Int) : List V := zs.map V.int
theorem dqz {K : PySem.W.Frag} {H : Hp} {n : Nat} : ∀ zs : List Int, DqA K H (n + 1) (zi zs) (zd zs)
  | [] => .nil
  | z :: zs => .cons (.int z) (dqz zs)
theorem zi_len (zs : List Int) : (zi zs).length = zs.length := List.length_map ..
theorem zi_get {zs : List Int} {i : Nat} {y : V} (h : (zi zs)[i]? = some y) : ∃ hi : i < zs.length, y = .int zs[i] := by
  unfold zi at h
  rw [List.getElem?_map] at h
  by_cases hi : i < zs.length
  · rw [List.getElem?_eq_getElem hi] at h
    exact ⟨hi, (Option.some.inj h).symm⟩
  · rw [List.getElem?_eq_none (by omega)] at h
    cases h
theorem zi_at {zs : List Int} {i : Nat} (h : i < zs.length) : (zi zs)[i]? = some (.int zs[i]) := by
  unfold zi
  rw [List.getElem?_map, List.getElem?_eq_getElem h]
  rfl
def ni (a : List Nat) : List Int := a.map fun n : Nat => (n : Int)
theorem zi_ni (a : List Nat) : zi (ni a) = vi a := by
  unfold zi ni vi
  rw [List.map_map]
  rfl
theorem ni_inj {a b : List Nat} (h : ni a = ni b) : a = b := by
  have := congrArg (List.map Int.toNat) h
  simpa [ni, List.map_map, Function.comp_def] using this
theorem ni_len (a : List Nat) : (ni a).length = a.length := List.length_map ..
end TT

set_option Elab.async false
set_option linter.all false
set_option maxRecDepth 100000
set_option maxHeartbeats 4000000
namespace TT
open PySem PySem.Spec PyProof.Rows L2
theorem k_sortI {X : Cx} {K : PySem.W.Frag} (hK : X.K = K) : CallR X (.builtin "sorted") (rSortedI K) := by subst hK; exact cr_sortedI
section
variable {K : PySem.W.Frag} {H : Hp} {Q : VK} {p : Addr} {zs : List Int}
theorem a_sortI (h : SqL K H p (zi zs)) (q : ∀ ws l H2, List.Perm ws zs → ws.Pairwise (· ≤ ·) → H l = none → Same H H2 → H2 l = some (.lst (zi ws)) → Q (.ref l) H2) : rSortedI K [.ref p] H Q :=
  ⟨p, zs, rfl, h, fun ws l pm so hl => q ws l _ pm so hl (same_new hl) upd_same⟩
theorem a_rep {xs : List V} {k : Int} (h : H p = some (.lst xs)) (k0 : 0 ≤ k) (k1 : (xs.length : Int) * k ≤ 100000) (k2 : k ≤ 100000) (q : ∀ l H2, H l = none → Same H H2 → H2 l = some (.lst (List.replicate k.toNat xs).flatten) → Q (.ref l) H2) : rMulU K (.ref p) (.int k) H Q :=
  .inr ⟨p, k, xs, rfl, rfl, h, by omega, by omega, by
    rw [sizeLine_eq]
    have : ((xs.length * k.toNat : Nat) : Int) ≤ 100000 := by
      rw [Int.natCast_mul, Int.toNat_of_nonneg k0]
      exact k1
    omega, fun l hl => q l _ hl (same_new hl) upd_same⟩
end
/-- two ways that meet again -/
theorem a_meet {α : Type} {c A B : Prop} [Decidable c] {R J : α → Hp → Prop} (h1 : c → (∀ v H, J v H → R v H) → A) (h2 : ¬ c → (∀ v H, J v H → R v H) → B) (fin : ∀ v H, J v H → R v H) : if decide c = true then A else B := a_ite (fun h => h1 h fin) fun h => h2 h fin
theorem a_nmeet {α : Type} {c A B : Prop} [Decidable c] {R J : α → Hp → Prop} (h1 : ¬ c → (∀ v H, J v H → R v H) → A) (h2 : c → (∀ v H, J v H → R v H) → B) (fin : ∀ v H, J v H → R v H) : if (!decide c) = true then A else B := a_nite (fun h => h1 h fin) fun h => h2 h fin
theorem eqv_zd : ∀ a b : List Int, PyData.eqvAll (zd a) (zd b) = decide (a = b)
  | [], [] => by simp [zd, PyData.eqvAll]
  | [], _ :: _ => by simp [zd, PyData.eqvAll]
  | _ :: _, [] => by simp [zd, PyData.eqvAll]
  | n :: a, m :: b => by
    have ih := eqv_zd a b
    simp only [zd, List.map_cons, PyData.eqvAll, PyData.eqv] at ih ⊢
    rw [ih]
    by_cases h : n = m
    · subst h
      simp
    · have h' : (n == m) = false := by
        rw [beq_eq_false_iff_ne]
        exact h
      rw [h']
      simp [h]
section
variable {K : PySem.W.Frag} {H : Hp} {n : Nat} {x y : V} {Q : VK} {a b : List Int}
theorem a_eqZ {p q : Addr} (hx : SqL K H p (zi a)) (hy : SqL K H q (zi b)) (k : Q (.bl (decide (a = b))) H) : rEqU K (.ref p) (.ref q) H Q := by
  have d1 : Dq K H 2 (.ref p) (.list (zd a)) := .lst hx (dqz a)
  have d2 : Dq K H 2 (.ref q) (.list (zd b)) := .lst hy (dqz b)
  refine a_eqD d1.dp d2.dp d1.sm.sh d2.sm.sh ?_
  have e : PyData.eqv (.list (zd a)) (.list (zd b)) = decide (a = b) := by
    simp only [PyData.eqv]
    exact eqv_zd a b
  rw [e]
  exact k
theorem a_neZ {p q : Addr} (hx : SqL K H p (zi a)) (hy : SqL K H q (zi b)) (k : Q (.bl (!decide (a = b))) H) : rNeU K (.ref p) (.ref q) H Q := by
  have d1 : Dq K H 2 (.ref p) (.list (zd a)) := .lst hx (dqz a)
  have d2 : Dq K H 2 (.ref q) (.list (zd b)) := .lst hy (dqz b)
  refine a_neD d1.dp d2.dp d1.sm.sh d2.sm.sh ?_
  have e : PyData.eqv (.list (zd a)) (.list (zd b)) = decide (a = b) := by
    simp only [PyData.eqv]
    exact eqv_zd a b
  rw [e]
  exact k
end
theorem sorted_uniq : ∀ {a b : List Int}, List.Perm a b → a.Pairwise (· ≤ ·) → b.Pairwise (· ≤ ·) → a = b
  | [], b, h, _, _ => by rw [List.nil_perm.mp h]
  | x :: a, [], h, _, _ => by cases List.perm_nil.mp h
  | x :: a, y :: b, h, ha, hb => by
    obtain ⟨hx, ha'⟩ := List.pairwise_cons.mp ha
    obtain ⟨hy, hb'⟩ := List.pairwise_cons.mp hb
    have e : x = y := by
      have h1 : x ∈ y :: b := h.mem_iff.mp (List.mem_cons_self ..)
      have h2 : y ∈ x :: a := h.mem_iff.mpr (List.mem_cons_self ..)
      have l1 : y ≤ x := by
        rcases List.mem_cons.mp h1 with e | m
        · omega
        · exact hy _ m
      have l2 : x ≤ y := by
        rcases List.mem_cons.mp h2 with e | m
        · omega
        · exact hx _ m
      omega
    subst e
    rw [sorted_uniq (List.Perm.cons_inv h) ha' hb']
theorem range_sorted (n : Nat) : (ni (List.range n)).Pairwise (· ≤ ·) := by
  unfold ni
  rw [List.pairwise_map]
  exact List.Pairwise.imp (fun h => by omega) (List.pairwise_lt_range (n := n))
end TT

set_option Elab.async false
set_option linter.all false
set_option maxRecDepth 100000
set_option maxHeartbeats 4000000
namespace TT
open PySem PySem.Spec PyProof.Rows L2
/-! ### a list or a tuple -/
def Seq (K : PySem.W.Frag) (H : Hp) (a : Addr) (xs : List V) : Prop := SqL K H a xs ∨ SqT K H a xs
theorem Seq.same {K : PySem.W.Frag} {H H1 : Hp} {a : Addr} {xs : List V} (h : Seq K H a xs) (s : Same H H1) : Seq K H1 a xs := h.elim (fun h => .inl (same_l s h)) fun h => .inr (same_t s h)
theorem a_lenS {K : PySem.W.Frag} {H : Hp} {p : Addr} {ys : List V} {Q : VK} (h : Seq K H p ys) (q : Q (.int ys.length) H) : rLenU K [.ref p] H Q := ⟨p, ys, rfl, h, q⟩
def rIter (K : PySem.W.Frag) (x : V) (H1 : Hp) (R : It → Hp → Prop) : Prop := ∃ a, x = .ref a ∧ (((∃ xs, SqL K H1 a xs) ∧ R (Itl K a) H1) ∨ ((∃ xs, SqT K H1 a xs) ∧ R (Itt K a) H1))
def iSeq (K : PySem.W.Frag) (tl : TE) : TI := fun σ H R => tl σ H fun x H1 => rIter K x H1 R
theorem pi_seq {X : Cx} {tg l : Expr} {tl : TE} {K : PySem.W.Frag} (hK : X.K = K) (hl : PE X l tl) : PI X tg l (iSeq K tl) := ⟨fun pins s σ H R I h => by
  subst hK
  refine thn (hl.run pins s σ H _ I h) fun v s1 hh => ?_
  obtain ⟨x, H1, J, r, a, ex, w⟩ := hh
  subst ex
  cases (show v = Value.ref a from r)
  have fp : ∀ b ∈ [s1.heap.objs.size], FpOk X pins H1 b := fun b hb => by
    obtain rfl : b = s1.heap.objs.size := List.mem_singleton.mp hb
    exact J.fpOk (Nat.le_refl _) (J.hok.fresh (Nat.le_refl _))
  rcases w with ⟨⟨xs, hq⟩, q⟩ | ⟨⟨xs, hq⟩, q⟩
  · obtain ⟨its, _, pl, _⟩ := J.list hq
    exact wpAny_pyIter_list pl.isList ⟨_, [s1.heap.objs.size], _, _, H1, rfl, J.kept (t' := s1.toks) fun b o z => Heap.get?_push_of_some _ z, turn_list a _, ⟨_, Heap.get?_push_size _ rfl, rfl, rfl⟩, fp, q⟩
  · obtain ⟨its, _, pl, _⟩ := J.tuple hq
    exact wpAny_pyIter_tuple (show s1.heap.IsTuple a its.toArray from pl) ⟨_, [s1.heap.objs.size], _, _, H1, rfl, J.kept (t' := s1.toks) fun b o z => Heap.get?_push_of_some _ z, turn_tuple a _, ⟨_, Heap.get?_push_size _ rfl, rfl, rfl⟩, fp, q⟩⟩
section
variable {K : PySem.W.Frag} {σ : L2.St} {H : Hp} {Q : VK} {a : Addr} {xs : List V} {j : Nat} {te : TE}
theorem g_iSeq {tl : TE} {R : It → Hp → Prop} (h : tl σ H fun x H1 => rIter K x H1 R) : iSeq K tl σ H R := h
theorem a_iter {R : It → Hp → Prop} (h : Seq K H a xs) (q : ∀ J, Walk J xs.length (fun H' => Same H H') (YAt xs) → R J H) : rIter K (.ref a) H R := by
  refine ⟨a, rfl, ?_⟩
  rcases h with h | h
  · exact .inl ⟨⟨xs, h⟩, q _ (walk_list.mono (fun H' s => same_l s h) fun _ _ _ _ _ _ y => y)⟩
  · exact .inr ⟨⟨xs, h⟩, q _ (walk_tup.mono (fun H' s => same_t s h) fun _ _ _ _ _ _ y => y)⟩
end
theorem sqt_but {K : PySem.W.Frag} {H H1 : Hp} {D t : Addr} {xs ys : List V} (hD : H D = some (.lst ys)) (b : But D H H1) (h : SqT K H t xs) : SqT K H1 t xs := by
  rcases h with (h | ⟨o, h⟩) | h
  · exact .inl (.inl (b _ _ (ne_of h hD (by intro z; cases z)) h))
  · exact .inl (.inr ⟨o, b _ _ (ne_of h hD (by intro z; cases z)) h⟩)
  · exact .inr h
theorem sqt_butI {K : PySem.W.Frag} {H H1 : Hp} {D C dx t : Addr} {fs : List (Str × V)} {xs : List V} (hD : H D = some (.ins C dx fs)) (b : But D H H1) (h : SqT K H t xs) : SqT K H1 t xs := by
  rcases h with (h | ⟨o, h⟩) | h
  · exact .inl (.inl (b _ _ (ne_of h hD (by intro z; cases z)) h))
  · exact .inl (.inr ⟨o, b _ _ (ne_of h hD (by intro z; cases z)) h⟩)
  · exact .inr h
theorem sql_but {K : PySem.W.Frag} {H H1 : Hp} {D C dx t : Addr} {fs : List (Str × V)} {xs : List V} (hD : H D = some (.ins C dx fs)) (b : But D H H1) (h : SqL K H t xs) : SqL K H1 t xs := by
  rcases h with (h | ⟨o, h⟩) | h
  · exact .inl (.inl (b _ _ (ne_of h hD (by intro z; cases z)) h))
  · exact .inl (.inr ⟨o, b _ _ (ne_of h hD (by intro z; cases z)) h⟩)
  · exact .inr h
/-! ### comprehensions whose items are new objects: P D k v H, the k-th item v, D the list that grows -/
section
variable {K : PySem.W.Frag} {J : It} {n j : Nat} {G : Hp → Prop} {Y : Nat → Hp → V → Hp → Prop} {σ : L2.St} {H H1 : Hp} {te : TE} {Q : VK} {P : Addr → Nat → V → Hp → Prop} {xs : List V}
structure Stb (P : Addr → Nat → V → Hp → Prop) : Prop where
  same : ∀ {D k v H H'}, Same H H' → P D k v H → P D k v H'
  but : ∀ {D k v H H' ys}, H D = some (.lst ys) → But D H H' → P D k v H → P D k v H'
theorem lc_p (w : Walk J n G Y) (st : Stb P) (hn : n ≤ 100000) (hG : ∀ H', Same H1 H' → G H')
    (hs : ∀ D acc i x H' H2, i < n → H1 D = none → Same H1 H' → H' D = some (.lst acc) → Y i H' x H2 → Same H' H2 ∧ ∀ R : VK, (∀ v H4, Same H2 H4 → P D i v H4 → R v H4) → te ((σ.set j none).set j (some x)) H2 R)
    (hd : ∀ D acc H', H1 D = none → Same H1 H' → H' D = some (.lst acc) → acc.length = n → (∀ k v, acc[k]? = some v → P D k v H') → Q (.ref D) H') :
    ∀ D, H1 D = none → ∃ W : Nat → Nat → Hp → Prop, (∃ m, W 0 m (upd H1 D (.lst []))) ∧ ∀ i m H, W i m H →
      (J.stop i H ∧ Q (.ref D) H) ∨ (J.go i H ∧ ∃ Nx : Hp → Prop, (∀ H', Nx H' → ∃ m', m' < m ∧ W (i + 1) m' H') ∧ ∀ x H', J.yld i H x H' → gName j x (wipe σ [j]) H' fun σ2 H2 => wipe σ2 [j] = wipe σ [j] ∧ tYes σ2 H2 fun b H3 =>
        if b = true then te σ2 H3 fun y H4 => ∃ acc, H4 D = some (.lst acc) ∧ acc.length < sizeLine ∧ Nx (upd H4 D (.lst (acc ++ [y]))) else Nx H3) := by
  intro D hD
  refine lc_it w (fun i H' => ∃ acc, Same H1 H' ∧ H' D = some (.lst acc) ∧ acc.length = i ∧ ∀ k v, acc[k]? = some v → P D k v H') ⟨[], same_new hD, upd_same, rfl, fun k v z => by simp at z⟩ (fun i H' _ ⟨_, q, _⟩ => hG H' q) ?_ fun H' ⟨acc, q1, q2, q3, q4⟩ => hd D acc H' hD q1 q2 q3 q4
  rintro i x H' H2 hi ⟨acc, q1, q2, q3, q4⟩ hy
  obtain ⟨s2, hte⟩ := hs D acc i x H' H2 hi hD q1 q2 hy
  refine ⟨set_none σ j (some x), ?_⟩
  unfold tYes
  dsimp only
  rw [if_pos rfl]
  refine hte _ fun v H4 s4 hP => ?_
  have e4 := s4 _ _ (s2 _ _ q2)
  refine ⟨acc, e4, szl (by omega), acc ++ [v], same_mut ((q1.trans s2).trans s4) hD, upd_same, by rw [List.length_append, q3]; rfl, fun k u hk => ?_⟩
  by_cases hl : k < acc.length
  · rw [List.getElem?_append_left hl] at hk
    exact st.but e4 But.upd (st.same (s2.trans s4) (q4 k u hk))
  · rw [List.getElem?_append_right (by omega)] at hk
    have e0 : k - acc.length = 0 := by
      have := (List.getElem?_eq_some_iff.mp hk).1
      simp at this
      omega
    rw [e0] at hk
    cases Option.some.inj hk
    have ek : k = i := by omega
    subst ek
    exact st.but e4 But.upd hP
theorem c_sp {tl : TE} (st : Stb P) (hn : xs.length ≤ 100000) (hl : ∀ R : VK, (∀ a H1, Same H H1 → Seq K H1 a xs → R (.ref a) H1) → tl σ H R)
    (hs : ∀ D acc i x H', H D = none → xs[i]? = some x → Same H H' → H' D = some (.lst acc) → ∀ R : VK, (∀ v H4, Same H' H4 → P D i v H4 → R v H4) → te ((σ.set j none).set j (some x)) H' R)
    (hd : ∀ D acc H', H D = none → Same H H' → H' D = some (.lst acc) → acc.length = xs.length → (∀ k v, acc[k]? = some v → P D k v H') → Q (.ref D) H') : tLc (iSeq K tl) (gName j) tYes te [j] σ H Q := by
  refine hl _ fun a H1 s1 h => a_iter h fun J w => lc_p w st hn (fun H' s => s) (fun D acc i x H' H2 hi hD s hacc y => ?_) fun D acc H' nD s e1 e2 e3 => hd D acc H' (s1.free nD) (s1.trans s) e1 e2 e3
  obtain ⟨rfl, e⟩ := y
  exact ⟨Same.refl _, hs D acc i x _ (s1.free hD) e (s1.trans s) hacc⟩
theorem c_lp {tl : TE} (st : Stb P) (hn : xs.length ≤ 100000) (hl : ∀ R : VK, (∀ a H1, Same H H1 → SqL K H1 a xs → R (.ref a) H1) → tl σ H R)
    (hs : ∀ D acc i x H', H D = none → xs[i]? = some x → Same H H' → H' D = some (.lst acc) → ∀ R : VK, (∀ v H4, Same H' H4 → P D i v H4 → R v H4) → te ((σ.set j none).set j (some x)) H' R)
    (hd : ∀ D acc H', H D = none → Same H H' → H' D = some (.lst acc) → acc.length = xs.length → (∀ k v, acc[k]? = some v → P D k v H') → Q (.ref D) H') : tLc (iList K tl) (gName j) tYes te [j] σ H Q := by
  refine hl _ fun a H1 s1 h => ⟨a, rfl, ⟨xs, h⟩, lc_p walk_list st hn (fun H' s => same_l s h) (fun D acc i x H' H2 hi hD s hacc y => ?_) fun D acc H' nD s e1 e2 e3 => hd D acc H' (s1.free nD) (s1.trans s) e1 e2 e3⟩
  obtain ⟨rfl, e⟩ := y
  exact ⟨Same.refl _, hs D acc i x _ (s1.free hD) e (s1.trans s) hacc⟩
end
/-! ### pairs of ints, rows of pairs, lists of rows -/
abbrev Pr := Int × Int
def PairAt (K : PySem.W.Frag) (H : Hp) (v : V) (x : Pr) : Prop := ∃ q, v = .ref q ∧ SqT K H q [.int x.1, .int x.2]
def PairsIn (K : PySem.W.Frag) (H : Hp) (ys : List V) (ps : List Pr) : Prop := ys.length = ps.length ∧ ∀ (k : Nat) v x, ys[k]? = some v → ps[k]? = some x → PairAt K H v x
def PairsAt (K : PySem.W.Frag) (H : Hp) (v : V) (ps : List Pr) : Prop := ∃ q ys, v = .ref q ∧ Seq K H q ys ∧ PairsIn K H ys ps
def LinesIn (K : PySem.W.Frag) (H : Hp) (ys : List V) (ls : List (List Pr)) : Prop := ys.length = ls.length ∧ ∀ (k : Nat) v x, ys[k]? = some v → ls[k]? = some x → PairsAt K H v x
section
variable {K : PySem.W.Frag} {H H1 : Hp} {v : V} {x : Pr} {ys : List V} {ps : List Pr} {ls : List (List Pr)}
theorem PairAt.same (h : PairAt K H v x) (s : Same H H1) : PairAt K H1 v x := let ⟨q, e, h⟩ := h; ⟨q, e, same_t s h⟩
theorem PairAt.but {D : Addr} {zs : List V} (hD : H D = some (.lst zs)) (b : But D H H1) (h : PairAt K H v x) : PairAt K H1 v x := let ⟨q, e, h⟩ := h; ⟨q, e, sqt_but hD b h⟩
theorem PairsIn.same (h : PairsIn K H ys ps) (s : Same H H1) : PairsIn K H1 ys ps := ⟨h.1, fun k v x a b => (h.2 k v x a b).same s⟩
theorem PairsIn.but {D : Addr} {zs : List V} (h : PairsIn K H ys ps) (hD : H D = some (.lst zs)) (b : But D H H1) : PairsIn K H1 ys ps := ⟨h.1, fun k v x e f => (h.2 k v x e f).but hD b⟩
theorem PairsAt.same (h : PairsAt K H v ps) (s : Same H H1) : PairsAt K H1 v ps := let ⟨q, ys, e, h1, h2⟩ := h; ⟨q, ys, e, h1.same s, h2.same s⟩
theorem LinesIn.same (h : LinesIn K H ys ls) (s : Same H H1) : LinesIn K H1 ys ls := ⟨h.1, fun k v x a b => (h.2 k v x a b).same s⟩
theorem PairAt.butI {D C dx : Addr} {fs : List (Str × V)} (hD : H D = some (.ins C dx fs)) (b : But D H H1) (h : PairAt K H v x) : PairAt K H1 v x := let ⟨q, e, h⟩ := h; ⟨q, e, sqt_butI hD b h⟩
theorem PairsIn.butI {D C dx : Addr} {fs : List (Str × V)} (h : PairsIn K H ys ps) (hD : H D = some (.ins C dx fs)) (b : But D H H1) : PairsIn K H1 ys ps := ⟨h.1, fun k v x e f => (h.2 k v x e f).butI hD b⟩
theorem LinesIn.but {D C dx : Addr} {fs : List (Str × V)} (h : LinesIn K H ys ls) (hD : H D = some (.ins C dx fs)) (b : But D H H1) : LinesIn K H1 ys ls := ⟨h.1, fun k v x e f => by
  obtain ⟨q, zs, e1, h1, h2⟩ := h.2 k v x e f
  exact ⟨q, zs, e1, h1.elim (fun h => .inl (sql_but hD b h)) (fun h => .inr (sqt_butI hD b h)), h2.butI hD b⟩⟩
def prD (x : Pr) : PyData := .tuple [.int x.1, .int x.2]
def psD (ps : List Pr) : List PyData := ps.map prD
def lsD (ls : List (List Pr)) : List PyData := ls.map fun ps => .tuple (psD ps)
theorem PairAt.dq {n : Nat} (h : PairAt K H v x) : Dq K H (n + 2) v (prD x) := by
  obtain ⟨q, rfl, h⟩ := h
  exact .tup h (.cons (.int _) (.cons (.int _) .nil))
/-- all items, one by one -/
theorem dqa {α : Type} {n : Nat} (f : α → PyData) : ∀ {ys : List V} {xs : List α}, ys.length = xs.length → (∀ (k : Nat) v x, ys[k]? = some v → xs[k]? = some x → Dq K H n v (f x)) → DqA K H n ys (xs.map f)
  | [], [], _, _ => .nil
  | [], _ :: _, e, _ => by cases e
  | _ :: _, [], e, _ => by cases e
  | y :: ys, x :: xs, e, h => .cons (h 0 y x rfl rfl) (dqa f (Nat.succ.inj e) fun k v z a b => h (k + 1) v z a b)
theorem PairsIn.dq {n : Nat} (h : PairsIn K H ys ps) : DqA K H (n + 2) ys (psD ps) := dqa prD h.1 fun k v x a b => (h.2 k v x a b).dq
end
end TT

set_option Elab.async false
set_option linter.all false
set_option maxRecDepth 100000
set_option maxHeartbeats 4000000
namespace TT
open PySem PySem.Spec PyProof.Rows L2
/-! ### two lists, item by item -/
def Par {α β : Type} (R : α → β → Prop) (ys : List α) (xs : List β) : Prop := ys.length = xs.length ∧ ∀ (k : Nat) v x, ys[k]? = some v → xs[k]? = some x → R v x
section
variable {α β : Type} {R R' : α → β → Prop} {ys zs : List α} {xs ws : List β}
theorem Par.mono (h : Par R ys xs) (m : ∀ v x, R v x → R' v x) : Par R' ys xs := ⟨h.1, fun k v x a b => m v x (h.2 k v x a b)⟩
theorem Par.nil : Par R [] [] := ⟨rfl, fun k v x a => by simp at a⟩
theorem Par.one {y : α} {x : β} (h : R y x) : Par R [y] [x] := ⟨rfl, fun k v z a b => by
  have hk : k = 0 := by
    have := (List.getElem?_eq_some_iff.mp a).1
    simp at this
    omega
  subst hk
  cases Option.some.inj a
  cases Option.some.inj b
  exact h⟩
theorem Par.append (h : Par R ys xs) (h' : Par R zs ws) : Par R (ys ++ zs) (xs ++ ws) := ⟨by rw [List.length_append, List.length_append, h.1, h'.1], fun k v x a b => by
  by_cases hk : k < ys.length
  · rw [List.getElem?_append_left hk] at a
    rw [List.getElem?_append_left (by rw [← h.1]; exact hk)] at b
    exact h.2 k v x a b
  · rw [List.getElem?_append_right (by omega)] at a
    rw [List.getElem?_append_right (by rw [← h.1]; omega), ← h.1] at b
    exact h'.2 _ v x a b⟩
theorem Par.snoc {y : α} {x : β} (h : Par R ys xs) (h' : R y x) : Par R (ys ++ [y]) (xs ++ [x]) := h.append (.one h')
theorem Par.drop (h : Par R ys xs) (n : Nat) : Par R (ys.drop n) (xs.drop n) := ⟨by rw [List.length_drop, List.length_drop, h.1], fun k v x a b => by
  rw [List.getElem?_drop] at a b
  exact h.2 _ v x a b⟩
theorem Par.take (h : Par R ys xs) (n : Nat) : Par R (ys.take n) (xs.take n) := ⟨by rw [List.length_take, List.length_take, h.1], fun k v x a b => by
  rw [List.getElem?_take] at a b
  by_cases hk : k < n
  · rw [if_pos hk] at a b
    exact h.2 _ v x a b
  · rw [if_neg hk] at a
    cases a⟩
theorem Par.rep (h : Par R ys xs) : ∀ n : Nat, Par R (List.replicate n ys).flatten (List.replicate n xs).flatten
  | 0 => .nil
  | n + 1 => by
    rw [List.replicate_succ, List.replicate_succ, List.flatten_cons, List.flatten_cons]
    exact h.append (Par.rep h n)
theorem Par.get (h : Par R ys xs) {k : Nat} (hk : k < xs.length) : ∃ v, ys[k]? = some v ∧ R v xs[k] := by
  have hy : k < ys.length := by rw [h.1]; exact hk
  exact ⟨ys[k], List.getElem?_eq_getElem hy, h.2 k _ _ (List.getElem?_eq_getElem hy) (List.getElem?_eq_getElem hk)⟩
def cut (xs : List β) (lo hi : Option Int) : List β := (xs.drop (HT.sIx xs.length 0 lo)).take (HT.sIx xs.length xs.length hi - HT.sIx xs.length 0 lo)
theorem Par.cut {R : V → β → Prop} {ys : List V} (h : Par R ys xs) (lo hi : Option Int) : Par R (cutV ys lo hi) (TT.cut xs lo hi) := by
  unfold cutV TT.cut
  rw [h.1]
  exact (h.drop _).take _
theorem cut_len (xs : List β) (lo hi : Option Int) : (cut xs lo hi).length ≤ xs.length := by
  unfold cut
  rw [List.length_take, List.length_drop]
  omega
theorem cut_mem {xs : List β} {lo hi : Option Int} {x : β} (h : x ∈ cut xs lo hi) : x ∈ xs := List.mem_of_mem_drop (List.mem_of_mem_take h)
theorem sIx_nat {n d k : Nat} (h : k ≤ n) : HT.sIx n d (some (k : Int)) = k := by
  unfold HT.sIx
  simp
  have : ¬ ((k : Int) < 0) := by omega
  rw [if_neg this]
  omega
theorem cut_le {xs : List β} (k : Nat) : (cut xs none (some (k : Int))).length ≤ k := by
  unfold cut
  rw [List.length_take]
  have : HT.sIx xs.length xs.length (some (k : Int)) ≤ k := by
    unfold HT.sIx
    simp
    have : ¬ ((k : Int) < 0) := by omega
    rw [if_neg this]
    omega
  omega
theorem cut_m1 {xs : List β} : (cut xs none (some (-1))).length = xs.length - 1 := by
  have e : HT.sIx xs.length xs.length (some (-1)) = xs.length - 1 := by
    unfold HT.sIx
    simp
    omega
  have e0 : HT.sIx xs.length 0 none = 0 := rfl
  unfold cut
  rw [e, e0]
  simp
theorem cut_take {xs : List β} {k : Nat} (h : k ≤ xs.length) : cut xs none (some (k : Int)) = xs.take k := by
  have e : HT.sIx xs.length 0 none = 0 := rfl
  unfold cut
  rw [sIx_nat h, e]
  simp
theorem cut_drop {xs : List β} {k : Nat} (h : k ≤ xs.length) : cut xs (some (k : Int)) none = xs.drop k := by
  have e : HT.sIx xs.length xs.length none = xs.length := rfl
  unfold cut
  rw [sIx_nat h, e]
  exact List.take_of_length_le (by rw [List.length_drop]; omega)
end
/-! ### the heap without what may change -/
def Off (ms : List Addr) (H : Hp) : Hp := fun a => if a ∈ ms then none else H a
section
variable {ms : List Addr} {H H1 : Hp} {p a : Addr} {o : HO}
theorem Off.sub : Same (Off ms H) H := fun a o h => by
  unfold Off at h
  by_cases e : a ∈ ms
  · rw [if_pos e] at h
    cases h
  · rw [if_neg e] at h
    exact h
theorem Off.at_ (h : H a = some o) (n : a ∉ ms) : Off ms H a = some o := by
  unfold Off
  rw [if_neg n]
  exact h
theorem Off.same (s : Same H H1) : Same (Off ms H) (Off ms H1) := fun a o h => by
  unfold Off at h ⊢
  by_cases e : a ∈ ms
  · rw [if_pos e] at h
    cases h
  · rw [if_neg e] at h ⊢
    exact s a o h
theorem Off.but (m : p ∈ ms) (b : But p H H1) : Same (Off ms H) (Off ms H1) := fun a o h => by
  unfold Off at h ⊢
  by_cases e : a ∈ ms
  · rw [if_pos e] at h
    cases h
  · rw [if_neg e] at h ⊢
    exact b a o (fun z => e (z ▸ m)) h
theorem Off.mut {H0 : Hp} {q : Addr} (s : Same (Off ms H0) (Off ms H)) (n : H0 q = none) (b : But q H H1) : Same (Off ms H0) (Off ms H1) := fun a o h => by
  have h1 := s a o h
  have ne : a ≠ q := ne_of_none (Off.sub a o h) n
  unfold Off at h1 ⊢
  by_cases e : a ∈ ms
  · rw [if_pos e] at h1
    cases h1
  · rw [if_neg e] at h1 ⊢
    exact b a o ne h1
theorem Off.more {ns : List Addr} (s : ∀ a ∈ ns, a ∈ ms ∨ H a = none) : Same (Off ms H) (Off ns H) := fun a o h => by
  have e1 : a ∉ ms := fun e => by
    unfold Off at h
    rw [if_pos e] at h
    cases h
  unfold Off at h ⊢
  rw [if_neg e1] at h
  rw [if_neg fun e => (s a e).elim e1 fun z => by rw [z] at h; cases h]
  exact h
end
section
variable {K : PySem.W.Frag} {H : Hp} {Q : VK} {p b : Addr} {xs zs : List V}
theorem a_cat (h1 : H p = some (.lst xs)) (h2 : H b = some (.lst zs)) (hl : xs.length + zs.length ≤ 100000) (q : ∀ l H2, H l = none → Same H H2 → H2 l = some (.lst (xs ++ zs)) → Q (.ref l) H2) : rAddU K (.ref p) (.ref b) H Q :=
  .inr (.inl ⟨p, b, xs, zs, rfl, rfl, h1, h2, sz hl, fun l hl => q l _ hl (same_new hl) upd_same⟩)
theorem a_slL {lo hi : Option Int} (h : SqL K H p xs) (q : ∀ l H2, H l = none → Same H H2 → H2 l = some (.lst (cutV xs lo hi)) → Q (.ref l) H2) : rSlU K (.ref p) lo hi H Q := .inl ⟨p, xs, rfl, h, fun l hl => q l _ hl (same_new hl) upd_same⟩
end
def rInsert : V → List V → Hp → VK → Prop := fun x vs H Q => ∃ (l : Addr) (xs : List V) (i : Int) (y : V), x = .ref l ∧ vs = [.int i, y] ∧ H l = some (.lst xs) ∧ xs.length < sizeLine ∧ 0 ≤ i ∧ i < 2 ^ 63 ∧ Q .non (upd H l (.lst (xs.take i.toNat ++ [y] ++ xs.drop i.toNat)))
theorem mt_ins {X : Cx} : MtR X "list.insert" rInsert := mt_insert
theorem a_ins {H : Hp} {Q : VK} {p : Addr} {xs : List V} {i : Nat} {y : V} (h : H p = some (.lst xs)) (hl : xs.length < 100000) (hi : i ≤ 100000) (q : ∀ H2, But p H H2 → H2 p = some (.lst (xs.take i ++ [y] ++ xs.drop i)) → Q .non H2) : rInsert (.ref p) [.int (i : Nat), y] H Q :=
  ⟨p, xs, _, y, rfl, rfl, h, szl hl, by omega, by omega, q _ But.upd upd_same⟩
/-- the first item of a tuple of data -/
theorem Dq.fst {K : PySem.W.Frag} {H : Hp} {n : Nat} {p : Addr} {x : Str} {ds : List PyData} (h : Dq K H n (.ref p) (.tuple (.str x :: ds))) : ∃ vs, SqT K H p (.str x :: vs) := by
  cases h.dp with
  | tup h1 h2 =>
    cases h2 with
    | cons h3 h4 =>
      cases h3
      exact ⟨_, h1⟩
end TT

set_option Elab.async false
set_option linter.all false
set_option maxRecDepth 100000
set_option maxHeartbeats 4000000
namespace TT
/-! ### powers of permutations -/
def stp (a : List Nat) (x : Nat) : Nat := a.getD x 0
def itr (a : List Nat) : Nat → Nat → Nat
  | 0, x => x
  | k + 1, x => stp a (itr a k x)
section
variable {a : List Nat}
theorem stp_lt (h : OkImg a) {x : Nat} (hx : x < a.length) : stp a x < a.length := by
  unfold stp
  rw [getD_lt hx]
  exact h.lt _ (List.getElem_mem _)
theorem itr_lt (h : OkImg a) {x : Nat} (hx : x < a.length) : ∀ k, itr a k x < a.length
  | 0 => hx
  | k + 1 => stp_lt h (itr_lt h hx k)
theorem itr_add (x : Nat) (k : Nat) : ∀ j, itr a (j + k) x = itr a j (itr a k x)
  | 0 => by rw [Nat.zero_add]; rfl
  | j + 1 => by
    rw [Nat.succ_add]
    show stp a _ = stp a _
    rw [itr_add x k j]
theorem stp_inj (h : OkImg a) {x y : Nat} (hx : x < a.length) (hy : y < a.length) (e : stp a x = stp a y) : x = y := by
  unfold stp at e
  rw [getD_lt hx, getD_lt hy] at e
  exact nd_inj h.nd hx hy e
theorem itr_inj (h : OkImg a) {x y : Nat} (hx : x < a.length) (hy : y < a.length) : ∀ k, itr a k x = itr a k y → x = y
  | 0, e => e
  | k + 1, e => itr_inj h hx hy k (stp_inj h (itr_lt h hx k) (itr_lt h hy k) e)
theorem per_ex (h : OkImg a) {x : Nat} (hx : x < a.length) : ∃ L, 0 < L ∧ L ≤ a.length ∧ itr a L x = x := by
  have key : ¬ ((List.range (a.length + 1)).map fun k => itr a k x).Nodup := fun nd => by
    have := sub_len (m := List.range a.length) nd fun y hy => by
      obtain ⟨k, _, rfl⟩ := List.mem_map.mp hy
      exact List.mem_range.mpr (itr_lt h hx k)
    rw [List.length_map, List.length_range, List.length_range] at this
    omega
  rw [List.nodup_iff_pairwise_ne, List.pairwise_iff_getElem] at key
  have key2 : ∃ i j, i < j ∧ j ≤ a.length ∧ itr a i x = itr a j x := by
    refine Classical.byContradiction fun no => key fun i j hi hj hij e => no ⟨i, j, hij, ?_, ?_⟩
    · rw [List.length_map, List.length_range] at hj
      omega
    · simpa using e
  obtain ⟨i, j, hij, hj, e⟩ := key2
  refine ⟨j - i, by omega, by omega, ?_⟩
  have e2 : itr a i x = itr a i (itr a (j - i) x) := by
    rw [← itr_add, e]
    congr 1
    omega
  exact (itr_inj h hx (itr_lt h hx _) i e2).symm
def per (a : List Nat) (x : Nat) : Nat := ((List.range a.length).find? fun k => itr a (k + 1) x == x).getD 0 + 1
theorem per_is (h : OkImg a) {x : Nat} (hx : x < a.length) : itr a (per a x) x = x ∧ per a x ≤ a.length ∧ ∀ k, 0 < k → k < per a x → itr a k x ≠ x := by
  obtain ⟨L, L0, L1, eL⟩ := per_ex h hx
  unfold per
  cases hf : (List.range a.length).find? fun k => itr a (k + 1) x == x with
  | none =>
    have := List.find?_eq_none.mp hf (L - 1) (List.mem_range.mpr (by omega))
    rw [show L - 1 + 1 = L by omega, eL] at this
    simp at this
  | some i =>
    have h1 := List.find?_range_eq_some.mp hf
    obtain ⟨p1, p2, p3⟩ := h1
    rw [Option.getD_some]
    refine ⟨eq_of_beq p1, List.mem_range.mp p2, fun k k0 k1 e => ?_⟩
    have := p3 (k - 1) (by omega)
    rw [show k - 1 + 1 = k by omega, e] at this
    simp at this
theorem per_pos (a : List Nat) (x : Nat) : 0 < per a x := Nat.succ_pos _
theorem itr_mul (x : Nat) {L : Nat} (e : itr a L x = x) : ∀ q, itr a (L * q) x = x
  | 0 => rfl
  | q + 1 => by rw [Nat.mul_succ, itr_add, e, itr_mul x e q]
theorem itr_mod (h : OkImg a) {x : Nat} (hx : x < a.length) (k : Nat) : itr a k x = itr a (k % per a x) x := by
  have e : itr a k x = itr a (k % per a x + per a x * (k / per a x)) x := by rw [Nat.mod_add_div]
  rw [e, itr_add, itr_mul x (per_is h hx).1]
theorem itr_dvd (h : OkImg a) {x : Nat} (hx : x < a.length) {k : Nat} : itr a k x = x ↔ per a x ∣ k := by
  constructor
  · intro e
    rw [itr_mod h hx] at e
    have hl := Nat.mod_lt k (per_pos a x)
    by_cases h0 : k % per a x = 0
    · exact Nat.dvd_of_mod_eq_zero h0
    · exact absurd e ((per_is h hx).2.2 _ (Nat.pos_of_ne_zero h0) hl)
  · rintro ⟨q, rfl⟩
    exact itr_mul x (per_is h hx).1 q
theorem itr_uniq (h : OkImg a) {x : Nat} (hx : x < a.length) {j k : Nat} (hj : j < per a x) (hk : k < per a x) (e : itr a j x = itr a k x) : j = k := by
  have main : ∀ {j k : Nat}, j < k → k < per a x → itr a j x = itr a k x → False := fun {j k} hjk hk e => by
    have e2 : itr a j x = itr a j (itr a (k - j) x) := by
      rw [← itr_add, e]
      congr 1
      omega
    exact (per_is h hx).2.2 (k - j) (by omega) (by omega) (itr_inj h hx (itr_lt h hx _) j e2).symm
  rcases Nat.lt_trichotomy j k with l | l | l
  · exact (main l hk e).elim
  · exact l
  · exact (main l hj e.symm).elim
theorem per_itr (h : OkImg a) {x : Nat} (hx : x < a.length) (k : Nat) : per a (itr a k x) = per a x := by
  have q : ∀ m, itr a m (itr a k x) = itr a k x ↔ itr a m x = x := fun m => by
    rw [← itr_add, Nat.add_comm, itr_add]
    constructor
    · intro e
      exact itr_inj h (itr_lt h hx m) hx k e
    · intro e
      rw [e]
  unfold per
  have : (fun m => itr a (m + 1) (itr a k x) == itr a k x) = fun m => itr a (m + 1) x == x := by
    funext m
    rw [Bool.eq_iff_iff, beq_iff_eq, beq_iff_eq]
    exact q (m + 1)
  rw [this]
/-- the z-th step from x -/
def zit (a : List Nat) (z : Int) (x : Nat) : Nat := itr a (z % (per a x : Int)).toNat x
theorem emod_nat (z : Int) {L : Nat} (h : 0 < L) : 0 ≤ z % (L : Int) ∧ z % (L : Int) < L := ⟨Int.emod_nonneg _ (by omega), Int.emod_lt_of_pos _ (by omega)⟩
theorem zit_lt (h : OkImg a) {x : Nat} (hx : x < a.length) (z : Int) : zit a z x < a.length := itr_lt h hx _
theorem zit_nat (h : OkImg a) {x : Nat} (hx : x < a.length) (k : Nat) : zit a (k : Int) x = itr a k x := by
  unfold zit
  have e : ((k : Int) % (per a x : Int)).toNat = k % per a x := by
    rw [← Int.natCast_emod, Int.toNat_natCast]
  rw [e, ← itr_mod h hx]
theorem zit_add (h : OkImg a) {x : Nat} (hx : x < a.length) (z w : Int) : zit a (z + w) x = zit a w (zit a z x) := by
  have hL := per_pos a x
  have e1 : per a (zit a z x) = per a x := per_itr h hx _
  have s1 := emod_nat z hL
  have s2 := emod_nat w hL
  have s3 := emod_nat (z + w) hL
  have R : zit a w (zit a z x) = itr a ((w % (per a x : Int)).toNat + (z % (per a x : Int)).toNat) x := by
    rw [itr_add]
    show itr a (w % (per a (zit a z x) : Int)).toNat (zit a z x) = _
    rw [e1]
    rfl
  rw [R, itr_mod h hx]
  show itr a ((z + w) % (per a x : Int)).toNat x = _
  congr 1
  have : ((((w % (per a x : Int)).toNat + (z % (per a x : Int)).toNat) % per a x : Nat) : Int) = (z + w) % (per a x : Int) := by
    rw [Int.natCast_emod, Int.natCast_add, Int.toNat_of_nonneg s1.1, Int.toNat_of_nonneg s2.1, ← Int.add_emod, Int.add_comm]
  omega
theorem zit_0 (h : OkImg a) {x : Nat} (hx : x < a.length) : zit a 0 x = x := zit_nat h hx 0
theorem zit_1 (h : OkImg a) {x : Nat} (hx : x < a.length) : zit a 1 x = stp a x := zit_nat h hx 1
def pw (a : List Nat) (z : Int) : List Nat := (List.range a.length).map fun x => zit a z x
theorem pw_len (a : List Nat) (z : Int) : (pw a z).length = a.length := by unfold pw; rw [List.length_map, List.length_range]
theorem pw_get {z : Int} {x : Nat} (hx : x < (pw a z).length) : (pw a z)[x] = zit a z x := by simp [pw]
theorem pw_ok (h : OkImg a) (z : Int) : OkImg (pw a z) := by
  refine .of_inj (fun i j hi hj e => ?_) fun i hi => ?_
  · rw [pw_get, pw_get] at e
    rw [pw_len] at hi hj
    have e2 := congrArg (zit a (-z)) e
    rw [← zit_add h hi, ← zit_add h hj, Int.add_right_neg, zit_0 h hi, zit_0 h hj] at e2
    exact e2
  · rw [pw_get]
    rw [pw_len] at hi ⊢
    exact zit_lt h hi z
theorem pw_comp (h : OkImg a) (z w : Int) : comp (pw a z) (pw a w) = pw a (z + w) := by
  refine List.ext_getElem (by rw [comp_len, pw_len, pw_len]) fun i h1 h2 => ?_
  rw [comp_len] at h1
  rw [comp_get h1, pw_get, pw_get]
  rw [pw_len] at h1
  have hl := zit_lt h h1 z
  rw [getD_lt (by rw [pw_len]; exact hl), pw_get, zit_add h h1]
theorem pw_0 (h : OkImg a) : pw a 0 = List.range a.length := by
  refine List.ext_getElem (by rw [pw_len, List.length_range]) fun i h1 h2 => ?_
  rw [pw_get, List.getElem_range]
  rw [pw_len] at h1
  exact zit_0 h h1
theorem pw_1 (h : OkImg a) : pw a 1 = a := by
  refine List.ext_getElem (pw_len _ _) fun i h1 h2 => ?_
  rw [pw_get, zit_1 h h2]
  unfold stp
  rw [getD_lt h2]
theorem pw_m1 (h : OkImg a) : pw a (-1) = inv a := by
  refine List.ext_getElem (by rw [pw_len, inv_len]) fun i h1 h2 => ?_
  rw [pw_get, inv_get]
  rw [pw_len] at h1
  have hl := zit_lt h h1 (-1)
  refine (idx_uniq h.nd hl ?_).symm
  have e : zit a 1 (zit a (-1) i) = i := by
    rw [← zit_add h h1]
    exact zit_0 h h1
  rw [zit_1 h hl] at e
  unfold stp at e
  rw [getD_lt hl] at e
  exact e
theorem pw_up (h : OkImg a) (z : Int) : comp (pw a z) a = pw a (z + 1) := by
  have := pw_comp h z 1
  rw [pw_1 h] at this
  exact this
theorem pw_down (h : OkImg a) (z : Int) : comp (pw a z) (inv a) = pw a (z - 1) := by
  have := pw_comp h z (-1)
  rw [pw_m1 h] at this
  exact this
theorem zit_per (h : OkImg a) {x : Nat} (hx : x < a.length) {z w : Int} (d : (per a x : Int) ∣ z - w) : zit a z x = zit a w x := by
  unfold zit
  have : z % (per a x : Int) = w % (per a x : Int) := Int.emod_eq_emod_iff_emod_sub_eq_zero.mpr (Int.emod_eq_zero_of_dvd d)
  rw [this]
theorem pw_per (h : OkImg a) {z w : Int} (d : ∀ x, x < a.length → (per a x : Int) ∣ z - w) : pw a z = pw a w := by
  refine List.ext_getElem (by rw [pw_len, pw_len]) fun i h1 h2 => ?_
  rw [pw_get, pw_get]
  rw [pw_len] at h1
  exact zit_per h h1 (d i h1)
/-- the cycle from x -/
def cyc (a : List Nat) (x : Nat) : List Nat := (List.range (per a x)).map fun k => itr a k x
theorem cyc_len (a : List Nat) (x : Nat) : (cyc a x).length = per a x := by unfold cyc; rw [List.length_map, List.length_range]
theorem cyc_get {x k : Nat} (hk : k < (cyc a x).length) : (cyc a x)[k] = itr a k x := by simp [cyc]
theorem cyc_pw (h : OkImg a) {x : Nat} (hx : x < a.length) {k : Nat} (hk : k < per a x) (z : Int) : ∃ j : Nat, j < per a x ∧ (((k : Int) + z) % (per a x : Int)) = j ∧ (cyc a x)[j]? = some (zit a z (itr a k x)) := by
  have s := emod_nat ((k : Int) + z) (per_pos a x)
  refine ⟨(((k : Int) + z) % (per a x : Int)).toNat, by omega, by omega, ?_⟩
  rw [List.getElem?_eq_getElem (by rw [cyc_len]; omega), cyc_get]
  have e := zit_add h hx (k : Int) z
  rw [zit_nat h hx k] at e
  rw [← e]
  rfl
end
end TT

set_option Elab.async false
set_option linter.all false
set_option maxRecDepth 100000
set_option maxHeartbeats 4000000
namespace TT
open PySem PySem.Spec PyProof.Rows L2
theorem w_loop {c : TT} {tb : TS} {D : Ends} {σ : L2.St} {H : Hp} (W : Nat → L2.St → Hp → Prop) (m : Nat) (h0 : W m σ H) (hs : ∀ m σ H, W m σ H → c σ H fun b H1 => if b = true then ∃ N : L2.St → Hp → Prop, (∀ σ' H', N σ' H' → ∃ m', m' < m ∧ W m' σ' H') ∧ tb { D with nx := N, ct := N, bk := D.nx } σ H1 else D.nx σ H1) : tWhile c tb D σ H := ⟨W, ⟨m, h0⟩, hs⟩
theorem w_go {tb : TS} {D : Ends} {σ : L2.St} {H : Hp} {W : Nat → L2.St → Hp → Prop} {m : Nat} (h : tb { D with nx := fun σ' H' => ∃ m', m' < m ∧ W m' σ' H', ct := fun σ' H' => ∃ m', m' < m ∧ W m' σ' H', bk := D.nx } σ H) :
    ∃ N : L2.St → Hp → Prop, (∀ σ' H', N σ' H' → ∃ m', m' < m ∧ W m' σ' H') ∧ tb { D with nx := N, ct := N, bk := D.nx } σ H := ⟨_, fun _ _ h => h, h⟩
def seenP (ps : List Nat) (n : Nat) : List V := (List.range n).map fun j => V.bl (decide (j ∈ ps))
theorem seenP_len (ps : List Nat) (n : Nat) : (seenP ps n).length = n := by unfold seenP; rw [List.length_map, List.length_range]
theorem seenP_at (ps : List Nat) (n j : Nat) (h : j < n) : (seenP ps n)[j]? = some (.bl (decide (j ∈ ps))) := by
  unfold seenP
  rw [List.getElem?_map, List.getElem?_range h]
  rfl
theorem seenP_set (ps : List Nat) (n j : Nat) (h : j < n) : (seenP ps n).set j (.bl true) = seenP (ps ++ [j]) n := by
  refine List.ext_getElem (by rw [List.length_set, seenP_len, seenP_len]) fun i h1 h2 => ?_
  rw [List.getElem_set]
  simp only [seenP, List.getElem_map, List.getElem_range]
  by_cases e : j = i
  · subst e
    rw [if_pos rfl, decide_eq_true (List.mem_append_right _ (List.mem_singleton.mpr rfl))]
  · rw [if_neg e]
    congr 1
    rw [decide_eq_decide, List.mem_append, List.mem_singleton]
    exact ⟨.inl, fun z => z.elim id fun z => absurd z.symm e⟩
theorem a_truP {K : PySem.W.Frag} {H : Hp} {p : Addr} {xs : List V} {R : Bool → Prop} (e : SqL K H p xs) (h : R (decide (xs ≠ []))) : ∃ k, TruV K (.ref p) H k ∧ R k := a_truL e (by
  cases xs with
  | nil => exact h
  | cons x xs => exact h)
/-- the first k of the cycle from x -/
def cyk (a : List Nat) (x k : Nat) : List Nat := (List.range k).map fun k => itr a k x
theorem cyk_up (a : List Nat) (x k : Nat) : cyk a x (k + 1) = cyk a x k ++ [itr a k x] := by
  unfold cyk
  rw [List.range_succ, List.map_append]
  rfl
theorem cyk_len (a : List Nat) (x k : Nat) : (cyk a x k).length = k := by unfold cyk; rw [List.length_map, List.length_range]
theorem mem_cyk {a : List Nat} {x k y : Nat} : y ∈ cyk a x k ↔ ∃ j, j < k ∧ itr a j x = y := by
  unfold cyk
  rw [List.mem_map]
  exact ⟨fun ⟨j, h, e⟩ => ⟨j, List.mem_range.mp h, e⟩, fun ⟨j, h, e⟩ => ⟨j, List.mem_range.mpr h, e⟩⟩
/-- all points of the cycles that begin at bs -/
def cyf (a : List Nat) (bs : List Nat) : List Nat := (bs.map (cyc a)).flatten
theorem mem_cyf {a bs : List Nat} {y : Nat} : y ∈ cyf a bs ↔ ∃ b ∈ bs, y ∈ cyc a b := by
  unfold cyf
  rw [List.mem_flatten]
  constructor
  · rintro ⟨l, hl, hy⟩
    obtain ⟨b, hb, rfl⟩ := List.mem_map.mp hl
    exact ⟨b, hb, hy⟩
  · rintro ⟨b, hb, hy⟩
    exact ⟨_, List.mem_map.mpr ⟨b, hb, rfl⟩, hy⟩
theorem cyf_snoc (a bs : List Nat) (b : Nat) : cyf a (bs ++ [b]) = cyf a bs ++ cyc a b := by
  unfold cyf
  rw [List.map_append, List.flatten_append]
  simp
theorem cyc_eq (a : List Nat) (x : Nat) : cyc a x = cyk a x (per a x) := rfl
/-- a cycle that has a later point has the point -/
theorem cyf_back {a bs : List Nat} (h : OkImg a) (hb : ∀ b ∈ bs, b < a.length) {x k : Nat} (hx : x < a.length) (m : itr a k x ∈ cyf a bs) : x ∈ cyf a bs := by
  obtain ⟨b, hbm, hy⟩ := mem_cyf.mp m
  have hbl := hb b hbm
  obtain ⟨j, hj, e⟩ := mem_cyk.mp hy
  refine mem_cyf.mpr ⟨b, hbm, mem_cyk.mpr ?_⟩
  have px : per a x = per a b := by
    rw [← per_itr h hx k, ← e, per_itr h hbl]
  -- x = itr (j + (L * k - k)) b
  have e2 : itr a (per a x * k - k + k) x = x := by
    rw [show per a x * k - k + k = per a x * k from Nat.sub_add_cancel (Nat.le_mul_of_pos_left k (per_pos a x))]
    exact itr_mul x (per_is h hx).1 k
  rw [itr_add, ← e, ← itr_add] at e2
  refine ⟨(per a x * k - k + j) % per a b, Nat.mod_lt _ (per_pos a b), ?_⟩
  rw [← itr_mod h hbl]
  exact e2
end TT

set_option Elab.async false
set_option linter.all false
set_option maxRecDepth 100000
set_option maxHeartbeats 4000000
namespace TT
open PySem PySem.Spec PyProof.Rows L2
/-- an if whose ways meet again -/
theorem g_seqIf {c : TT} {t u v : TS} {D : Ends} {σ : L2.St} {H : Hp} (J : L2.St → Hp → Prop) (h : (∀ σ' H', J σ' H' → v D σ' H') → c σ H fun b H1 => if b = true then t { D with nx := v D } σ H1 else u { D with nx := v D } σ H1) (fin : ∀ σ' H', J σ' H' → v D σ' H') : tSeq (tIfS c t u) v D σ H := h fin
theorem sqt_off {K : PySem.W.Frag} {H : Hp} {ms : List Addr} {t : Addr} {xs : List V} (hm : ∀ q ∈ ms, ∃ xs, H q = some (.lst xs)) (h : SqT K H t xs) : SqT K (Off ms H) t xs := by
  have no : ∀ {o : HO}, H t = some o → (∀ ys, o ≠ .lst ys) → t ∉ ms := fun {o} e ne z => by
    obtain ⟨ys, e2⟩ := hm t z
    rw [e] at e2
    exact ne ys (Option.some.inj e2)
  rcases h with (h | ⟨o, h⟩) | h
  · exact .inl (.inl (Off.at_ h (no h fun ys z => by cases z)))
  · exact .inl (.inr ⟨o, Off.at_ h (no h fun ys z => by cases z)⟩)
  · exact .inr h
theorem PairAt.off {K : PySem.W.Frag} {H : Hp} {ms : List Addr} {v : V} {x : Pr} (h : PairAt K H v x) (hm : ∀ q ∈ ms, ∃ xs, H q = some (.lst xs)) : PairAt K (Off ms H) v x := let ⟨q, e, h⟩ := h; ⟨q, e, sqt_off hm h⟩
theorem Off.bt {ms : List Addr} {H H1 : Hp} {D : Addr} (b : But D H H1) : But D (Off ms H) (Off ms H1) := fun a o n e => by
  unfold Off at e ⊢
  by_cases z : a ∈ ms
  · rw [if_pos z] at e
    cases e
  · rw [if_neg z] at e ⊢
    exact b a o n e
section
variable {K : PySem.W.Frag} {j : Nat} {σ : L2.St} {H : Hp} {te : TE} {Q : VK} {P : Addr → Nat → V → Hp → Prop}
theorem c_rp {ta : TA} {k : Nat} (st : Stb P) (hn : k ≤ 100000) (hl : ∀ R : List V → Hp → Prop, (∀ H1, Same H H1 → R [.int (k : Nat)] H1) → ta σ H R)
    (hs : ∀ D acc (i : Nat) H', H D = none → i < k → Same H H' → H' D = some (.lst acc) → ∀ R : VK, (∀ v H4, Same H' H4 → P D i v H4 → R v H4) → te ((σ.set j none).set j (some (.int (i : Nat)))) H' R)
    (hd : ∀ D acc H', H D = none → Same H H' → H' D = some (.lst acc) → acc.length = k → (∀ k v, acc[k]? = some v → P D k v H') → Q (.ref D) H') : tLc (iRng1 ta) (gName j) tYes te [j] σ H Q := by
  refine hl _ fun H1 s1 => ⟨(k : Int), rfl, by omega, by omega, lc_p walk_range st (by omega) (fun _ _ => True.intro) (fun D acc i x H' H2 hi hD s hacc y => ?_) fun D acc H' nD s e1 e2 e3 => hd D acc H' (s1.free nD) (s1.trans s) e1 (by omega) e3⟩
  obtain ⟨rfl, e⟩ := y
  subst e
  refine ⟨Same.refl _, ?_⟩
  have e0 : (0 : Int) + (i : Int) = i := by omega
  show ∀ R : VK, _ → te ((σ.set j none).set j (some (.int (0 + (i : Int))))) H2 R
  rw [e0]
  exact hs D acc i _ (s1.free hD) (by omega) (s1.trans s) hacc
end
end TT

namespace TT
open PySem PySem.Spec PyProof.Rows L2
local macro_rules | `(tactic| walk_at "tt") => `(tactic| first
  | with_reducible refine g_seq ?_
  | with_reducible refine g_raise ?_
  | with_reducible refine g_cos ?_
  | with_reducible refine g_gone ?_
  | with_reducible refine g_r0 ?_
  | with_reducible refine g_oex ?_
  | with_reducible refine g_try ?_
  | with_reducible refine g_FS ?_
  | with_reducible refine g_MS ?_
  | with_reducible refine g_KS ?_
  | with_reducible refine g_SS ?_
  | with_reducible refine g_BS ?_
  | with_reducible refine g_set ?_
  | with_reducible refine g_c ?_
  | ((with_reducible show tVar _ _ _ _); refine g_var rfl ?_)
  | with_reducible refine g_op ?_
  | with_reducible refine g_un ?_
  | with_reducible refine g_nil ?_
  | with_reducible refine g_cons ?_
  | with_reducible refine g_cb ?_
  | with_reducible refine g_if ?_
  | with_reducible refine g_ife ?_
  | with_reducible refine g_test ?_
  | with_reducible refine a_bl ?_
  | with_reducible refine g_tr ?_
  | with_reducible refine g_not ?_
  | with_reducible refine g_or ?_
  | with_reducible refine g_and ?_
  | with_reducible refine g_F ?_
  | with_reducible refine g_S ?_
  | with_reducible refine g_lst ?_
  | with_reducible refine g_tup ?_
  | with_reducible refine g_fld ?_
  | with_reducible refine g_sfld ?_
  | with_reducible refine g_methR ?_
  | with_reducible refine g_andV ?_
  | with_reducible refine g_orV ?_
  | with_reducible refine g_notT ?_
  | with_reducible refine g_chain ?_
  | with_reducible refine g_bm ?_
  | with_reducible refine g_bm0 ?_
  | with_reducible refine g_sl ?_
  | with_reducible refine g_nop ?_
  | with_reducible refine g_part ?_
  | with_reducible refine g_ret ?_
  | with_reducible refine g_drop ?_
  | with_reducible refine g_next ?_
  | with_reducible refine g_asg ?_
  | with_reducible refine g_sub ?_
  | with_reducible refine g_par ?_
  | with_reducible refine g_for ?_
  | with_reducible refine g_iSeq ?_
  | with_reducible refine g_iTup ?_
  | with_reducible refine g_iList ?_
  | with_reducible refine g_iRng ?_
  | with_reducible refine g_iEt ?_
  | with_reducible refine g_iEn ?_
  | with_reducible refine g_mk ?_
  | with_reducible refine g_lrg ?_
  | with_reducible refine g_rg1 ?_
  | with_reducible refine a_truB ?_
  | with_reducible refine a_truI ?_
  | with_reducible refine g_gcons ?_
  | with_reducible refine g_gnil ?_
  | with_reducible refine g_gname ?_
  | ((with_reducible show gTup _ _ _ (V.ref _) _ _ _); refine g_gtup (SqT.of (by assumption)) rfl ?_)
  | with_reducible refine g_co ?_
  | with_reducible refine a_two ?_
  | with_reducible refine a_int ?_
  | with_reducible refine a_addI ?_
  | with_reducible refine a_I0 ?_
  | with_reducible refine a_U ?_
  | with_reducible refine a_ipI ?_
  | with_reducible refine a_int1 ?_
  | ((with_reducible refine a_eq ?_ ?_); (exact rfl))
  | ((with_reducible refine a_ne ?_ ?_); (exact rfl))
  | ((with_reducible show rIx _ (V.ref _) (V.int _) _ _); refine a_ixL (SqL.of (by assumption)) rfl ?_)
  | ((with_reducible show rLenU _ [V.ref _] _ _); refine a_lenL (SqL.of (by assumption)) ?_)
  | ((with_reducible show rLenU _ [V.ref _] _ _); refine a_lenT (SqT.of (by assumption)) ?_)
  | ((with_reducible refine a_mulI ?_ ?_); (dsimp only [CMul]; omega))
  | ((with_reducible refine a_I ?_ ?_); ((try dsimp only [CDiv, CPow, CMul]); omega)))
local macro_rules | `(tactic| walk_at "go") => `(tactic| (repeat walk_at "tt"))

def top (i : Nat) : Stmt := PySem.Challenge.pw_triedtells_k12_whole_far_schemes.main.body.getD i (.Pass ⟨0, 0, 0, 0⟩)
abbrev s__wall : Stmt := top 0
abbrev s_BadScheme_init : Stmt := inClass (top 3) 0
abbrev s_WrongLength_init : Stmt := inClass (top 4) 0
abbrev s_BadTable_init : Stmt := inClass (top 5) 0
abbrev s_OtherSize_init : Stmt := inClass (top 6) 0
abbrev s_NoPoint_init : Stmt := inClass (top 7) 0
abbrev s_Scheme_init : Stmt := inClass (top 12) 0
abbrev s_Scheme_word : Stmt := inClass (top 12) 1
abbrev s_Scheme_value : Stmt := inClass (top 12) 2
abbrev s_check_size : Stmt := top 15
abbrev s_Table_init : Stmt := inClass (top 16) 0
abbrev s_Table_len : Stmt := inClass (top 16) 1
abbrev s_Table_call : Stmt := inClass (top 16) 2
abbrev s_Table_mul : Stmt := inClass (top 16) 3
abbrev s_Table_invert : Stmt := inClass (top 16) 4
abbrev s_Table_power : Stmt := inClass (top 16) 5
abbrev s_Table_eq : Stmt := inClass (top 16) 6
abbrev s_Table_order : Stmt := inClass (top 16) 7
abbrev s_Table_neutral : Stmt := inClass (top 16) 8
abbrev s__law_start : Stmt := top 18
abbrev s__law_draw : Stmt := top 19
abbrev s__law_image : Stmt := top 20
abbrev s__law_ring : Stmt := top 21
abbrev s__law_far : Stmt := top 22
abbrev s_law : Stmt := top 23
structure Txt (K : PySem.W.Frag) (mg : Str → Option Value) : Prop where
  b_list : mg "list" = none
  b_range : mg "range" = none
  b_tuple : mg "tuple" = none
  b_enumerate : mg "enumerate" = none
  b_len : mg "len" = none
  b_isinstance : mg "isinstance" = none
  b_int : mg "int" = none
  k_LINES : ∃ u, mg "LINES" = some u ∧ RelV (.int 20000) u
  k_PAIRS : ∃ u, mg "PAIRS" = some u ∧ RelV (.int 8) u
  k_MOST_POINTS : ∃ u, mg "MOST_POINTS" = some u ∧ RelV (.int 3300) u
  g_TriedError : mg "TriedError" = some (.ref (He.ga K "TriedError"))
  g_BadScheme : mg "BadScheme" = some (.ref (He.ga K "BadScheme"))
  g_WrongLength : mg "WrongLength" = some (.ref (He.ga K "WrongLength"))
  g_BadTable : mg "BadTable" = some (.ref (He.ga K "BadTable"))
  g_OtherSize : mg "OtherSize" = some (.ref (He.ga K "OtherSize"))
  g_NoPoint : mg "NoPoint" = some (.ref (He.ga K "NoPoint"))
  g_TooGreat : mg "TooGreat" = some (.ref (He.ga K "TooGreat"))
  g_Scheme : mg "Scheme" = some (.ref (He.ga K "Scheme"))
  o_Scheme : Own K (He.ga K "Scheme")
  mk_Scheme : Mk K (He.ga K "Scheme") (He.ma K (He.ga K "Scheme") "__init__")
  n_Scheme_sources : NoAttr K (He.ga K "Scheme") "sources"
  n_Scheme_lines : NoAttr K (He.ga K "Scheme") "lines"
  m_Scheme_word : Meth K (He.ga K "Scheme") "word" (He.ma K (He.ga K "Scheme") "word")
  m_Scheme_value : Meth K (He.ga K "Scheme") "value" (He.ma K (He.ga K "Scheme") "value")
  g_Table : mg "Table" = some (.ref (He.ga K "Table"))
  o_Table : Own K (He.ga K "Table")
  mk_Table : Mk K (He.ga K "Table") (He.ma K (He.ga K "Table") "__init__")
  n_Table_image : NoAttr K (He.ga K "Table") "image"
  m_Table_len : Meth K (He.ga K "Table") "__len__" (He.ma K (He.ga K "Table") "__len__")
  m_Table_call : Meth K (He.ga K "Table") "__call__" (He.ma K (He.ga K "Table") "__call__")
  m_Table_mul : Meth K (He.ga K "Table") "__mul__" (He.ma K (He.ga K "Table") "__mul__")
  m_Table_invert : Meth K (He.ga K "Table") "__invert__" (He.ma K (He.ga K "Table") "__invert__")
  m_Table_power : Meth K (He.ga K "Table") "power" (He.ma K (He.ga K "Table") "power")
  m_Table_eq : Meth K (He.ga K "Table") "__eq__" (He.ma K (He.ga K "Table") "__eq__")
  m_Table_order : Meth K (He.ga K "Table") "order" (He.ma K (He.ga K "Table") "order")
  s_Table_neutral : StaF K (He.ga K "Table") "neutral" (He5.wf K (He.ga K "Table") "staticmethod" "neutral")
  x_BadScheme : Err K (He.ga K "BadScheme")
  nx_BadScheme_line : PySem.W.findIn K (.ref (He.ga K "BadScheme")) "line" = some none
  xi_BadScheme : PySem.W.findIn K (.ref (He.ga K "BadScheme")) "__init__" = some (some (.ref (He.ma K (He.ga K "BadScheme") "__init__")))
  xt_BadScheme : PySem.W.typeIn K (.ref (He.ma K (He.ga K "BadScheme") "__init__")) = some (.type "function")
  x_TooGreat : Err K (He.ga K "TooGreat")
  r_TooGreat : Rai0 K mg "TooGreat" (He.ga K "TooGreat")
  g_check_size : mg "check_size" = some (.ref (He.ga K "check_size"))
  g__law_start : mg "_law_start" = some (.ref (He.ga K "_law_start"))
  g__law_draw : mg "_law_draw" = some (.ref (He.ga K "_law_draw"))
  g__law_image : mg "_law_image" = some (.ref (He.ga K "_law_image"))
  g__law_ring : mg "_law_ring" = some (.ref (He.ga K "_law_ring"))
  g__law_far : mg "_law_far" = some (.ref (He.ga K "_law_far"))
  g_law : mg "law" = some (.ref (He.ga K "law"))
  i_Table : PySem.W.kitOne K (.ref (He.ga K "Table")) (.ref (He.ga K "Table")) = some true
  it_Table : PySem.W.kitOne K (.type "tuple") (.ref (He.ga K "Table")) = some false
  nf_Table : PySem.W.notFirst K (He.ga K "Table") (.ref (He.ga K "Table")) = true
  nft_Table : PySem.W.notFirst K (He.ga K "Table") (.type "tuple") = true
def facts : List (PySem.W.Frag → Bool) := [
  fun K => (He.Fa.free "list").ok K,
  fun K => (He.Fa.free "range").ok K,
  fun K => (He.Fa.free "tuple").ok K,
  fun K => (He.Fa.free "enumerate").ok K,
  fun K => (He.Fa.free "len").ok K,
  fun K => (He.Fa.free "isinstance").ok K,
  fun K => (He.Fa.free "int").ok K,
  fun K => (He.Fa.int "LINES" 20000).ok K,
  fun K => (He.Fa.int "PAIRS" 8).ok K,
  fun K => (He.Fa.int "MOST_POINTS" 3300).ok K,
  fun K => (He.Fa.glo "TriedError").ok K,
  fun K => (He.Fa.glo "BadScheme").ok K,
  fun K => (He.Fa.glo "WrongLength").ok K,
  fun K => (He.Fa.glo "BadTable").ok K,
  fun K => (He.Fa.glo "OtherSize").ok K,
  fun K => (He.Fa.glo "NoPoint").ok K,
  fun K => (He.Fa.glo "TooGreat").ok K,
  fun K => (He.Fa.glo "Scheme").ok K,
  fun K => ownB K (He.ga K "Scheme"),
  fun K => (He.Fa.mkr "Scheme").ok K,
  fun K => (He.Fa.noat "Scheme" "sources").ok K,
  fun K => (He.Fa.noat "Scheme" "lines").ok K,
  fun K => (He.Fa.meth "Scheme" "word").ok K,
  fun K => (He.Fa.meth "Scheme" "value").ok K,
  fun K => (He.Fa.glo "Table").ok K,
  fun K => ownB K (He.ga K "Table"),
  fun K => (He.Fa.mkr "Table").ok K,
  fun K => (He.Fa.noat "Table" "image").ok K,
  fun K => (He.Fa.meth "Table" "__len__").ok K,
  fun K => (He.Fa.meth "Table" "__call__").ok K,
  fun K => (He.Fa.meth "Table" "__mul__").ok K,
  fun K => (He.Fa.meth "Table" "__invert__").ok K,
  fun K => (He.Fa.meth "Table" "power").ok K,
  fun K => (He.Fa.meth "Table" "__eq__").ok K,
  fun K => (He.Fa.meth "Table" "order").ok K,
  fun K => staB K (He.ga K "Table") "neutral",
  fun K => errB K (He.ga K "BadScheme"),
  fun K => He.eqO (PySem.W.findIn K (.ref (He.ga K "BadScheme")) "line") (some none),
  fun K => He.eqO (PySem.W.findIn K (.ref (He.ga K "BadScheme")) "__init__") (some (some (.ref (He.ma K (He.ga K "BadScheme") "__init__")))),
  fun K => PySem.W.typeIn K (.ref (He.ma K (He.ga K "BadScheme") "__init__")) == some (.type "function"),
  fun K => errB K (He.ga K "TooGreat"),
  fun K => PySem.W.excIn K (He.ga K "TooGreat") [.type "ValueError", .type "Exception", .type "BaseException", .type "object"] "ValueError.__new__",
  fun K => (He.Fa.glo "check_size").ok K,
  fun K => (He.Fa.glo "_law_start").ok K,
  fun K => (He.Fa.glo "_law_draw").ok K,
  fun K => (He.Fa.glo "_law_image").ok K,
  fun K => (He.Fa.glo "_law_ring").ok K,
  fun K => (He.Fa.glo "_law_far").ok K,
  fun K => (He.Fa.glo "law").ok K,
  fun K => decide (PySem.W.kitOne K (.ref (He.ga K "Table")) (.ref (He.ga K "Table")) = some true),
  fun K => decide (PySem.W.kitOne K (.type "tuple") (.ref (He.ga K "Table")) = some false),
  fun K => PySem.W.notFirst K (He.ga K "Table") (.ref (He.ga K "Table")),
  fun K => PySem.W.notFirst K (He.ga K "Table") (.type "tuple")]
def fbs (K : PySem.W.Frag) : Bool := facts.all fun f => f K
structure FbsOk (K : PySem.W.Frag) : Prop where
  ok : fbs K = true
theorem FbsOk.fact {K : PySem.W.Frag} (c : FbsOk K) (i : Nat) {f : PySem.W.Frag → Bool} (h : facts[i]? = some f := by rfl) : f K = true := List.all_eq_true.mp c.ok f (List.mem_of_getElem? h)
theorem txt_of {K : PySem.W.Frag} {h : Heap} {mg : Str → Option Value} (X : K.In h) (G : h.Ns mainGlobals mg) (c : FbsOk K) : Txt K mg where
    b_list := He.free_ok X G (c.fact 0)
    b_range := He.free_ok X G (c.fact 1)
    b_tuple := He.free_ok X G (c.fact 2)
    b_enumerate := He.free_ok X G (c.fact 3)
    b_len := He.free_ok X G (c.fact 4)
    b_isinstance := He.free_ok X G (c.fact 5)
    b_int := He.free_ok X G (c.fact 6)
    k_LINES := (let ⟨t, h⟩ := He.int_ok X G (c.fact 7); ⟨_, h, ⟨t, rfl⟩⟩)
    k_PAIRS := (let ⟨t, h⟩ := He.int_ok X G (c.fact 8); ⟨_, h, ⟨t, rfl⟩⟩)
    k_MOST_POINTS := (let ⟨t, h⟩ := He.int_ok X G (c.fact 9); ⟨_, h, ⟨t, rfl⟩⟩)
    g_TriedError := He.glo_ok X G (c.fact 10)
    g_BadScheme := He.glo_ok X G (c.fact 11)
    g_WrongLength := He.glo_ok X G (c.fact 12)
    g_BadTable := He.glo_ok X G (c.fact 13)
    g_OtherSize := He.glo_ok X G (c.fact 14)
    g_NoPoint := He.glo_ok X G (c.fact 15)
    g_TooGreat := He.glo_ok X G (c.fact 16)
    g_Scheme := He.glo_ok X G (c.fact 17)
    o_Scheme := ownB_ok (c.fact 18)
    mk_Scheme := He.mkr_ok (c.fact 19)
    n_Scheme_sources := He.noat_ok (c.fact 20)
    n_Scheme_lines := He.noat_ok (c.fact 21)
    m_Scheme_word := He.meth_ok (c.fact 22)
    m_Scheme_value := He.meth_ok (c.fact 23)
    g_Table := He.glo_ok X G (c.fact 24)
    o_Table := ownB_ok (c.fact 25)
    mk_Table := He.mkr_ok (c.fact 26)
    n_Table_image := He.noat_ok (c.fact 27)
    m_Table_len := He.meth_ok (c.fact 28)
    m_Table_call := He.meth_ok (c.fact 29)
    m_Table_mul := He.meth_ok (c.fact 30)
    m_Table_invert := He.meth_ok (c.fact 31)
    m_Table_power := He.meth_ok (c.fact 32)
    m_Table_eq := He.meth_ok (c.fact 33)
    m_Table_order := He.meth_ok (c.fact 34)
    s_Table_neutral := staB_ok (c.fact 35)
    x_BadScheme := errB_ok (c.fact 36)
    nx_BadScheme_line := He.eqO_ok (c.fact 37)
    xi_BadScheme := He.eqO_ok (c.fact 38)
    xt_BadScheme := eq_of_beq (c.fact 39)
    x_TooGreat := errB_ok (c.fact 40)
    r_TooGreat := ⟨He.glo_ok X G (c.fact 16), errB_ok (c.fact 40), (c.fact 41)⟩
    g_check_size := He.glo_ok X G (c.fact 42)
    g__law_start := He.glo_ok X G (c.fact 43)
    g__law_draw := He.glo_ok X G (c.fact 44)
    g__law_image := He.glo_ok X G (c.fact 45)
    g__law_ring := He.glo_ok X G (c.fact 46)
    g__law_far := He.glo_ok X G (c.fact 47)
    g_law := He.glo_ok X G (c.fact 48)
    i_Table := of_decide_eq_true (c.fact 49)
    it_Table := of_decide_eq_true (c.fact 50)
    nf_Table := (c.fact 51)
    nft_Table := (c.fact 52)

/-! ### the pen: what the law draws from -/
structure Pen (H : Hp) (p sc : Addr) (n : Nat) : Prop where
  ex : ∃ (ns : List Int) (a c k : Int), H p = some (.lst [.ref sc, .int a, .int c, .int k]) ∧ H sc = some (.lst (ns.map V.int)) ∧ sc ≠ p ∧ 0 ≤ a ∧ 0 ≤ k ∧ k + (n : Int) ≤ 1000000000
theorem Pen.le {H : Hp} {p sc : Addr} {n m : Nat} (h : Pen H p sc n) (l : m ≤ n) : Pen H p sc m := by
  obtain ⟨ns, a, c, k, h1, h2, h3, h4, h5, h6⟩ := h.ex
  exact ⟨ns, a, c, k, h1, h2, h3, h4, h5, by omega⟩
/-- the pen stands where both its lists stand -/
theorem Pen.mv {H H1 : Hp} {p sc : Addr} {n : Nat} (h : Pen H p sc n) (s : ∀ a o, a = p ∨ a = sc → H a = some o → H1 a = some o) : Pen H1 p sc n := by
  obtain ⟨ns, a, c, k, h1, h2, h3⟩ := h.ex
  exact ⟨ns, a, c, k, s _ _ (.inl rfl) h1, s _ _ (.inr rfl) h2, h3⟩
theorem Pen.same {H H1 : Hp} {p sc : Addr} {n : Nat} (h : Pen H p sc n) (s : Same H H1) : Pen H1 p sc n := h.mv fun a o _ e => s a o e
/-- .. where one other list has changed -/
theorem Pen.but {H H1 : Hp} {p sc q : Addr} {n : Nat} (h : Pen H p sc n) (s : But q H H1) (n1 : p ≠ q) (n2 : sc ≠ q) : Pen H1 p sc n := h.mv fun a o e => s a o (by rcases e with rfl | rfl <;> assumption)
theorem Pen.at_ {H : Hp} {p sc : Addr} {n : Nat} (h : Pen H p sc n) : (∃ xs, H p = some (.lst xs)) ∧ ∃ ys, H sc = some (.lst ys) := by
  obtain ⟨ns, a, c, k, h1, h2, _⟩ := h.ex
  exact ⟨⟨_, h1⟩, _, h2⟩
theorem Pen.ne {H : Hp} {p sc q : Addr} {n : Nat} (h : Pen H p sc n) (hq : H q = none) : p ≠ q ∧ sc ≠ q := by
  obtain ⟨⟨_, h1⟩, _, h2⟩ := h.at_
  exact ⟨ne_of_none h1 hq, ne_of_none h2 hq⟩
theorem Pen.free {H H1 : Hp} {p sc q : Addr} {n : Nat} (h : Pen H1 p sc n) (b : But p H H1) (hq : H1 q = none) : H q = none := by
  cases e : H q with
  | none => rfl
  | some o =>
    have := b q o (Ne.symm (h.ne hq).1) e
    rw [hq] at this
    cases this
def spStart (K : PySem.W.Frag) : Sp := fun vs H Q _ => ∃ (a : Addr) (ns : List Int), vs = [.ref a] ∧ SqL K H a (ns.map V.int) ∧
  ∀ p sc H', H p = none → H sc = none → Same H H' → Pen H' p sc 1000000000 → Q (.ref p) H'
def spDraw : Sp := fun vs H Q _ => ∃ (p sc : Addr) (m : Int) (n : Nat), vs = [.ref p, .int m] ∧ Pen H p sc (n + 1) ∧ 0 < m ∧ m < 1073741824 ∧
  ∀ (r : Int) H', 0 ≤ r → r < m → But p H H' → Pen H' p sc n → Q (.int r) H'
section
variable {P : Program} {w : World} {K : PySem.W.Frag} {mg : Str → Option Value} {base : Heap}
theorem sc__law_draw : FnScope ["_law_pen", "_law_many", "_law_drawn", "_law_seed", "_law_mixed"] ["_law_pen", "_law_many"] (defScope s__law_draw) := ⟨rfl, rfl, rfl, by decide +kernel, rfl, by decide +kernel, by decide +kernel⟩
theorem ok_draw {f : Addr} {fd : FuncData} (F : FX K "_law_draw" "_law_draw" s__law_draw [] [] f fd) (T : Txt K mg) : FnOk P w K mg base (L2.CX P w) 2 f fd ["_law_pen", "_law_many"] spDraw := by
  refine F.ok sc__law_draw (fun vs H Q E h => ?_) (fun cdv A outer s H vs Q E hr h => ?_)
  · obtain ⟨p, sc, m, n, rfl, _⟩ := h
    rfl
  · obtain ⟨p, sc, m, n, rfl, hp, m0, m1, k⟩ := h
    refine ⟨_, PSs.nox ((pss_cons (ps_if (pt_cmpR op_ge (pe_ix (k_ix (K := K) rfl) (pv 0) pe_int (fun _ _ => rfl)) (pe_op op_pow pe_int pe_int) (nomark _)) (pss_cons (ps_set (i := 2) sc__law_draw.nd rfl (Or.inl rfl) (pe_op op_mod (pe_callTy call_int1U (by rfl) T.b_int (by decide +kernel) (pa_cons (pe_ix (k_ix (K := K) rfl) (pv 0) pe_int (fun _ _ => rfl)) pa_nil)) (pv 1))) 
      (pss_cons (ps_asg (pe_op op_fdiv (pe_ix (k_ix (K := K) rfl) (pv 0) pe_int (fun _ _ => rfl)) (pv 1)) (pg_sub (pv 0) pe_int set_list)) (pss_one (ps_ret (pv 2))))) pss_nil) 
      (pss_cons (ps_asg (pe_op (k_add (K := K) rfl) (pe_ix (k_ix (K := K) rfl) (pv 0) pe_int (fun _ _ => rfl)) pe_int) (pg_sub (pv 0) pe_int set_list)) 
      (pss_cons (ps_set (i := 3) sc__law_draw.nd rfl (Or.inl rfl) (pe_op (k_add (K := K) rfl) (pe_op (k_add (K := K) rfl) (pe_op op_mod (pe_callTy call_int1U (by rfl) T.b_int (by decide +kernel) (pa_cons (pe_ix (k_ix (K := K) rfl) (pv 0) pe_int (fun _ _ => rfl)) pa_nil)) pe_int) (pe_op (k_mul (K := K) rfl) pe_int (pe_ix (k_ix (K := K) rfl) (pv 0) pe_int (fun _ _ => rfl)))) pe_int)) 
      (pss_cons (ps_set (i := 4) sc__law_draw.nd rfl (Or.inl rfl) (pe_op op_mod (pe_op op_pow (pv 3) pe_int) pe_int)) 
      (pss_cons (ps_if (pt_cmpR op_lt (pe_ix (k_ix (K := K) rfl) (pv 0) pe_int (fun _ _ => rfl)) (pe_callB (k_len (K := K) rfl) (by rfl) T.b_len PySem.boot_len (pa_cons (pe_ix (k_ix (K := K) rfl) (pv 0) pe_int (fun _ _ => rfl)) pa_nil)) (nomark _)) (pss_cons (ps_asg (pe_ix (k_ix (K := K) rfl) (pe_ix (k_ix (K := K) rfl) (pv 0) pe_int (fun _ _ => rfl)) (pe_ix (k_ix (K := K) rfl) (pv 0) pe_int (fun _ _ => rfl)) (fun _ _ => rfl)) (pg_sub (pv 0) pe_int set_list)) (pss_one (ps_asg (pe_op (k_add (K := K) rfl) (pe_ix (k_ix (K := K) rfl) (pv 0) pe_int (fun _ _ => rfl)) pe_int) (pg_sub (pv 0) pe_int set_list)))) pss_nil) (pss_one (ps_ret (pe_op op_mod (pe_op op_fdiv (pe_callTy call_int1U (by rfl) T.b_int (by decide +kernel) (pa_cons (pv 4) pa_nil)) pe_int) (pv 1)))))))))), ?_⟩
    try dsimp only [cxOf]
    obtain ⟨ns, a, c, n2, h1, h2, hne, a0, k0, k1⟩ := hp.ex
    walk_at "go"
    refine a_ite (fun hc => ?_) (fun hc => ?_)
    · walk_at "go"
      refine a_setB h1 rfl fun H2 b1 g1 => ?_
      walk_at "go"
      exact k _ _ (Int.emod_nonneg _ (by omega)) (Int.emod_lt_of_pos _ m0) b1 ⟨ns, a, _, n2, g1, b1 _ _ hne h2, hne, a0, k0, by omega⟩
    · walk_at "go"
      refine a_setB h1 rfl fun H2 b1 g1 => ?_
      replace h2 := b1 _ _ hne h2
      walk_at "go"
      refine a_ite (fun hl => ?_) (fun hl => ?_)
      · rw [List.length_map] at hl
        obtain ⟨j, rfl⟩ : ∃ j : Nat, a = (j : Int) := ⟨a.toNat, by omega⟩
        have hj : j < ns.length := by omega
        walk_at "go"
        refine a_ixL (SqL.of h2) (atI_of (j := j) (z := V.int ns[j]) rfl (by rw [List.getElem?_map, List.getElem?_eq_getElem hj]; rfl)) ?_
        walk_at "go"
        refine a_setB g1 rfl fun H3 b2 g2 => ?_
        replace h2 := b2 _ _ hne h2
        walk_at "go"
        refine a_setB g2 rfl fun H4 b3 g3 => ?_
        replace h2 := b3 _ _ hne h2
        walk_at "go"
        exact k _ _ (Int.emod_nonneg _ (by omega)) (Int.emod_lt_of_pos _ m0) ((b1.trans b2).trans b3) ⟨ns, _, _, _, g3, h2, hne, by omega, by omega, by omega⟩
      · walk_at "go"
        exact k _ _ (Int.emod_nonneg _ (by omega)) (Int.emod_lt_of_pos _ m0) b1 ⟨ns, _, _, _, g1, h2, hne, a0, by omega, by omega⟩
theorem sc__law_start : FnScope ["_law_script", "_law_first"] ["_law_script"] (defScope s__law_start) := ⟨rfl, rfl, rfl, by decide +kernel, rfl, by decide +kernel, by decide +kernel⟩
theorem ok_start {f : Addr} {fd : FuncData} (F : FX K "_law_start" "_law_start" s__law_start [] [] f fd) (T : Txt K mg) : FnOk P w K mg base (L2.CX P w) 2 f fd ["_law_script"] (spStart K) := by
  refine F.ok sc__law_start (fun vs H Q E h => ?_) (fun cdv A outer s H vs Q E hr h => ?_)
  · obtain ⟨a, ns, rfl, _⟩ := h
    rfl
  · obtain ⟨a, ns, rfl, hs, k⟩ := h
    refine ⟨_, PSs.nox ((pss_cons (ps_set (i := 1) sc__law_start.nd rfl (Or.inl rfl) pe_int) 
      (pss_cons (ps_if (pt_cmpR op_gt (pe_callB (k_len (K := K) rfl) (by rfl) T.b_len PySem.boot_len (pa_cons (pv 0) pa_nil)) pe_int (nomark _)) (pss_one (ps_set (i := 1) sc__law_start.nd rfl (Or.inl rfl) (pe_ix (k_ix (K := K) rfl) (pv 0) pe_int (fun _ _ => rfl)))) pss_nil) (pss_one (ps_ret (pe_lst (pa_cons (pe_callTy (k_list (K := K) rfl) (by rfl) T.b_list (by decide +kernel) (pa_cons (pv 0) pa_nil)) (pa_cons pe_int (pa_cons (pv 1) (pa_cons pe_int pa_nil)))))))))), ?_⟩
    try dsimp only [cxOf]
    have fin : ∀ c : Int, tRet (tLst (tCons (tCB (rListU K) (tCons (tVar 0) tNil)) (tCons (tC (.int 1)) (tCons (tVar 1) (tCons (tC (.int 0)) tNil))))) { nx := fun _ H' => Q .non H', rt := Q } [some (.ref a), some (.int c)] H := fun c => by
      walk_at "go"
      refine a_list (.inl hs) fun l H2 n2 s2 h2 => ?_
      walk_at "go"
      refine a_newL (by show 4 ≤ 100000; decide) fun p H3 n3 s3 h3 => ?_
      exact k p l H3 (s2.free n3) n2 (s2.trans s3) ⟨ns, 1, c, 0, h3, s3 _ _ h2, ne_of_none h2 n3, by omega, by omega, by omega⟩
    walk_at "go"
    refine a_lenL hs ?_
    walk_at "go"
    refine a_ite (fun hl => ?_) (fun hl => ?_)
    · have hj : 0 < ns.length := by
        rw [List.length_map] at hl
        omega
      walk_at "go"
      refine a_ixL hs (atI_of (j := 0) (z := V.int ns[0]) rfl (by rw [List.getElem?_map, List.getElem?_eq_getElem hj]; rfl)) ?_
      exact fin _
    · exact fin _
end

/-! ### tables -/
def TabAt (K : PySem.W.Frag) (H : Hp) (p : Addr) (a : List Nat) : Prop := ∃ dx t, H p = some (.ins (He.ga K "Table") dx [("image", .ref t)]) ∧ SqT K H t (vi a)
theorem TabAt.same {K : PySem.W.Frag} {H H1 : Hp} {p : Addr} {a : List Nat} (h : TabAt K H p a) (s : Same H H1) : TabAt K H1 p a := by
  obtain ⟨dx, t, h1, h2⟩ := h
  exact ⟨dx, t, s _ _ h1, same_t s h2⟩
theorem img_look (v : V) : ([(("image" : Str), v)] : List (Str × V)).lookup ("image" : Str) = some v := by simp [List.lookup]
def spCheck : Sp := fun vs H Q _ => ∃ n : Int, vs = [.int n] ∧ n ≤ 3300 ∧ Q .non H
def spTInit (K : PySem.W.Frag) : Sp := fun vs H Q _ => ∃ (p x dx : Addr) (a : List Nat), vs = [.ref p, .ref x] ∧ H p = some (.ins (He.ga K "Table") dx []) ∧ Seq K H x (vi a) ∧ OkImg a ∧ a.length ≤ 3300 ∧
  ∀ H', But p H H' → TabAt K H' p a → Q .non H'
def spTLen (K : PySem.W.Frag) : Sp := fun vs H Q _ => ∃ (p : Addr) (a : List Nat), vs = [.ref p] ∧ TabAt K H p a ∧ Q (.int (a.length : Nat)) H
def spTCall (K : PySem.W.Frag) : Sp := fun vs H Q _ => ∃ (p : Addr) (a : List Nat) (i : Nat) (hi : i < a.length), vs = [.ref p, .int (i : Nat)] ∧ TabAt K H p a ∧ Q (.int (a[i] : Nat)) H
def spTMul (K : PySem.W.Frag) : Sp := fun vs H Q _ => ∃ (p q : Addr) (a b : List Nat), vs = [.ref p, .ref q] ∧ TabAt K H p a ∧ TabAt K H q b ∧ OkImg a ∧ OkImg b ∧ a.length = b.length ∧ a.length ≤ 3300 ∧
  ∀ r H', H r = none → Same H H' → TabAt K H' r (comp a b) → Q (.ref r) H'
def spTInv (K : PySem.W.Frag) : Sp := fun vs H Q _ => ∃ (p : Addr) (a : List Nat), vs = [.ref p] ∧ TabAt K H p a ∧ OkImg a ∧ a.length ≤ 3300 ∧ ∀ r H', H r = none → Same H H' → TabAt K H' r (inv a) → Q (.ref r) H'
def spTEq (K : PySem.W.Frag) : Sp := fun vs H Q _ => ∃ (p q : Addr) (a : List Nat), vs = [.ref p, .ref q] ∧ TabAt K H p a ∧ ((∃ b, TabAt K H q b ∧ Q (.bl (decide (a = b))) H) ∨ ((∃ xs, SqT K H q xs) ∧ Q (.bl false) H))
def spTNeu (K : PySem.W.Frag) : Sp := fun vs H Q _ => ∃ (n : Nat), vs = [.int (n : Nat)] ∧ n ≤ 3300 ∧ ∀ r H', H r = none → Same H H' → TabAt K H' r (List.range n) → Q (.ref r) H'
/-- Table(x) where it is made -/
theorem a_mkT {K : PySem.W.Frag} {H : Hp} {x : Addr} {a : List Nat} {Q : VK} {E : XK} (h : Seq K H x (vi a)) (ok : OkImg a) (hl : a.length ≤ 3300) (q : ∀ r H', H r = none → Same H H' → TabAt K H' r a → Q (.ref r) H') :
    rMk (He.ga K "Table") (spTInit K) E [.ref x] H Q := by
  intro r dx hr hd ne
  have s1 : Same H (upd (upd H dx (.own r)) r (.ins (He.ga K "Table") dx [])) := same_mut (same_new hd) hr
  exact ⟨r, x, dx, a, rfl, upd_same, h.same s1, ok, hl, fun H' b ht => ⟨rfl, q r H' hr (fun c o e => b c o (ne_of_none e hr) (s1 c o e)) ht⟩⟩
theorem a_mulT {K : PySem.W.Frag} {H : Hp} {o1 o2 : Addr} {a b : List Nat} {Q : VK} {E : XK} (h1 : TabAt K H o1 a) (h2 : TabAt K H o2 b) (oa : OkImg a) (ob : OkImg b) (e : a.length = b.length) (hl : a.length ≤ 3300) (q : ∀ r H', H r = none → Same H H' → TabAt K H' r (comp a b) → Q (.ref r) H') :
    rOwnB (He.ga K "Table") (spTMul K) E (.ref o1) (.ref o2) H Q := by
  obtain ⟨dx, t, g1, g2⟩ := id h1
  obtain ⟨dy, u, g3, g4⟩ := id h2
  exact ⟨o1, dx, _, o2, dy, _, rfl, rfl, g1, g3, o1, o2, a, b, rfl, h1, h2, oa, ob, e, hl, q⟩
theorem a_invT {K : PySem.W.Frag} {H : Hp} {o1 : Addr} {a : List Nat} {Q : VK} {E : XK} (h1 : TabAt K H o1 a) (oa : OkImg a) (hl : a.length ≤ 3300) (q : ∀ r H', H r = none → Same H H' → TabAt K H' r (inv a) → Q (.ref r) H') :
    rOwnU (He.ga K "Table") (spTInv K) E (.ref o1) H Q := by
  obtain ⟨dx, t, g1, g2⟩ := id h1
  exact ⟨o1, dx, _, rfl, g1, o1, a, rfl, h1, oa, hl, q⟩
theorem a_eqT {K : PySem.W.Frag} {mg : Str → Option Value} {H : Hp} {o1 o2 : Addr} {a b : List Nat} {Q : VK} {E : XK} (T : Txt K mg) (h1 : TabAt K H o1 a) (h2 : TabAt K H o2 b) (q : Q (.bl (decide (a = b))) H) :
    rOwnC K (He.ga K "Table") (spTEq K) E (.ref o1) (.ref o2) H Q := by
  obtain ⟨dx, t, g1, g2⟩ := id h1
  obtain ⟨dy, u, g3, g4⟩ := id h2
  exact ⟨o1, dx, _, _, rfl, g1, T.o_Table.ty g3, T.nf_Table, o1, o2, a, rfl, h1, .inl ⟨b, h2, q⟩⟩
theorem a_eqTt {K : PySem.W.Frag} {mg : Str → Option Value} {H : Hp} {o1 o2 : Addr} {a : List Nat} {xs : List V} {Q : VK} {E : XK} (T : Txt K mg) (h1 : TabAt K H o1 a) (h2 : SqT K H o2 xs) (q : Q (.bl false) H) :
    rOwnC K (He.ga K "Table") (spTEq K) E (.ref o1) (.ref o2) H Q := by
  obtain ⟨dx, t, g1, g2⟩ := id h1
  exact ⟨o1, dx, _, _, rfl, g1, ty_t h2, T.nft_Table, o1, o2, a, rfl, h1, .inr ⟨⟨xs, h2⟩, q⟩⟩
/-- the list of what was seen -/
def seenV (a : List Nat) (i n : Nat) : List V := (List.range n).map fun j => V.bl (decide (j ∈ a.take i))
theorem seenV_len (a : List Nat) (i n : Nat) : (seenV a i n).length = n := by unfold seenV; rw [List.length_map, List.length_range]
theorem seenV_at (a : List Nat) (i n j : Nat) (h : j < n) : (seenV a i n)[j]? = some (.bl (decide (j ∈ a.take i))) := by
  unfold seenV
  rw [List.getElem?_map, List.getElem?_range h]
  rfl
theorem seenV_set (a : List Nat) (i n : Nat) (hi : i < a.length) : (seenV a i n).set a[i] (.bl true) = seenV a (i + 1) n := by
  refine List.ext_getElem (by rw [List.length_set, seenV_len, seenV_len]) fun j h1 h2 => ?_
  rw [seenV_len] at h2
  rw [List.getElem_set]
  simp only [seenV, List.getElem_map, List.getElem_range]
  have e2 := List.take_append_getElem hi
  by_cases e : a[i] = j
  · subst e
    rw [if_pos rfl, decide_eq_true]
    rw [← e2]
    exact List.mem_append_right _ (List.mem_singleton.mpr rfl)
  · rw [if_neg e]
    congr 1
    rw [decide_eq_decide, ← e2, List.mem_append, List.mem_singleton]
    exact ⟨.inl, fun h => h.elim id fun h => absurd h.symm e⟩
theorem not_seen {a : List Nat} (nd : a.Nodup) {i : Nat} (hi : i < a.length) : ¬ a[i] ∈ a.take i := fun h => by
  obtain ⟨j, hj, e⟩ := List.getElem_of_mem h
  rw [List.length_take] at hj
  rw [List.getElem_take] at e
  have := nd_inj nd (by omega) hi e
  omega
/-- the list that __invert__ fills -/
def backV (a : List Nat) (i : Nat) : List V := (List.range a.length).map fun j => V.int ((if j ∈ a.take i then a.idxOf j else 0 : Nat) : Int)
theorem backV_len (a : List Nat) (i : Nat) : (backV a i).length = a.length := by unfold backV; rw [List.length_map, List.length_range]
theorem backV_0 (a : List Nat) : (List.range a.length).map (fun _ => V.int 0) = backV a 0 := by
  unfold backV
  simp
theorem backV_n {a : List Nat} (h : OkImg a) : backV a a.length = vi (inv a) := by
  refine List.ext_getElem (by rw [backV_len, vi_len, inv_len]) fun j h1 h2 => ?_
  rw [backV_len] at h1
  have := h.has h1
  simp [backV, vi, inv, this]
theorem backV_set {a : List Nat} (nd : a.Nodup) {i : Nat} (hi : i < a.length) : (backV a i).set a[i] (.int (i : Nat)) = backV a (i + 1) := by
  refine List.ext_getElem (by rw [List.length_set, backV_len, backV_len]) fun j h1 h2 => ?_
  rw [backV_len] at h2
  rw [List.getElem_set]
  simp only [backV, List.getElem_map, List.getElem_range]
  have e2 := List.take_append_getElem hi
  by_cases e : a[i] = j
  · subst e
    rw [if_pos rfl, if_pos (by rw [← e2]; exact List.mem_append_right _ (List.mem_singleton.mpr rfl)), idx_uniq nd hi rfl]
  · rw [if_neg e]
    have : (j ∈ a.take (i + 1)) ↔ (j ∈ a.take i) := by
      rw [← e2, List.mem_append, List.mem_singleton]
      exact ⟨fun h => h.elim id fun h => absurd h.symm e, .inl⟩
    simp only [this]
theorem ixN_of {n j : Nat} (h : j < n) : ixN n (j : Int) = some j := by
  unfold ixN
  rw [if_pos (by omega), if_pos (by omega)]
  rfl
section
variable {P : Program} {w : World} {K : PySem.W.Frag} {mg : Str → Option Value} {base : Heap} {f : Addr} {fd : FuncData}
theorem sc_check_size : FnScope ["size"] ["size"] (defScope s_check_size) := ⟨rfl, rfl, rfl, by decide +kernel, rfl, by decide +kernel, by decide +kernel⟩
theorem ok_check (F : FX K "check_size" "check_size" s_check_size [] [] f fd) (T : Txt K mg) : FnOk P w K mg base (L2.CX P w) 1 f fd ["size"] spCheck := by
  refine F.ok sc_check_size (fun vs H Q E h => ?_) (fun cdv A outer s H vs Q E hr h => ?_)
  · obtain ⟨n, rfl, _⟩ := h
    rfl
  · obtain ⟨n, rfl, hn, k⟩ := h
    refine ⟨_, PSs.nox ((pss_one (ps_if (pt_cmpR op_gt (pv 0) (pe_gv rfl T.k_MOST_POINTS) (nomark _)) (pss_one ps_never) pss_nil))), ?_⟩
    try dsimp only [cxOf]
    walk_at "go"
    exact a_no (by omega) k
theorem sc_Table_init : FnScope ["self", "image", "seen", "point"] ["self", "image"] (defScope s_Table_init) := ⟨rfl, rfl, rfl, by decide +kernel, rfl, by decide +kernel, by decide +kernel⟩
theorem ok_Tinit (F : FX K "__init__" "Table.__init__" s_Table_init [] [] f fd) (T : Txt K mg) (c_check_size : Cal P w K mg base "check_size" 1 spCheck) : FnOk P w K mg base (L2.CX P w) 3 f fd ["self", "image"] (spTInit K) := by
  refine F.ok sc_Table_init (fun vs H Q E h => ?_) (fun cdv A outer s H vs Q E hr h => ?_)
  · obtain ⟨p, x, dx, a, rfl, _⟩ := h
    rfl
  · obtain ⟨p, x, dx, a, rfl, hp, hx, ok, hl, k⟩ := h
    refine ⟨_, PSs.nox ((pss_cons (ps_expr (pe_f c_check_size hr (by decide) rfl passL (pa_cons (pe_callB (k_len (K := K) rfl) (by rfl) T.b_len PySem.boot_len (pa_cons (pv 1) pa_nil)) pa_nil))) 
      (pss_cons (k_put (K := K) rfl (pv 0) (pe_callTy (k_tuple (K := K) rfl) (by rfl) T.b_tuple (by decide +kernel) (pa_cons (pv 1) pa_nil))) 
      (pss_cons (ps_setLc (i := 2) (own := [("point", 3)]) rfl sc_Table_init.nd rfl rfl (sw_true rfl rfl rfl (by decide +kernel)) (k_iT (K := K) rfl (k_fld (K := K) rfl (pv 0))) (blkOk_by (own := [("point", 3)]) (N := ["self", "image", "seen", "point"]) (sc := defScope s_Table_init) (by decide +kernel)) (fun _ _ _ _ _ => by exact (pg_name (i := 3) sc_Table_init.nd rfl (Or.inl rfl))) (fun _ _ _ _ _ => by exact pts_nil) (fun _ _ _ _ _ => by exact pe_bl)) (pss_one (ps_for PassesOwn.never rfl (k_iT (K := K) rfl (k_fld (K := K) rfl (pv 0))) (pg_name (i := 3) sc_Table_init.nd rfl (Or.inl rfl)) (pss_cons (ps_if (PW.pt (pw_or (pt_not (pt_chain op_le op_lt pe_int (pv 3) (pe_callB (k_len (K := K) rfl) (by rfl) T.b_len PySem.boot_len (pa_cons (pv 2) pa_nil)))) (pw_or1 (k_tr (K := K) rfl (pe_ix (k_ix (K := K) rfl) (pv 2) (pv 3) (fun _ _ => rfl)))))) (pss_one ps_never) pss_nil) (pss_one (ps_asg pe_bl (pg_sub (pv 2) (pv 3) set_list)))))))))), ?_⟩
    try dsimp only [cxOf]
    walk_at "go"
    refine a_lenS hx ?_
    walk_at "go"
    rw [vi_len]
    refine ⟨_, rfl, by omega, ?_⟩
    walk_at "go"
    refine a_tup hx fun t H1 s1 ht => ?_
    walk_at "go"
    refine a_put (s1 _ _ hp) T.o_Table.cl T.n_Table_image (by show 0 < 1000; decide) fun H2 b1 hp2 => ?_
    have b2 : But p H H2 := (But.of s1).trans b1
    have ht2 : SqT K H2 t (vi a) := by
      rcases ht with (h | ⟨o, h⟩) | h
      · exact .inl (.inl (b1 _ _ (ne_of h (s1 _ _ hp) (by intro z; cases z)) h))
      · exact .inl (.inr ⟨o, b1 _ _ (ne_of h (s1 _ _ hp) (by intro z; cases z)) h⟩)
      · exact .inr h
    walk_at "go"
    refine c_t (xs := vi a) (fun _ => V.bl false) (by rw [vi_len]; omega) ?_ ?_ ?_
    · intro R r
      walk_at "go"
      exact a_fld (hp2) T.o_Table.cl T.n_Table_image (img_look _) (r _ _ (Same.refl _) ht2)
    · intro i z H' hz s' R r
      exact r H' (Same.refl _)
    intro D H3 hD s3 hD3
    have e0 : (List.range (vi a).length).map (fun _ => V.bl false) = seenV a 0 a.length := by
      unfold seenV
      rw [vi_len]
      simp
    rw [e0] at hD3
    walk_at "go"
    refine a_fld (s3 _ _ hp2) T.o_Table.cl T.n_Table_image (img_look _) ⟨t, rfl, ⟨_, same_t s3 ht2⟩, ?_⟩
    refine for_tup (K := K) (a := t) (xs := vi a) (fun i σ H' => ∃ v : Option V, σ = [some (.ref p), some (.ref x), some (.ref D), v] ∧ Same H2 H' ∧ H' D = some (.lst (seenV a i a.length)))
      ⟨none, rfl, s3, hD3⟩ (fun i σ H' _ ⟨_, _, s', _⟩ => same_t s' ht2) ?_ ?_
    · rintro i y σ H' hy ⟨v, rfl, s', hD'⟩
      obtain ⟨hi, rfl⟩ := vi_get hy
      have hlt : a[i] < a.length := ok.lt _ (List.getElem_mem hi)
      show tIfS _ _ _ _ _ _
      walk_at "go"
      refine a_yes (by omega) ?_
      walk_at "go"
      rw [seenV_len]
      walk_at "go"
      refine a_nyes (by omega) ?_
      walk_at "go"
      refine a_ixL (SqL.of hD') (atI_of rfl (seenV_at a i a.length a[i] hlt)) ?_
      refine a_truB ?_
      refine a_no (not_seen ok.nd hi) ?_
      walk_at "go"
      refine a_setB hD' (by rw [seenV_len]; exact ixN_of hlt) fun H4 b4 h4 => ?_
      refine ⟨_, rfl, fun c o e => b4 c o (ne_of_none e hD) (s' c o e), ?_⟩
      rw [h4, seenV_set a i a.length hi]
    · rintro σ H' ⟨v, rfl, s', hD'⟩
      exact k H' (b2.trans (But.of s')) ⟨dx, t, s' _ _ hp2, same_t s' ht2⟩
theorem sc_Table_len : FnScope ["self"] ["self"] (defScope s_Table_len) := ⟨rfl, rfl, rfl, by decide +kernel, rfl, by decide +kernel, by decide +kernel⟩
theorem ok_Tlen (F : FX K "__len__" "Table.__len__" s_Table_len [] [] f fd) (T : Txt K mg) : FnOk P w K mg base (L2.CX P w) 1 f fd ["self"] (spTLen K) := by
  refine F.ok sc_Table_len (fun vs H Q E h => ?_) (fun cdv A outer s H vs Q E hr h => ?_)
  · obtain ⟨p, a, rfl, _⟩ := h
    rfl
  · obtain ⟨p, a, rfl, ⟨dx, t, h1, h2⟩, k⟩ := h
    refine ⟨_, PSs.nox ((pss_one (ps_ret (pe_callB (k_len (K := K) rfl) (by rfl) T.b_len PySem.boot_len (pa_cons (k_fld (K := K) rfl (pv 0)) pa_nil))))), ?_⟩
    try dsimp only [cxOf]
    walk_at "go"
    refine a_fld (h1) T.o_Table.cl T.n_Table_image (img_look _) ?_
    walk_at "go"
    refine a_lenT h2 ?_
    rw [vi_len]
    exact k
theorem sc_Table_call : FnScope ["self", "point"] ["self", "point"] (defScope s_Table_call) := ⟨rfl, rfl, rfl, by decide +kernel, rfl, by decide +kernel, by decide +kernel⟩
theorem ok_Tcall (F : FX K "__call__" "Table.__call__" s_Table_call [] [] f fd) (T : Txt K mg) : FnOk P w K mg base (L2.CX P w) 1 f fd ["self", "point"] (spTCall K) := by
  refine F.ok sc_Table_call (fun vs H Q E h => ?_) (fun cdv A outer s H vs Q E hr h => ?_)
  · obtain ⟨p, a, i, hi, rfl, _⟩ := h
    rfl
  · obtain ⟨p, a, i, hi, rfl, ⟨dx, t, h1, h2⟩, k⟩ := h
    refine ⟨_, PSs.nox ((pss_cons (ps_if (pt_not (pt_chain op_le op_lt pe_int (pv 1) (pe_callB (k_len (K := K) rfl) (by rfl) T.b_len PySem.boot_len (pa_cons (k_fld (K := K) rfl (pv 0)) pa_nil)))) (pss_one ps_never) pss_nil) (pss_one (ps_ret (pe_ix (k_ix (K := K) rfl) (k_fld (K := K) rfl (pv 0)) (pv 1) (fun _ _ => rfl)))))), ?_⟩
    try dsimp only [cxOf]
    walk_at "go"
    refine a_yes (by omega) ?_
    walk_at "go"
    refine a_fld (h1) T.o_Table.cl T.n_Table_image (img_look _) ?_
    walk_at "go"
    refine a_lenT h2 ?_
    rw [vi_len]
    walk_at "go"
    refine a_nyes (by omega) ?_
    walk_at "go"
    refine a_fld (h1) T.o_Table.cl T.n_Table_image (img_look _) ?_
    walk_at "go"
    exact a_ixT h2 (atI_of rfl (vi_at hi)) k
theorem sc_Table_mul : FnScope ["self", "other", "point"] ["self", "other"] (defScope s_Table_mul) := ⟨rfl, rfl, rfl, by decide +kernel, rfl, by decide +kernel, by decide +kernel⟩
theorem ok_Tmul (F : FX K "__mul__" "Table.__mul__" s_Table_mul [] [] f fd) (T : Txt K mg) (c_Table_init : Mak P w K mg base "Table" (He.ga K "Table") 3 (spTInit K)) : FnOk P w K mg base (L2.CX P w) 6 f fd ["self", "other"] (spTMul K) := by
  refine F.ok sc_Table_mul (fun vs H Q E h => ?_) (fun cdv A outer s H vs Q E hr h => ?_)
  · obtain ⟨p, q, a, b, rfl, _⟩ := h
    rfl
  · obtain ⟨p, q, a, b, rfl, ⟨dx, t, h1, h2⟩, ⟨dy, u, g1, g2⟩, oa, ob, e, hl, k⟩ := h
    refine ⟨_, PSs.nox ((pss_cons (ps_if (pt_cmpR (k_ne (K := K) rfl hr.units) (pe_callB (k_len (K := K) rfl) (by rfl) T.b_len PySem.boot_len (pa_cons (k_fld (K := K) rfl (pv 1)) pa_nil)) (pe_callB (k_len (K := K) rfl) (by rfl) T.b_len PySem.boot_len (pa_cons (k_fld (K := K) rfl (pv 0)) pa_nil)) (nomark _)) (pss_one ps_never) pss_nil) (pss_one (ps_ret (pe_k c_Table_init hr (by decide) rfl passL (pa_cons (by exact (pe_lc (own := [("point", 2)]) rfl sc_Table_mul.nd (k_iT (K := K) rfl (k_fld (K := K) rfl (pv 0))) (blkOk_by (own := [("point", 2)]) (N := ["self", "other", "point"]) (sc := defScope s_Table_mul) (by decide +kernel)) (fun _ _ _ _ _ => by exact (pg_name (i := 2) sc_Table_mul.nd rfl (Or.inl rfl))) (fun _ _ _ _ _ => by exact pts_nil) (fun _ _ _ _ _ => by exact (pe_ix (k_ix (K := K) rfl) (k_fld (K := K) rfl (pv 1)) (pv 2) (fun _ _ => rfl))))) pa_nil)))))), ?_⟩
    try dsimp only [cxOf]
    walk_at "go"
    refine a_fld (g1) T.o_Table.cl T.n_Table_image (img_look _) ?_
    walk_at "go"
    refine a_lenT g2 ?_
    walk_at "go"
    refine a_fld (h1) T.o_Table.cl T.n_Table_image (img_look _) ?_
    walk_at "go"
    refine a_lenT h2 ?_
    rw [vi_len, vi_len]
    walk_at "go"
    refine a_nyes (by rw [e]) ?_
    walk_at "go"
    refine c_t (xs := vi a) (fun i => V.int ((b.getD (a.getD i 0) 0 : Nat) : Int)) (by rw [vi_len]; omega) ?_ ?_ ?_
    · intro R r
      walk_at "go"
      exact a_fld (h1) T.o_Table.cl T.n_Table_image (img_look _) (r _ _ (Same.refl _) h2)
    · intro i z H' hz s' R r
      obtain ⟨hi, rfl⟩ := vi_get hz
      have hb : a[i] < b.length := e ▸ oa.lt _ (List.getElem_mem hi)
      walk_at "go"
      refine a_fld (s' _ _ g1) T.o_Table.cl T.n_Table_image (img_look _) ?_
      walk_at "go"
      refine a_ixT (same_t s' g2) (atI_of rfl (vi_at hb)) ?_
      have e1 : b.getD (a.getD i 0) 0 = b[a[i]] := by rw [getD_lt hi, getD_lt hb]
      have r1 := r H' (Same.refl _)
      rw [e1] at r1
      exact r1
    intro D H3 hD s3 hD3
    have e2 : (List.range (vi a).length).map (fun i => V.int ((b.getD (a.getD i 0) 0 : Nat) : Int)) = vi (comp a b) := by
      rw [vi_len]
      refine List.ext_getElem (by rw [List.length_map, List.length_range, vi_len, comp_len]) fun i p1 p2 => ?_
      rw [List.length_map, List.length_range] at p1
      simp [vi, comp, p1]
    rw [e2] at hD3
    walk_at "go"
    exact a_mkT (.inl (SqL.of hD3)) (oa.comp ob e) (by rw [comp_len]; exact hl) fun r H' hr s' ht => k r H' (s3.free hr) (s3.trans s') ht
theorem sc_Table_invert : FnScope ["self", "back", "point", "goal"] ["self"] (defScope s_Table_invert) := ⟨rfl, rfl, rfl, by decide +kernel, rfl, by decide +kernel, by decide +kernel⟩
theorem ok_Tinv (F : FX K "__invert__" "Table.__invert__" s_Table_invert [] [] f fd) (T : Txt K mg) (c_Table_init : Mak P w K mg base "Table" (He.ga K "Table") 3 (spTInit K)) : FnOk P w K mg base (L2.CX P w) 6 f fd ["self"] (spTInv K) := by
  refine F.ok sc_Table_invert (fun vs H Q E h => ?_) (fun cdv A outer s H vs Q E hr h => ?_)
  · obtain ⟨p, a, rfl, _⟩ := h
    rfl
  · obtain ⟨p, a, rfl, ⟨dx, t, h1, h2⟩, oa, hl, k⟩ := h
    refine ⟨_, PSs.nox ((pss_cons (ps_setLc (i := 1) (own := [("point", 2)]) rfl sc_Table_invert.nd rfl rfl (sw_true rfl rfl rfl (by decide +kernel)) (k_iT (K := K) rfl (k_fld (K := K) rfl (pv 0))) (blkOk_by (own := [("point", 2)]) (N := ["self", "back", "point", "goal"]) (sc := defScope s_Table_invert) (by decide +kernel)) (fun _ _ _ _ _ => by exact (pg_name (i := 2) sc_Table_invert.nd rfl (Or.inl rfl))) (fun _ _ _ _ _ => by exact pts_nil) (fun _ _ _ _ _ => by exact pe_int)) 
      (pss_cons (ps_for PassesOwn.never rfl (k_iEt (K := K) rfl (by rfl) T.b_enumerate (pa_cons (k_fld (K := K) rfl (pv 0)) pa_nil)) (k_gtup (K := K) (n := 2) rfl (by rfl) (pgs_cons (pg_name (i := 2) sc_Table_invert.nd rfl (Or.inl rfl)) (pgs_cons (pg_name (i := 3) sc_Table_invert.nd rfl (Or.inl rfl)) pgs_nil))) (pss_one (ps_asg (pv 2) (pg_sub (pv 1) (pv 3) set_list)))) (pss_one (ps_ret (pe_k c_Table_init hr (by decide) rfl passL (pa_cons (pv 1) pa_nil))))))), ?_⟩
    try dsimp only [cxOf]
    walk_at "go"
    refine c_t (xs := vi a) (fun _ => V.int 0) (by rw [vi_len]; omega) ?_ ?_ ?_
    · intro R r
      walk_at "go"
      exact a_fld (h1) T.o_Table.cl T.n_Table_image (img_look _) (r _ _ (Same.refl _) h2)
    · intro i z H' hz s' R r
      exact r H' (Same.refl _)
    intro D H3 hD s3 hD3
    walk_at "go"
    refine a_fld (s3 _ _ h1) T.o_Table.cl T.n_Table_image (img_look _) ?_
    walk_at "go"
    refine ⟨t, vi a, rfl, same_t s3 h2, for_it walk_et (fun i σ H' => ∃ v w : Option V, σ = [some (.ref p), some (.ref D), v, w] ∧ Same H H' ∧ H' D = some (.lst (backV a i)))
      ⟨none, none, rfl, s3, by rw [hD3, vi_len, backV_0]⟩ (fun i σ H' _ ⟨_, _, _, s', _⟩ => same_t s' h2) ?_ ?_⟩
    · rintro i x σ H' H4 hi ⟨v, w', rfl, s', hD'⟩ ⟨q, y, z, rfl, nq, rfl, ey, ez⟩
      obtain ⟨hi, rfl⟩ := vi_get ez
      cases Option.some.inj ey
      have hlt : a[i] < a.length := oa.lt _ (List.getElem_mem hi)
      have s4 : Same H' (upd H' q (.tup [.int (i : Nat), .int (a[i] : Nat)])) := same_new nq
      refine ⟨q, _, rfl, SqT.of upd_same, rfl, _, _, rfl, _, _, rfl, rfl, ?_⟩
      walk_at "go"
      refine a_setB (s4 _ _ hD') (by rw [backV_len]; exact ixN_of hlt) fun H5 b5 h5 => ?_
      refine ⟨_, _, rfl, fun c o e => b5 c o (ne_of_none e hD) (s4 c o (s' c o e)), ?_⟩
      rw [h5, backV_set oa.nd hi]
    · rintro σ H' ⟨v, w', rfl, s', hD'⟩
      rw [vi_len, backV_n oa] at hD'
      walk_at "go"
      exact a_mkT (.inl (SqL.of hD')) oa.inv (by rw [inv_len]; exact hl) fun r H5 hr s5 ht => k r H5 (s'.free hr) (s'.trans s5) ht
theorem sc_Table_eq : FnScope ["self", "other"] ["self", "other"] (defScope s_Table_eq) := ⟨rfl, rfl, rfl, by decide +kernel, rfl, by decide +kernel, by decide +kernel⟩
theorem ok_Teq (F : FX K "__eq__" "Table.__eq__" s_Table_eq [] [] f fd) (T : Txt K mg) : FnOk P w K mg base (L2.CX P w) 2 f fd ["self", "other"] (spTEq K) := by
  refine F.ok sc_Table_eq (fun vs H Q E h => ?_) (fun cdv A outer s H vs Q E hr h => ?_)
  · obtain ⟨p, q, a, rfl, _⟩ := h
    rfl
  · obtain ⟨p, q, a, rfl, ⟨dx, t, h1, h2⟩, k⟩ := h
    refine ⟨_, PSs.nox ((pss_one (ps_ret (pe_and (pe_callB (k_isi (K := K) rfl) (by rfl) T.b_isinstance (by decide +kernel) (pa_cons (pv 1) (pa_cons (pe_gv (v := .ref (He.ga K "Table")) rfl ⟨_, T.g_Table, rfl⟩) pa_nil))) (pe_one (pe_cmpR (k_eq (K := K) rfl hr.units) (k_fld (K := K) rfl (pv 0)) (k_fld (K := K) rfl (pv 1)) (nomark _))))))), ?_⟩
    try dsimp only [cxOf]
    walk_at "go"
    rcases k with ⟨b, ⟨dy, u, g1, g2⟩, k⟩ | ⟨⟨xs, g⟩, k⟩
    · refine a_isi (.own _) (T.o_Table.ty g1) T.i_Table ?_
      refine ⟨true, rfl, ?_⟩
      refine a_T rfl ?_
      walk_at "go"
      refine a_fld (h1) T.o_Table.cl T.n_Table_image (img_look _) ?_
      walk_at "go"
      refine a_fld (g1) T.o_Table.cl T.n_Table_image (img_look _) ?_
      refine a_eqD (.tup h2 (dp_vi a)) (.tup g2 (dp_vi b)) (sh_t a) (sh_t b) ?_
      rw [eqv_tt]
      exact k
    · refine a_isi (.own _) (ty_t g) T.it_Table ?_
      refine ⟨false, rfl, ?_⟩
      exact a_F rfl k
theorem sc_Table_neutral : FnScope ["size"] ["size"] (defScope s_Table_neutral) := ⟨rfl, rfl, rfl, by decide +kernel, rfl, by decide +kernel, by decide +kernel⟩
theorem ok_Tneu (F : FX K "neutral" "Table.neutral" s_Table_neutral [] [] f fd) (T : Txt K mg) (c_check_size : Cal P w K mg base "check_size" 1 spCheck) (c_Table_init : Mak P w K mg base "Table" (He.ga K "Table") 3 (spTInit K)) : FnOk P w K mg base (L2.CX P w) 6 f fd ["size"] (spTNeu K) := by
  refine F.ok sc_Table_neutral (fun vs H Q E h => ?_) (fun cdv A outer s H vs Q E hr h => ?_)
  · obtain ⟨n, rfl, _⟩ := h
    rfl
  · obtain ⟨n, rfl, hn, k⟩ := h
    refine ⟨_, PSs.nox ((pss_cons (ps_expr (pe_f c_check_size hr (by decide) rfl passL (pa_cons (pv 0) pa_nil))) (pss_one (ps_ret (pe_k c_Table_init hr (by decide) rfl passL (pa_cons (pe_listRg rfl rfl T.b_list (prg_1 rfl T.b_range (pv 0))) pa_nil)))))), ?_⟩
    try dsimp only [cxOf]
    walk_at "go"
    refine ⟨_, rfl, by omega, ?_⟩
    walk_at "go"
    refine a_lrg (n := (n : Int)) (by omega) (by omega) fun l H2 hl s2 h2 => ?_
    rw [Int.toNat_natCast] at h2
    walk_at "go"
    exact a_mkT (a := List.range n) (.inl (SqL.of h2)) (OkImg.range n) (by rw [List.length_range]; exact hn) fun r H' hr s' ht => k r H' (s2.free hr) (s2.trans s') ht
end

/-! ### schemes -/
theorem sc_BadScheme_init : FnScope ["self", "line"] ["self", "line"] (defScope s_BadScheme_init) := ⟨rfl, rfl, rfl, by decide +kernel, rfl, by decide +kernel, by decide +kernel⟩
theorem ok_BadScheme {P : Program} {w : World} {K : PySem.W.Frag} {mg : Str → Option Value} {base : Heap} {f : Addr} {fd : FuncData} (F : FX K "__init__" "BadScheme.__init__" s_BadScheme_init [] [] f fd) (T : Txt K mg) : FnOk P w K mg base (L2.CX P w) 1 f fd ["self", "line"] (spI1 (He.ga K "BadScheme") "line") := by
  refine F.ok sc_BadScheme_init (fun vs H Q E h => ?_) (fun cdv A outer s H vs Q E hr h => ?_)
  · obtain ⟨a, v, rfl, _⟩ := h
    rfl
  · obtain ⟨a, v, rfl, ha, k⟩ := h
    refine ⟨_, PSs.nox (pss_one (ps_ost (pv 0) (pv 1))), ?_⟩
    exact ⟨_, rfl, _, rfl, a, He.ga K "BadScheme", rfl, T.x_BadScheme.ox, T.nx_BadScheme_line, .inl ⟨ha, k⟩⟩
abbrev eC (K : PySem.W.Frag) (x : Str) : Value := .ref (He.ga K x)
def prOk (src : Int) (i : Nat) (x : Pr) : Prop := (x.2 = 1 ∨ x.2 = -1) ∧ 0 ≤ x.1 ∧ x.1 < src + i
def lineOk (src : Int) (i : Nat) (ps : List Pr) : Prop := 1 ≤ ps.length ∧ ps.length ≤ 8 ∧ ∀ x ∈ ps, prOk src i x
def LsOk (src : Int) (ls : List (List Pr)) : Prop := ∀ (i : Nat) ps, ls[i]? = some ps → lineOk src i ps
def FstBad (src : Int) (ls : List (List Pr)) (i : Nat) : Prop := (∃ ps, ls[i]? = some ps ∧ ¬ lineOk src i ps) ∧ ∀ (k : Nat) ps, k < i → ls[k]? = some ps → lineOk src k ps
def TLines (K : PySem.W.Frag) (H : Hp) (zs : List V) (ls : List (List Pr)) : Prop := zs.length = ls.length ∧ ∀ (k : Nat) v x, zs[k]? = some v → ls[k]? = some x → ∃ q ys, v = .ref q ∧ SqT K H q ys ∧ PairsIn K H ys x
def SchAt (K : PySem.W.Frag) (H : Hp) (p : Addr) (src : Int) (ls : List (List Pr)) : Prop := ∃ dx t zs, H p = some (.ins (He.ga K "Scheme") dx [("sources", .int src), ("lines", .ref t)]) ∧ SqT K H t zs ∧ TLines K H zs ls
theorem TLines.same {K : PySem.W.Frag} {H H1 : Hp} {zs : List V} {ls : List (List Pr)} (h : TLines K H zs ls) (s : Same H H1) : TLines K H1 zs ls := ⟨h.1, fun k v x a b => let ⟨q, ys, e, h1, h2⟩ := h.2 k v x a b; ⟨q, ys, e, same_t s h1, h2.same s⟩⟩
theorem SchAt.same {K : PySem.W.Frag} {H H1 : Hp} {p : Addr} {src : Int} {ls : List (List Pr)} (h : SchAt K H p src ls) (s : Same H H1) : SchAt K H1 p src ls := let ⟨dx, t, zs, h1, h2, h3⟩ := h; ⟨dx, t, zs, s _ _ h1, same_t s h2, h3.same s⟩
theorem TLines.dq {K : PySem.W.Frag} {H : Hp} {zs : List V} {ls : List (List Pr)} {n : Nat} (h : TLines K H zs ls) : DqA K H (n + 3) zs (lsD ls) := dqa (fun ps => .tuple (psD ps)) h.1 fun k v x a b => by
  obtain ⟨q, ys, rfl, h1, h2⟩ := h.2 k v x a b
  exact .tup h1 h2.dq
theorem sch_l1 (src : V) (t : V) : ([(("sources" : Str), src), ("lines", t)] : List (Str × V)).lookup ("lines" : Str) = some t := by simp [List.lookup]; rfl
theorem sch_l2 (src : V) (t : V) : ([(("sources" : Str), src), ("lines", t)] : List (Str × V)).lookup ("sources" : Str) = some src := by simp [List.lookup]
def spSInitX (K : PySem.W.Frag) : Sp := fun vs H Q E => ∃ (p x dx : Addr) (src : Int) (ls : List (List Pr)) (ys : List V), vs = [.ref p, .int src, .ref x] ∧ H p = some (.ins (He.ga K "Scheme") dx []) ∧ SqL K H x ys ∧ LinesIn K H ys ls ∧ (20000 < ls.length → E (eC K "TooGreat") none H) ∧
  (ls.length ≤ 20000 → (∀ (i : Nat) d H', FstBad src ls i → Same H H' → H' d = some (.xd [("line", .int (i : Nat))]) → E (eC K "BadScheme") (some d) H') ∧ (LsOk src ls → ∀ H', But p H H' → SchAt K H' p src ls → Q .non H'))
theorem a_notin2 {K : PySem.W.Frag} {H : Hp} {p : Addr} {s : Int} {Q : VK} (h : SqT K H p [.int 1, .int (-1)]) (q : Q (.bl (!decide (s = 1 ∨ s = -1))) H) : rIn K true (.int s) (.ref p) H Q := by
  refine ⟨p, _, rfl, .inr h, rfl, rfl, ?_⟩
  have e : inV (.int s) [.int 1, .int (-1)] = decide (s = 1 ∨ s = -1) := by
    unfold inV
    by_cases h1 : s = 1
    · subst h1
      decide
    · by_cases h2 : s = -1
      · subst h2
        decide
      · simp [eqV, h1, h2, Ne.symm h1, Ne.symm h2]
  rw [if_pos rfl, e]
  exact q
section
variable {P : Program} {w : World} {K : PySem.W.Frag} {mg : Str → Option Value} {base : Heap} {f : Addr} {fd : FuncData}
theorem sc_Scheme_init : FnScope ["self", "sources", "lines", "line", "pairs", "number", "sign", "pair"] ["self", "sources", "lines"] (defScope s_Scheme_init) := ⟨rfl, rfl, rfl, by decide +kernel, rfl, by decide +kernel, by decide +kernel⟩
theorem xok_Sinit (F : FX K "__init__" "Scheme.__init__" s_Scheme_init [] [] f fd) (T : Txt K mg) (c_BadScheme : Rai P w K mg base "BadScheme" (He.ga K "BadScheme") 1 (spI1 (He.ga K "BadScheme") "line")) : FnOk P w K mg base (L2.CX P w) 3 f fd ["self", "sources", "lines"] (spSInitX K) := by
  refine F.ok sc_Scheme_init (fun vs H Q E h => ?_) (fun cdv A outer s H vs Q E hr h => ?_)
  · obtain ⟨p, x, dx, src, ls, ys, rfl, _⟩ := h
    rfl
  · obtain ⟨p, x, dx, src, ls, ys, rfl, hp, hx, hls, kG, kS⟩ := h
    refine ⟨_, ((pss_cons (ps_if (pt_cmpR op_gt (pe_callB (k_len (K := K) rfl) (by rfl) T.b_len PySem.boot_len (pa_cons (pv 2) pa_nil)) (pe_gv rfl T.k_LINES) (nomark _)) (pss_one (ps_rs rfl (takes_of rfl rfl rfl rfl) (pmk_n T.r_TooGreat rfl))) pss_nil) 
      (pss_cons (ps_for (passes_of rfl) rfl (k_iE (K := K) rfl (by rfl) T.b_enumerate (pa_cons (pv 2) pa_nil)) (k_gtup (K := K) (n := 2) rfl (by rfl) (pgs_cons (pg_name (i := 3) sc_Scheme_init.nd rfl (Or.inl rfl)) (pgs_cons (pg_name (i := 4) sc_Scheme_init.nd rfl (Or.inl rfl)) pgs_nil))) (pss_cons (ps_if (pt_not (pt_chain op_le op_le pe_int (pe_callB (k_len (K := K) rfl) (by rfl) T.b_len PySem.boot_len (pa_cons (pv 4) pa_nil)) (pe_gv rfl T.k_PAIRS))) (pss_one (ps_rs rfl (takes_of rfl rfl rfl rfl) (pmk_r c_BadScheme hr (by decide) rfl (pa_cons (pv 3) pa_nil)))) pss_nil) (pss_one (ps_for (passes_of rfl) rfl (pi_seq (K := K) rfl (pv 4)) (k_gtup (K := K) (n := 2) rfl (by rfl) (pgs_cons (pg_name (i := 5) sc_Scheme_init.nd rfl (Or.inl rfl)) (pgs_cons (pg_name (i := 6) sc_Scheme_init.nd rfl (Or.inl rfl)) pgs_nil))) (pss_one (ps_if (PW.pt (pw_or (pt_cmpR (k_notin (K := K) rfl) (pv 6) (pe_tup (pa_cons pe_int (pa_cons (pe_un un_neg pe_int) pa_nil))) rfl) (pw_or1 (pt_not (pt_chain op_le op_lt pe_int (pv 5) (pe_op (k_add (K := K) rfl) (pv 1) (pv 3))))))) (pss_one (ps_rs rfl (takes_of rfl rfl rfl rfl) (pmk_r c_BadScheme hr (by decide) rfl (pa_cons (pv 3) pa_nil)))) pss_nil)))))) 
      (pss_cons (k_put (K := K) rfl (pv 0) (pv 1)) (pss_one (k_put (K := K) rfl (pv 0) (pe_callTy (k_tuple (K := K) rfl) (by rfl) T.b_tuple (by decide +kernel) (pa_cons (by exact (pe_lc (own := [("pairs", 4)]) rfl sc_Scheme_init.nd (k_iL (K := K) rfl (pv 2)) (blkOk_by (own := [("pairs", 4)]) (N := ["self", "sources", "lines", "line", "pairs", "number", "sign", "pair"]) (sc := defScope s_Scheme_init) (by decide +kernel)) (fun _ _ _ _ _ => by exact (pg_name (i := 4) sc_Scheme_init.nd rfl (Or.inl rfl))) (fun _ _ _ _ _ => by exact pts_nil) (fun _ _ _ _ _ => by exact (pe_callTy (k_tuple (K := K) rfl) (by rfl) T.b_tuple (by decide +kernel) (pa_cons (by exact (pe_lc (own := [("pair", 7)]) rfl sc_Scheme_init.nd (pi_seq (K := K) rfl (pv 4)) (blkOk_by (own := [("pair", 7)]) (by first | rfl | kernel_rfl)) (fun _ _ _ _ _ => by exact (pg_name (i := 7) sc_Scheme_init.nd rfl (Or.inl rfl))) (fun _ _ _ _ _ => by exact pts_nil) (fun _ _ _ _ _ => by exact (pe_callTy (k_tuple (K := K) rfl) (by rfl) T.b_tuple (by decide +kernel) (pa_cons (pv 7) pa_nil))))) pa_nil))))) pa_nil)))))))), ?_⟩
    try dsimp only [cxOf]
    walk_at "go"
    refine a_lenL hx ?_
    walk_at "go"
    refine a_ite (fun c => ?_) (fun c => ?_)
    · walk_at "go"
      exact kG (by rw [← hls.1]; omega)
    · have hl : ls.length ≤ 20000 := by rw [← hls.1]; omega
      obtain ⟨kB, kQ⟩ := kS hl
      walk_at "go"
      refine ⟨x, ys, rfl, hx, for_it walk_enum (fun i σ H' => ∃ v3 v4 v5 v6 v7 : Option V, σ = [some (.ref p), some (.int src), some (.ref x), v3, v4, v5, v6, v7] ∧ Same H H' ∧ ∀ (k : Nat) ps, k < i → ls[k]? = some ps → lineOk src k ps)
        ⟨none, none, none, none, none, rfl, Same.refl _, fun k ps hk => absurd hk (Nat.not_lt_zero _)⟩ (fun i σ H' _ ⟨_, _, _, _, _, _, s', _⟩ => same_l s' hx) ?_ ?_⟩
      · rintro i v σ H' H2 hi ⟨v3, v4, v5, v6, v7, rfl, s', ok'⟩ ⟨q, y, z, rfl, nq, rfl, ey, ez⟩
        cases Option.some.inj ey
        have hil : i < ls.length := by rw [← hls.1]; exact hi
        have el : ls[i]? = some ls[i] := List.getElem?_eq_getElem hil
        have s2 : Same H' (upd H' q (.tup [.int (i : Nat), z])) := same_new nq
        have s3 := s'.trans s2
        obtain ⟨pq, zs, rfl, hpq, hps⟩ := (hls.2 i z _ ez el).same s3
        generalize hH : upd H' q (.tup [.int (i : Nat), .ref pq]) = H3 at *
        have hq3 : H3 q = some (.tup [.int (i : Nat), .ref pq]) := by rw [← hH]; exact upd_same
        have bad : ¬ lineOk src i ls[i] → ∀ H4, Same H H4 → rOex (He.ga K "BadScheme") (spI1 (He.ga K "BadScheme") "line") [.int (i : Nat)] H4 E := fun nb H4 s4 => a_oex1 fun d H5 hd s5 h5 => kB i d H5 ⟨⟨_, el, nb⟩, ok'⟩ (s4.trans s5) h5
        refine ⟨q, _, rfl, SqT.of hq3, rfl, _, _, rfl, _, _, rfl, rfl, ?_⟩
        walk_at "go"
        refine a_lenS hpq ?_
        rw [hps.1]
        walk_at "go"
        refine a_ite (fun c1 => ?_) (fun c1 => ?_)
        · walk_at "go"
          refine a_nite (fun c2 => ?_) (fun c2 => ?_)
          · walk_at "go"
            exact bad (fun z => c2 (by have := z.2.1; omega)) _ s3
          · walk_at "go"
            refine a_iter hpq fun J wk => ?_
            refine for_it wk (fun m σ H' => ∃ v5 v6 : Option V, σ = [some (.ref p), some (.int src), some (.ref x), some (.int i), some (.ref pq), v5, v6, v7] ∧ Same H3 H' ∧ ∀ (k : Nat) u, k < m → ls[i][k]? = some u → prOk src i u)
              ⟨v5, v6, rfl, Same.refl _, fun k ps hk => absurd hk (Nat.not_lt_zero _)⟩ (fun m σ H' _ ⟨_, _, _, s4, _⟩ => s4) ?_ ?_
            · rintro m u σ H4 H5 hm ⟨u5, u6, rfl, s4, ok4⟩ ⟨rfl, eu⟩
              have hml : m < ls[i].length := by rw [← hps.1]; exact hm
              have em : ls[i][m]? = some ls[i][m] := List.getElem?_eq_getElem hml
              obtain ⟨qq, rfl, hqq⟩ := (hps.2 m u _ eu em).same s4
              have bad2 : ¬ prOk src i ls[i][m] → ∀ H6, Same H5 H6 → rOex (He.ga K "BadScheme") (spI1 (He.ga K "BadScheme") "line") [.int (i : Nat)] H6 E := fun nb H6 s6 => bad (fun z => nb (z.2.2 _ (List.getElem_mem hml))) H6 ((s3.trans s4).trans s6)
              refine ⟨qq, _, rfl, hqq, rfl, _, _, rfl, _, _, rfl, rfl, ?_⟩
              walk_at "go"
              refine a_newT (by show 2 ≤ 100000; decide) fun t1 H6 n6 s6 h6 => ?_
              refine a_notin2 (SqT.of h6) ?_
              walk_at "go"
              refine a_nite (fun c3 => ?_) (fun c3 => ?_)
              · refine a_T rfl ?_
                walk_at "go"
                exact bad2 (fun z => c3 z.1) _ s6
              · walk_at "go"
                refine a_ite (fun c4 => ?_) (fun c4 => ?_)
                · walk_at "go"
                  refine a_nite (fun c5 => ?_) (fun c5 => ?_)
                  · walk_at "go"
                    exact bad2 (fun z => c5 z.2.2) _ s6
                  · walk_at "go"
                    refine ⟨_, _, rfl, s4.trans s6, fun k u hk ek => ?_⟩
                    by_cases hkm : k < m
                    · exact ok4 k u hkm ek
                    · have : k = m := by omega
                      subst this
                      rw [em] at ek
                      cases Option.some.inj ek
                      exact ⟨c3, c4, c5⟩
                · walk_at "go"
                  refine a_T rfl ?_
                  walk_at "go"
                  exact bad2 (fun z => c4 z.2.1) _ s6
            · rintro σ H4 ⟨u5, u6, rfl, s4, ok4⟩
              refine ⟨_, _, _, _, _, rfl, s3.trans s4, fun k ps hk ek => ?_⟩
              by_cases hki : k < i
              · exact ok' k ps hki ek
              · have : k = i := by omega
                subst this
                rw [el] at ek
                cases Option.some.inj ek
                refine ⟨by omega, by omega, fun u hu => ?_⟩
                obtain ⟨m, hm, em⟩ := List.getElem_of_mem hu
                exact ok4 m u (by rw [hps.1]; exact hm) (by rw [List.getElem?_eq_getElem hm, em])
        · walk_at "go"
          refine a_T rfl ?_
          walk_at "go"
          exact bad (fun z => c1 (by have := z.1; omega)) _ s3
      · rintro σ H' ⟨v3, v4, v5, v6, v7, rfl, s', ok'⟩
        have lok : LsOk src ls := fun k ps ek => ok' k ps (by rw [hls.1]; exact (List.getElem?_eq_some_iff.mp ek).1) ek
        walk_at "go"
        refine a_put (s' _ _ hp) T.o_Scheme.cl T.n_Scheme_sources (by show 0 < 1000; decide) fun H2 b2 hp2 => ?_
        have hx2 : SqL K H2 x ys := sql_but (s' _ _ hp) b2 (same_l s' hx)
        have hls2 : LinesIn K H2 ys ls := (hls.same s').but (s' _ _ hp) b2
        walk_at "go"
        refine c_lp (P := fun D k v H' => ∀ ps, ls[k]? = some ps → ∃ q ys, v = .ref q ∧ SqT K H' q ys ∧ PairsIn K H' ys ps) ⟨fun s' h ps e => let ⟨q, ys, e1, h1, h2⟩ := h ps e; ⟨q, ys, e1, same_t s' h1, h2.same s'⟩, fun hD b h ps e => let ⟨q, ys, e1, h1, h2⟩ := h ps e; ⟨q, ys, e1, sqt_but hD b h1, h2.but hD b⟩⟩ (by rw [hls.1]; omega) ?_ ?_ ?_
        · intro R r
          walk_at "go"
          exact r _ _ (Same.refl _) hx2
        · intro D acc i z H3 hD hz s3 hacc R r
          have hil : i < ls.length := by rw [← hls.1]; exact (List.getElem?_eq_some_iff.mp hz).1
          obtain ⟨pq, zs, rfl, hpq, hps⟩ := (hls2.2 i z _ hz (List.getElem?_eq_getElem hil)).same s3
          walk_at "go"
          refine c_sp (xs := zs) (P := fun D k v H' => ∀ u, ls[i][k]? = some u → PairAt K H' v u) ⟨fun s' h u e => (h u e).same s', fun hD b h u e => (h u e).but hD b⟩ ?_ ?_ ?_ ?_
          · rw [hps.1]
            have := (lok i _ (List.getElem?_eq_getElem hil)).2.1
            omega
          · intro R r
            walk_at "go"
            exact r _ _ (Same.refl _) hpq
          · intro D2 acc2 k u H4 hD2 hu s4 hacc2 R2 r2
            have hkl : k < ls[i].length := by rw [← hps.1]; exact (List.getElem?_eq_some_iff.mp hu).1
            obtain ⟨qq, rfl, hqq⟩ := (hps.2 k u _ hu (List.getElem?_eq_getElem hkl)).same s4
            walk_at "go"
            refine a_tupT hqq (r2 _ H4 (Same.refl _) fun u' e' => ?_)
            rw [List.getElem?_eq_getElem hkl] at e'
            cases Option.some.inj e'
            exact ⟨qq, rfl, hqq⟩
          · intro D2 acc2 H4 hD2 s4 h4 hl2 hP
            walk_at "go"
            refine a_tupL (SqL.of h4) fun t H5 nt s5 h5 => r _ H5 (s4.trans s5) fun ps e => ?_
            rw [List.getElem?_eq_getElem hil] at e
            cases Option.some.inj e
            exact ⟨t, acc2, rfl, SqT.of h5, by rw [hl2, hps.1], fun k v u a b => (hP k v a u b).same s5⟩
        · intro D acc H3 hD s3 h3 hla hP
          walk_at "go"
          refine a_tupL (SqL.of h3) fun t H4 nt s4 h4 => ?_
          walk_at "go"
          refine a_put (s4 _ _ (s3 _ _ hp2)) T.o_Scheme.cl T.n_Scheme_lines (by show 1 < 1000; decide) fun H5 b5 hp5 => ?_
          have hp4 := s4 _ _ (s3 _ _ hp2)
          refine kQ lok H5 (((But.of s').trans b2).trans ((But.of (s3.trans s4)).trans b5)) ⟨dx, t, acc, hp5, sqt_butI hp4 b5 (SqT.of h4), by rw [hla, hls.1], fun k v ps a b => ?_⟩
          obtain ⟨q, zs, e1, h1, h2⟩ := hP k v a ps b
          exact ⟨q, zs, e1, sqt_butI hp4 b5 (same_t s4 h1), (h2.same s4).butI hp4 b5⟩
end

/-! ### the value of a scheme over tables -/
theorem inv_pw {a : List Nat} (h : OkImg a) (e : Int) : inv (pw a e) = pw a (-e) := by
  refine List.ext_getElem (by rw [inv_len, pw_len, pw_len]) fun i h1 h2 => ?_
  rw [inv_get, pw_get]
  rw [inv_len, pw_len] at h1
  have hl := zit_lt h h1 (-e)
  refine idx_uniq (pw_ok h e).nd (by rw [pw_len]; exact hl) ?_
  rw [pw_get, ← zit_add h h1, Int.add_left_neg, zit_0 h h1]
def thingT (gs : List (List Nat)) (x : Pr) : List Nat := if x.2 = 1 then gs.getD x.1.toNat [] else inv (gs.getD x.1.toNat [])
def stepT (gs : List (List Nat)) (m : Option (List Nat)) (x : Pr) : Option (List Nat) := match m with
  | none => some (thingT gs x)
  | some g => some (comp g (thingT gs x))
def lineT (gs : List (List Nat)) (ps : List Pr) : Option (List Nat) := ps.foldl (stepT gs) none
theorem lineT_snoc (gs : List (List Nat)) (ps : List Pr) (x : Pr) : lineT gs (ps ++ [x]) = stepT gs (lineT gs ps) x := by
  unfold lineT
  rw [List.foldl_append]
  rfl
def valsT (gs : List (List Nat)) (ls : List (List Pr)) : List (List Nat) := ls.foldl (fun gs ps => gs ++ [(lineT gs ps).getD []]) gs
theorem valsT_snoc (gs : List (List Nat)) (ls : List (List Pr)) (ps : List Pr) : valsT gs (ls ++ [ps]) = valsT gs ls ++ [(lineT (valsT gs ls) ps).getD []] := by
  unfold valsT
  rw [List.foldl_append]
  rfl
theorem valsT_len (gs : List (List Nat)) : ∀ ls : List (List Pr), (valsT gs ls).length = gs.length + ls.length := fun ls => by
  have : ∀ (ls : List (List Pr)) (gs : List (List Nat)), (ls.foldl (fun gs ps => gs ++ [(lineT gs ps).getD []]) gs).length = gs.length + ls.length := by
    intro ls
    induction ls with
    | nil => intro gs; rfl
    | cons p ls ih =>
      intro gs
      rw [List.foldl_cons, ih, List.length_append]
      show _ + 1 + _ = _ + (ls.length + 1)
      omega
  exact this ls gs
def AllOk (n : Nat) (gs : List (List Nat)) : Prop := ∀ g ∈ gs, OkImg g ∧ g.length = n
def TabV (K : PySem.W.Frag) (H : Hp) (v : V) (g : List Nat) : Prop := ∃ o, v = .ref o ∧ TabAt K H o g
theorem TabV.same {K : PySem.W.Frag} {H H1 : Hp} {v : V} {g : List Nat} (h : TabV K H v g) (s : Same H H1) : TabV K H1 v g := let ⟨o, e, h⟩ := h; ⟨o, e, h.same s⟩
theorem TabV.but {K : PySem.W.Frag} {H H1 : Hp} {v : V} {g : List Nat} {q : Addr} {xs : List V} (h : TabV K H v g) (hq : H q = some (.lst xs)) (b : But q H H1) : TabV K H1 v g := by
  obtain ⟨o, e, dx, t, h1, h2⟩ := h
  exact ⟨o, e, dx, t, b _ _ (ne_of h1 hq (by intro z; cases z)) h1, sqt_but hq b h2⟩
theorem thing_ok {n : Nat} {gs : List (List Nat)} (h : AllOk n gs) {x : Pr} {j : Nat} (e : x.1 = j) (hj : j < gs.length) : OkImg (thingT gs x) ∧ (thingT gs x).length = n := by
  have eg : gs.getD x.1.toNat [] = gs[j] := by
    rw [e, Int.toNat_natCast, List.getD_eq_getElem?_getD, List.getElem?_eq_getElem hj]
    rfl
  have hg := h _ (List.getElem_mem hj)
  unfold thingT
  rw [eg]
  by_cases c : x.2 = 1
  · rw [if_pos c]
    exact hg
  · rw [if_neg c]
    exact ⟨hg.1.inv, by rw [inv_len]; exact hg.2⟩
def spVal (K : PySem.W.Frag) : Sp := fun vs H Q _ => ∃ (p x o : Addr) (ls : List (List Pr)) (gs : List (List Nat)) (ys : List V) (n : Nat), vs = [.ref p, .ref x, .ref o] ∧ SchAt K H p (gs.length : Nat) ls ∧ LsOk (gs.length : Nat) ls ∧ ls.length ≤ 20000 ∧ gs.length ≤ 20000 ∧ Seq K H x ys ∧ Par (TabV K H) ys gs ∧ AllOk n gs ∧ n ≤ 3300 ∧
  (ls = [] → ∀ H', Same H H' → Q (.ref o) H') ∧ (ls ≠ [] → ∀ r g H', Same H H' → (valsT gs ls)[gs.length + ls.length - 1]? = some g → TabAt K H' r g → OkImg g → g.length = n → Q (.ref r) H')
section
variable {P : Program} {w : World} {K : PySem.W.Frag} {mg : Str → Option Value} {base : Heap} {f : Addr} {fd : FuncData}
theorem sc_Scheme_value : FnScope ["self", "results", "one", "values", "pairs", "made", "number", "sign", "thing"] ["self", "results", "one"] (defScope s_Scheme_value) := ⟨rfl, rfl, rfl, by decide +kernel, rfl, by decide +kernel, by decide +kernel⟩
theorem ok_val (F : FX K "value" "Scheme.value" s_Scheme_value [] [] f fd) (T : Txt K mg) (c_Table_mul : Met P w K mg base (He.ga K "Table") "__mul__" 6 (spTMul K)) (c_Table_invert : Met P w K mg base (He.ga K "Table") "__invert__" 6 (spTInv K)) : FnOk P w K mg base (L2.CX P w) 8 f fd ["self", "results", "one"] (spVal K) := by
  refine F.ok sc_Scheme_value (fun vs H Q E h => ?_) (fun cdv A outer s H vs Q E hr h => ?_)
  · obtain ⟨p, x, o, ls, gs, ys, n, rfl, _⟩ := h
    rfl
  · obtain ⟨p, x, o, ls, gs, ys, n, rfl, ⟨dx, t, zs, h1, h2, h3⟩, lok, hl, hg, hx, hys, ok, hn, k0, k1⟩ := h
    refine ⟨_, PSs.nox ((pss_cons (ps_if (pt_cmpR (k_ne (K := K) rfl hr.units) (pe_callB (k_len (K := K) rfl) (by rfl) T.b_len PySem.boot_len (pa_cons (pv 1) pa_nil)) (k_fld (K := K) rfl (pv 0)) (nomark _)) (pss_one ps_never) pss_nil) 
      (pss_cons (ps_set (i := 3) sc_Scheme_value.nd rfl (Or.inl rfl) (pe_callTy (k_list (K := K) rfl) (by rfl) T.b_list (by decide +kernel) (pa_cons (pv 1) pa_nil))) 
      (pss_cons (ps_for PassesOwn.never rfl (k_iT (K := K) rfl (k_fld (K := K) rfl (pv 0))) (pg_name (i := 4) sc_Scheme_value.nd rfl (Or.inl rfl)) (pss_cons (ps_set (i := 5) sc_Scheme_value.nd rfl (Or.inl rfl) pe_non) 
      (pss_cons (ps_for PassesOwn.never rfl (k_iT (K := K) rfl (pv 4)) (k_gtup (K := K) (n := 2) rfl (by rfl) (pgs_cons (pg_name (i := 6) sc_Scheme_value.nd rfl (Or.inl rfl)) (pgs_cons (pg_name (i := 7) sc_Scheme_value.nd rfl (Or.inl rfl)) pgs_nil))) (pss_cons (ps_set (i := 8) sc_Scheme_value.nd rfl (Or.inl rfl) (pe_ifExp (pt_cmpR (k_eq (K := K) rfl hr.units) (pv 7) pe_int (nomark _)) (pe_ix (k_ix (K := K) rfl) (pv 3) (pv 6) (fun _ _ => rfl)) (pe_un (un_invO c_Table_invert hr (by decide) passL) (pe_ix (k_ix (K := K) rfl) (pv 3) (pv 6) (fun _ _ => rfl))))) (pss_one (ps_set (i := 5) sc_Scheme_value.nd rfl (Or.inl rfl) (pe_ifExp (pt_cmpR op_isN (pv 5) pe_non (nomark _)) (pv 8) (pe_op (op_mulO T.o_Table c_Table_mul hr (by decide) passL) (pv 5) (pv 8))))))) (pss_one (ps_expr (k_bm (K := K) rfl PySem.F.plainAttrs_list PySem.F.slot_list_append PySem.F.type_list_append mt_append (pv 3) (pa_cons (pv 5) pa_nil))))))) (pss_one (ps_ret (pe_ifExp (k_tr (K := K) rfl (k_fld (K := K) rfl (pv 0))) (pe_ix (k_ix (K := K) rfl) (pv 3) (pe_op op_sub (pe_callB (k_len (K := K) rfl) (by rfl) T.b_len PySem.boot_len (pa_cons (pv 3) pa_nil)) pe_int) (fun _ _ => rfl)) (pv 2)))))))), ?_⟩
    try dsimp only [cxOf]
    walk_at "go"
    refine a_lenS hx ?_
    walk_at "go"
    refine a_fld h1 T.o_Scheme.cl T.n_Scheme_sources (sch_l2 _ _) ?_
    walk_at "go"
    refine a_nyes (by rw [hys.1]) ?_
    walk_at "go"
    refine a_list hx fun L H1 nL s1 hL => ?_
    walk_at "go"
    refine a_fld (s1 _ _ h1) T.o_Scheme.cl T.n_Scheme_lines (sch_l1 _ _) ?_
    refine ⟨t, rfl, ⟨_, same_t s1 h2⟩, ?_⟩
    refine for_tup (K := K) (a := t) (xs := zs) (fun i σ H' => ∃ (v4 v5 v6 v7 v8 : Option V) (us : List V), σ = [some (.ref p), some (.ref x), some (.ref o), some (.ref L), v4, v5, v6, v7, v8] ∧ Same H H' ∧ H' L = some (.lst us) ∧ Par (TabV K H') us (valsT gs (ls.take i)) ∧ AllOk n (valsT gs (ls.take i)))
      ⟨none, none, none, none, none, ys, rfl, s1, hL, hys.mono fun v g h => h.same s1, ok⟩ (fun i σ H' _ ⟨_, _, _, _, _, _, _, s', _⟩ => same_t s' h2) ?_ ?_
    · rintro i y σ H2 hy ⟨v4, v5, v6, v7, v8, us, rfl, s2, hL2, hus, hok⟩
      have hil : i < ls.length := by rw [← h3.1]; exact (List.getElem?_eq_some_iff.mp hy).1
      have lo := lok i _ (List.getElem?_eq_getElem hil)
      obtain ⟨pq, qs, rfl, hq, hps⟩ := (h3.same s2).2 i y _ hy (List.getElem?_eq_getElem hil)
      have hvl : (valsT gs (ls.take i)).length = gs.length + i := by rw [valsT_len, List.length_take]; omega
      generalize hvs : valsT gs (ls.take i) = vs at hus hok hvl
      show tSeq _ _ _ _ _
      walk_at "go"
      refine ⟨pq, rfl, ⟨_, hq⟩, ?_⟩
      refine for_tup (K := K) (a := pq) (xs := qs) (fun m σ H' => ∃ (v5 v6 v7 v8 : Option V) (w5 : V), v5 = some w5 ∧ σ = [some (.ref p), some (.ref x), some (.ref o), some (.ref L), some (.ref pq), v5, v6, v7, v8] ∧ Same H2 H' ∧ (match lineT vs (ls[i].take m) with | none => w5 = .non | some g => TabV K H' w5 g ∧ OkImg g ∧ g.length = n) ∧ (lineT vs (ls[i].take m) = none → m = 0))
        ⟨_, v6, v7, v8, .non, rfl, rfl, Same.refl _, rfl, fun _ => rfl⟩ (fun m σ H' _ ⟨_, _, _, _, _, _, _, s', _⟩ => same_t s' hq) ?_ ?_
      · rintro m y σ H3 hy3 ⟨u5, u6, u7, u8, w5, rfl, rfl, s3, hm, hz⟩
        have hml : m < ls[i].length := by rw [← hps.1]; exact (List.getElem?_eq_some_iff.mp hy3).1
        have em : ls[i][m]? = some ls[i][m] := List.getElem?_eq_getElem hml
        obtain ⟨qq, rfl, hqq⟩ := (hps.2 m y _ hy3 em).same s3
        obtain ⟨sg, n0, n1⟩ := lo.2.2 _ (List.getElem_mem hml)
        obtain ⟨j, ej⟩ : ∃ j : Nat, ls[i][m].1 = (j : Int) := ⟨ls[i][m].1.toNat, by omega⟩
        have hj : j < vs.length := by omega
        obtain ⟨v, ev, o1, rfl, t1⟩ := Par.get hus hj
        have tk := thing_ok hok ej hj
        refine ⟨qq, _, rfl, hqq, rfl, _, _, rfl, _, _, rfl, rfl, ?_⟩
        have hL3 := s3 _ _ hL2
        have t3 := t1.same s3
        have eg : vs.getD ls[i][m].1.toNat [] = vs[j] := by
          rw [ej, Int.toNat_natCast, List.getD_eq_getElem?_getD, List.getElem?_eq_getElem hj]
          rfl
        have et : lineT vs (ls[i].take (m + 1)) = stepT vs (lineT vs (ls[i].take m)) ls[i][m] := by
          rw [← List.take_append_getElem hml, lineT_snoc]
        walk_at "go"
        refine a_meet (R := ?R) (J := fun (o2 : Addr) H' => Same H3 H' ∧ TabAt K H' o2 (thingT vs ls[i][m])) (fun c kk => ?h1) (fun c kk => ?h2) ?fin
        case h2 =>
          walk_at "go"
          refine a_ixL (SqL.of hL3) (atI_of (j := j) ej ev) ?_
          have gk := hok _ (List.getElem_mem hj)
          refine a_invT t3 gk.1 (by rw [gk.2]; exact hn) fun o2 H4 n4 s4 t4 => ?_
          refine kk o2 H4 ⟨s4, ?_⟩
          unfold thingT
          rw [if_neg (fun z => c (by rw [z])), eg]
          exact t4
        case h1 =>
          walk_at "go"
          refine a_ixL (SqL.of hL3) (atI_of (j := j) ej ev) ?_
          refine kk o1 H3 ⟨Same.refl _, ?_⟩
          unfold thingT
          rw [if_pos (V.int.inj c), eg]
          exact t3
        case fin =>
          rintro o2 H4 ⟨s4, t4⟩
          try dsimp only
          walk_at "go"
          refine ⟨rfl, ?_⟩
          walk_at "go"
          cases hm0 : lineT vs (ls[i].take m) with
          | none =>
            rw [hm0] at hm
            obtain rfl : w5 = .non := hm
            refine a_yes rfl ?_
            walk_at "go"
            refine ⟨_, _, _, _, .ref o2, rfl, rfl, s3.trans s4, ?_, ?_⟩
            · rw [et, hm0]
              exact ⟨⟨o2, rfl, t4⟩, tk⟩
            · rw [et, hm0]
              intro z
              cases z
          | some g =>
            rw [hm0] at hm
            obtain ⟨⟨o3, rfl, t5⟩, og, lg⟩ := hm
            refine a_no (by intro z; cases z) ?_
            walk_at "go"
            refine a_mulT (t5.same s4) t4 og tk.1 (by rw [lg, tk.2]) (by rw [lg]; exact hn) fun o4 H5 n5 s5 t6 => ?_
            refine ⟨_, _, _, _, .ref o4, rfl, rfl, (s3.trans s4).trans s5, ?_, ?_⟩
            · rw [et, hm0]
              exact ⟨⟨o4, rfl, t6⟩, og.comp tk.1 (by rw [lg, tk.2]), by rw [comp_len]; exact lg⟩
            · rw [et, hm0]
              intro z
              cases z
      · rintro σ H3 ⟨u5, u6, u7, u8, w5, rfl, rfl, s3, hm, hz⟩
        rw [hps.1, List.take_length] at hm hz
        have hL3 := s3 _ _ hL2
        cases hm0 : lineT vs ls[i] with
        | none =>
          have := hz hm0
          have := lo.1
          omega
        | some g =>
          rw [hm0] at hm
          obtain ⟨⟨o3, rfl, t5⟩, og, lg⟩ := hm
          walk_at "go"
          refine a_ty hL3 ?_
          walk_at "go"
          refine a_app hL3 (by rw [hus.1, hvl]; exact szl (by omega)) fun H4 b4 h4 => ?_
          have ev : valsT gs (ls.take (i + 1)) = vs ++ [g] := by
            rw [← List.take_append_getElem hil, valsT_snoc, hvs, hm0]
            rfl
          refine ⟨_, _, _, _, _, us ++ [.ref o3], rfl, fun c o' z => b4 c o' (ne_of_none z nL) (s3 c o' (s2 c o' z)), h4, ?_, ?_⟩
          · rw [ev]
            exact (hus.mono fun v g h => (h.same s3).but hL3 b4).snoc (TabV.but ⟨o3, rfl, t5⟩ hL3 b4)
          · rw [ev]
            intro g' hg'
            rcases List.mem_append.mp hg' with h | h
            · exact hok g' h
            · rw [List.mem_singleton] at h
              subst h
              exact ⟨og, lg⟩
    · rintro σ H2 ⟨v4, v5, v6, v7, v8, us, rfl, s2, hL2, hus, hok⟩
      rw [h3.1, List.take_length] at hus hok
      walk_at "go"
      refine a_fld (s2 _ _ h1) T.o_Scheme.cl T.n_Scheme_lines (sch_l1 _ _) ?_
      refine a_truT (same_t s2 h2) ?_
      by_cases hz : ls = []
      · have : zs = [] := List.eq_nil_of_length_eq_zero (by rw [h3.1, hz]; rfl)
        subst this
        refine a_F rfl ?_
        walk_at "go"
        exact k0 hz H2 s2
      · have hlp : 0 < ls.length := List.length_pos_iff.mpr hz
        have hzs : zs ≠ [] := fun z => by
          have := h3.1
          rw [z] at this
          simp at this
          omega
        refine a_T (by cases zs with | nil => exact absurd rfl hzs | cons _ _ => rfl) ?_
        walk_at "go"
        have hvl := valsT_len gs ls
        have hlt : gs.length + ls.length - 1 < (valsT gs ls).length := by omega
        obtain ⟨v, ev, o1, rfl, t1⟩ := Par.get hus hlt
        have gk := hok _ (List.getElem_mem hlt)
        refine a_ixL (SqL.of hL2) (atI_of (j := gs.length + ls.length - 1) (by rw [hus.1, hvl]; omega) ev) ?_
        exact k1 hz o1 _ H2 s2 (List.getElem?_eq_getElem hlt) t1 gk.1 gk.2
end

/-! ### the law's own images -/
def spImage : Sp := fun vs H Q _ => ∃ (p sc : Addr) (n m : Nat), vs = [.ref p, .int (n : Nat)] ∧ Pen H p sc (n + m) ∧ n ≤ 60 ∧
  ∀ r a H', H r = none → But p H H' → Pen H' p sc m → H' r = some (.lst (vi a)) → OkImg a → a.length = n → Q (.ref r) H'
theorem vi_app (a : List Nat) (x : Nat) : vi a ++ [V.int (x : Nat)] = vi (a ++ [x]) := by unfold vi; rw [List.map_append]; rfl
theorem map_erase {α β : Type} (g : α → β) : ∀ (l : List α) (k : Nat), (l.map g).eraseIdx k = (l.eraseIdx k).map g
  | [], _ => rfl
  | x :: l, 0 => rfl
  | x :: l, k + 1 => by
    show g x :: (l.map g).eraseIdx k = g x :: (l.eraseIdx k).map g
    rw [map_erase g l k]
theorem perm_erase : ∀ {l : List Nat} {k : Nat} (h : k < l.length), ([l[k]] ++ l.eraseIdx k).Perm l
  | x :: l, 0, _ => List.Perm.refl _
  | x :: l, k + 1, h => by
    have h' : k < l.length := Nat.lt_of_succ_lt_succ h
    show (l[k] :: x :: l.eraseIdx k).Perm (x :: l)
    exact (List.Perm.swap x l[k] _).trans (List.Perm.cons x (perm_erase h'))
theorem vi_erase (a : List Nat) (k : Nat) : (vi a).eraseIdx k = vi (a.eraseIdx k) := map_erase _ a k
theorem perm_pop {acc pool : List Nat} {n k : Nat} (h : (acc ++ pool).Perm (List.range n)) (hk : k < pool.length) : ((acc ++ [pool[k]]) ++ pool.eraseIdx k).Perm (List.range n) := by
  refine List.Perm.trans ?_ h
  rw [List.append_assoc]
  exact List.Perm.append_left acc (perm_erase hk)
theorem ok_perm {a : List Nat} {n : Nat} (h : a.Perm (List.range n)) : OkImg a := by
  have hl : a.length = n := by rw [h.length_eq, List.length_range]
  exact ⟨h.nodup_iff.mpr List.nodup_range, fun x hx => by rw [hl]; exact List.mem_range.mp (h.mem_iff.mp hx)⟩
section
variable {P : Program} {w : World} {K : PySem.W.Frag} {mg : Str → Option Value} {base : Heap} {f : Addr} {fd : FuncData}
theorem sc__law_image : FnScope ["_law_pen", "_law_size", "_law_pool", "_law_k"] ["_law_pen", "_law_size"] (defScope s__law_image) := ⟨rfl, rfl, rfl, by decide +kernel, rfl, by decide +kernel, by decide +kernel⟩
theorem ok_image (F : FX K "_law_image" "_law_image" s__law_image [] [] f fd) (T : Txt K mg) (c__law_draw : Cal P w K mg base "_law_draw" 2 spDraw) : FnOk P w K mg base (L2.CX P w) 4 f fd ["_law_pen", "_law_size"] spImage := by
  refine F.ok sc__law_image (fun vs H Q E h => ?_) (fun cdv A outer s H vs Q E hr h => ?_)
  · obtain ⟨p, sc, n, m, rfl, _⟩ := h
    rfl
  · obtain ⟨p, sc, n, m, rfl, hp, hn, k⟩ := h
    refine ⟨_, PSs.nox ((pss_cons (ps_set (i := 2) sc__law_image.nd rfl (Or.inr rfl) (pe_listRg rfl rfl T.b_list (prg_1 rfl T.b_range (pv 1)))) (pss_one (ps_ret (by exact (pe_lc (own := [("_law_k", 3)]) rfl sc__law_image.nd (pi_range1 (by rfl) T.b_range (pa_cons (pv 1) pa_nil)) (blkOk_by (own := [("_law_k", 3)]) (N := ["_law_pen", "_law_size", "_law_pool", "_law_k"]) (sc := defScope s__law_image) (by decide +kernel)) (fun _ _ _ _ _ => by exact (pg_name (i := 3) sc__law_image.nd rfl (Or.inl rfl))) (fun _ _ _ _ _ => by exact pts_nil) (fun _ _ _ _ _ => by exact (k_bm (K := K) rfl PySem.F.plainAttrs_list PySem.F.slot_list_pop PySem.F.type_list_pop mt_popAt (pv 2) (pa_cons (pe_f c__law_draw hr (by decide) rfl passL (pa_cons (pv 0) (pa_cons (pe_op op_sub (pv 1) (pv 3)) pa_nil))) pa_nil))))))))), ?_⟩
    try dsimp only [cxOf]
    walk_at "go"
    refine a_lrg (n := (n : Int)) (by omega) (by omega) fun L H1 hL s1 h1 => ?_
    rw [Int.toNat_natCast] at h1
    have hp1 := hp.same s1
    have nL := hp.ne hL
    walk_at "go"
    refine g_lcT ?_
    walk_at "go"
    refine ⟨(n : Int), rfl, by omega, by omega, fun D hD => ?_⟩
    have nD := hp1.ne hD
    have hDL : D ≠ L := Ne.symm (ne_of_none h1 hD)
    refine lc_it walk_range (fun i H' => ∃ acc pool : List Nat, But p H H' ∧ Pen H' p sc (n - i + m) ∧ H' L = some (.lst (vi pool)) ∧ H' D = some (.lst (vi acc)) ∧ (acc ++ pool).Perm (List.range n) ∧ acc.length = i)
      ⟨[], List.range n, (But.of (s1.trans (same_new hD))), (hp1.same (same_new hD)), by rw [upd_ne (Ne.symm hDL)]; exact h1, upd_same, List.Perm.refl _, rfl⟩ (fun _ _ _ _ => True.intro) ?_ ?_
    · rintro i x H' H2 hi ⟨acc, pool, b', hp', hL', hD', pm, el⟩ ⟨rfl, rfl⟩
      have plen : acc.length + pool.length = n := by
        have := pm.length_eq
        rw [List.length_append, List.length_range] at this
        exact this
      refine ⟨rfl, ?_⟩
      refine g_yes (a_T rfl ?_)
      walk_at "go"
      refine a_ty hL' ?_
      walk_at "go"
      refine ⟨p, sc, _, n - (i + 1) + m, rfl, hp'.le (by omega), by omega, by omega, fun r H3 r0 r1 b3 hp3 => ?_⟩
      walk_at "go"
      obtain ⟨kk, rfl⟩ : ∃ kk : Nat, r = (kk : Int) := ⟨r.toNat, by omega⟩
      have hk : kk < pool.length := by omega
      refine a_pop (k := kk) (b3 _ _ (Ne.symm nL.1) hL') rfl (vi_at hk) (by rw [vi_len]; omega) fun H4 b4 h4 => ?_
      have hD4 := b4 _ _ hDL (b3 _ _ (Ne.symm nD.1) hD')
      refine ⟨_, hD4, by rw [vi_len]; exact szl (by omega), acc ++ [pool[kk]], pool.eraseIdx kk, ?_, ?_, ?_, ?_, perm_pop pm hk, by rw [List.length_append, el]; rfl⟩
      · intro c o nc e
        rw [upd_ne (ne_of_none (s1 c o e) hD)]
        exact b4 c o (ne_of_none e hL) (b3 c o nc (b' c o nc e))
      · exact (hp3.but b4 nL.1 nL.2).but But.upd nD.1 nD.2
      · rw [upd_ne (Ne.symm hDL), h4, vi_erase]
      · rw [upd_same, vi_app]
    · rintro H' ⟨acc, pool, b', hp', hL', hD', pm, el⟩
      have plen : acc.length + pool.length = n := by
        have := pm.length_eq
        rw [List.length_append, List.length_range] at this
        exact this
      have : pool = [] := List.eq_nil_of_length_eq_zero (by rw [Int.toNat_natCast] at el; omega)
      subst this
      rw [List.append_nil] at pm
      rw [Int.toNat_natCast] at el hp'
      refine k D acc H' (s1.free hD) b' (hp'.le (by omega)) hD' (ok_perm pm) el
end

theorem atI_last {α : Type} (l : List α) (x : α) : atI (l ++ [x]) (-1) = some x := by
  unfold atI ixN
  rw [if_neg (by decide), if_pos (by rw [List.length_append]; show -((_ + 1 : Nat) : Int) ≤ -1; omega)]
  have e : ((-1 : Int) + ((l ++ [x]).length : Nat)).toNat = l.length := by
    rw [List.length_append]
    show ((-1 : Int) + ((l.length + 1 : Nat) : Int)).toNat = _
    omega
  rw [e]
  simp
def spRing (K : PySem.W.Frag) : Sp := fun vs H Q _ => ∃ (l : Addr) (a : List Nat) (x : Nat), vs = [.ref l, .int (x : Nat)] ∧ SqL K H l (vi a) ∧ OkImg a ∧ a.length ≤ 3300 ∧ x < a.length ∧ ∀ r H', Same H H' → H' r = some (.lst (vi (cyc a x))) → Q (.ref r) H'
def spFar (K : PySem.W.Frag) : Sp := fun vs H Q _ => ∃ (l : Addr) (a : List Nat) (e : Int), vs = [.ref l, .int e] ∧ SqL K H l (vi a) ∧ OkImg a ∧ a.length ≤ 3300 ∧ ∀ r H', Same H H' → SqT K H' r (vi (pw a e)) → Q (.ref r) H'
section
variable {P : Program} {w : World} {K : PySem.W.Frag} {mg : Str → Option Value} {base : Heap} {f : Addr} {fd : FuncData}
theorem sc__law_ring : FnScope ["_law_image_here", "_law_point", "_law_found", "_law_k", "_law_goal"] ["_law_image_here", "_law_point"] (defScope s__law_ring) := ⟨rfl, rfl, rfl, by decide +kernel, rfl, by decide +kernel, by decide +kernel⟩
theorem ok_ring (F : FX K "_law_ring" "_law_ring" s__law_ring [] [] f fd) (T : Txt K mg) : FnOk P w K mg base (L2.CX P w) 1 f fd ["_law_image_here", "_law_point"] (spRing K) := by
  refine F.ok sc__law_ring (fun vs H Q E h => ?_) (fun cdv A outer s H vs Q E hr h => ?_)
  · obtain ⟨l, a, x, rfl, _⟩ := h
    rfl
  · obtain ⟨l, a, x, rfl, hs, oa, hl, hx, k⟩ := h
    refine ⟨_, PSs.nox ((pss_cons (ps_set (i := 2) sc__law_ring.nd rfl (Or.inl rfl) (pe_lst (pa_cons (pv 1) pa_nil))) 
      (pss_cons (ps_for PassesOwn.never rfl (pi_range1 (by rfl) T.b_range (pa_cons (pe_callB (k_len (K := K) rfl) (by rfl) T.b_len PySem.boot_len (pa_cons (pv 0) pa_nil)) pa_nil)) (pg_name (i := 3) sc__law_ring.nd rfl (Or.inl rfl)) (pss_cons (ps_set (i := 4) sc__law_ring.nd rfl (Or.inl rfl) (pe_ix (k_ix (K := K) rfl) (pv 0) (pe_ix (k_ix (K := K) rfl) (pv 2) (pe_un un_neg pe_int) (fun _ _ => rfl)) (fun _ _ => rfl))) 
      (pss_cons (ps_if (pt_cmpR (k_eq (K := K) rfl hr.units) (pv 4) (pv 1) (nomark _)) (pss_one (ps_ret (pv 2))) pss_nil) (pss_one (ps_expr (k_bm (K := K) rfl PySem.F.plainAttrs_list PySem.F.slot_list_append PySem.F.type_list_append mt_append (pv 2) (pa_cons (pv 4) pa_nil))))))) (pss_one (ps_ret (pv 2)))))), ?_⟩
    try dsimp only [cxOf]
    walk_at "go"
    refine a_newL (by show 1 ≤ 100000; decide) fun R H1 nR s1 h1 => ?_
    walk_at "go"
    refine a_lenL (same_l s1 hs) ?_
    rw [vi_len]
    refine ⟨(a.length : Int), rfl, by omega, by omega, ?_⟩
    rw [Int.toNat_natCast]
    refine for_range (n := a.length) (fun i σ H' => ∃ v3 v4 : Option V, σ = [some (.ref l), some (.int (x : Nat)), some (.ref R), v3, v4] ∧ Same H H' ∧ H' R = some (.lst (vi (cyk a x (i + 1)))) ∧ ∀ j, 0 < j → j ≤ i → itr a j x ≠ x)
      ⟨none, none, rfl, s1, h1, fun j h0 h1 => by omega⟩ ?_ ?_
    · rintro i σ H2 hi ⟨v3, v4, rfl, s2, h2, hn⟩
      have pl : itr a i x < a.length := itr_lt oa hx i
      have ev : vi (cyk a x (i + 1)) = vi (cyk a x i) ++ [V.int ((itr a i x : Nat) : Int)] := by
        rw [cyk_up]
        unfold vi
        rw [List.map_append]
        rfl
      walk_at "go"
      refine a_ixL (SqL.of h2) (by rw [ev]; exact atI_last _ _) ?_
      refine a_ixL (same_l s2 hs) (atI_of (j := itr a i x) rfl (vi_at pl)) ?_
      have eg : a[itr a i x] = itr a (i + 1) x := by
        show _ = stp a (itr a i x)
        unfold stp
        rw [getD_lt pl]
      rw [eg]
      walk_at "go"
      refine a_ite (fun c => ?_) (fun c => ?_)
      · have c' : itr a (i + 1) x = x := by
          have := V.int.inj c
          omega
        have ep : per a x = i + 1 := by
          have d := (itr_dvd oa hx).mp c'
          have le := Nat.le_of_dvd (Nat.succ_pos _) d
          refine Classical.byContradiction fun ne => hn (per a x) (per_pos a x) (by omega) (per_is oa hx).1
        walk_at "go"
        refine k R H2 s2 ?_
        rw [h2, cyc_eq, ep]
      · walk_at "go"
        refine a_ty h2 ?_
        walk_at "go"
        refine a_app h2 (by rw [vi_len, cyk_len]; exact szl (by omega)) fun H3 b3 h3 => ?_
        refine ⟨_, _, rfl, fun c o e => b3 c o (ne_of_none e nR) (s2 c o e), ?_, fun j h0 hj e => ?_⟩
        · rw [h3, cyk_up a x (i + 1)]
          unfold vi
          rw [List.map_append]
          rfl
        · by_cases ej : j = i + 1
          · subst ej
            exact c (by rw [e])
          · exact hn j h0 (by omega) e
    · rintro σ H2 ⟨v3, v4, rfl, s2, h2, hn⟩
      exact absurd (per_is oa hx).1 (hn _ (per_pos a x) (per_is oa hx).2.1)
theorem sc__law_far : FnScope ["_law_image_here", "_law_exponent", "_law_found", "_law_point", "_law_ring_here"] ["_law_image_here", "_law_exponent"] (defScope s__law_far) := ⟨rfl, rfl, rfl, by decide +kernel, rfl, by decide +kernel, by decide +kernel⟩
theorem ok_far (F : FX K "_law_far" "_law_far" s__law_far [] [] f fd) (T : Txt K mg) (c__law_ring : Cal P w K mg base "_law_ring" 1 (spRing K)) : FnOk P w K mg base (L2.CX P w) 3 f fd ["_law_image_here", "_law_exponent"] (spFar K) := by
  refine F.ok sc__law_far (fun vs H Q E h => ?_) (fun cdv A outer s H vs Q E hr h => ?_)
  · obtain ⟨l, a, e, rfl, _⟩ := h
    rfl
  · obtain ⟨l, a, e, rfl, hs, oa, hl, k⟩ := h
    refine ⟨_, PSs.nox ((pss_cons (ps_set (i := 2) sc__law_far.nd rfl (Or.inl rfl) (pe_lst pa_nil)) 
      (pss_cons (ps_for PassesOwn.never rfl (pi_range1 (by rfl) T.b_range (pa_cons (pe_callB (k_len (K := K) rfl) (by rfl) T.b_len PySem.boot_len (pa_cons (pv 0) pa_nil)) pa_nil)) (pg_name (i := 3) sc__law_far.nd rfl (Or.inl rfl)) (pss_cons (ps_set (i := 4) sc__law_far.nd rfl (Or.inl rfl) (pe_f c__law_ring hr (by decide) rfl passL (pa_cons (pv 0) (pa_cons (pv 3) pa_nil)))) (pss_one (ps_expr (k_bm (K := K) rfl PySem.F.plainAttrs_list PySem.F.slot_list_append PySem.F.type_list_append mt_append (pv 2) (pa_cons (pe_ix (k_ix (K := K) rfl) (pv 4) (pe_op op_mod (pe_callTy call_int1U (by rfl) T.b_int (by decide +kernel) (pa_cons (pv 1) pa_nil)) (pe_callB (k_len (K := K) rfl) (by rfl) T.b_len PySem.boot_len (pa_cons (pv 4) pa_nil))) (fun _ _ => rfl)) pa_nil)))))) (pss_one (ps_ret (pe_callTy (k_tuple (K := K) rfl) (by rfl) T.b_tuple (by decide +kernel) (pa_cons (pv 2) pa_nil))))))), ?_⟩
    try dsimp only [cxOf]
    walk_at "go"
    refine a_newL (by show 0 ≤ 100000; decide) fun R H1 nR s1 h1 => ?_
    walk_at "go"
    refine a_lenL (same_l s1 hs) ?_
    rw [vi_len]
    refine ⟨(a.length : Int), rfl, by omega, by omega, ?_⟩
    rw [Int.toNat_natCast]
    refine for_range (n := a.length) (fun i σ H' => ∃ v3 v4 : Option V, σ = [some (.ref l), some (.int e), some (.ref R), v3, v4] ∧ Same H H' ∧ H' R = some (.lst (vi ((pw a e).take i))))
      ⟨none, none, rfl, s1, h1⟩ ?_ ?_
    · rintro i σ H2 hi ⟨v3, v4, rfl, s2, h2⟩
      have pp := per_pos a i
      have pn := (per_is oa hi).2.1
      walk_at "go"
      refine ⟨l, a, i, by simp, same_l s2 hs, oa, hl, hi, fun Y H3 s3 h3 => ?_⟩
      have h23 := s3 _ _ h2
      walk_at "go"
      refine a_ty h23 ?_
      walk_at "go"
      rw [vi_len, cyc_len]
      walk_at "go"
      obtain ⟨j, hj, ej, gj⟩ := cyc_pw oa hi pp e
      have gv : (vi (cyc a i))[j]? = some (V.int ((zit a e i : Nat) : Int)) := by
        unfold vi
        rw [List.getElem?_map, gj]
        rfl
      refine a_ixL (SqL.of h3) (atI_of (j := j) (by rw [← ej]; simp) gv) ?_
      walk_at "go"
      refine a_app h23 (by rw [vi_len, List.length_take]; exact szl (by omega)) fun H4 b4 h4 => ?_
      refine ⟨_, _, rfl, fun c o z => b4 c o (ne_of_none z nR) (s3 c o (s2 c o z)), ?_⟩
      have hip : i < (pw a e).length := by rw [pw_len]; exact hi
      rw [h4, ← List.take_append_getElem hip, pw_get]
      unfold vi
      rw [List.map_append]
      rfl
    · rintro σ H2 ⟨v3, v4, rfl, s2, h2⟩
      rw [← pw_len a e, List.take_length] at h2
      walk_at "go"
      exact a_tupL (SqL.of h2) fun t H3 nt s3 h3 => k t H3 (s2.trans s3) (SqT.of h3)
end

/-! ### exponents -/
def sumE (es : List Int) (ps : List Pr) : Int := ps.foldl (fun m x => m + x.2 * es.getD x.1.toNat 0) 0
theorem sumE_snoc (es : List Int) (ps : List Pr) (x : Pr) : sumE es (ps ++ [x]) = sumE es ps + x.2 * es.getD x.1.toNat 0 := by
  unfold sumE
  rw [List.foldl_append]
  rfl
def valsE (es : List Int) (ls : List (List Pr)) : List Int := ls.foldl (fun es ps => es ++ [sumE es ps]) es
theorem valsE_snoc (es : List Int) (ls : List (List Pr)) (ps : List Pr) : valsE es (ls ++ [ps]) = valsE es ls ++ [sumE (valsE es ls) ps] := by
  unfold valsE
  rw [List.foldl_append]
  rfl
theorem valsE_len (es : List Int) : ∀ ls : List (List Pr), (valsE es ls).length = es.length + ls.length := fun ls => by
  have : ∀ (ls : List (List Pr)) (es : List Int), (ls.foldl (fun es ps => es ++ [sumE es ps]) es).length = es.length + ls.length := by
    intro ls
    induction ls with
    | nil => intro es; rfl
    | cons p ls ih =>
      intro es
      rw [List.foldl_cons, ih, List.length_append]
      show _ + 1 + _ = _ + (ls.length + 1)
      omega
  exact this ls es
/-- a list by its end -/
theorem snoc_ind {α : Type} {M : List α → Prop} (h0 : M []) (h1 : ∀ l x, M l → M (l ++ [x])) : ∀ l, M l := fun l => by
  have : ∀ n (l : List α), l.length = n → M l := by
    intro n
    induction n with
    | zero => intro l e; rw [List.eq_nil_of_length_eq_zero e]; exact h0
    | succ n ih =>
      intro l e
      have hne : l ≠ [] := fun z => by rw [z] at e; cases e
      rw [← List.dropLast_concat_getLast hne]
      exact h1 _ _ (ih _ (by rw [List.length_dropLast]; omega))
  exact this l.length l rfl
theorem lineT_pw {a : List Nat} (h : OkImg a) (es : List Int) : ∀ ps : List Pr, (∀ x ∈ ps, (x.2 = 1 ∨ x.2 = -1) ∧ 0 ≤ x.1 ∧ x.1 < es.length) → ps ≠ [] → lineT (es.map (pw a)) ps = some (pw a (sumE es ps)) := by
  refine snoc_ind (fun _ hn => absurd rfl hn) fun ps x ih hx _ => ?_
  obtain ⟨sg, n0, n1⟩ := hx x (List.mem_append_right _ (List.mem_singleton.mpr rfl))
  have hj : x.1.toNat < es.length := by omega
  have e1 : (es.map (pw a)).getD x.1.toNat [] = pw a es[x.1.toNat] := by
    rw [List.getD_eq_getElem?_getD, List.getElem?_map, List.getElem?_eq_getElem hj]
    rfl
  have e2 : es.getD x.1.toNat 0 = es[x.1.toNat] := by
    rw [List.getD_eq_getElem?_getD, List.getElem?_eq_getElem hj]
    rfl
  have et : thingT (es.map (pw a)) x = pw a (x.2 * es.getD x.1.toNat 0) := by
    unfold thingT
    rw [e1, e2]
    rcases sg with s | s
    · rw [if_pos s, s, Int.one_mul]
    · rw [if_neg (by omega), inv_pw h, s, Int.neg_one_mul]
  rw [lineT_snoc, sumE_snoc]
  by_cases hp : ps = []
  · subst hp
    show some (thingT _ x) = _
    rw [et]
    congr 2
    show _ = 0 + _
    omega
  · rw [ih (fun y hy => hx y (List.mem_append_left _ hy)) hp]
    show some (comp _ (thingT _ x)) = _
    rw [et, pw_comp h]
theorem valsT_pw {a : List Nat} (h : OkImg a) (es : List Int) : ∀ ls : List (List Pr), LsOk (es.length : Nat) ls → valsT (es.map (pw a)) ls = (valsE es ls).map (pw a) := by
  refine snoc_ind (fun _ => rfl) fun ls ps ih hl => ?_
  have hl0 : LsOk (es.length : Nat) ls := fun i qs e => hl i qs (by rw [List.getElem?_append_left (List.getElem?_eq_some_iff.mp e).1]; exact e)
  have lo := hl ls.length ps (by simp)
  rw [valsT_snoc, valsE_snoc, ih hl0, List.map_append]
  rw [lineT_pw h (valsE es ls) ps (fun x hx => ?_) (fun z => by
    have := lo.1
    rw [z] at this
    simp at this)]
  · rfl
  · have := lo.2.2 x hx
    have hv := valsE_len es ls
    exact ⟨this.1, this.2.1, by have := this.2.2; omega⟩
theorem sumE_lin (z : Int) (es : List Int) : ∀ ps : List Pr, sumE (es.map (z * ·)) ps = z * sumE es ps := by
  refine snoc_ind (by show (0 : Int) = z * 0; omega) fun ps x ih => ?_
  rw [sumE_snoc, sumE_snoc, ih, Int.mul_add]
  congr 1
  have : (es.map (z * ·)).getD x.1.toNat 0 = z * es.getD x.1.toNat 0 := by
    rw [List.getD_eq_getElem?_getD, List.getD_eq_getElem?_getD, List.getElem?_map]
    cases es[x.1.toNat]? with
    | none => show (0 : Int) = z * 0; omega
    | some v => rfl
  rw [this, ← Int.mul_assoc, ← Int.mul_assoc, Int.mul_comm x.2 z]
theorem valsE_lin (z : Int) (es : List Int) : ∀ ls : List (List Pr), valsE (es.map (z * ·)) ls = (valsE es ls).map (z * ·) := by
  refine snoc_ind rfl fun ls ps ih => ?_
  rw [valsE_snoc, valsE_snoc, ih, List.map_append, sumE_lin]
  rfl
/-- so many pairs of one number: pl with 1, the others with -1 -/
theorem sumE_rep (es : List Int) (i : Nat) (v : Int) (hv : es.getD i 0 = v) (pl : Nat) : ∀ m : Nat, sumE es ((List.range m).map fun k => ((i : Int), if k < pl then (1 : Int) else -1)) = v * (2 * (min pl m : Nat) - (m : Nat))
  | 0 => by
    show (0 : Int) = v * _
    rw [Nat.min_zero]
    show (0 : Int) = v * (2 * 0 - 0)
    omega
  | m + 1 => by
    rw [List.range_succ, List.map_append, List.map_cons, List.map_nil, sumE_snoc, sumE_rep es i v hv pl m, Int.toNat_natCast, hv]
    by_cases h : m < pl
    · rw [if_pos h, show min pl (m + 1) = m + 1 by omega, show min pl m = m by omega, Int.one_mul]
      have : v * (2 * ((m + 1 : Nat) : Int) - ((m + 1 : Nat) : Int)) = v * (2 * (m : Int) - (m : Int)) + v := by
        rw [show (2 * ((m + 1 : Nat) : Int) - ((m + 1 : Nat) : Int)) = (2 * (m : Int) - (m : Int)) + 1 by omega, Int.mul_add, Int.mul_one]
      omega
    · rw [if_neg h, show min pl (m + 1) = pl by omega, show min pl m = pl by omega]
      have : v * (2 * (pl : Int) - ((m + 1 : Nat) : Int)) = v * (2 * (pl : Int) - (m : Int)) - v := by
        rw [show (2 * (pl : Int) - ((m + 1 : Nat) : Int)) = (2 * (pl : Int) - (m : Int)) - 1 by omega, Int.mul_sub, Int.mul_one]
      omega

theorem val_pw {a : List Nat} (h : OkImg a) {ls : List (List Pr)} (lok : LsOk 1 ls) {z pwr : Int} (hp : (valsE [1] ls)[ls.length]? = some pwr) {g : List Nat} (hg : (valsT [pw a z] ls)[1 + ls.length - 1]? = some g) : g = pw a (z * pwr) := by
  have e1 : [z] = ([1] : List Int).map (z * ·) := by simp
  have e2 : [pw a z] = ([z] : List Int).map (pw a) := rfl
  rw [e2, valsT_pw h [z] ls lok, e1, valsE_lin, List.map_map, List.getElem?_map, show 1 + ls.length - 1 = ls.length by omega, hp] at hg
  exact (Option.some.inj hg).symm
theorem sch_val (src t : V) : ([(("sources" : Str), src), ("lines", t)] : List (Str × V)).lookup ("value" : Str) = none := by simp [List.lookup]; rfl
theorem a_mkS {K : PySem.W.Frag} {H : Hp} {x : Addr} {src : Int} {ls : List (List Pr)} {ys : List V} {Q : VK} {E : XK} (hx : SqL K H x ys) (hl : LinesIn K H ys ls) (ok : LsOk src ls) (h : ls.length ≤ 20000) (q : ∀ r H', H r = none → Same H H' → SchAt K H' r src ls → Q (.ref r) H') : rMk (He.ga K "Scheme") (spSInitX K) E [.int src, .ref x] H Q :=
  a_mk fun o dx H1 no s1 h1 => ⟨o, x, dx, src, ls, ys, rfl, h1, same_l s1 hx, hl.same s1, fun z => by omega, fun _ => ⟨fun i d H' fb => absurd (ok i _ fb.1.choose_spec.1) fb.1.choose_spec.2, fun _ H' b sc => ⟨rfl, q o H' no (fun c o' e => b c o' (ne_of_none e no) (s1 c o' e)) sc⟩⟩⟩
def spLaw (K : PySem.W.Frag) : Sp := fun vs H Q _ => ∃ (a : Addr) (ns : List Int), vs = [.ref a] ∧ SqL K H a (ns.map V.int) ∧ ns.length ≤ 63 ∧ ∀ H', Q (.bl true) H'
def rowP (i : Nat) (pv : Int) (m : Nat) : List Pr := (List.range m).map fun k : Nat => ((i : Int), if (k : Int) < pv then (1 : Int) else -1)
theorem rowP_len (i : Nat) (pv : Int) (m : Nat) : (rowP i pv m).length = m := by unfold rowP; rw [List.length_map, List.length_range]
theorem rowP_get {i : Nat} {pv : Int} {m k : Nat} {u : Pr} (h : (rowP i pv m)[k]? = some u) : u = ((i : Int), if (k : Int) < pv then (1 : Int) else -1) ∧ k < m := by
  unfold rowP at h
  rw [List.getElem?_map] at h
  by_cases hk : k < m
  · rw [List.getElem?_range hk] at h
    exact ⟨(Option.some.inj h).symm, hk⟩
  · rw [List.getElem?_eq_none (by rw [List.length_range]; omega)] at h
    cases h
theorem rowP_sum {es : List Int} {i : Nat} {v : Int} (hv : es[i]? = some v) {pv : Int} {m : Nat} (p0 : 0 ≤ pv) (p1 : pv ≤ m) : sumE es (rowP i pv m) = v * (2 * pv - m) := by
  have e := sumE_rep es i v (by rw [List.getD_eq_getElem?_getD, hv]; rfl) pv.toNat m
  have ef : rowP i pv m = (List.range m).map fun k : Nat => ((i : Int), if k < pv.toNat then (1 : Int) else -1) := by
    unfold rowP
    refine List.map_congr_left fun k _ => ?_
    congr 1
    by_cases h : (k : Int) < pv
    · rw [if_pos h, if_pos (by omega)]
    · rw [if_neg h, if_neg (by omega)]
  rw [ef, e]
  congr 2
  omega
theorem rowP_ok {i : Nat} {pv : Int} {m : Nat} : ∀ x ∈ rowP i pv m, prOk 1 i x := fun x hx => by
  unfold rowP at hx
  obtain ⟨k, _, rfl⟩ := List.mem_map.mp hx
  refine ⟨?_, by show (0 : Int) ≤ (i : Int); omega, by show (i : Int) < 1 + i; omega⟩
  by_cases h : (k : Int) < pv
  · exact .inl (if_pos h)
  · exact .inr (if_neg h)
theorem a_val {K : PySem.W.Frag} {a : List Nat} (oa : OkImg a) (hn : a.length ≤ 3300) {o2 x q o3 : Addr} {z : Int} {H : Hp} {Q : VK} {E : XK} {ls : List (List Pr)} {pwr : Int} (sch : SchAt K H o2 1 ls) (lok : LsOk 1 ls) (ne : ls ≠ []) (hl : ls.length ≤ 100) (hp : (valsE [1] ls)[ls.length]? = some pwr) (hx : Seq K H x [.ref o3]) (ht : TabAt K H o3 (pw a z))
    (k : ∀ r H', Same H H' → TabAt K H' r (pw a (z * pwr)) → Q (.ref r) H') : spVal K [.ref o2, .ref x, .ref q] H Q E :=
  ⟨o2, x, q, ls, [pw a z], [.ref o3], a.length, rfl, sch, lok, by omega, by show 1 ≤ 20000; decide, hx, .one ⟨o3, rfl, ht⟩, (fun g hg => by
    rw [List.mem_singleton] at hg
    subst hg
    exact ⟨pw_ok oa z, pw_len a z⟩), hn, fun z => absurd z ne, fun _ r g H' s' hg tg _ _ => k r H' s' (val_pw oa lok hp hg ▸ tg)⟩
def lastP (n : Nat) : List Pr := [((n : Int), 1), ((n : Int), -1)]
theorem long_ok {ls : List (List Pr)} (lok : LsOk 1 ls) : LsOk 1 (ls ++ [lastP ls.length]) := fun k qs e => by
  by_cases hk : k < ls.length
  · rw [List.getElem?_append_left hk] at e
    exact lok k qs e
  · rw [List.getElem?_append_right (by omega)] at e
    have hk0 : k - ls.length = 0 := by
      have := (List.getElem?_eq_some_iff.mp e).1
      simp at this
      omega
    rw [hk0] at e
    cases Option.some.inj e
    have : k = ls.length := by omega
    subst this
    refine ⟨by show 1 ≤ 2; decide, by show 2 ≤ 8; decide, fun u hu => ?_⟩
    unfold lastP at hu
    simp only [List.mem_cons, List.not_mem_nil, or_false] at hu
    rcases hu with rfl | rfl
    · exact ⟨.inl rfl, by show (0 : Int) ≤ (ls.length : Int); omega, by show (ls.length : Int) < 1 + ls.length; omega⟩
    · exact ⟨.inr rfl, by show (0 : Int) ≤ (ls.length : Int); omega, by show (ls.length : Int) < 1 + ls.length; omega⟩
theorem long_val {ls : List (List Pr)} {pwr : Int} (hp : (valsE [1] ls)[ls.length]? = some pwr) : (valsE [1] (ls ++ [lastP ls.length]))[(ls ++ [lastP ls.length]).length]? = some 0 := by
  rw [valsE_snoc, List.length_append, List.getElem?_append_right (by rw [valsE_len]; show 1 + _ ≤ _ + 1; omega), valsE_len]
  show [sumE _ _][ls.length + 1 - (1 + ls.length)]? = _
  rw [show ls.length + 1 - (1 + ls.length) = 0 by omega]
  have e : (valsE [1] ls).getD ls.length 0 = pwr := by rw [List.getD_eq_getElem?_getD, hp]; rfl
  show some (0 + 1 * (valsE [1] ls).getD (Int.toNat (ls.length : Int)) 0 + -1 * (valsE [1] ls).getD (Int.toNat (ls.length : Int)) 0) = some 0
  rw [Int.toNat_natCast, e]
  congr 1
  omega
theorem valsE_0 : ∀ ls : List (List Pr), (valsE [1] ls)[0]? = some 1 := by
  refine snoc_ind rfl fun ls ps ih => ?_
  rw [valsE_snoc, List.getElem?_append_left (by rw [valsE_len]; show 0 < 1 + _; omega)]
  exact ih
section
variable {P : Program} {w : World} {K : PySem.W.Frag} {mg : Str → Option Value} {base : Heap} {f : Addr} {fd : FuncData}
theorem sc_law : FnScope ["_law_script", "_law_pen", "_law_turn", "_law_size", "_law_image_here", "_law_lines", "_law_power", "_law_line", "_law_many", "_law_plus", "_law_pairs", "_law_k", "_law_table", "_law_scheme", "_law_last", "_law_longer"] ["_law_script"] (defScope s_law) := ⟨rfl, rfl, rfl, by decide +kernel, rfl, by decide +kernel, by decide +kernel⟩
theorem ok_law (F : FX K "law" "law" s_law [] [] f fd) (T : Txt K mg) (c__law_start : Cal P w K mg base "_law_start" 2 (spStart K)) (c__law_draw : Cal P w K mg base "_law_draw" 2 spDraw)
    (c__law_image : Cal P w K mg base "_law_image" 4 spImage) (c__law_far : Cal P w K mg base "_law_far" 3 (spFar K)) (c_Table_init : Mak P w K mg base "Table" (He.ga K "Table") 3 (spTInit K)) (c_Scheme_init : Mak P w K mg base "Scheme" (He.ga K "Scheme") 3 (spSInitX K))
    (c_Table_invert : Met P w K mg base (He.ga K "Table") "__invert__" 6 (spTInv K)) (c_Table_eq : Met P w K mg base (He.ga K "Table") "__eq__" 2 (spTEq K))
    (c_Table_neutral : Sta P w K mg base (He.ga K "Table") "neutral" 6 (spTNeu K)) (c_Scheme_value : Met P w K mg base (He.ga K "Scheme") "value" 8 (spVal K)) : FnOk P w K mg base (L2.CX P w) 11 f fd ["_law_script"] (spLaw K) := by
  refine F.ok sc_law (fun vs H Q E h => ?_) (fun cdv A outer s H vs Q E hr h => ?_)
  · obtain ⟨a, ns, rfl, _⟩ := h
    rfl
  · obtain ⟨sa, ns, rfl, hs, hlen, k⟩ := h
    refine ⟨_, PSs.nox ((pss_cons (ps_set (i := 1) sc_law.nd rfl (Or.inl rfl) (pe_f c__law_start hr (by decide) rfl passL (pa_cons (pv 0) pa_nil))) 
      (pss_cons (ps_for PassesOwn.never rfl (pi_range1 (by rfl) T.b_range (pa_cons pe_int pa_nil)) (pg_name (i := 2) sc_law.nd rfl (Or.inl rfl)) (pss_cons (ps_set (i := 3) sc_law.nd rfl (Or.inl rfl) (pe_op (k_add (K := K) rfl) pe_int (pe_f c__law_draw hr (by decide) rfl passL (pa_cons (pv 1) (pa_cons pe_int pa_nil))))) 
      (pss_cons (ps_set (i := 4) sc_law.nd rfl (Or.inl rfl) (pe_f c__law_image hr (by decide) rfl passL (pa_cons (pv 1) (pa_cons (pv 3) pa_nil)))) 
      (pss_cons (ps_set (i := 5) sc_law.nd rfl (Or.inl rfl) (pe_lst pa_nil)) 
      (pss_cons (ps_set (i := 6) sc_law.nd rfl (Or.inl rfl) pe_int) 
      (pss_cons (ps_for PassesOwn.never rfl (pi_range1 (by rfl) T.b_range (pa_cons (pe_op (k_add (K := K) rfl) pe_int (pe_f c__law_draw hr (by decide) rfl passL (pa_cons (pv 1) (pa_cons pe_int pa_nil)))) pa_nil)) (pg_name (i := 7) sc_law.nd rfl (Or.inr rfl)) (pss_cons (ps_set (i := 8) sc_law.nd rfl (Or.inl rfl) (pe_op (k_add (K := K) rfl) pe_int (pe_f c__law_draw hr (by decide) rfl passL (pa_cons (pv 1) (pa_cons pe_int pa_nil))))) 
      (pss_cons (ps_set (i := 9) sc_law.nd rfl (Or.inr rfl) (pe_f c__law_draw hr (by decide) rfl passL (pa_cons (pv 1) (pa_cons (pe_op (k_add (K := K) rfl) (pv 8) pe_int) pa_nil)))) 
      (pss_cons (ps_if (PW.pt (pw_and (pt_cmpR (k_eq (K := K) rfl hr.units) (pe_op (k_mul (K := K) rfl) (pv 9) pe_int) (pv 8) (nomark _)) (pw_and1 (pt_cmpR op_gt (pv 9) pe_int (nomark _))))) (pss_one (ps_set (i := 9) sc_law.nd rfl (Or.inr rfl) (pv 8))) pss_nil) 
      (pss_cons (ps_setLc (i := 10) (own := [("_law_k", 11)]) rfl sc_law.nd rfl rfl (sw_true rfl rfl rfl (by decide +kernel)) (pi_range1 (by rfl) T.b_range (pa_cons (pv 8) pa_nil)) (blkOk_by (own := [("_law_k", 11)]) (N := ["_law_script", "_law_pen", "_law_turn", "_law_size", "_law_image_here", "_law_lines", "_law_power", "_law_line", "_law_many", "_law_plus", "_law_pairs", "_law_k", "_law_table", "_law_scheme", "_law_last", "_law_longer"]) (sc := defScope s_law) (by decide +kernel)) (fun _ _ _ _ _ => by exact (pg_name (i := 11) sc_law.nd rfl (Or.inl rfl))) (fun _ _ _ _ _ => by exact pts_nil) (fun _ _ _ _ _ => by exact (pe_tup (pa_cons (pv 7) (pa_cons (pe_ifExp (pt_cmpR op_lt (pv 11) (pv 9) (nomark _)) pe_int (pe_un un_neg pe_int)) pa_nil))))) 
      (pss_cons (ps_set (i := 6) sc_law.nd rfl (Or.inl rfl) (pe_op (k_mul (K := K) rfl) (pv 6) (pe_op op_sub (pe_op (k_mul (K := K) rfl) pe_int (pv 9)) (pv 8)))) 
      (pss_cons (ps_if (PW.pt (pw_and (pt_cmpR op_lt (pv 8) pe_int (nomark _)) (pw_and1 (pt_cmpR (k_eq (K := K) rfl hr.units) (pe_f c__law_draw hr (by decide) rfl passL (pa_cons (pv 1) (pa_cons pe_int pa_nil))) pe_int (nomark _))))) (pss_cons (ps_expr (k_bm (K := K) rfl PySem.F.plainAttrs_list PySem.F.slot_list_append PySem.F.type_list_append mt_append (pv 10) (pa_cons (pe_tup (pa_cons pe_int (pa_cons pe_int pa_nil))) pa_nil))) (pss_one (ps_set (i := 6) sc_law.nd rfl (Or.inl rfl) (pe_op (k_add (K := K) rfl) (pv 6) pe_int)))) pss_nil) (pss_one (ps_expr (k_bm (K := K) rfl PySem.F.plainAttrs_list PySem.F.slot_list_append PySem.F.type_list_append mt_append (pv 5) (pa_cons (pv 10) pa_nil))))))))))) 
      (pss_cons (ps_set (i := 12) sc_law.nd rfl (Or.inl rfl) (pe_k c_Table_init hr (by decide) rfl passL (pa_cons (pv 4) pa_nil))) 
      (pss_cons (ps_set (i := 13) sc_law.nd rfl (Or.inl rfl) (pe_k c_Scheme_init hr (by decide) rfl passL (pa_cons pe_int (pa_cons (pv 5) pa_nil)))) 
      (pss_cons (ps_if (pt_cmpR (k_ne (K := K) rfl hr.units) (k_fld (K := K) rfl (pe_m c_Scheme_value hr (by decide) passL (pv 13) (pa_cons (pe_lst (pa_cons (pv 12) pa_nil)) (pa_cons (pe_s c_Table_neutral hr (by decide) passL (pe_gv (v := .ref (He.ga K "Table")) rfl ⟨_, T.g_Table, rfl⟩) (pa_cons (pv 3) pa_nil)) pa_nil)))) (pe_f c__law_far hr (by decide) rfl passL (pa_cons (pv 4) (pa_cons (pv 6) pa_nil))) (nomark _)) (pss_one (ps_ret pe_bl)) pss_nil) 
      (pss_cons (ps_set (i := 14) sc_law.nd rfl (Or.inl rfl) (pe_callB (k_len (K := K) rfl) (by rfl) T.b_len PySem.boot_len (pa_cons (pv 5) pa_nil))) 
      (pss_cons (ps_set (i := 15) sc_law.nd rfl (Or.inl rfl) (pe_k c_Scheme_init hr (by decide) rfl passL (pa_cons pe_int (pa_cons (pe_op (k_add (K := K) rfl) (pv 5) (pe_lst (pa_cons (pe_lst (pa_cons (pe_tup (pa_cons (pv 14) (pa_cons pe_int pa_nil))) (pa_cons (pe_tup (pa_cons (pv 14) (pa_cons (pe_un un_neg pe_int) pa_nil))) pa_nil))) pa_nil))) pa_nil)))) 
      (pss_cons (ps_if (pt_not (pt_cmpR (op_eqO c_Table_eq hr (by decide) passL) (pe_m c_Scheme_value hr (by decide) passL (pv 15) (pa_cons (pe_lst (pa_cons (pv 12) pa_nil)) (pa_cons (pe_s c_Table_neutral hr (by decide) passL (pe_gv (v := .ref (He.ga K "Table")) rfl ⟨_, T.g_Table, rfl⟩) (pa_cons (pv 3) pa_nil)) pa_nil))) (pe_s c_Table_neutral hr (by decide) passL (pe_gv (v := .ref (He.ga K "Table")) rfl ⟨_, T.g_Table, rfl⟩) (pa_cons (pv 3) pa_nil)) (nomark _))) (pss_one (ps_ret pe_bl)) pss_nil) (pss_one (ps_if (pt_not (pt_cmpR (op_eqO c_Table_eq hr (by decide) passL) (pe_m c_Scheme_value hr (by decide) passL (pv 13) (pa_cons (pe_tup (pa_cons (pe_un (un_invO c_Table_invert hr (by decide) passL) (pv 12)) pa_nil)) (pa_cons (pe_s c_Table_neutral hr (by decide) passL (pe_gv (v := .ref (He.ga K "Table")) rfl ⟨_, T.g_Table, rfl⟩) (pa_cons (pv 3) pa_nil)) pa_nil))) (pe_un (un_invO c_Table_invert hr (by decide) passL) (pe_m c_Scheme_value hr (by decide) passL (pv 13) (pa_cons (pe_lst (pa_cons (pv 12) pa_nil)) (pa_cons (pe_s c_Table_neutral hr (by decide) passL (pe_gv (v := .ref (He.ga K "Table")) rfl ⟨_, T.g_Table, rfl⟩) (pa_cons (pv 3) pa_nil)) pa_nil)))) (nomark _))) (pss_one (ps_ret pe_bl)) pss_nil)))))))))))))) (pss_one (ps_ret pe_bl))))), ?_⟩
    try dsimp only [cxOf]
    walk_at "go"
    refine ⟨sa, ns, rfl, hs, fun p sc H1 np nsc s1 hp => ?_⟩
    walk_at "go"
    refine ⟨3, rfl, by decide, by decide, ?_⟩
    refine for_range (n := 3) (fun i σ H' => ∃ v2 v3 v4 v5 v6 v7 v8 v9 v10 v11 v12 v13 v14 v15 : Option V, σ = [some (.ref sa), some (.ref p), v2, v3, v4, v5, v6, v7, v8, v9, v10, v11, v12, v13, v14, v15] ∧ Pen H' p sc (100000 - 1000 * i))
      ⟨none, none, none, none, none, none, none, none, none, none, none, none, none, none, rfl, hp.le (by omega)⟩ ?_ ?_
    · rintro t σ H2 ht ⟨v2, v3, v4, v5, v6, v7, v8, v9, v10, v11, v12, v13, v14, v15, rfl, hp2⟩
      walk_at "go"
      refine ⟨p, sc, 9, 99900 - 1000 * t, rfl, hp2.le (by omega), by omega, by omega, fun r H3 r0 r1 b3 hp3 => ?_⟩
      obtain ⟨n, en⟩ : ∃ n : Nat, 1 + r = (n : Int) := ⟨(1 + r).toNat, by omega⟩
      walk_at "go"
      rw [en]
      refine ⟨p, sc, n, 99800 - 1000 * t, rfl, hp3.le (by omega), by omega, fun l1 a H4 n4 b4 hp4 h4 oa ea => ?_⟩
      have pl1 : p ≠ l1 := (hp3.ne n4).1
      walk_at "go"
      refine a_newL (by show 0 ≤ 100000; decide) fun L H5 nL s5 hL5 => ?_
      have pL : p ≠ L := (hp4.ne nL).1
      have cL : sc ≠ L := (hp4.ne nL).2
      have l1L : l1 ≠ L := ne_of_none h4 nL
      have hp5 := hp4.same s5
      have h5 := s5 _ _ h4
      walk_at "go"
      refine ⟨p, sc, 60, 99700 - 1000 * t, rfl, hp5.le (by omega), by omega, by omega, fun n0 H6 n00 n01 b6 hp6 => ?_⟩
      obtain ⟨N, eN⟩ : ∃ N : Nat, 1 + n0 = (N : Int) := ⟨(1 + n0).toNat, by omega⟩
      walk_at "go"
      rw [eN]
      have hL6 := b6 _ _ (Ne.symm pL) hL5
      have h6 := b6 _ _ (Ne.symm pl1) h5
      refine ⟨(N : Int), rfl, by omega, by omega, ?_⟩
      rw [Int.toNat_natCast]
      refine for_range (n := N) (fun i σ H' => ∃ (v7 v8 v9 v10 v11 : Option V) (ys : List V) (ls : List (List Pr)) (pwr : Int), σ = [some (.ref sa), some (.ref p), some (.int (0 + (t : Int))), some (.int (n : Nat)), some (.ref l1), some (.ref L), some (.int pwr), v7, v8, v9, v10, v11, v12, v13, v14, v15] ∧ H' L = some (.lst ys) ∧ LinesIn K (Off [p, L] H') ys ls ∧ ls.length = i ∧ LsOk 1 ls ∧ (valsE [1] ls)[i]? = some pwr ∧ Pen H' p sc (99700 - 1000 * t - 5 * i) ∧ H' l1 = some (.lst (vi a)))
        ⟨v7, v8, v9, v10, v11, [], [], 1, rfl, hL6, ⟨rfl, fun k v x a => by simp at a⟩, rfl, (fun i ps e => by simp at e), rfl, hp6.le (by omega), h6⟩ ?_ ?_
      · rintro i σ H7 hi ⟨u7, u8, u9, u10, u11, ys, ls, pwr, rfl, hL7, hls, el, lok, hpw, hp7, h7⟩
        walk_at "go"
        refine ⟨p, sc, 8, 99700 - 1000 * t - 5 * i - 1, rfl, hp7.le (by omega), by omega, by omega, fun d1 H8 d10 d11 b8 hp8 => ?_⟩
        obtain ⟨M, eM⟩ : ∃ M : Nat, 1 + d1 = (M : Int) := ⟨(1 + d1).toNat, by omega⟩
        walk_at "go"
        rw [eM]
        refine ⟨p, sc, _, 99700 - 1000 * t - 5 * i - 2, rfl, hp8.le (by omega), by omega, by omega, fun pl H9 pl0 pl1' b9 hp9 => ?_⟩
        have hL9 := b9 _ _ (Ne.symm pL) (b8 _ _ (Ne.symm pL) hL7)
        have h9 := b9 _ _ (Ne.symm pl1) (b8 _ _ (Ne.symm pl1) h7)
        replace hls : LinesIn K (Off [p, L] H9) ys ls := hls.same ((Off.but (by simp) b8).trans (Off.but (by simp) b9))
        dsimp only
        refine g_seqIf (fun σ' H' => H' = H9 ∧ ∃ pv : Int, 0 ≤ pv ∧ pv ≤ M ∧ σ' = [some (.ref sa), some (.ref p), some (.int (0 + (t : Int))), some (.int (n : Nat)), some (.ref l1), some (.ref L), some (.int pwr), some (.int (0 + (i : Int))), some (.int (M : Nat)), some (.int pv), u10, u11, v12, v13, v14, v15]) (fun kk => ?_) ?_
        · walk_at "go"
          refine a_ite (fun c => ?_) (fun c => ?_)
          · walk_at "go"
            refine a_ite (fun c2 => ?_) (fun c2 => ?_)
            · walk_at "go"
              exact kk _ _ ⟨rfl, M, by omega, by omega, rfl⟩
            · refine g_next ?_
              exact kk _ _ ⟨rfl, pl, by omega, by omega, rfl⟩
          · refine a_F rfl ?_
            refine g_next ?_
            exact kk _ _ ⟨rfl, pl, by omega, by omega, rfl⟩
        · rintro σ' H9 ⟨rfl, pv, pv0, pv1, rfl⟩
          walk_at "go"
          have hM1 : 1 ≤ M := by omega
          have hM8 : M ≤ 8 := by omega
          refine c_rp (k := M) (P := fun D k v H' => PairAt K H' v ((i : Int), if (k : Int) < pv then (1 : Int) else -1)) ⟨fun s' h => h.same s', fun hD b h => h.but hD b⟩ (by omega) ?_ ?_ ?_
          · intro R r
            walk_at "go"
            exact r _ (Same.refl _)
          · intro D acc kk Ha hD hk sa1 hacc R r
            walk_at "go"
            refine a_ite (fun c => ?_) (fun c => ?_)
            · walk_at "go"
              refine a_newT (by show 2 ≤ 100000; decide) fun tt Hb nt sb hb => r _ Hb sb ⟨tt, rfl, ?_⟩
              rw [if_pos c, ← Int.zero_add (i : Int)]
              exact SqT.of hb
            · walk_at "go"
              refine a_newT (by show 2 ≤ 100000; decide) fun tt Hb nt sb hb => r _ Hb sb ⟨tt, rfl, ?_⟩
              rw [if_neg c, ← Int.zero_add (i : Int)]
              exact SqT.of hb
          · intro D acc Ha nD sa1 hD hla hP
            have pD : p ≠ D := (hp9.ne nD).1
            have LD : L ≠ D := ne_of_none hL9 nD
            have l1D : l1 ≠ D := ne_of_none h9 nD
            have hLa := sa1 _ _ hL9
            have h9a := sa1 _ _ h9
            have hpa := hp9.same sa1
            have hls9 := hls
            have hrow : Par (PairAt K Ha) acc (rowP i pv M) := ⟨by rw [hla, rowP_len], fun k v u e1 e2 => by
              obtain ⟨rfl, _⟩ := rowP_get e2
              exact hP k v e1⟩
            have hms : ∀ q ∈ [p, L], ∃ xs, Ha q = some (.lst xs) := fun q hq => by
              simp only [List.mem_cons, List.not_mem_nil, or_false] at hq
              rcases hq with rfl | rfl
              · exact hpa.at_.1
              · exact ⟨_, hLa⟩
            have hrowO : Par (PairAt K (Off [p, L] Ha)) acc (rowP i pv M) := hrow.mono fun v u h => h.off hms
            have hsum : sumE (valsE [1] ls) (rowP i pv M) = pwr * (2 * pv - M) := rowP_sum hpw pv0 pv1
            iterate 12 walk_at "tt"
            dsimp only
            refine g_seqIf (fun σ' H' => ∃ (pw2 : Int) (ac : List V) (ps : List Pr), σ' = [some (.ref sa), some (.ref p), some (.int (0 + (t : Int))), some (.int (n : Nat)), some (.ref l1), some (.ref L), some (.int pw2), some (.int (0 + (i : Int))), some (.int (M : Nat)), some (.int pv), some (.ref D), u11, v12, v13, v14, v15] ∧ Pen H' p sc (99700 - 1000 * t - 5 * (i + 1)) ∧ H' D = some (.lst ac) ∧ Par (PairAt K (Off [p, L] H')) ac ps ∧ Same (Off [p, L] H9) (Off [p, L] H') ∧ H' L = some (.lst ys) ∧ H' l1 = some (.lst (vi a)) ∧ lineOk 1 i ps ∧ sumE (valsE [1] ls) ps = pw2) (fun kk => ?_) ?_
            · have lk : lineOk 1 i (rowP i pv M) := ⟨by rw [rowP_len]; exact hM1, by rw [rowP_len]; exact hM8, rowP_ok⟩
              walk_at "go"
              refine a_ite (fun c => ?_) (fun c => ?_)
              · walk_at "go"
                refine ⟨p, sc, 2, 99700 - 1000 * t - 5 * i - 3, rfl, hpa.le (by omega), by omega, by omega, fun d2 Hb d20 d21 bb hpb => ?_⟩
                have hDb := bb _ _ (Ne.symm pD) hD
                have hLb := bb _ _ (Ne.symm pL) hLa
                have h9b := bb _ _ (Ne.symm pl1) h9a
                have Sb : Same (Off [p, L] Ha) (Off [p, L] Hb) := Off.but (by simp) bb
                walk_at "go"
                refine a_ite (fun c2 => ?_) (fun c2 => ?_)
                · walk_at "go"
                  refine a_ty hDb ?_
                  walk_at "go"
                  refine a_newT (by show 2 ≤ 100000; decide) fun tt Hc nt sc' hc => ?_
                  have hDc := sc' _ _ hDb
                  walk_at "go"
                  refine a_app hDc (by rw [hla]; exact szl (by omega)) fun Hd bd hd => ?_
                  iterate 5 walk_at "tt"
                  have oD : D ∉ [p, L] := fun z => by
                    simp only [List.mem_cons, List.not_mem_nil, or_false] at z
                    rcases z with e | e
                    · exact pD e.symm
                    · exact LD e.symm
                  have ot : tt ∉ [p, L] := fun z => by
                    simp only [List.mem_cons, List.not_mem_nil, or_false] at z
                    rcases z with e | e
                    · exact (hpb.ne nt).1 e.symm
                    · rw [e, hLb] at nt
                      cases nt
                  refine kk _ _ ⟨_, acc ++ [.ref tt], rowP i pv M ++ [(0, 1)], rfl, ((hpb.same sc').but bd pD (fun z => (hp9.ne nD).2 z)).le (by omega), hd, ?_, Off.mut ((Off.same sa1).trans (Sb.trans (Off.same sc'))) nD bd, bd _ _ LD (sc' _ _ hLb), bd _ _ l1D (sc' _ _ h9b), ?_, ?_⟩
                  · have z : Par (PairAt K (Off [p, L] Hc)) (acc ++ [.ref tt]) (rowP i pv M ++ [(0, 1)]) := (hrowO.mono fun v u h => h.same (Sb.trans (Off.same sc'))).snoc ⟨tt, rfl, SqT.of (Off.at_ hc ot)⟩
                    exact z.mono fun v u h => h.but (Off.at_ hDc oD) (Off.bt bd)
                  · refine ⟨by rw [List.length_append]; show 1 ≤ _ + 1; omega, by rw [List.length_append, rowP_len]; show M + 1 ≤ 8; omega, fun u hu => ?_⟩
                    rcases List.mem_append.mp hu with hu | hu
                    · exact rowP_ok u hu
                    · rw [List.mem_singleton] at hu
                      subst hu
                      exact ⟨.inl rfl, by decide, by show (0 : Int) < 1 + i; omega⟩
                  · rw [sumE_snoc, hsum]
                    have : (valsE [1] ls).getD (Int.toNat 0) 0 = 1 := by
                      rw [List.getD_eq_getElem?_getD]
                      have := valsE_0 ls
                      rw [show Int.toNat 0 = 0 from rfl, this]
                      rfl
                    rw [this]
                    rfl
                · refine g_next ?_
                  exact kk _ _ ⟨_, acc, rowP i pv M, rfl, hpb.le (by omega), hDb, hrowO.mono fun v u h => h.same Sb, (Off.same sa1).trans Sb, hLb, h9b, lk, hsum⟩
              · refine a_F rfl ?_
                refine g_next ?_
                exact kk _ _ ⟨_, acc, rowP i pv M, rfl, hpa.le (by omega), hD, hrowO, Off.same sa1, hLa, h9a, lk, hsum⟩
            · rintro σ' Hb ⟨pw2, ac, ps, rfl, hpb, hDb, hac, Sb, hLb, h9b, lk, hsm⟩
              walk_at "go"
              refine a_ty hLb ?_
              walk_at "go"
              refine a_app hLb (by rw [hls.1]; exact szl (by omega)) fun Hc bc hc => ?_
              have Sc : Same (Off [p, L] Hb) (Off [p, L] Hc) := Off.but (by simp) bc
              refine ⟨_, _, _, _, _, ys ++ [.ref D], ls ++ [ps], pw2, rfl, hc, ?_, by rw [List.length_append, el]; rfl, ?_, ?_, hpb.but bc pL cL, bc _ _ l1L h9b⟩
              · have z : Par (PairsAt K (Off [p, L] Hc)) ys ls := hls9.same (Sb.trans Sc)
                refine z.snoc ⟨D, ac, rfl, .inl (SqL.of (Off.at_ (bc _ _ (Ne.symm LD) hDb) ?_)), hac.mono fun v u h => h.same Sc⟩
                intro z
                simp only [List.mem_cons, List.not_mem_nil, or_false] at z
                rcases z with e | e
                · exact pD e.symm
                · exact LD e.symm
              · intro k qs e
                by_cases hk : k < ls.length
                · rw [List.getElem?_append_left hk] at e
                  exact lok k qs e
                · rw [List.getElem?_append_right (by omega)] at e
                  have hk0 : k - ls.length = 0 := by
                    have := (List.getElem?_eq_some_iff.mp e).1
                    simp at this
                    omega
                  rw [hk0] at e
                  cases Option.some.inj e
                  have : k = i := by omega
                  subst this
                  exact lk
              · rw [valsE_snoc, hsm, List.getElem?_append_right (by rw [valsE_len, el]; show 1 + i ≤ i + 1; omega), valsE_len, el]
                show [pw2][i + 1 - (1 + i)]? = _
                rw [show i + 1 - (1 + i) = 0 by omega]
                rfl
      · rintro σ H7 ⟨u7, u8, u9, u10, u11, ys, ls, pwr, rfl, hL7, hls, el, lok, hpw, hp7, h7⟩
        have hl7 : LinesIn K H7 ys ls := hls.same Off.sub
        have hne : ls ≠ [] := fun z => by
          rw [z] at el
          simp at el
          omega
        have hn : a.length ≤ 3300 := by omega
        rw [← el] at hpw
        walk_at "go"
        refine a_mkT (.inl (SqL.of h7)) oa hn fun o1 H8 n8 s8 t1 => ?_
        walk_at "go"
        refine a_mkS (SqL.of (s8 _ _ hL7)) (hl7.same s8) lok (by omega) fun o2 H9 n9 s9 sch => ?_
        replace t1 := t1.same s9
        have e1 : TabAt K H9 o1 (pw a 1) := by rw [pw_1 oa]; exact t1
        walk_at "go"
        obtain ⟨dxs, ts, zss, g1, g2, g3⟩ := id sch
        refine ⟨o2, dxs, _, rfl, g1, sch_val _ _, ?_⟩
        walk_at "go"
        refine a_newL (by show 1 ≤ 100000; decide) fun lv Ha na sa1 ha => ?_
        walk_at "go"
        refine ⟨rfl, ?_⟩
        walk_at "go"
        refine ⟨n, rfl, by omega, fun q1 Hb nb sb tb => ?_⟩
        walk_at "go"
        refine a_val oa hn (sch.same (sa1.trans sb)) lok hne (by omega) hpw (.inl (SqL.of (sb _ _ ha))) (e1.same (sa1.trans sb)) fun r1 Hc sc1 tr1 => ?_
        rw [Int.one_mul] at tr1
        have s9c : Same H9 Hc := (sa1.trans sb).trans sc1
        walk_at "go"
        obtain ⟨dr, ur, w1, w2⟩ := id tr1
        refine a_fld w1 T.o_Table.cl T.n_Table_image (img_look _) ?_
        walk_at "go"
        refine ⟨l1, a, pwr, rfl, SqL.of ((s8.trans (s9.trans s9c)) _ _ h7), oa, hn, fun ft Hd sd hft => ?_⟩
        have s9d := s9c.trans sd
        walk_at "go"
        refine a_neD (.tup (same_t sd w2) (dp_vi _)) (.tup hft (dp_vi _)) (sh_t _) (sh_t _) ?_
        rw [eqv_tt, decide_eq_true rfl]
        walk_at "go"
        refine a_F rfl ?_
        walk_at "go"
        have hLd := (s8.trans (s9.trans s9d)) _ _ hL7
        have eys : ys.length = ls.length := hls.1
        refine a_lenL (SqL.of hLd) ?_
        rw [eys]
        walk_at "go"
        refine a_newT (by show 2 ≤ 100000; decide) fun ta Hx1 nx1 sx1 hx1 => ?_
        walk_at "go"
        refine a_newT (by show 2 ≤ 100000; decide) fun tb2 Hx2 nx2 sx2 hx2 => ?_
        walk_at "go"
        refine a_newL (by show 2 ≤ 100000; decide) fun lc Hx3 nx3 sx3 hx3 => ?_
        walk_at "go"
        refine a_newL (by show 1 ≤ 100000; decide) fun ld Hx4 nx4 sx4 hx4 => ?_
        have sx : Same Hd Hx4 := ((sx1.trans sx2).trans sx3).trans sx4
        refine a_cat (sx _ _ hLd) hx4 (by show _ + 1 ≤ _; omega) fun le Hx5 nx5 sx5 hx5 => ?_
        have s95 : Same H9 Hx5 := s9d.trans (sx.trans sx5)
        have hl5 : LinesIn K Hx5 (ys ++ [.ref lc]) (ls ++ [lastP ls.length]) := by
          have z : Par (PairsAt K Hx5) ys ls := hl7.same (s8.trans (s9.trans s95))
          refine z.snoc ⟨lc, [.ref ta, .ref tb2], rfl, .inl (SqL.of (sx5 _ _ (sx4 _ _ hx3))), ?_⟩
          have p1 : PairAt K Hx5 (.ref ta) (((ls.length : Nat) : Int), (1 : Int)) := ⟨ta, rfl, SqT.of (sx5 _ _ (sx4 _ _ (sx3 _ _ (sx2 _ _ hx1))))⟩
          have p2 : PairAt K Hx5 (.ref tb2) (((ls.length : Nat) : Int), (-1 : Int)) := ⟨tb2, rfl, SqT.of (sx5 _ _ (sx4 _ _ (sx3 _ _ hx2)))⟩
          exact (Par.one p1).append (Par.one p2)
        walk_at "go"
        refine a_mkS (SqL.of hx5) hl5 (long_ok lok) (by rw [List.length_append]; show _ + 1 ≤ _; omega) fun o5 Hy ny sy sch5 => ?_
        have s9y := s95.trans sy
        walk_at "go"
        obtain ⟨dx5, ts5, zs5, g51, g52, g53⟩ := id sch5
        refine ⟨o5, dx5, _, rfl, g51, sch_val _ _, ?_⟩
        walk_at "go"
        refine a_newL (by show 1 ≤ 100000; decide) fun lw Hz nz sz1 hz1 => ?_
        walk_at "go"
        refine ⟨rfl, ?_⟩
        walk_at "go"
        refine ⟨n, rfl, by omega, fun q6 Hz2 nz2 sz2 tz2 => ?_⟩
        walk_at "go"
        refine a_val oa hn (sch5.same (sz1.trans sz2)) (long_ok lok) (by simp) (by rw [List.length_append]; show _ + 1 ≤ _; omega) (long_val hpw) (.inl (SqL.of (sz2 _ _ hz1))) (e1.same (s9y.trans (sz1.trans sz2))) fun r7 Hz3 sz3 tr7 => ?_
        rw [Int.mul_zero, pw_0 oa, ea] at tr7
        have s9z := s9y.trans ((sz1.trans sz2).trans sz3)
        walk_at "go"
        refine ⟨rfl, ?_⟩
        walk_at "go"
        refine ⟨n, rfl, by omega, fun q8 Hz4 nz4 sz4 tz4 => ?_⟩
        refine a_eqT T (tr7.same sz4) tz4 ?_
        rw [decide_eq_true rfl]
        have s94 := s9z.trans sz4
        walk_at "go"
        refine a_F rfl ?_
        walk_at "go"
        have sch' := sch.same s94
        obtain ⟨dxs, ts, zss, g1, g2, g3⟩ := id sch'
        refine ⟨o2, dxs, _, rfl, g1, sch_val _ _, ?_⟩
        walk_at "go"
        refine a_invT (t1.same s94) oa hn fun oi Hw nw sw tw => ?_
        walk_at "go"
        refine a_newT (by show 1 ≤ 100000; decide) fun tu Hw2 nw2 sw2 hw2 => ?_
        walk_at "go"
        refine ⟨rfl, ?_⟩
        walk_at "go"
        refine ⟨n, rfl, by omega, fun q9 Hw3 nw3 sw3 tw3 => ?_⟩
        walk_at "go"
        have twp : TabAt K Hw3 oi (pw a (-1)) := by rw [pw_m1 oa]; exact (tw.same sw2).same sw3
        refine a_val oa hn (sch'.same ((sw.trans sw2).trans sw3)) lok hne (by omega) hpw (.inr (SqT.of (sw3 _ _ hw2))) twp fun r10 Hw4 sw4 tr10 => ?_
        have s9w := s94.trans (((sw.trans sw2).trans sw3).trans sw4)
        have sch2 := sch.same s9w
        walk_at "go"
        obtain ⟨dxs, ts, zss, g1, g2, g3⟩ := id sch2
        refine ⟨o2, dxs, _, rfl, g1, sch_val _ _, ?_⟩
        walk_at "go"
        refine a_newL (by show 1 ≤ 100000; decide) fun lv2 Hw5 nw5 sw5 hw5 => ?_
        walk_at "go"
        refine ⟨rfl, ?_⟩
        walk_at "go"
        refine ⟨n, rfl, by omega, fun q11 Hw6 nw6 sw6 tw6 => ?_⟩
        walk_at "go"
        refine a_val oa hn (sch2.same (sw5.trans sw6)) lok hne (by omega) hpw (.inl (SqL.of (sw6 _ _ hw5))) (e1.same (s9w.trans (sw5.trans sw6))) fun r12 Hw7 sw7 tr12 => ?_
        refine a_invT tr12 (pw_ok oa _) (by rw [pw_len]; exact hn) fun r13 Hw8 nw8 sw8 tr13 => ?_
        rw [inv_pw oa] at tr13
        have s4e := ((sw5.trans sw6).trans sw7).trans sw8
        refine a_eqT T (tr10.same s4e) tr13 ?_
        rw [decide_eq_true (by rw [Int.one_mul, Int.neg_one_mul])]
        walk_at "go"
        refine a_F rfl ?_
        walk_at "go"
        exact ⟨_, _, _, _, _, _, _, _, _, _, _, _, _, _, rfl, (hp7.same (s8.trans (s9.trans (s9w.trans s4e)))).le (by omega)⟩
    · rintro σ H2 ⟨v2, v3, v4, v5, v6, v7, v8, v9, v10, v11, v12, v13, v14, v15, rfl, hp2⟩
      walk_at "go"
      exact k H2
end

def dfs : List DX := [
  ⟨fun K => He.ma K (He.ga K "BadScheme") "__init__", "__init__", "BadScheme.__init__", s_BadScheme_init, [], []⟩,
  ⟨fun K => He.ga K "check_size", "check_size", "check_size", s_check_size, [], []⟩,
  ⟨fun K => He.ma K (He.ga K "Table") "__init__", "__init__", "Table.__init__", s_Table_init, [], []⟩,
  ⟨fun K => He.ma K (He.ga K "Table") "__mul__", "__mul__", "Table.__mul__", s_Table_mul, [], []⟩,
  ⟨fun K => He.ma K (He.ga K "Table") "__invert__", "__invert__", "Table.__invert__", s_Table_invert, [], []⟩,
  ⟨fun K => He.ma K (He.ga K "Table") "__eq__", "__eq__", "Table.__eq__", s_Table_eq, [], []⟩,
  ⟨fun K => He5.wf K (He.ga K "Table") "staticmethod" "neutral", "neutral", "Table.neutral", s_Table_neutral, [], []⟩,
  ⟨fun K => He.ma K (He.ga K "Scheme") "__init__", "__init__", "Scheme.__init__", s_Scheme_init, [], []⟩,
  ⟨fun K => He.ma K (He.ga K "Scheme") "value", "value", "Scheme.value", s_Scheme_value, [], []⟩,
  ⟨fun K => He.ga K "_law_start", "_law_start", "_law_start", s__law_start, [], []⟩,
  ⟨fun K => He.ga K "_law_draw", "_law_draw", "_law_draw", s__law_draw, [], []⟩,
  ⟨fun K => He.ga K "_law_image", "_law_image", "_law_image", s__law_image, [], []⟩,
  ⟨fun K => He.ga K "_law_ring", "_law_ring", "_law_ring", s__law_ring, [], []⟩,
  ⟨fun K => He.ga K "_law_far", "_law_far", "_law_far", s__law_far, [], []⟩,
  ⟨fun K => He.ga K "law", "law", "law", s_law, [], []⟩]
def others : List Str := (["_wall", "TriedError", "BadScheme", "WrongLength", "BadTable", "OtherSize", "NoPoint", "TooGreat", "LINES", "PAIRS", "Scheme", "MOST_POINTS", "check_size", "Table", "_law_start", "_law_draw", "_law_image", "_law_ring", "_law_far"] : List Str)
abbrev R : PySem.W.OpenRow := PySem.W.OpenLaw.row PySem.Challenge.rw_triedtells_k12_whole_far_schemes
abbrev hk : PySem.W.Hook := hookX 5 fbs dfs
def ob (s : PySem.W.SharedT) : SeenX := seenG 5 fbs dfs (HandSHeadRun.getT s)
theorem ob_eq (s : PySem.W.SharedT) : ob s = hk.obs s.abs := seenG_eq (HandSHeadRun.getT_eq s)
set_option maxHeartbeats 0 in
theorem run (w : World) : HandSHeadRun.RunEq R (PySem.W.view R.prog [23]) hk ob 6000 others w := by
  intro os
  kernel_rfl
theorem whole {P : Program} {w : World} {K : PySem.W.Frag} {h : Heap} {mg : Str → Option Value} {f : Addr} (X : K.In h) (G : h.Ns mainGlobals mg) (hfa : mg ("law" : Str) = some (.ref f)) (c : Tells fbs dfs K) :
    ∃ fd : FuncData, (∀ (s : Shared) (v : Value), BindsTo s fd ⟨[v], []⟩ [("_law_script", v)]) ∧ ∀ base : Heap, K.In base → base.Ns mainGlobals mg → FnOk P w K mg base CX0 11 f fd ["_law_script"] (spLaw K) := by
  have T : Txt K mg := txt_of X G ⟨c.fb⟩
  obtain ⟨d0, F0⟩ := c.fx 0 rfl
  obtain ⟨d1, F1⟩ := c.fx 1 rfl
  obtain ⟨d2, F2⟩ := c.fx 2 rfl
  obtain ⟨d3, F3⟩ := c.fx 3 rfl
  obtain ⟨d4, F4⟩ := c.fx 4 rfl
  obtain ⟨d5, F5⟩ := c.fx 5 rfl
  obtain ⟨d6, F6⟩ := c.fx 6 rfl
  obtain ⟨d7, F7⟩ := c.fx 7 rfl
  obtain ⟨d8, F8⟩ := c.fx 8 rfl
  obtain ⟨d9, F9⟩ := c.fx 9 rfl
  obtain ⟨d10, F10⟩ := c.fx 10 rfl
  obtain ⟨d11, F11⟩ := c.fx 11 rfl
  obtain ⟨d12, F12⟩ := c.fx 12 rfl
  obtain ⟨d13, F13⟩ := c.fx 13 rfl
  obtain ⟨d14, F14⟩ := c.fx 14 rfl
  have e := hfa.symm.trans T.g_law
  cases e
  refine ⟨d14, fun s v => FunD.bindsA (ps := ["_law_script"]) F14 (fun _ _ _ _ _ _ us hl => match us, hl with | [_], _ => rfl) s [v] rfl, fun base _ _ => cx0_of ?_ fun vs H Q E z => z⟩
  have c_BadScheme := rai_of (P := P) (w := w) (base := base) F0 T.g_BadScheme T.x_BadScheme T.xi_BadScheme T.xt_BadScheme (ok_BadScheme F0 T) (fun _ _ _ _ _ _ us hl => match us, hl with | [_, _], _ => rfl)
  have c_check_size := cal_of (P := P) (w := w) (base := base) F1 T.g_check_size (ok_check F1 T) (fun _ _ _ _ _ _ us hl => match us, hl with | [_], _ => rfl)
  have c_Table_init := mak_of (P := P) (w := w) (base := base) F2 T.g_Table T.mk_Table (ok_Tinit F2 T c_check_size) (fun _ _ _ _ _ _ us hl => match us, hl with | [_, _], _ => rfl)
  have c_Table_mul := met_of (P := P) (w := w) (base := base) F3 T.o_Table.cl T.m_Table_mul (ok_Tmul F3 T c_Table_init) (fun _ _ _ _ _ _ us hl => match us, hl with | [_, _], _ => rfl)
  have c_Table_invert := met_of (P := P) (w := w) (base := base) F4 T.o_Table.cl T.m_Table_invert (ok_Tinv F4 T c_Table_init) (fun _ _ _ _ _ _ us hl => match us, hl with | [_], _ => rfl)
  have c_Table_eq := met_of (P := P) (w := w) (base := base) F5 T.o_Table.cl T.m_Table_eq (ok_Teq F5 T) (fun _ _ _ _ _ _ us hl => match us, hl with | [_, _], _ => rfl)
  have c_Table_neutral := sta_of (P := P) (w := w) (base := base) F6 T.s_Table_neutral (ok_Tneu F6 T c_check_size c_Table_init) (fun _ _ _ _ _ _ us hl => match us, hl with | [_], _ => rfl)
  have c_Scheme_init := mak_of (P := P) (w := w) (base := base) F7 T.g_Scheme T.mk_Scheme (xok_Sinit F7 T c_BadScheme) (fun _ _ _ _ _ _ us hl => match us, hl with | [_, _, _], _ => rfl)
  have c_Scheme_value := met_of (P := P) (w := w) (base := base) F8 T.o_Scheme.cl T.m_Scheme_value (ok_val F8 T c_Table_mul c_Table_invert) (fun _ _ _ _ _ _ us hl => match us, hl with | [_, _, _], _ => rfl)
  have c__law_start := cal_of (P := P) (w := w) (base := base) F9 T.g__law_start (ok_start F9 T) (fun _ _ _ _ _ _ us hl => match us, hl with | [_], _ => rfl)
  have c__law_draw := cal_of (P := P) (w := w) (base := base) F10 T.g__law_draw (ok_draw F10 T) (fun _ _ _ _ _ _ us hl => match us, hl with | [_, _], _ => rfl)
  have c__law_image := cal_of (P := P) (w := w) (base := base) F11 T.g__law_image (ok_image F11 T c__law_draw) (fun _ _ _ _ _ _ us hl => match us, hl with | [_, _], _ => rfl)
  have c__law_ring := cal_of (P := P) (w := w) (base := base) F12 T.g__law_ring (ok_ring F12 T) (fun _ _ _ _ _ _ us hl => match us, hl with | [_, _], _ => rfl)
  have c__law_far := cal_of (P := P) (w := w) (base := base) F13 T.g__law_far (ok_far F13 T c__law_ring) (fun _ _ _ _ _ _ us hl => match us, hl with | [_, _], _ => rfl)
  exact ok_law F14 T c__law_start c__law_draw c__law_image c__law_far c_Table_init c_Scheme_init c_Table_invert c_Table_eq c_Table_neutral c_Scheme_value

end TT
open PySem PySem.W PySem.Calls PyProof.Rows
set_option maxRecDepth 100000 in
set_option maxHeartbeats 0 in
theorem PySem.Challenge.cw_triedtells_k12_whole_far_schemes_holds : PySem.Challenge.rw_triedtells_k12_whole_far_schemes.Holds := by
  w_on; o_law
  refine HandSHeadRun.head_any (r := OpenLaw.row PySem.Challenge.rw_triedtells_k12_whole_far_schemes) (q := view (OpenLaw.row PySem.Challenge.rw_triedtells_k12_whole_far_schemes).prog [23])
    (H := TT.hk) (ob := TT.ob) (M := 6000) (loose := TT.others) (d := HandSHeadRun.topDef (OpenLaw.row PySem.Challenge.rw_triedtells_k12_whole_far_schemes).prog 23) (kwd := []) TT.ob_eq
    (by kernel_rfl) (fun s => by kernel_rfl) TT.run (by kernel_rfl) (by kernel_rfl) (by kernel_rfl) (by rfl) (by first | assumption | decide +kernel) (by decide +kernel) ⟨rfl, rfl, rfl, rfl, rfl, by decide +kernel⟩ ?hw ?hc
  case hw => w_witness2
  case hc =>
    refine L2.walk_ofE (l := PySem.Challenge.rw_triedtells_k12_whole_far_schemes) (n := 63) (k := 11) (x := "_law_script") (CX := L2.CX0) rfl (by decide) (by kernel_rfl) ⟨rfl, by decide, by decide⟩ ?F (fun _ _ _ _ z => z)
    intro w mg fa h Y G hmg0
    obtain ⟨K, KX, c⟩ := Y
    have hmg : mg ("law" : PySem.Str) = some (.ref fa) := by
      have e : (HandSHeadRun.topDef (OpenLaw.row PySem.Challenge.rw_triedtells_k12_whole_far_schemes).prog 23).name = ("law" : PySem.Str) := by kernel_rfl
      rw [← e]
      exact hmg0
    obtain ⟨fd, hb, hF⟩ := TT.whole (P := (PySem.Challenge.rw_triedtells_k12_whole_far_schemes).prog) (w := w) KX G hmg c
    exact ⟨K, fd, TT.spLaw K, KX, hb, fun H a ns hl _ hS => ⟨a, ns, rfl, hS, hl, fun _ => rfl⟩, hF⟩
