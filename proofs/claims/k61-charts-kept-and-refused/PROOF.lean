import PyProof.Rows.All
import Wide.All
import OpenK.AllK
import Wide.FinOn
import KE.KStateDown
import KE.KOpsOwn
import KE.GoesMore
import KE.GoesEnum
import HandS.ForMost
import HandS.ForExc
import HandS.ForSpec
import HandS.More
import HandS.Conv
import HandS.Zip
import HandS.Walk
import HandS.IsInst
import HandS.Flow
import HandS.Style
import HandS.Defaults
import HandS.ExcInit
import HandS.ExcField
import HandS.ExcIs
import HandS.TryMany
import HandS.Codes
import HandS.Star
import HandS.ClsMeth
import HandS.OwnEq
import HandS.SlotsOwn
import HandS.Wide
import HandS.Sort
import HandS.SortKw
import HandS.SortInts
import HandS.Deep
import HandS.DictComp
import HandS.ListItems
import HandS.TupLe
import HandS.TupAny
import HandS.TupMul
import HandS.DictTup
import HandS.CallSlots
import HandS.EndBits
import HandS.Head0
import HandS.Head1
import HandS.Head2
import HandS.HeadEnd
import HandS.HeadHook1
import HandS.HeadHook2
import HandS.HeadNt
import KE.KExcIs
import PySem.Challenge.RW_triedtells_k61_charts_kept_and_refused
set_option Elab.async false
set_option linter.all false
set_option maxRecDepth 100000
set_option maxHeartbeats 4000000
namespace TT
open PySem PySem.Spec PyProof.Rows L2

/-! ### the head: defs by addresses, facts by one Bool -/
structure DX where
  ad : PySem.W.Frag → Addr
  name : Str
  qual : Str
  st : Stmt
  dfl : List He.Dv := []
  kwd : List (Str × He.Dv) := []

def fnAt (K : PySem.W.Frag) (f : Addr) : He.FnW :=
  match K.lookup f with
  | some ⟨_, _, .func fd, _⟩ => some (fd.name, fd.qualname, fd.params, fd.body, fd.scope, fd.globals, fd.closure, fd.builtins)
  | _ => none

def fnGood (K : PySem.W.Frag) (f : Addr) (q : Str) (ds : List V) (ks : List (Str × V)) : Bool :=
  PySem.W.keepIn K (.ref f) &&
  match K.lookup f with
  | some ⟨_, _, .func fd, _⟩ => PySem.W.codeIn K fd.code q && He.dflB K fd.defaults ds && He.kwdB K fd.kwdefaults ks
  | _ => false

def DX.dvs (K : PySem.W.Frag) (d : DX) : List V := d.dfl.map fun z => z.v K
def DX.kws (K : PySem.W.Frag) (d : DX) : List (Str × V) := d.kwd.map fun z => (z.1, z.2.v K)
def DX.good (K : PySem.W.Frag) (d : DX) : Bool := fnGood K (d.ad K) d.qual (d.dvs K) (d.kws K)
def DX.want (d : DX) : He.FnW :=
  some (d.name, d.qual, defArgs d.st, .stmts (defBody d.st), defScope d.st, mainGlobals, [], builtinsNs)

abbrev FX (K : PySem.W.Frag) (x q : Str) (st : Stmt) (ds : List V) (ks : List (Str × V)) (f : Addr) (fd : FuncData) : Prop :=
  FunD K x q (defArgs st) (defBody st) (defScope st) ds ks f fd

theorem fx_of {K : PySem.W.Frag} {f : Addr} {x q : Str} {st : Stmt} {ds : List V} {ks : List (Str × V)}
    (e : fnAt K f = some (x, q, defArgs st, .stmts (defBody st), defScope st, mainGlobals, [], builtinsNs))
    (g : fnGood K f q ds ks = true) : ∃ fd, FX K x q st ds ks f fd := by
  unfold fnGood at g
  rw [Bool.and_eq_true] at g
  obtain ⟨kp, g⟩ := g
  unfold fnAt at e
  rcases hk : K.lookup f with _ | ⟨oc, od, dt, sl⟩
  · simp [hk] at g
  · rw [hk] at e g
    cases dt <;> try (simp at g; done)
    rename_i fd
    simp only [Bool.and_eq_true] at g
    obtain ⟨⟨g1, g2⟩, g3⟩ := g
    have e' := Option.some.inj e
    obtain ⟨a1, a2, a3, a4, a5, a6, a7, a8, a9, a10, a11, a12, a13, a14, a15⟩ := fd
    simp only [Prod.mk.injEq] at e'
    obtain ⟨h1, h2, h3, h4, h5, h6, h7, h8⟩ := e'
    subst h1 h2 h3 h4 h5 h6 h7 h8
    exact ⟨_, ⟨oc, od, a8, a9, a10, a11, a12, a13, a14, sl, rfl, hk, g1, He.dflB_ok g2, He.kwdB_ok g3⟩, kp⟩

abbrev SeenX : Type := Bool × List He.FnW
def seenX (fb : PySem.W.Frag → Bool) (fn : List DX) (K : PySem.W.Frag) : SeenX :=
  (fb K && fn.all (fun d => d.good K), fn.map fun d => fnAt K (d.ad K))
def wantX (fn : List DX) : SeenX := (true, fn.map DX.want)
def seenG (n : Nat) (fb : PySem.W.Frag → Bool) (fn : List DX) (g : Addr → Option Obj) : SeenX := seenX fb fn (He.frG g (cStatics :: He.asD g n))
/-- what the head's run tells of the written part -/
def Tells (fb : PySem.W.Frag → Bool) (fn : List DX) (K : PySem.W.Frag) : Prop := seenX fb fn K = wantX fn
def hookX (n : Nat) (fb : PySem.W.Frag → Bool) (fn : List DX) : PySem.W.Hook where
  α := SeenX
  obs := fun s => seenG n fb fn s.heap.get?
  val := fun _ => wantX fn
  says := fun _ h => ∃ K : PySem.W.Frag, K.In h ∧ Tells fb fn K
  of := fun _ _ e => ⟨_, He.frG_in, e⟩
  keeps := fun _ _ _ ⟨K, hK, c⟩ k => ⟨K, hK.keeps k, c⟩
theorem seenG_eq {n : Nat} {fb : PySem.W.Frag → Bool} {fn : List DX} {g : Addr → Option Obj} {s : Shared} (h : ∀ a, g a = s.heap.get? a) :
    seenG n fb fn g = (hookX n fb fn).obs s := by
  have e : g = s.heap.get? := funext h
  subst e
  rfl
theorem Tells.fb {fb : PySem.W.Frag → Bool} {fn : List DX} {K : PySem.W.Frag} (c : Tells fb fn K) : fb K = true := by
  have z : (fb K && fn.all (fun d => d.good K)) = true := congrArg Prod.fst c
  rw [Bool.and_eq_true] at z
  exact z.1
theorem Tells.fx {fb : PySem.W.Frag → Bool} {fn : List DX} {K : PySem.W.Frag} (c : Tells fb fn K) (i : Nat) {d : DX} (h : fn[i]? = some d) :
    ∃ fd, FX K d.name d.qual d.st (d.dvs K) (d.kws K) (d.ad K) fd := by
  have z : (fb K && fn.all (fun d => d.good K)) = true := congrArg Prod.fst c
  rw [Bool.and_eq_true] at z
  have y : fn.map (fun d => fnAt K (d.ad K)) = fn.map DX.want := congrArg Prod.snd c
  have y2 : (fn.map (fun d => fnAt K (d.ad K)))[i]? = (fn.map DX.want)[i]? := by rw [y]
  rw [List.getElem?_map, List.getElem?_map, h] at y2
  exact fx_of (Option.some.inj y2) (List.all_eq_true.mp z.2 d (List.mem_of_getElem? h))
end TT

set_option Elab.async false
set_option linter.all false
set_option maxRecDepth 100000
set_option maxHeartbeats 4000000
namespace TT
open PySem PySem.Spec PyProof.Rows L2

/-! ### heaps that grow -/
theorem same_new {H : Hp} {p : Addr} {o : HO} (h : H p = none) : Same H (upd H p o) := fun a u e => by
  rw [upd_ne (ne_of_none e h)]
  exact e
/-- an object that was not there may change -/
theorem same_mut {H H1 : Hp} {p : Addr} {o : HO} (s : Same H H1) (h : H p = none) : Same H (upd H1 p o) := fun a u e => by
  rw [upd_ne (ne_of_none e h)]
  exact s a u e
theorem same_t {K : PySem.W.Frag} {H H1 : Hp} {a : Addr} {xs : List V} (s : Same H H1) (h : SqT K H a xs) : SqT K H1 a xs := h.ext s
theorem same_l {K : PySem.W.Frag} {H H1 : Hp} {a : Addr} {xs : List V} (s : Same H H1) (h : SqL K H a xs) : SqL K H1 a xs := h.ext s
mutual
theorem same_d {K : PySem.W.Frag} {H H1 : Hp} (s : Same H H1) : ∀ {v : V} (d : PyData), Dp K H v d → Dp K H1 v d
  | _, .none, h => by cases h; exact .non
  | _, .bool b, h => by cases h; exact .bl b
  | _, .int i, h => by cases h; exact .int i
  | _, .str x, h => by cases h; exact .str x
  | _, .list ds, h => by
    cases h with
    | lst a b => exact .lst (same_l s a) (same_ds s ds b)
  | _, .tuple ds, h => by
    cases h with
    | tup a b => exact .tup (same_t s a) (same_ds s ds b)
  | _, .dict _, h => by cases h
theorem same_ds {K : PySem.W.Frag} {H H1 : Hp} (s : Same H H1) : ∀ {vs : List V} (ds : List PyData), DpAll K H vs ds → DpAll K H1 vs ds
  | _, [], h => by cases h; exact .nil
  | _, d :: ds, h => by
    cases h with
    | cons a b => exact .cons (same_d s d a) (same_ds s ds b)
end
/-- all but p stands -/
def But (p : Addr) (H H1 : Hp) : Prop := ∀ a o, a ≠ p → H a = some o → H1 a = some o
theorem But.refl (p : Addr) (H : Hp) : But p H H := fun _ _ _ h => h
theorem But.trans {p : Addr} {H H1 H2 : Hp} (x : But p H H1) (y : But p H1 H2) : But p H H2 := fun a o n h => y a o n (x a o n h)
theorem But.of {p : Addr} {H H1 : Hp} (s : Same H H1) : But p H H1 := fun a o _ h => s a o h
theorem But.upd {p : Addr} {H : Hp} {o : HO} : But p H (upd H p o) := fun a u n h => by rw [upd_ne n]; exact h
/-- the part without p -/
def off (H : Hp) (p : Addr) : Hp := fun a => if a = p then none else H a
theorem off_ne {H : Hp} {p a : Addr} (h : a ≠ p) : off H p a = H a := if_neg h
theorem off_at {H : Hp} {p : Addr} : off H p p = none := if_pos rfl
theorem off_sub {H : Hp} {p : Addr} : Same (off H p) H := fun a o h => by
  by_cases e : a = p
  · rw [e, off_at] at h; cases h
  · rw [off_ne e] at h; exact h
theorem But.off {p : Addr} {H H1 : Hp} (x : But p H H1) : Same (off H p) (off H1 p) := fun a o h => by
  by_cases e : a = p
  · rw [e, off_at] at h; cases h
  · rw [off_ne e] at h ⊢
    exact x a o e h
theorem off_of {p a : Addr} {H : Hp} {o : HO} (n : a ≠ p) (h : H a = some o) : TT.off H p a = some o := by rw [off_ne n]; exact h

/-! ### defs by their names, methods, makers -/
structure Cal (P : Program) (w : World) (K : PySem.W.Frag) (mg : Str → Option Value) (base : Heap) (x : Str) (k : Nat) (sp : Sp) : Prop where
  ex : ∃ f : Addr, mg x = some (.ref f) ∧ PySem.W.keepIn K (.ref f) = true ∧ FnR P w K mg base (L2.CX P w) k f sp
structure Met (P : Program) (w : World) (K : PySem.W.Frag) (mg : Str → Option Value) (base : Heap) (C : Addr) (m : Str) (k : Nat) (sp : Sp) : Prop where
  cl : Cls K C
  ex : ∃ f : Addr, Meth K C m f ∧ FnR P w K mg base (L2.CX P w) k f sp
structure Mak (P : Program) (w : World) (K : PySem.W.Frag) (mg : Str → Option Value) (base : Heap) (x : Str) (C : Addr) (k : Nat) (sp : Sp) : Prop where
  at_ : mg x = some (.ref C)
  ex : ∃ f : Addr, Mk K C f ∧ FnR P w K mg base (L2.CX P w) k f sp
/-- a static method of the class named x -/
structure Sta (P : Program) (w : World) (K : PySem.W.Frag) (mg : Str → Option Value) (base : Heap) (C : Addr) (m : Str) (k : Nat) (sp : Sp) : Prop where
  rd : PySem.W.readsIn K C (.type "type") = true
  ga : PySem.W.specialIn K (.ref C) "__getattribute__" = some (some (.builtin "type.__getattribute__"))
  ex : ∃ p f : Addr, PySem.W.findCls K (.ref C) (.type "type") m = some (.get (.builtin "staticmethod.__get__") (.ref p) .none (.ref C)) ∧
    (∃ rest, PySem.W.recIn K p "staticmethod" = some (.ref f :: rest)) ∧ PySem.W.keepIn K (.ref f) = true ∧ FnR P w K mg base (L2.CX P w) k f sp

def tF (sp : Sp) (E : XK) (t : TA) : TE := fun σ H Q => t σ H fun vs H1 => sp vs H1 Q E
def tS (C : Addr) (sp : Sp) (E : XK) (to : TE) (t : TA) : TE := fun σ H Q => to σ H fun x H1 => x = .ref C ∧ t σ H1 fun vs H2 => sp vs H2 Q E
section
variable {X : Cx} {x m : Str} {C : Addr} {k j : Nat} {sp : Sp} {E : XK} {e o : Expr} {es : List Expr} {to : TE} {t : TA} {p pos apos : Pos} {pl : Sem Bool}
theorem pe_f (c : Cal X.prog X.w X.K X.mg X.base x k sp) (hr : Room j X.A) (hk : k ≤ j) (hg : Gl X x) (hx : Passes (L2.CX X.prog X.w) X E) (ha : PA X (e :: es) t)
    (hd : (x == ("__debug__" : Str)) = false := by decide) (h1 : starEach (e :: es) X.env = (false, eval e X.env) :: starEach es X.env := by rfl)
    (h2 : (backTo pos (starEach es X.env)).any (·.1) = false := by rfl) : PE X (.Call (.Name x p) (e :: es) [] pos) (tF sp E t) := ⟨fun pins s σ H Q I h => by
  obtain ⟨f, hm, kp, F⟩ := c.ex
  exact wpAny_Call_Name_kw (ld_glob I hg hm (PySem.W.callWith_K (h₀ := X.base) I.ok.mod.kin kp
    (thn (ha.run pos pins s σ H _ I h) fun us s1 ⟨vs, H1, I1, r, q⟩ => ⟨I1.kIn, wpAny_call (run_fnR F (hr.mono hk) hx I1 r q)⟩) h1 h2) hd)⟩
theorem pe_f0 (c : Cal X.prog X.w X.K X.mg X.base x k sp) (hr : Room j X.A) (hk : k ≤ j) (hg : Gl X x) (hx : Passes (L2.CX X.prog X.w) X E)
    (hd : (x == ("__debug__" : Str)) = false := by decide) : PE X (.Call (.Name x p) [] [] pos) (tF sp E tNil) := ⟨fun pins s σ H Q I h => by
  obtain ⟨f, hm, kp, F⟩ := c.ex
  exact wpAny_Call_Name_kw (ld_glob I hg hm (PySem.W.callWith_K0 I.kIn kp (wpAny_call (run_fnR (us := []) (vs := []) F (hr.mono hk) hx I .nil h))) hd)⟩
theorem pe_m (c : Met X.prog X.w X.K X.mg X.base C m k sp) (hr : Room j X.A) (hk : k ≤ j) (hx : Passes (L2.CX X.prog X.w) X E) (ho : PE X o to) (ha : PA X (e :: es) t)
    (h1 : starEach (e :: es) X.env = (false, eval e X.env) :: starEach es X.env := by rfl) (h2 : (backTo pos (starEach es X.env)).any (·.1) = false := by rfl)
    (h3 : eval (.Call (.Attribute o m apos) (e :: es) [] pos) X.env = (eval o X.env >>= fun ov => standAt apos.atName >>= fun _ => holding [ov] (getMethod ov m pl) >>= fun fr =>
      callWith pos fr.1 fr.2 (backTo pos (starEach (e :: es) X.env)) (backToKw pos (keywordEach [] X.env))) := by rfl) :
    PE X (.Call (.Attribute o m apos) (e :: es) [] pos) (tMethR C m sp E to t) := by
  obtain ⟨f, hm, F⟩ := c.ex
  exact pe_methR (pl := pl) ho c.cl hm F (hr.mono hk) hx ha h1 h2 h3
theorem pe_m0 (c : Met X.prog X.w X.K X.mg X.base C m k sp) (hr : Room j X.A) (hk : k ≤ j) (hx : Passes (L2.CX X.prog X.w) X E) (ho : PE X o to)
    (h3 : eval (.Call (.Attribute o m apos) [] [] pos) X.env = (eval o X.env >>= fun ov => standAt apos.atName >>= fun _ => holding [ov] (getMethod ov m pl) >>= fun fr =>
      callWith pos fr.1 fr.2 (backTo pos (starEach [] X.env)) (backToKw pos (keywordEach [] X.env))) := by rfl) :
    PE X (.Call (.Attribute o m apos) [] [] pos) (tMethR C m sp E to tNil) := ⟨fun pins s σ H Q I h => by
  obtain ⟨f, hm, F⟩ := c.ex
  refine PySem.W.methodCall_KW (pl := pl) (thn (ho.run pins s σ H _ I h) fun u s1 hh => ?_) h3
  obtain ⟨v, H1, I1, rv, a, dx, fs, ev, ea, l, q⟩ := hh
  subst ev
  cases (show u = Value.ref a from rv)
  exact getmeth_ok I1 ea c.cl hm l (PySem.W.callWith_K0 (first := [.ref a]) I1.kIn hm.kp (wpAny_call (run_fnR (us := [.ref a]) (vs := [.ref a]) F (hr.mono hk) hx I1 (.cons rfl .nil) q)))⟩
theorem pe_k (c : Mak X.prog X.w X.K X.mg X.base x C k sp) (hr : Room j X.A) (hk : k + 1 ≤ j) (hg : Gl X x) (hx : Passes (L2.CX X.prog X.w) X E) (ha : PA X (e :: es) t)
    (hd : (x == ("__debug__" : Str)) = false := by decide) (h1 : starEach (e :: es) X.env = (false, eval e X.env) :: starEach es X.env := by rfl)
    (h2 : (backTo pos (starEach es X.env)).any (·.1) = false := by rfl) : PE X (.Call (.Name x p) (e :: es) [] pos) (StX.tMakeR C sp E t) := by
  obtain ⟨f, M, F⟩ := c.ex
  exact StX.pe_makeR M F (hr.mono hk) hg c.at_ hx ha hd h1 h2
theorem pe_k0 (c : Mak X.prog X.w X.K X.mg X.base x C k sp) (hr : Room j X.A) (hk : k + 1 ≤ j) (hg : Gl X x) (hx : Passes (L2.CX X.prog X.w) X E)
    (hd : (x == ("__debug__" : Str)) = false := by decide) : PE X (.Call (.Name x p) [] [] pos) (StX.tMakeR C sp E tNil) := ⟨fun pins s σ H Q I h => by
  obtain ⟨f, M, F⟩ := c.ex
  exact wpAny_Call_Name_kw (ld_glob I hg c.at_ (PySem.W.callWith_K0 I.kIn M.kp (StX.run_makeR (us := []) M F (hr.mono hk) hx I .nil h)) hd)⟩
theorem pe_s (c : Sta X.prog X.w X.K X.mg X.base C m k sp) (hr : Room j X.A) (hk : k ≤ j) (hx : Passes (L2.CX X.prog X.w) X E) (ho : PE X o to) (ha : PA X (e :: es) t)
    (h1 : starEach (e :: es) X.env = (false, eval e X.env) :: starEach es X.env := by rfl) (h2 : (backTo pos (starEach es X.env)).any (·.1) = false := by rfl)
    (h3 : eval (.Call (.Attribute o m apos) (e :: es) [] pos) X.env = (eval o X.env >>= fun ov => standAt apos.atName >>= fun _ => holding [ov] (getMethod ov m pl) >>= fun fr =>
      callWith pos fr.1 fr.2 (backTo pos (starEach (e :: es) X.env)) (backToKw pos (keywordEach [] X.env))) := by rfl) :
    PE X (.Call (.Attribute o m apos) (e :: es) [] pos) (tS C sp E to t) := ⟨fun pins s σ H Q I h => by
  obtain ⟨p, f, hf, ⟨rest, hrec⟩, kp, F⟩ := c.ex
  refine PySem.W.methodCall_KW (pl := pl) (thn (ho.run pins s σ H _ I h) fun u s1 hh => ?_) h3
  obtain ⟨v, H1, I1, rv, ev, q⟩ := hh
  subst ev
  cases (show u = Value.ref C from rv)
  refine PySem.W.method_cls I1.kIn c.ga (PySem.W.cls_bind I1.kIn c.rd hf (wpAny_call ?_))
  refine PySem.W.sm_get (s := { s1 with toks := s1.toks + 1 }) I1.kIn hrec (PySem.W.handed_on rfl ?_)
  exact PySem.W.callWith_K (first := []) (h₀ := X.base) I.ok.mod.kin kp (thn (ha.run pos pins _ σ H1 _ (I1.tok _) q) fun us s2 ⟨vs, H2, I2, r, q2⟩ =>
    ⟨I2.kIn, wpAny_call (run_fnR F (hr.mono hk) hx I2 r q2)⟩) h1 h2⟩
end

/-! ### operators of own classes -/
/-- what isinstance and the operators ask of a class -/
structure Own (K : PySem.W.Frag) (C : Addr) : Prop where
  cl : Cls K C
  ca : PySem.W.findIn K (.ref C) "__class__" = some (some (.builtin "object.__class__"))
  cn : PySem.W.specialIn K (.builtin "object.__class__") "__get__" = some (some (.builtin "getset_descriptor.__get__"))
  ct : PySem.W.takesIn K (.builtin "object.__class__") = some true
  cm : PySem.W.mroIn K C (.type "object") = some true
  sf : PySem.W.selfFirst K C = true
theorem Own.ty {K : PySem.W.Frag} {H : Hp} {a C dx : Addr} {fs : List (Str × V)} (c : Own K C) (h : H a = some (.ins C dx fs)) : TyX K H (.ref a) (.ref C) :=
  .base (.ins h c.cl c.ca c.cn c.ct c.cm)
theorem ty_t {K : PySem.W.Frag} {H : Hp} {a : Addr} {xs : List V} (h : SqT K H a xs) : TyX K H (.ref a) (.type "tuple") := by
  rcases h with (h | ⟨o, h⟩) | ⟨o, its, n, h, c, _⟩
  · exact .base (.tup h)
  · exact .fTuple h
  · exact .kTuple h c
section
variable {X : Cx} {C : Addr} {k j : Nat} {sp : Sp} {E : XK} {f : Addr}
/-- x op y by the class's own def, y of a type t that does not go first -/
def rOwnC (K : PySem.W.Frag) (C : Addr) (sp : Sp) (E : XK) : R2 := fun x y H Q => ∃ a dx fs t, x = .ref a ∧ H a = some (.ins C dx fs) ∧ TyX K H y t ∧ PySem.W.notFirst K C t = true ∧ sp [x, y] H Q E
theorem op_eqO (c : Met X.prog X.w X.K X.mg X.base C "__eq__" k sp) (hr : Room j X.A) (hk : k ≤ j) (hx : Passes (L2.CX X.prog X.w) X E) : OpR X (compareOp .Eq) (rOwnC X.K C sp E) := by
  intro pins s σ H x y v u Q I rx ry h
  obtain ⟨a, dx, fs, t, rfl, ha, ty, nf, q⟩ := h
  obtain ⟨f, hm, F⟩ := c.ex
  cases (show v = Value.ref a from rx)
  obtain ⟨mA, O, _⟩ := ins_get I.hok ha
  obtain ⟨od, J, _⟩ := O.look
  obtain ⟨P, Z, hp, _⟩ := kit_of I ry ty
  obtain ⟨m, hF⟩ := I.fr
  show wpAny _ _ (richCompare .Eq (.ref a) u) _ _ s
  refine PySem.W.cmp_K (op := .Eq) (tb := t) hr.units0 hF I.ok.mod.kin J (Z.ty _ _ I.kIn hp) nf hm.at_ hm.fn ?_
  refine wpAny_mono (wpAny_call (run_fnR (us := [.ref a, u]) (vs := [.ref a, y]) F (hr.mono hk) hx I (.cons rfl (.cons ry .nil)) q)) (fun w s' z => ?_) fun _ _ z => z
  obtain ⟨z', H', I', rz, qz⟩ := z
  exact SlX.cmpback rz ⟨z', H', I', rz, qz⟩
/-- x op y, two of one class -/
def rOwnB (C : Addr) (sp : Sp) (E : XK) : R2 := fun x y H Q => ∃ a dx fs b dy gs, x = .ref a ∧ y = .ref b ∧ H a = some (.ins C dx fs) ∧ H b = some (.ins C dy gs) ∧ sp [x, y] H Q E
theorem op_mulO (ow : Own X.K C) (c : Met X.prog X.w X.K X.mg X.base C "__mul__" k sp) (hr : Room j X.A) (hk : k ≤ j) (hx : Passes (L2.CX X.prog X.w) X E) : OpR X (binaryOp .Mult) (rOwnB C sp E) := by
  intro pins s σ H x y v u Q I rx ry h
  obtain ⟨a, dx, fs, b, dy, gs, rfl, rfl, ha, hb, q⟩ := h
  obtain ⟨f, hm, F⟩ := c.ex
  cases (show v = Value.ref a from rx)
  cases (show u = Value.ref b from ry)
  obtain ⟨mA, O, _⟩ := ins_get I.hok ha
  obtain ⟨od, J, _⟩ := O.look
  obtain ⟨mB, O', _⟩ := ins_get I.hok hb
  obtain ⟨od', J', _⟩ := O'.look
  obtain ⟨m, hF⟩ := I.fr
  refine PySem.W.binop_K (op := .Mult) hF I.ok.mod.kin J J'.type ow.sf hm.at_ hm.fn ?_
  refine wpAny_mono (wpAny_call (run_fnR (us := [.ref a, .ref b]) (vs := [.ref a, .ref b]) F (hr.mono hk) hx I (.cons rfl (.cons rfl .nil)) q)) (fun w s' z => ?_) fun _ _ z => z
  obtain ⟨z', H', I', rz, qz⟩ := z
  exact SlX.cmpback rz ⟨z', H', I', rz, qz⟩
def rOwnU (C : Addr) (sp : Sp) (E : XK) : V → Hp → VK → Prop := fun x H Q => ∃ a dx fs, x = .ref a ∧ H a = some (.ins C dx fs) ∧ sp [x] H Q E
theorem un_invO (c : Met X.prog X.w X.K X.mg X.base C "__invert__" k sp) (hr : Room j X.A) (hk : k ≤ j) (hx : Passes (L2.CX X.prog X.w) X E) : UnR X (unaryOp .Invert) (rOwnU C sp E) := by
  intro pins s σ H x v Q I rx h
  obtain ⟨a, dx, fs, rfl, ha, q⟩ := h
  obtain ⟨f, hm, F⟩ := c.ex
  cases (show v = Value.ref a from rx)
  obtain ⟨mA, O, _⟩ := ins_get I.hok ha
  obtain ⟨od, J, _⟩ := O.look
  obtain ⟨m, hF⟩ := I.fr
  exact PySem.W.ksp_inv hF I.ok.mod.kin J hm.at_ hm.fn (wpAny_call (run_fnR (us := [.ref a]) (vs := [.ref a]) F (hr.mono hk) hx I (.cons rfl .nil) q))
/-- len(x) by the class's own def -/
def rOwnL (C : Addr) (sp : Sp) (E : XK) : List V → Hp → VK → Prop := fun xs H Q => ∃ a dx fs, xs = [.ref a] ∧ H a = some (.ins C dx fs) ∧ sp [.ref a] H (fun v H' => ∃ n : Int, v = .int n ∧ 0 ≤ n ∧ n < 2 ^ 63 ∧ Q v H') E
theorem call_lenO (c : Met X.prog X.w X.K X.mg X.base C "__len__" k sp) (hr : Room j X.A) (hk : k + 1 ≤ j) (hx : Passes (L2.CX X.prog X.w) X E) : CallR X (.builtin "len") (rOwnL C sp E) := by
  intro pins s σ H xs us Q I r h
  obtain ⟨a, dx, fs, rfl, ha, q⟩ := h
  obtain ⟨f, hm, F⟩ := c.ex
  obtain ⟨u, rfl, ru⟩ := r.one
  cases (show u = Value.ref a from ru)
  obtain ⟨mA, O, _⟩ := ins_get I.hok ha
  obtain ⟨od, J, _⟩ := O.look
  obtain ⟨m, hF⟩ := I.fr
  have hr2 : Room k X.A.in1 := (show Room (k + 1) X.A from hr.mono hk).in1
  refine PySem.W.len_K hF I.ok.mod.kin J hm.at_ hm.fn (wpAny_mono (wpAny_call (SlX.run_at (us := [.ref a]) (ws := [.ref a]) F hr2 I.env0.in1 hx I (.cons rfl .nil) q)) (fun w s' z => ?_) fun _ _ z => z)
  obtain ⟨z', H', I', rz, n, en, n0, n1, qz⟩ := z
  subst en
  obtain ⟨t, e⟩ := (show ∃ t, w = Value.int n t from rz)
  subst e
  exact ⟨⟨n0, n1⟩, .int n, H', I'.tok _, ⟨_, rfl⟩, qz⟩
theorem CallR_or {g : Value} {r r' : List V → Hp → VK → Prop} (h : CallR X g r) (h' : CallR X g r') : CallR X g (fun xs H Q => r xs H Q ∨ r' xs H Q) := h.or h'
theorem OpR_or {g : Value → Value → Sem Value} {r r' : R2} (h : OpR X g r) (h' : OpR X g r') : OpR X g (fun x y H Q => r x y H Q ∨ r' x y H Q) := by
  intro pins s σ H x y v u Q I rx ry q
  rcases q with q | q
  · exact h pins s σ H x y v u Q I rx ry q
  · exact h' pins s σ H x y v u Q I rx ry q
theorem UnR_or {g : Value → Sem Value} {r r' : V → Hp → VK → Prop} (h : UnR X g r) (h' : UnR X g r') : UnR X g (fun x H Q => r x H Q ∨ r' x H Q) := by
  intro pins s σ H x v Q I rx q
  rcases q with q | q
  · exact h pins s σ H x v Q I rx q
  · exact h' pins s σ H x v Q I rx q
end
end TT

set_option Elab.async false
set_option linter.all false
set_option maxRecDepth 100000
set_option maxHeartbeats 4000000
namespace PySem
open Sem (wp)
open AutoSeq1 (wpAny_loadPart')
set_option maxHeartbeats 1000000 in
/-- enumerate(t), t a tuple: the two new cells -/
theorem tt_enum_new (t : Addr) (items : Array Value) :
    Meets (Builtin.«enumerate.__new__» ⟨[.type "enumerate", .ref t], []⟩) (fun _ R s => s.heap.IsTuple t items ∧
      R (.ok (.ret (.ref (s.heap.push { cls := .type "tuple_iterator", data := .fields #[.ref t, .int 0 0] }).objs.size)))
        { s with heap := ((s.heap.push { cls := .type "tuple_iterator", data := .fields #[.ref t, .int 0 0] }).push ({ cls := .type "enumerate", data := .fields #[.none, .bool false, .ref s.heap.objs.size, rawInt 0, .none, .none] } : Obj)) }) :=
  .of_wp fun prog w A R s h => by
    obtain ⟨hp, g, d, tk, os⟩ := s
    obtain ⟨hl, h⟩ := h
    have hsub := sub_enumerate
    have hT : Heap.IsTuple (Shared.heap ⟨hp, g, d, tk, os⟩) t items := hl
    wp_walk
    refine wpAny_stack_any fun st => wpAny_pure ?_
    split
    · rename_i c _ _ _ _ _
      cases (c == Value.type "enumerate") <;>
        (wp_walk using wpAny_pyIter_tuple hT; exact ⟨_, rfl, h⟩)
    · wp_walk using wpAny_pyIter_tuple hT
      exact ⟨_, rfl, h⟩
theorem tt_enum_tuple {prog : Program} {w : World} {A : Around} {E : Value → Shared → Prop} {s : Shared} {t : Addr} {items : Array Value} {Q : Value → Shared → Prop} (ht : s.heap.IsTuple t items)
    (h : ∀ h', IsEnum h' (s.heap.objs.size + 1) s.heap.objs.size 0 .none → h'.IsTupleIter s.heap.objs.size t 0 →
      (∀ b o, s.heap.get? b = some o → h'.get? b = some o) → Q (.ref (s.heap.objs.size + 1)) { s with heap := h' }) :
    wpAny (model prog w) A (call (.type "enumerate") [.ref t]) Q E s := by
  refine callType_new F.called_enumerate (by decide) (F.typeCall_enumerate_1 _) (F.newCall_enumerate_1 _) (fun obj => F.args_object_init_2 obj _) F.entry_enumerate_new (tt_enum_new t items) ⟨ht, ?_⟩
  generalize ho : ({ cls := .type "tuple_iterator", data := .fields #[.ref t, .int 0 0] } : Obj) = o
  have hz : (s.heap.push o).objs.size = s.heap.objs.size + 1 := Heap.size_push ..
  have fr : o.isFreed = false := by subst ho; rfl
  show _ ∧ _
  rw [hz]
  generalize hn : ({ cls := .type "enumerate", data := .fields #[.none, .bool false, .ref s.heap.objs.size, rawInt 0, .none, .none] } : Obj) = en
  have fe : en.isFreed = false := by subst hn; rfl
  have z := Heap.get?_push_size (s.heap.push o) fe
  rw [hz] at z
  have he : IsEnum ((s.heap.push o).push en) (s.heap.objs.size + 1) s.heap.objs.size 0 .none := by
    subst hn
    exact z
  refine ⟨⟨_, he, rfl⟩, h _ he ⟨o, Heap.get?_push_of_some _ (Heap.get?_push_size _ fr), by subst ho; rfl, by subst ho; rfl⟩ fun b ob x => ?_⟩
  exact Heap.get?_push_of_some _ (Heap.get?_push_of_some _ x)
end PySem
namespace TT
open PySem PySem.Spec PyProof.Rows L2

/-! ### enumerate of a tuple -/
def Iet (K : PySem.W.Frag) (a : Addr) : It where
  go := fun i H => ∃ (xs : List V) (x : V), SqT K H a xs ∧ xs[i]? = some x
  yld := fun i H v H' => ∃ q x, v = .ref q ∧ H q = none ∧ H' = upd H q (.tup [.int (i : Nat), x]) ∧ ∀ xs, SqT K H a xs → xs[i]? = some x
  stop := fun i H => ∃ xs : List V, SqT K H a xs ∧ xs.length ≤ i
theorem turn_et {P : Program} {w : World} {K : PySem.W.Frag} {elts : List Expr} {kk : Nat} {tpos : Pos} (a e it : Addr) (hai : a ≠ it) :
    Turn P w K (.Tuple elts kk tpos) (Iet K a) [e, it] e (fun i h => (∃ old, IsEnum h e it ((i : Nat) : Int) old) ∧ h.IsTupleIter it a i ∧ e ≠ it ∧ e ≠ a) where
  mem := by simp
  obj := fun i h st b hb => by
    obtain ⟨⟨old, he⟩, ⟨o, ho, hc, hd⟩, _⟩ := st
    rcases (show b = e ∨ b = it by simpa using hb) with rfl | rfl
    · exact ⟨_, he, fun v q => nomatch q⟩
    · exact ⟨o, ho, fun v q => by rw [hd] at q; cases q⟩
  keep := fun i h h' st k => by
    obtain ⟨⟨old, he⟩, hi, hne⟩ := st
    exact ⟨⟨old, k e (by simp) _ he⟩, hi.at fun o q => k it (by simp) o q, hne⟩
  item := by
    intro X hP hw hK hc i pins s σ H E I hf st hg
    subst hP hw hK
    obtain ⟨⟨old, he⟩, hit, hne, hea⟩ := st
    obtain ⟨xs, x, hq, hx⟩ := hg
    obtain ⟨its, rv, p, hz⟩ := I.tuple hq
    obtain ⟨u, hu, ru⟩ := rv.get hx
    have le : e < s.heap.objs.size := Heap.lt_size he
    have li : it < s.heap.objs.size := by obtain ⟨_, q, _⟩ := hit; exact Heap.lt_size q
    have hlt : i < its.toArray.size := by
      have := (List.getElem?_eq_some_iff.mp hu).1
      simpa using this
    have D := Draws.tuple (prog := X.prog) (w := X.w) (A := X.A.in1) (I.ok.hd hc) it a hai its.toArray
    refine wpAny_pyNext_enum_itemD D he ⟨hit, p⟩ hlt hne (by simp [hne, hea]) fun y h' tk hy ho st' hT hsz hk => ?_
    have ey : y = u := by
      have z : its.toArray[i]? = some u := by simpa using hu
      rw [z] at hy
      exact (Option.some.inj hy).symm
    subst ey
    refine ⟨_, rfl, wpAny_letOwnedTupleGo_enum (s := { s with heap := h', toks := tk + 1 }) ho fun h2 he' sb => ?_⟩
    have hT2 := (sb.2 _ (Nat.ne_of_gt le)).trans hT
    have new : ObjOk X.prog X.w (upd H s.heap.objs.size (.tup [.int (i : Nat), x])) h2 s.heap.objs.size (.tup [.int (i : Nat), x]) :=
      ⟨by show 2 ≤ sizeLine; decide, [.int i tk, y], .cons ⟨_, rfl⟩ (.cons ru .nil), ⟨_, hT2, rfl, _, rfl⟩⟩
    have I1 := I.turnedNew (t' := tk + 1) (ch := [e, it]) (h' := h2) (fun b ob hb q => (sb.2 b (fun z => hb (by simp [z]))).trans
      (hk b ob (fun z => hb (by simp [z])) (fun z => hb (by simp [z])) q)) hf (Nat.le_refl _) new
    refine ⟨.ref s.heap.objs.size, _, I1, rfl, ⟨_, x, rfl, I.hok.fresh (Nat.le_refl _), rfl, fun ys hy' => by rw [I.tuple_inj hy' hq]; exact hx⟩,
      ⟨⟨y, ?_⟩, st'.1.at fun o q => (sb.2 it (Ne.symm hne)).trans q, hne, hea⟩, fun b hb => ?_⟩
    · have e1 : ((i + 1 : Nat) : Int) = (i : Int) + 1 := by omega
      rw [e1]
      exact he'
    · have hb' : b < s.heap.objs.size := by
        rcases (show b = e ∨ b = it by simpa using hb) with rfl | rfl
        · exact le
        · exact li
      rw [upd_ne (Nat.ne_of_lt hb')]
      exact (hf b hb).1
  done := by
    intro X hP hw hK hc i pins s σ H E I hf st hg
    subst hP hw hK
    obtain ⟨⟨old, he⟩, hit, hne, hea⟩ := st
    obtain ⟨xs, hq, hx⟩ := hg
    obtain ⟨its, rv, p, hz⟩ := I.tuple hq
    obtain ⟨f0, f1, f2, f3, f4, f5⟩ := hf it (by simp)
    have hl := rv.length
    refine wpAny_bind (wpAny_attempt (wpAny_callSpecial?_slot (name := Str.ofString "__next__") ⟨_, he, rfl⟩ F.slot_enumerate_next
      (wpAny_call_entry F.slot_enumerate_next ⟨_, he, rfl⟩ F.entry_enumerate_next ?_ (F.args_enumerate_next_1 _))))
    show wpAny _ _ (field (.ref e) 2 >>= _) _ _ _
    refine wpAny_bind (wpAny_field he rfl (x := .ref it) rfl ?_)
    refine wpAny_bind (wpAny_nextOf_tuple_end (A := X.A.in1) (I.ok.hd hc) hit p (by simp; omega) fun h' x he' hx' => ?_)
    obtain ⟨o, ho, hcl⟩ := hx'
    refine wpAny_bind (wpAny_isInstance (T := "StopIteration") (b := true) ⟨o, ho, hcl⟩ isSubtype_stop ?_)
    exact wpAny_pure ⟨rfl, I.turned (t' := s.toks) (fun b o hb q => he' b o hb q) f0 f1 f3 f4 f5⟩
  self := fun A i s Q E st h => let ⟨⟨_, he⟩, _⟩ := st; wpAny_pyIter_enum he h
def iEt (K : PySem.W.Frag) (ta : TA) : TI := fun σ H R => ta σ H fun vs H1 => ∃ a xs, vs = [.ref a] ∧ SqT K H1 a xs ∧ R (Iet K a) H1
theorem pi_enumT {X : Cx} {e : Expr} {ta : TA} {p pos tpos : Pos} {elts : List Expr} {kk : Nat} (hg : Gl X "enumerate") (hm : X.mg "enumerate" = none) (ha : PA X [e] ta) (hs : starEach [e] X.env = [(false, eval e X.env)] := by rfl) :
    PI X (.Tuple elts kk tpos) (.Call (.Name "enumerate" p) [e] [] pos) (iEt X.K ta) := by
  refine ⟨fun pins s σ H R I h => Call_ (ld_blt I hg hm boot_enumerate (PyProof.Rows.callWith_type1 (thn (ha.run pos pins s σ H _ I h) fun us s1 hh => ?_) hs rfl))⟩
  obtain ⟨vs, H1, I1, r1, a, xs, ex, hq, q⟩ := hh
  subst ex
  cases r1 with
  | cons r rr =>
    cases rr
    cases r
    obtain ⟨its, rv, p', hz⟩ := I1.tuple hq
    have la : a < s1.heap.objs.size := by obtain ⟨_, z, _⟩ := p'; exact Heap.lt_size z
    refine tt_enum_tuple p' fun h' he hit hk => wpAny_pyIter_enum he ?_
    have I2 : Inv X pins σ H1 { s1 with heap := h' } := I1.kept (t' := s1.toks) hk
    refine ⟨s1.heap.objs.size + 1, [s1.heap.objs.size + 1, s1.heap.objs.size], _, _, H1, rfl, I2, turn_et a (s1.heap.objs.size + 1) s1.heap.objs.size (Nat.ne_of_lt la),
      ⟨⟨.none, he⟩, hit, Nat.succ_ne_self _, (Nat.ne_of_gt (Nat.lt_succ_of_lt la))⟩, fun b hb => ?_, q⟩
    have hle : s1.heap.objs.size ≤ b := by
      rcases (show b = s1.heap.objs.size + 1 ∨ b = s1.heap.objs.size by simpa using hb) with rfl | rfl
      · exact Nat.le_add_right _ _
      · exact Nat.le_refl _
    exact I1.fpOk hle (I1.hok.fresh hle)
theorem walk_et {K : PySem.W.Frag} {a : Addr} {xs : List V} : Walk (Iet K a) xs.length (fun H => SqT K H a xs) (YPair (fun i => some (.int (i : Nat))) (fun i => xs[i]?)) where
  goes := fun i H hi hq => ⟨xs, xs[i], hq, by simp [hi]⟩
  stops := fun H hq => ⟨xs, hq, Nat.le_refl _⟩
  yields := fun i H v H' hi hq ⟨q, x, e1, e2, e3, e4⟩ => ⟨q, _, x, e1, e2, e3, rfl, e4 xs hq⟩

/-! ### unions -/
def rAddU (K : PySem.W.Frag) : R2 := fun x y H Q => (rI0 fun i j => .int (i + j)) x y H Q ∨ rCat x y H Q ∨ rCatA K x y H Q
def rMulU (K : PySem.W.Frag) : R2 := fun x y H Q => rI CMul (fun i j => .int (i * j)) x y H Q ∨ rRep x y H Q
def rEqU (K : PySem.W.Frag) : R2 := fun x y H Q => rEq x y H Q ∨ rEqD K x y H Q
def rNeU (K : PySem.W.Frag) : R2 := fun x y H Q => rNe x y H Q ∨ rNeD K x y H Q
def rLenU (K : PySem.W.Frag) : List V → Hp → VK → Prop := fun xs H Q => ∃ p ys, xs = [.ref p] ∧ (SqL K H p ys ∨ SqT K H p ys) ∧ Q (.int ys.length) H
def rSlU (K : PySem.W.Frag) : V → Option Int → Option Int → Hp → VK → Prop := fun x lo hi H Q => rSlL K x lo hi H Q ∨ rSlA K x lo hi H Q
section
variable {X : Cx}
theorem op_addU : OpR X (binaryOp .Add) (rAddU X.K) := OpR_or op_add (OpR_or op_cat op_catA)
theorem op_mulU : OpR X (binaryOp .Mult) (rMulU X.K) := OpR_or op_mul op_rep
theorem op_eqU (hu : X.A.units + 64 < cLine) : OpR X (compareOp .Eq) (rEqU X.K) := OpR_or op_eq (op_eqD hu)
theorem op_neU (hu : X.A.units + 64 < cLine) : OpR X (compareOp .NotEq) (rNeU X.K) := OpR_or op_ne (op_neD hu)
theorem call_lenU : CallR X (.builtin "len") (rLenU X.K) := call_len_seq
theorem sl_U : SlR X (rSlU X.K) := sl_list.or sl_tupA
variable {K : PySem.W.Frag}
theorem opK {g : Value → Value → Sem Value} {r : PySem.W.Frag → R2} (h : OpR X g (r X.K)) (hK : X.K = K) : OpR X g (r K) := by subst hK; exact h
theorem k_add (hK : X.K = K) : OpR X (binaryOp .Add) (rAddU K) := opK (r := rAddU) op_addU hK
theorem k_mul (hK : X.K = K) : OpR X (binaryOp .Mult) (rMulU K) := opK (r := rMulU) op_mulU hK
theorem k_eq (hK : X.K = K) (hu : X.A.units + 64 < cLine) : OpR X (compareOp .Eq) (rEqU K) := opK (r := rEqU) (op_eqU hu) hK
theorem k_ne (hK : X.K = K) (hu : X.A.units + 64 < cLine) : OpR X (compareOp .NotEq) (rNeU K) := opK (r := rNeU) (op_neU hu) hK
theorem k_in (hK : X.K = K) : OpR X (compareOp .In) (rIn K false) := opK (r := fun K => rIn K false) op_in_seq hK
theorem k_notin (hK : X.K = K) : OpR X (compareOp .NotIn) (rIn K true) := opK (r := fun K => rIn K true) op_notIn_seq hK
theorem k_len (hK : X.K = K) : CallR X (.builtin "len") (rLenU K) := by subst hK; exact call_lenU
theorem k_isi (hK : X.K = K) : CallR X (.builtin "isinstance") (rIsi K) := by subst hK; exact call_isi
theorem k_sum (hK : X.K = K) (hc : X.calm = true) : CallR X (.builtin "sum") (rSum K) := by subst hK; exact cr_sum hc
theorem k_all (hK : X.K = K) (hc : X.calm = true) : CallR X (.builtin "all") (rAll K) := by subst hK; exact cr_all hc
theorem k_any (hK : X.K = K) (hc : X.calm = true) : CallR X (.builtin "any") (rAny K) := by subst hK; exact cr_any hc
theorem k_ix (hK : X.K = K) : IxR X (rIx K) := by subst hK; exact ix_seq
theorem k_sl (hK : X.K = K) : SlR X (rSlU K) := by subst hK; exact sl_U
theorem k_index (hK : X.K = K) : MtR X "list.index" (rIndex K) := by subst hK; exact mt_index
section
variable {e : Expr} {te : TE} {f : Str} {pos pos' : Pos} {o value : Expr} {ta tv : TE} {tg l : Expr} {ts : TA} {es : List Expr}
theorem k_fld (hK : X.K = K) (he : PE X e te) (hb : attributeBase e f X.env (eval e X.env) = eval e X.env := by rfl) : PE X (.Attribute e f pos) (tFld K te f) := by subst hK; exact pe_fld he hb
theorem k_put (hK : X.K = K) (ha : PE X o ta) (hv : PE X value tv) (hs : swapsWith value (some (.Attribute o f pos')) pos.line X.env = pure false := by rfl) : PS X (.Assign [.Attribute o f pos'] value pos) (sFld K ta tv f) := by subst hK; exact ps_fld ha hv hs
def tTr (K : PySem.W.Frag) (ta : TE) : TT := fun σ H Q => ta σ H fun x H' => ∃ k, TruV K x H' k ∧ Q k H'
theorem k_tr (hK : X.K = K) (ha : PE X e te) (he : ∀ whole, isTrue e X.env whole = (do let v ← whole; standAt e.pos; holding [v] (truthy v)) := by intro _; rfl) : PT X e (tTr K te) := by subst hK; exact pt_truth ha he
theorem k_not (hK : X.K = K) (ha : PE X e te) : PE X (.UnaryOp .Not e pos) (tNotT K te) := by subst hK; exact pe_notT ha
theorem k_iL (hK : X.K = K) (hl : PE X l te) : PI X tg l (iList K te) := by subst hK; exact pi_list hl
theorem k_iT (hK : X.K = K) (hl : PE X l te) : PI X tg l (iTup K te) := by subst hK; exact pi_tup hl
theorem k_iE {elts : List Expr} {kk : Nat} {p tpos : Pos} (hK : X.K = K) (hg : Gl X "enumerate") (hm : X.mg "enumerate" = none) (ha : PA X [e] ts) (hs : starEach [e] X.env = [(false, eval e X.env)] := by rfl) : PI X (.Tuple elts kk tpos) (.Call (.Name "enumerate" p) [e] [] pos) (iEnum K ts) := by subst hK; exact pi_enum hg hm ha hs
theorem k_iEt {elts : List Expr} {kk : Nat} {p tpos : Pos} (hK : X.K = K) (hg : Gl X "enumerate") (hm : X.mg "enumerate" = none) (ha : PA X [e] ts) (hs : starEach [e] X.env = [(false, eval e X.env)] := by rfl) : PI X (.Tuple elts kk tpos) (.Call (.Name "enumerate" p) [e] [] pos) (iEt K ts) := by subst hK; exact pi_enumT hg hm ha hs
theorem k_gtup {k : Nat} {t : TGs} {n : Nat} (hK : X.K = K) (hc : X.calm = true) (h : PGs X es t) (hn : (assignEach es X.env).length = n := by rfl) (hst : (assignEach es X.env).findIdx? (·.1) = none := by rfl) : PG X (.Tuple es k pos) (gTup K n t) := by subst hK; exact pg_tup hc h hn hst
theorem k_bm0 {T : String} {name : Str} {id : String} {r : V → List V → Hp → VK → Prop} {apos cpos : Pos} (hK : X.K = K) (pa : PlainAttrs T) (slot : Slot T name id) (hty : typeOf (.builtin id) = pure (.type "method_descriptor")) (hm : MtR X id r) (ho : PE X o te)
    (h1 : attributeBase o name X.env (eval o X.env) = eval o X.env := by rfl) (h2 : (apos.endLine == cpos.line) = true := by rfl) : PE X (.Call (.Attribute o name apos) [] [] cpos) (tBM0 K T r te) := by
  subst hK
  exact pe_bm0 pa slot hty hm ho h1 h2
theorem k_bm {T : String} {name : Str} {id : String} {r : V → List V → Hp → VK → Prop} {apos cpos : Pos} {e1 : Expr} (hK : X.K = K) (pa : PlainAttrs T) (slot : Slot T name id) (hty : typeOf (.builtin id) = pure (.type "method_descriptor")) (hm : MtR X id r) (ho : PE X o te) (ha : PA X (e1 :: es) ts)
    (h1 : attributeBase o name X.env (eval o X.env) = eval o X.env := by rfl) (h2 : ((backTo cpos (starEach (e1 :: es) X.env)).all (fun x => !x.1) && (backToKw cpos (keywordEach [] X.env)).all (fun x => x.1.isSome) && decide ((e1 :: es).length + ([] : List Keyword).length + (if ([] : List Keyword).isEmpty then 0 else 1) < 30)) = true := by rfl)
    (h3 : (apos.endLine == cpos.line) = true := by rfl) (h4 : starEach (e1 :: es) X.env = (false, eval e1 X.env) :: starEach es X.env := by rfl) (h5 : (backTo cpos (starEach es X.env)).any (·.1) = false := by rfl) : PE X (.Call (.Attribute o name apos) (e1 :: es) [] cpos) (tBM K T r te ts) := by
  subst hK
  exact pe_bm pa slot hty hm ho ha h1 h2 h3 h4 h5
end
theorem pe_gv {x : Str} {pos : Pos} {v : V} (hg : Gl X x) (h : ∃ u, X.mg x = some u ∧ RelV v u) (hd : (x == ("__debug__" : Str)) = false := by decide) : PE X (.Name x pos) (tC v) := by
  obtain ⟨u, h1, h2⟩ := h
  exact pe_glob hg h1 h2 hd
end
end TT

set_option Elab.async false
set_option linter.all false
set_option maxRecDepth 100000
set_option maxHeartbeats 4000000
namespace TT
open PySem PySem.Spec PyProof.Rows L2
/-! ### readings, step by step -/
def rNewL (xs : List V) (H : Hp) (Q : VK) : Prop := xs.length ≤ sizeLine ∧ ∀ p, H p = none → Q (.ref p) (upd H p (.lst xs))
def rNewT (xs : List V) (H : Hp) (Q : VK) : Prop := xs.length ≤ sizeLine ∧ ∀ p, H p = none → Q (.ref p) (upd H p (.tup xs))
def rFld (K : PySem.W.Frag) (f : Str) (x : V) (H : Hp) (Q : VK) : Prop := ∃ a C dx fs v, x = .ref a ∧ H a = some (.ins C dx fs) ∧ Cls K C ∧ NoAttr K C f ∧ fs.lookup f = some v ∧ Q v H
def rPut (K : PySem.W.Frag) (f : Str) (x y : V) (H : Hp) (R : Hp → Prop) : Prop := ∃ a C dx fs, x = .ref a ∧ H a = some (.ins C dx fs) ∧ Cls K C ∧ NoAttr K C f ∧ fs.length < 1000 ∧ R (upd H a (.ins C dx (putF f y fs)))
def rInt1 : List V → Hp → VK → Prop := fun xs H Q => (∃ i, xs = [.int i] ∧ Q (.int i) H) ∨ ∃ k, xs = [.bl k] ∧ Q (.int (if k then 1 else 0)) H
theorem call_int1U {X : Cx} : CallR X (.type "int") rInt1 := call_int1
def rListU (K : PySem.W.Frag) : List V → Hp → VK → Prop := fun xs H Q => ∃ p ys, xs = [.ref p] ∧ (SqL K H p ys ∨ SqT K H p ys) ∧ ∀ l, H l = none → Q (.ref l) (upd H l (.lst ys))
theorem k_list {X : Cx} {K : PySem.W.Frag} (hK : X.K = K) : CallR X (.type "list") (rListU K) := by subst hK; exact call_list_of
def rTupU (K : PySem.W.Frag) : List V → Hp → VK → Prop := fun xs H Q => ∃ p ys, xs = [.ref p] ∧ ((SqL K H p ys ∧ ∀ l, H l = none → Q (.ref l) (upd H l (.tup ys))) ∨ (SqT K H p ys ∧ Q (.ref p) H))
theorem k_tuple {X : Cx} {K : PySem.W.Frag} (hK : X.K = K) : CallR X (.type "tuple") (rTupU K) := by subst hK; exact call_tuple_of
section
variable {K : PySem.W.Frag} {σ : L2.St} {H H1 : Hp} {Q : VK} {QA : List V → Hp → Prop} {QB : Bool → Hp → Prop} {D : Ends} {t u : TS} {ta tb tc te : TE} {ts : TA} {tt : TT} {i : Nat} {v x y : V} {a p b : Addr} {xs ys : List V} {m n : Int}
theorem g_seq (h : t { D with nx := u D } σ H) : tSeq t u D σ H := h
theorem g_next (h : D.nx σ H) : tNext D σ H := h
theorem g_set (h : te σ H fun z H1 => D.nx (σ.set i (some z)) H1) : tAsg te (gName i) D σ H := h
theorem g_asg {g : TG} (h : te σ H fun z H1 => g z σ H1 D.nx) : tAsg te g D σ H := h
theorem g_sub {to ti : TE} {r : TSet} {R : L2.St → Hp → Prop} (h : to σ H fun o H1 => ti σ H1 fun j H2 => r o j v H2 fun H3 => R σ H3) : gSub to ti r v σ H R := h
theorem g_aug {ti : TIp} (h : σ[i]? = some (some x)) (q : te σ H fun y H1 => ti x y H1 fun z H2 => D.nx (σ.set i (some z)) H2) : tAug i te ti D σ H := ⟨x, h, q⟩
theorem g_par {j : Nat} (h : ts σ H fun vs H1 => ∃ v w, vs = [v, w] ∧ D.nx ((σ.set i (some v)).set j (some w)) H1) : tPar i j ts D σ H := h
theorem a_two {w : V} {R : V → V → Prop} (h : R v w) : ∃ v' w', [v, w] = [v', w'] ∧ R v' w' := ⟨v, w, rfl, h⟩
theorem g_drop (h : te σ H fun _ H1 => D.nx σ H1) : tDrop te D σ H := h
theorem g_ret (h : te σ H D.rt) : tRet te D σ H := h
theorem g_var (h : σ[i]? = some (some v)) (q : Q v H) : tVar i σ H Q := ⟨v, h, q⟩
theorem g_c (q : Q v H) : tC v σ H Q := q
theorem g_op {r : R2} (h : ta σ H fun x H1 => tb σ H1 fun y H2 => r x y H2 Q) : tOp r ta tb σ H Q := h
theorem g_un {r : V → Hp → VK → Prop} (h : ta σ H fun x H1 => r x H1 Q) : tUn r ta σ H Q := h
theorem g_nil (q : QA [] H) : tNil σ H QA := q
theorem g_cons (h : ta σ H fun x H1 => ts σ H1 fun xs H2 => QA (x :: xs) H2) : tCons ta ts σ H QA := h
theorem g_cb {r : List V → Hp → VK → Prop} (h : ts σ H fun vs H1 => r vs H1 Q) : tCB r ts σ H Q := h
theorem g_if {c : TT} (h : c σ H fun b H1 => if b = true then t D σ H1 else u D σ H1) : tIfS c t u D σ H := h
theorem g_ife {c : TT} (h : c σ H fun b H1 => if b = true then ta σ H1 Q else tb σ H1 Q) : tIf c ta tb σ H Q := h
theorem g_test (h : te σ H fun x H' => ∃ k, x = .bl k ∧ QB k H') : tTest te σ H QB := h
theorem a_bl {c : Bool} {R : Bool → Prop} (h : R c) : ∃ k, V.bl c = .bl k ∧ R k := ⟨c, rfl, h⟩
theorem g_tr (h : ta σ H fun x H1 => ∃ k, TruV K x H1 k ∧ QB k H1) : tTr K ta σ H QB := h
theorem g_not {c : TT} (h : c σ H fun b H1 => QB (!b) H1) : tNot c σ H QB := h
theorem g_or {c d : TT} (h : c σ H fun b H1 => if b = true then QB true H1 else d σ H1 QB) : tOr c d σ H QB := h
theorem g_and {c d : TT} (h : c σ H fun b H1 => if b = true then d σ H1 QB else QB false H1) : tAnd c d σ H QB := h
theorem g_F {sp : Sp} {E : XK} (h : ts σ H fun vs H1 => sp vs H1 Q E) : tF sp E ts σ H Q := h
theorem g_S {C : Addr} {sp : Sp} {E : XK} (h : te σ H fun x H1 => x = .ref C ∧ ts σ H1 fun vs H2 => sp vs H2 Q E) : tS C sp E te ts σ H Q := h
theorem g_lst (h : ts σ H fun xs H1 => rNewL xs H1 Q) : tLst ts σ H Q := h
theorem g_tup (h : ts σ H fun xs H1 => rNewT xs H1 Q) : tTup ts σ H Q := h
theorem g_fld {f : Str} (h : ta σ H fun x H1 => rFld K f x H1 Q) : tFld K ta f σ H Q := h
theorem g_sfld {f : Str} (h : tb σ H fun y H1 => ta σ H1 fun x H2 => rPut K f x y H2 fun H3 => D.nx σ H3) : sFld K ta tb f D σ H := h
theorem g_methR {C : Addr} {f : Str} {sp : Sp} {E : XK} (h : ta σ H fun x H1 => ∃ a dx fs, x = .ref a ∧ H1 a = some (.ins C dx fs) ∧ fs.lookup f = none ∧ ts σ H1 fun vs H2 => sp (x :: vs) H2 Q E) : tMethR C f sp E ta ts σ H Q := h
theorem g_andV (h : ta σ H fun x H1 => ∃ c, x = .bl c ∧ if c = true then tb σ H1 Q else Q (.bl false) H1) : tAndV ta tb σ H Q := h
theorem g_orV (h : ta σ H fun x H1 => ∃ c, x = .bl c ∧ if c = true then Q (.bl true) H1 else tb σ H1 Q) : tOrV ta tb σ H Q := h
theorem g_notT (h : ta σ H fun x H1 => ∃ k, TruV K x H1 k ∧ Q (.bl (!k)) H1) : tNotT K ta σ H Q := h
theorem g_chain {r r' : R2} (h : ta σ H fun x H1 => tb σ H1 fun y H2 => r x y H2 fun z H3 => ∃ k, z = .bl k ∧ (if k = true then tc σ H3 fun w' H4 => r' y w' H4 Q else Q (.bl false) H3)) : tChain r r' ta tb tc σ H Q := h
theorem g_bm {T : String} {r : V → List V → Hp → VK → Prop} (h : ta σ H fun x H1 => tyV K T x H1 ∧ ts σ H1 fun xs H2 => r x xs H2 Q) : tBM K T r ta ts σ H Q := h
theorem g_bm0 {T : String} {r : V → List V → Hp → VK → Prop} (h : ta σ H fun x H1 => tyV K T x H1 ∧ r x [] H1 Q) : tBM0 K T r ta σ H Q := h
theorem g_sl {r : V → Option Int → Option Int → Hp → VK → Prop} {tl th : TO} (h : te σ H fun x H1 => tl σ H1 fun l H2 => th σ H2 fun u H3 => r x l u H3 Q) : tSl r te tl th σ H Q := h
theorem g_nop {R : Option Int → Hp → Prop} (q : R none H) : tNoPart σ H R := q
theorem g_part {R : Option Int → Hp → Prop} (h : te σ H fun x H1 => ∃ i, x = .int i ∧ R (some i) H1) : tPart te σ H R := h
theorem a_int {R : Int → Prop} (h : R n) : ∃ i, V.int n = .int i ∧ R i := ⟨n, rfl, h⟩
/-! values that have come -/
theorem a_addI (q : Q (.int (m + n)) H) : rAddU K (.int m) (.int n) H Q := .inl ⟨_, _, rfl, rfl, q⟩
theorem a_mulI (hc : CMul m n) (q : Q (.int (m * n)) H) : rMulU K (.int m) (.int n) H Q := .inl ⟨_, _, rfl, rfl, hc, q⟩
theorem a_I0 {g : Int → Int → V} (q : Q (g m n) H) : rI0 g (.int m) (.int n) H Q := ⟨_, _, rfl, rfl, q⟩
theorem a_I {C : Int → Int → Prop} {g : Int → Int → V} (hc : C m n) (q : Q (g m n) H) : rI C g (.int m) (.int n) H Q := ⟨_, _, rfl, rfl, hc, q⟩
theorem a_U {g : Int → V} (q : Q (g m) H) : rU g (.int m) H Q := ⟨_, rfl, q⟩
theorem a_ipI {f : Int → Int → Int} (q : Q (.int (f m n)) H) : ipI f (.int m) (.int n) H Q := ⟨_, _, rfl, rfl, q⟩
theorem a_eq (h : scal x y = true) (q : Q (.bl (decide (x = y))) H) : rEqU K x y H Q := .inl ⟨h, q⟩
theorem a_ne (h : scal x y = true) (q : Q (.bl (!decide (x = y))) H) : rNeU K x y H Q := .inl ⟨h, q⟩
theorem a_eqD {d e : PyData} (hd : Dp K H x d) (he : Dp K H y e) (sd : SeqAt.shaped d = true) (se : SeqAt.shaped e = true) (q : Q (.bl (PyData.eqv d e)) H) : rEqU K x y H Q := .inr ⟨d, e, hd, he, sd, se, q⟩
theorem a_neD {d e : PyData} (hd : Dp K H x d) (he : Dp K H y e) (sd : SeqAt.shaped d = true) (se : SeqAt.shaped e = true) (q : Q (.bl (!PyData.eqv d e)) H) : rNeU K x y H Q := .inr ⟨d, e, hd, he, sd, se, q⟩
theorem a_lenL (h : SqL K H p ys) (q : Q (.int ys.length) H) : rLenU K [.ref p] H Q := ⟨p, ys, rfl, .inl h, q⟩
theorem a_lenT (h : SqT K H p ys) (q : Q (.int ys.length) H) : rLenU K [.ref p] H Q := ⟨p, ys, rfl, .inr h, q⟩
theorem a_ixL (h : SqL K H p xs) (ha : atI xs n = some v) (q : Q v H) : rIx K (.ref p) (.int n) H Q := .inl ⟨p, xs, n, v, rfl, rfl, h, ha, q⟩
theorem a_ixT (h : SqT K H p xs) (ha : atI xs n = some v) (q : Q v H) : rIx K (.ref p) (.int n) H Q := .inr (.inl ⟨p, xs, n, v, rfl, rfl, h, ha, q⟩)
theorem a_setL {R : Hp → Prop} {j : Nat} (h : H p = some (.lst xs)) (ha : ixN xs.length n = some j) (q : R (upd H p (.lst (xs.set j v)))) : rSetL (.ref p) (.int n) v H R := ⟨p, xs, n, j, rfl, rfl, h, ha, q⟩
theorem a_newL (hl : xs.length ≤ 100000) (h : ∀ p H2, H p = none → Same H H2 → H2 p = some (.lst xs) → Q (.ref p) H2) : rNewL xs H Q := ⟨Nat.le_trans hl (by decide), fun p hp => h p _ hp (same_new hp) upd_same⟩
theorem a_newT (hl : xs.length ≤ 100000) (h : ∀ p H2, H p = none → Same H H2 → H2 p = some (.tup xs) → Q (.ref p) H2) : rNewT xs H Q := ⟨Nat.le_trans hl (by decide), fun p hp => h p _ hp (same_new hp) upd_same⟩
theorem a_fld {f : Str} {C dx : Addr} {fs : List (Str × V)} (h : H a = some (.ins C dx fs)) (c : Cls K C) (n : NoAttr K C f) (l : fs.lookup f = some v) (q : Q v H) : rFld K f (.ref a) H Q := ⟨a, C, dx, fs, v, rfl, h, c, n, l, q⟩
theorem a_put {f : Str} {C dx : Addr} {fs : List (Str × V)} {R : Hp → Prop} (h : H a = some (.ins C dx fs)) (c : Cls K C) (n : NoAttr K C f) (l : fs.length < 1000) (q : ∀ H2, But a H H2 → H2 a = some (.ins C dx (putF f y fs)) → R H2) : rPut K f (.ref a) y H R := ⟨a, C, dx, fs, rfl, h, c, n, l, q _ But.upd upd_same⟩
theorem a_isi {c : V} {t u : Value} {b : Bool} (k : ClsV c u) (ty : TyX K H x t) (e : PySem.W.kitOne K t u = some b) (q : Q (.bl b) H) : rIsi K [x, c] H Q := ⟨x, c, t, u, b, rfl, k, ty, e, q⟩
theorem a_ite {c A B : Prop} [Decidable c] (h1 : c → A) (h2 : ¬ c → B) : if decide c = true then A else B := by
  by_cases h : c
  · rw [if_pos (decide_eq_true h)]; exact h1 h
  · rw [if_neg (by rw [decide_eq_false h]; exact Bool.false_ne_true)]; exact h2 h
theorem a_itn {c A B : Prop} [Decidable c] (h1 : ¬ c → A) (h2 : c → B) : if (!decide c) = true then A else B := by
  by_cases h : c
  · rw [if_neg (by rw [decide_eq_true h]; exact Bool.false_ne_true)]; exact h2 h
  · rw [if_pos (by rw [decide_eq_false h]; rfl)]; exact h1 h
theorem a_yes {c A B : Prop} [Decidable c] (hc : c) (h : A) : if decide c = true then A else B := by rw [if_pos (decide_eq_true hc)]; exact h
theorem a_no {c A B : Prop} [Decidable c] (hc : ¬ c) (h : B) : if decide c = true then A else B := by
  rw [if_neg (by rw [decide_eq_false hc]; exact Bool.false_ne_true)]; exact h
theorem a_T {A B : Prop} {c : Bool} (hc : c = true) (h : A) : if c = true then A else B := by rw [if_pos hc]; exact h
theorem a_F {A B : Prop} {c : Bool} (hc : c = false) (h : B) : if c = true then A else B := by rw [hc]; rw [if_neg Bool.false_ne_true]; exact h
theorem a_setB {R : Hp → Prop} {j : Nat} (h : H p = some (.lst xs)) (ha : ixN xs.length n = some j) (q : ∀ H2, But p H H2 → H2 p = some (.lst (xs.set j v)) → R H2) : rSetL (.ref p) (.int n) v H R := a_setL h ha (q _ But.upd upd_same)
theorem a_int1 (q : Q (.int n) H) : rInt1 [.int n] H Q := .inl ⟨n, rfl, q⟩
theorem a_list {L : List V} (h : SqL K H p L ∨ SqT K H p L) (q : ∀ l H2, H l = none → Same H H2 → H2 l = some (.lst L) → Q (.ref l) H2) : rListU K [.ref p] H Q := ⟨p, L, rfl, h, fun l hl => q l _ hl (same_new hl) upd_same⟩
theorem a_tupL {L : List V} (h : SqL K H p L) (q : ∀ l H2, H l = none → Same H H2 → H2 l = some (.tup L) → Q (.ref l) H2) : rTupU K [.ref p] H Q := ⟨p, L, rfl, .inl ⟨h, fun l hl => q l _ hl (same_new hl) upd_same⟩⟩
theorem a_tupT {L : List V} (h : SqT K H p L) (q : Q (.ref p) H) : rTupU K [.ref p] H Q := ⟨p, L, rfl, .inr ⟨h, q⟩⟩
/-- tuple(x), x a list or a tuple: some tuple of the same items -/
theorem a_tup {L : List V} (h : SqL K H p L ∨ SqT K H p L) (q : ∀ l H2, Same H H2 → SqT K H2 l L → Q (.ref l) H2) : rTupU K [.ref p] H Q := by
  rcases h with h | h
  · exact a_tupL h fun l H2 _ s e => q l H2 s (SqT.of e)
  · exact a_tupT h (q p H (Same.refl H) h)
theorem a_app {L : List V} {z : V} (h : H p = some (.lst L)) (hl : L.length < sizeLine) (q : ∀ H2, But p H H2 → H2 p = some (.lst (L ++ [z])) → Q .non H2) : rAppend (.ref p) [z] H Q := ⟨p, L, z, rfl, rfl, h, hl, q _ But.upd upd_same⟩
theorem a_ty {L : List V} {R : Prop} (h : H p = some (.lst L)) (q : R) : tyV K "list" (.ref p) H ∧ R := ⟨Or.inl ⟨rfl, _, SqL.of h⟩, q⟩
theorem atI_of {α : Type} {l : List α} {j : Nat} {z : α} {k : Int} (e : k = (j : Int)) (h : l[j]? = some z) : atI l k = some z := by rw [e]; exact atI_nat h
theorem sz {k : Nat} (h : k ≤ 100000) : k ≤ sizeLine := Nat.le_trans h (by decide)
theorem szl {k : Nat} (h : k < 100000) : k < sizeLine := Nat.lt_of_lt_of_le h (by decide)
end
end TT
open TT L2 in
local macro_rules | `(tactic| walk_at "tt") => `(tactic| first
  | with_reducible refine g_seq ?_
  | with_reducible refine g_set ?_
  | with_reducible refine g_c ?_)

set_option Elab.async false
set_option linter.all false
set_option maxRecDepth 100000
set_option maxHeartbeats 4000000
namespace TT
open PySem PySem.Spec PyProof.Rows L2
/-! ### facts of classes as Bools -/
def ownB (K : PySem.W.Frag) (C : Addr) : Bool :=
  PySem.W.plainGet K C Str.empty && PySem.W.hasDictIn K C && PySem.W.plainOver K C && He.eqO (PySem.W.findIn K (.ref C) "__setattr__") (some (some (.builtin "object.__setattr__"))) &&
  He.eqO (PySem.W.findIn K (.ref C) "__class__") (some (some (.builtin "object.__class__"))) &&
  He.eqO (PySem.W.specialIn K (.builtin "object.__class__") "__get__") (some (some (.builtin "getset_descriptor.__get__"))) &&
  decide (PySem.W.takesIn K (.builtin "object.__class__") = some true) && decide (PySem.W.mroIn K C (.type "object") = some true) && PySem.W.selfFirst K C
theorem ownB_ok {K : PySem.W.Frag} {C : Addr} (h : ownB K C = true) : Own K C := by
  unfold ownB at h
  simp only [Bool.and_eq_true] at h
  obtain ⟨⟨⟨⟨⟨⟨⟨⟨h1, h2⟩, h3⟩, h4⟩, h5⟩, h6⟩, h7⟩, h8⟩, h9⟩ := h
  exact ⟨⟨h1, h2, h3, He.eqO_ok h4⟩, He.eqO_ok h5, He.eqO_ok h6, of_decide_eq_true h7, of_decide_eq_true h8, h9⟩
structure StaF (K : PySem.W.Frag) (C : Addr) (m : Str) (f : Addr) : Prop where
  rd : PySem.W.readsIn K C (.type "type") = true
  ga : PySem.W.specialIn K (.ref C) "__getattribute__" = some (some (.builtin "type.__getattribute__"))
  at_ : ∃ p, PySem.W.findCls K (.ref C) (.type "type") m = some (.get (.builtin "staticmethod.__get__") (.ref p) .none (.ref C)) ∧ ∃ rest, PySem.W.recIn K p "staticmethod" = some (.ref f :: rest)
def staB (K : PySem.W.Frag) (C : Addr) (m : Str) : Bool :=
  PySem.W.readsIn K C (.type "type") && He.eqO (PySem.W.specialIn K (.ref C) "__getattribute__") (some (some (.builtin "type.__getattribute__"))) && He5.wrapB K C "staticmethod" "staticmethod.__get__" m
theorem staB_ok {K : PySem.W.Frag} {C : Addr} {m : Str} (h : staB K C m = true) : StaF K C m (He5.wf K C "staticmethod" m) := by
  unfold staB at h
  simp only [Bool.and_eq_true] at h
  obtain ⟨⟨h1, h2⟩, h3⟩ := h
  obtain ⟨h4, h5⟩ := He5.wrapB_ok h3
  exact ⟨h1, He.eqO_ok h2, _, h4, h5⟩
/-- nothing leaves it -/
theorem cx0_of {P : Program} {w : World} {K : PySem.W.Frag} {mg : Str → Option Value} {base : Heap} {f : Addr} {fd : FuncData} {ps : List Str} {k : Nat} {sp : Sp} (G : FnOk P w K mg base (L2.CX P w) k f fd ps sp) (h : ∀ vs H Q E, sp vs H Q E → sp vs H Q E0) : FnOk P w K mg base CX0 k f fd ps sp :=
  ⟨G.len, fun A outer s H args us vs Q E hr e0 hb hv hs => codeAny_mono (G.run A outer s H args us vs Q E0 hr e0 hb hv (h _ _ _ _ hs)) fun r s' q => by
    cases r with
    | ok fl => cases fl <;> exact q
    | error e =>
      obtain ⟨_, _, _, _, _, _, _, _, _, _, _, _, z⟩ := q
      exact z.elim⟩
/-! ### from a def's promise to its contract -/
section
variable {P : Program} {w : World} {K : PySem.W.Frag} {mg : Str → Option Value} {base : Heap} {x q m : Str} {st : Stmt} {f C : Addr} {fd : FuncData} {ps : List Str} {k : Nat} {sp : Sp} {ks : List (Str × V)}
theorem fnr_of (F : FX K x q st [] ks f fd) (G : FnOk P w K mg base (L2.CX P w) k f fd ps sp)
    (b : ∀ (kV doc pm : Value) (an : Option Addr) (cdv ct : Value) (us : List Value), us.length = ps.length → bindArgs (PySem.W.fnOf x q (defArgs st) (defBody st) (defScope st) .none kV doc pm an cdv ct) ⟨us, []⟩ = pure (ps.zip us)) :
    FnR P w K mg base (L2.CX P w) k f sp := (G.raw (F.bindsN b) .nil).imp fun vs H Q E h => by
  show sp (vs ++ []) H Q E
  rw [List.append_nil]
  exact h
theorem cal_of (F : FX K x q st [] ks f fd) (hm : mg x = some (.ref f)) (G : FnOk P w K mg base (L2.CX P w) k f fd ps sp)
    (b : ∀ (kV doc pm : Value) (an : Option Addr) (cdv ct : Value) (us : List Value), us.length = ps.length → bindArgs (PySem.W.fnOf x q (defArgs st) (defBody st) (defScope st) .none kV doc pm an cdv ct) ⟨us, []⟩ = pure (ps.zip us)) :
    Cal P w K mg base x k sp := ⟨f, hm, F.kp, fnr_of F G b⟩
theorem met_of (F : FX K x q st [] ks f fd) (cl : Cls K C) (hm : Meth K C m f) (G : FnOk P w K mg base (L2.CX P w) k f fd ps sp)
    (b : ∀ (kV doc pm : Value) (an : Option Addr) (cdv ct : Value) (us : List Value), us.length = ps.length → bindArgs (PySem.W.fnOf x q (defArgs st) (defBody st) (defScope st) .none kV doc pm an cdv ct) ⟨us, []⟩ = pure (ps.zip us)) :
    Met P w K mg base C m k sp := ⟨cl, f, hm, fnr_of F G b⟩
theorem mak_of {y : Str} (F : FX K x q st [] ks f fd) (hm : mg y = some (.ref C)) (M : Mk K C f) (G : FnOk P w K mg base (L2.CX P w) k f fd ps sp)
    (b : ∀ (kV doc pm : Value) (an : Option Addr) (cdv ct : Value) (us : List Value), us.length = ps.length → bindArgs (PySem.W.fnOf x q (defArgs st) (defBody st) (defScope st) .none kV doc pm an cdv ct) ⟨us, []⟩ = pure (ps.zip us)) :
    Mak P w K mg base y C k sp := ⟨hm, f, M, fnr_of F G b⟩
theorem sta_of (F : FX K x q st [] ks f fd) (S : StaF K C m f) (G : FnOk P w K mg base (L2.CX P w) k f fd ps sp)
    (b : ∀ (kV doc pm : Value) (an : Option Addr) (cdv ct : Value) (us : List Value), us.length = ps.length → bindArgs (PySem.W.fnOf x q (defArgs st) (defBody st) (defScope st) .none kV doc pm an cdv ct) ⟨us, []⟩ = pure (ps.zip us)) :
    Sta P w K mg base C m k sp := by
  obtain ⟨p, h1, h2⟩ := S.at_
  exact ⟨S.rd, S.ga, p, f, h1, h2, F.kp, fnr_of F G b⟩
end
end TT

set_option Elab.async false
set_option linter.all false
set_option maxRecDepth 100000
set_option maxHeartbeats 4000000
namespace TT
open PySem PySem.Spec PyProof.Rows L2
def rMk (C : Addr) (sp : Sp) (E : XK) (vs : List V) (H : Hp) (Q : VK) : Prop := ∀ x dx, H x = none → H dx = none → dx ≠ x → sp (V.ref x :: vs) (upd (upd H dx (.own x)) x (.ins C dx [])) (fun v H2 => v = .non ∧ Q (.ref x) H2) E
def rLrg (a b : Int) (H : Hp) (Q : VK) : Prop := RgOk a b ∧ ∀ q, H q = none → Q (.ref q) (upd H q (.lst (rgV a b)))
/-- what is made stands on what stood -/
theorem a_mk {C : Addr} {sp : Sp} {E : XK} {vs : List V} {H : Hp} {Q : VK} (h : ∀ x dx H1, H x = none → Same H H1 → H1 x = some (.ins C dx []) → sp (V.ref x :: vs) H1 (fun v H2 => v = .non ∧ Q (.ref x) H2) E) : rMk C sp E vs H Q :=
  fun x dx hx hd _ => h x dx _ hx (same_mut (same_new hd) hx) upd_same
/-! ### comprehensions whose parts only make objects -/
section
variable {K : PySem.W.Frag} {J : It} {n j : Nat} {G : Hp → Prop} {Y : Nat → Hp → V → Hp → Prop} {σ : L2.St} {H H1 : Hp} {te : TE} {tt : TT} {Q : VK}
theorem set_none (σ : L2.St) (j : Nat) (x : Option V) : ((σ.set j none).set j x).set j none = σ.set j none := by
  rw [List.set_set, List.set_set]
theorem filt_succ {α : Type} (b : Nat → Bool) (f : Nat → α) (i : Nat) : ((List.range (i + 1)).filter b).map f = ((List.range i).filter b).map f ++ (if b i = true then [f i] else []) := by
  rw [List.range_succ, List.filter_append, List.map_append]
  cases h : b i <;> simp [h]
theorem filt_len (b : Nat → Bool) (f : Nat → V) (i : Nat) : (((List.range i).filter b).map f).length ≤ i := by
  rw [List.length_map]
  exact Nat.le_trans (List.length_filter_le _ _) (by rw [List.length_range]; exact Nat.le_refl i)
theorem lc_f (w : Walk J n G Y) (b : Nat → Bool) (f : Nat → V) (hn : n ≤ 100000) (hG : ∀ H', Same H1 H' → G H')
    (hs : ∀ i x H' H2, i < n → Same H1 H' → Y i H' x H2 → Same H' H2 ∧ (∀ R : Bool → Hp → Prop, (∀ H3, Same H2 H3 → R (b i) H3) → tt ((σ.set j none).set j (some x)) H2 R) ∧
      (b i = true → ∀ H3, Same H2 H3 → ∀ R : VK, (∀ H4, Same H3 H4 → R (f i) H4) → te ((σ.set j none).set j (some x)) H3 R))
    (hd : ∀ D H', H1 D = none → Same H1 H' → H' D = some (.lst (((List.range n).filter b).map f)) → Q (.ref D) H') :
    ∀ D, H1 D = none → ∃ W : Nat → Nat → Hp → Prop, (∃ m, W 0 m (upd H1 D (.lst []))) ∧ ∀ i m H, W i m H →
      (J.stop i H ∧ Q (.ref D) H) ∨ (J.go i H ∧ ∃ Nx : Hp → Prop, (∀ H', Nx H' → ∃ m', m' < m ∧ W (i + 1) m' H') ∧ ∀ x H', J.yld i H x H' → gName j x (wipe σ [j]) H' fun σ2 H2 => wipe σ2 [j] = wipe σ [j] ∧ tt σ2 H2 fun b H3 =>
        if b = true then te σ2 H3 fun y H4 => ∃ acc, H4 D = some (.lst acc) ∧ acc.length < sizeLine ∧ Nx (upd H4 D (.lst (acc ++ [y]))) else Nx H3) := by
  intro D hD
  refine lc_it w (fun i H' => Same H1 H' ∧ H' D = some (.lst (((List.range i).filter b).map f))) ⟨same_new hD, upd_same⟩ (fun i H' _ q => hG H' q.1) ?_ fun H' q => hd D H' hD q.1 q.2
  rintro i x H' H2 hi ⟨q1, q2⟩ hy
  obtain ⟨s2, htt, hte⟩ := hs i x H' H2 hi q1 hy
  refine ⟨set_none σ j (some x), htt _ fun H3 s3 => ?_⟩
  have e3 := s3 _ _ (s2 _ _ q2)
  cases hb : b i with
  | false =>
    rw [if_neg Bool.false_ne_true]
    refine ⟨(q1.trans s2).trans s3, ?_⟩
    rw [e3, filt_succ, hb]
    simp
  | true =>
    rw [if_pos rfl]
    refine hte hb H3 s3 _ fun H4 s4 => ⟨_, s4 _ _ e3, szl (Nat.lt_of_le_of_lt (filt_len b f i) (by omega)), ?_⟩
    refine ⟨same_mut (((q1.trans s2).trans s3).trans s4) hD, ?_⟩
    rw [upd_same, filt_succ, hb]
    rfl
theorem lc_1 (w : Walk J n G Y) (f : Nat → V) (hn : n ≤ 100000) (hG : ∀ H', Same H1 H' → G H')
    (hs : ∀ i x H' H2, i < n → Same H1 H' → Y i H' x H2 → Same H' H2 ∧ ∀ R : VK, (∀ H4, Same H2 H4 → R (f i) H4) → te ((σ.set j none).set j (some x)) H2 R)
    (hd : ∀ D H', H1 D = none → Same H1 H' → H' D = some (.lst ((List.range n).map f)) → Q (.ref D) H') :
    ∀ D, H1 D = none → ∃ W : Nat → Nat → Hp → Prop, (∃ m, W 0 m (upd H1 D (.lst []))) ∧ ∀ i m H, W i m H →
      (J.stop i H ∧ Q (.ref D) H) ∨ (J.go i H ∧ ∃ Nx : Hp → Prop, (∀ H', Nx H' → ∃ m', m' < m ∧ W (i + 1) m' H') ∧ ∀ x H', J.yld i H x H' → gName j x (wipe σ [j]) H' fun σ2 H2 => wipe σ2 [j] = wipe σ [j] ∧ tYes σ2 H2 fun b H3 =>
        if b = true then te σ2 H3 fun y H4 => ∃ acc, H4 D = some (.lst acc) ∧ acc.length < sizeLine ∧ Nx (upd H4 D (.lst (acc ++ [y]))) else Nx H3) := by
  intro D hD
  refine lc_it w (fun i H' => Same H1 H' ∧ H' D = some (.lst ((List.range i).map f))) ⟨same_new hD, upd_same⟩ (fun i H' _ q => hG H' q.1) ?_ fun H' q => hd D H' hD q.1 q.2
  rintro i x H' H2 hi ⟨q1, q2⟩ hy
  obtain ⟨s2, hte⟩ := hs i x H' H2 hi q1 hy
  refine ⟨set_none σ j (some x), ?_⟩
  unfold tYes
  dsimp only
  rw [if_pos rfl]
  refine hte _ fun H4 s4 => ⟨_, s4 _ _ (s2 _ _ q2), szl (by rw [List.length_map, List.length_range]; omega), same_mut ((q1.trans s2).trans s4) hD, ?_⟩
  rw [upd_same, List.range_succ, List.map_append]
  rfl
/-- over a list, a tuple, a range: the i-th value of the target -/
theorem c_l {tl : TE} {xs : List V} (f : Nat → V) (hn : xs.length ≤ 100000) (hl : ∀ R : VK, (∀ a H1, Same H H1 → SqL K H1 a xs → R (.ref a) H1) → tl σ H R)
    (hs : ∀ i x H', xs[i]? = some x → Same H H' → ∀ R : VK, (∀ H4, Same H' H4 → R (f i) H4) → te ((σ.set j none).set j (some x)) H' R)
    (hd : ∀ D H', H D = none → Same H H' → H' D = some (.lst ((List.range xs.length).map f)) → Q (.ref D) H') : tLc (iList K tl) (gName j) tYes te [j] σ H Q := by
  refine hl _ fun a H1 s1 h => ⟨a, rfl, ⟨xs, h⟩, lc_1 walk_list f hn (fun H' s => same_l s h) (fun i x H' H2 hi s y => ?_) fun D H' n s e => hd D H' (s1.free n) (s1.trans s) e⟩
  obtain ⟨rfl, e⟩ := y
  exact ⟨Same.refl _, hs i x _ e (s1.trans s)⟩
theorem c_t {tl : TE} {xs : List V} (f : Nat → V) (hn : xs.length ≤ 100000) (hl : ∀ R : VK, (∀ a H1, Same H H1 → SqT K H1 a xs → R (.ref a) H1) → tl σ H R)
    (hs : ∀ i x H', xs[i]? = some x → Same H H' → ∀ R : VK, (∀ H4, Same H' H4 → R (f i) H4) → te ((σ.set j none).set j (some x)) H' R)
    (hd : ∀ D H', H D = none → Same H H' → H' D = some (.lst ((List.range xs.length).map f)) → Q (.ref D) H') : tLc (iTup K tl) (gName j) tYes te [j] σ H Q := by
  refine hl _ fun a H1 s1 h => ⟨a, rfl, ⟨xs, h⟩, lc_1 walk_tup f hn (fun H' s => same_t s h) (fun i x H' H2 hi s y => ?_) fun D H' n s e => hd D H' (s1.free n) (s1.trans s) e⟩
  obtain ⟨rfl, e⟩ := y
  exact ⟨Same.refl _, hs i x _ e (s1.trans s)⟩
theorem c_r {ta : TA} {k : Nat} (f : Nat → V) (hn : k ≤ 100000) (hl : ∀ R : List V → Hp → Prop, (∀ H1, Same H H1 → R [.int (k : Nat)] H1) → ta σ H R)
    (hs : ∀ (i : Nat) H', i < k → Same H H' → ∀ R : VK, (∀ H4, Same H' H4 → R (f i) H4) → te ((σ.set j none).set j (some (.int (i : Nat)))) H' R)
    (hd : ∀ D H', H D = none → Same H H' → H' D = some (.lst ((List.range k).map f)) → Q (.ref D) H') : tLc (iRng1 ta) (gName j) tYes te [j] σ H Q := by
  refine hl _ fun H1 s1 => ⟨(k : Int), rfl, by omega, by omega, lc_1 walk_range f (by omega) (fun _ _ => True.intro) (fun i x H' H2 hi s y => ?_) fun D H' n s e => hd D H' (s1.free n) (s1.trans s) e⟩
  obtain ⟨rfl, e⟩ := y
  subst e
  refine ⟨Same.refl _, ?_⟩
  have e0 : (0 : Int) + (i : Int) = i := by omega
  show ∀ R : VK, _ → te ((σ.set j none).set j (some (.int (0 + (i : Int))))) H2 R
  rw [e0]
  exact hs i _ (by omega) (s1.trans s)
/-! .. with a test -/
theorem cf_l {tl : TE} {xs : List V} (b : Nat → Bool) (f : Nat → V) (hn : xs.length ≤ 100000) (hl : ∀ R : VK, (∀ a H1, Same H H1 → SqL K H1 a xs → R (.ref a) H1) → tl σ H R)
    (hs : ∀ i x H', xs[i]? = some x → Same H H' → (∀ R : Bool → Hp → Prop, (∀ H3, Same H' H3 → R (b i) H3) → tt ((σ.set j none).set j (some x)) H' R) ∧
      (b i = true → ∀ H3, Same H' H3 → ∀ R : VK, (∀ H4, Same H3 H4 → R (f i) H4) → te ((σ.set j none).set j (some x)) H3 R))
    (hd : ∀ D H', H D = none → Same H H' → H' D = some (.lst (((List.range xs.length).filter b).map f)) → Q (.ref D) H') : tLc (iList K tl) (gName j) tt te [j] σ H Q := by
  refine hl _ fun a H1 s1 h => ⟨a, rfl, ⟨xs, h⟩, lc_f walk_list b f hn (fun H' s => same_l s h) (fun i x H' H2 hi s y => ?_) fun D H' n s e => hd D H' (s1.free n) (s1.trans s) e⟩
  obtain ⟨rfl, e⟩ := y
  exact ⟨Same.refl _, hs i x _ e (s1.trans s)⟩
theorem cf_t {tl : TE} {xs : List V} (b : Nat → Bool) (f : Nat → V) (hn : xs.length ≤ 100000) (hl : ∀ R : VK, (∀ a H1, Same H H1 → SqT K H1 a xs → R (.ref a) H1) → tl σ H R)
    (hs : ∀ i x H', xs[i]? = some x → Same H H' → (∀ R : Bool → Hp → Prop, (∀ H3, Same H' H3 → R (b i) H3) → tt ((σ.set j none).set j (some x)) H' R) ∧
      (b i = true → ∀ H3, Same H' H3 → ∀ R : VK, (∀ H4, Same H3 H4 → R (f i) H4) → te ((σ.set j none).set j (some x)) H3 R))
    (hd : ∀ D H', H D = none → Same H H' → H' D = some (.lst (((List.range xs.length).filter b).map f)) → Q (.ref D) H') : tLc (iTup K tl) (gName j) tt te [j] σ H Q := by
  refine hl _ fun a H1 s1 h => ⟨a, rfl, ⟨xs, h⟩, lc_f walk_tup b f hn (fun H' s => same_t s h) (fun i x H' H2 hi s y => ?_) fun D H' n s e => hd D H' (s1.free n) (s1.trans s) e⟩
  obtain ⟨rfl, e⟩ := y
  exact ⟨Same.refl _, hs i x _ e (s1.trans s)⟩
theorem cf_r {ta : TA} {k : Nat} (b : Nat → Bool) (f : Nat → V) (hn : k ≤ 100000) (hl : ∀ R : List V → Hp → Prop, (∀ H1, Same H H1 → R [.int (k : Nat)] H1) → ta σ H R)
    (hs : ∀ (i : Nat) H', i < k → Same H H' → (∀ R : Bool → Hp → Prop, (∀ H3, Same H' H3 → R (b i) H3) → tt ((σ.set j none).set j (some (.int (i : Nat)))) H' R) ∧
      (b i = true → ∀ H3, Same H' H3 → ∀ R : VK, (∀ H4, Same H3 H4 → R (f i) H4) → te ((σ.set j none).set j (some (.int (i : Nat)))) H3 R))
    (hd : ∀ D H', H D = none → Same H H' → H' D = some (.lst (((List.range k).filter b).map f)) → Q (.ref D) H') : tLc (iRng1 ta) (gName j) tt te [j] σ H Q := by
  refine hl _ fun H1 s1 => ⟨(k : Int), rfl, by omega, by omega, lc_f walk_range b f (by omega) (fun _ _ => True.intro) (fun i x H' H2 hi s y => ?_) fun D H' n s e => hd D H' (s1.free n) (s1.trans s) e⟩
  obtain ⟨rfl, e⟩ := y
  subst e
  refine ⟨Same.refl _, ?_⟩
  have e0 : (0 : Int) + (i : Int) = i := by omega
  dsimp only
  rw [e0]
  exact hs i _ (by omega) (s1.trans s)
theorem g_lcT {wi : TI} {g : TG} {vs : List Nat} (h : wi σ H fun J H1 => ∀ D, H1 D = none → ∃ W : Nat → Nat → Hp → Prop, (∃ m, W 0 m (upd H1 D (.lst []))) ∧ ∀ i m H, W i m H →
      (J.stop i H ∧ Q (.ref D) H) ∨ (J.go i H ∧ ∃ Nx : Hp → Prop, (∀ H', Nx H' → ∃ m', m' < m ∧ W (i + 1) m' H') ∧ ∀ x H', J.yld i H x H' → g x (wipe σ vs) H' fun σ2 H2 => wipe σ2 vs = wipe σ vs ∧ tt σ2 H2 fun b H3 =>
        if b = true then te σ2 H3 fun y H4 => ∃ acc, H4 D = some (.lst acc) ∧ acc.length < sizeLine ∧ Nx (upd H4 D (.lst (acc ++ [y]))) else Nx H3)) : tLc wi g tt te vs σ H Q := h
theorem g_iTup {tl : TE} {R : It → Hp → Prop} (h : tl σ H fun x H1 => ∃ a, x = .ref a ∧ (∃ xs, SqT K H1 a xs) ∧ R (Itt K a) H1) : iTup K tl σ H R := h
theorem g_iList {tl : TE} {R : It → Hp → Prop} (h : tl σ H fun x H1 => ∃ a, x = .ref a ∧ (∃ xs, SqL K H1 a xs) ∧ R (Itl K a) H1) : iList K tl σ H R := h
theorem g_iRng {ta : TA} {R : It → Hp → Prop} (h : ta σ H fun vs H1 => ∃ j : Int, vs = [.int j] ∧ -(2 ^ 62) ≤ j ∧ j < 2 ^ 62 ∧ R (Itr 0 j.toNat) H1) : iRng1 ta σ H R := h
theorem g_iEt {ta : TA} {R : It → Hp → Prop} (h : ta σ H fun vs H1 => ∃ a xs, vs = [.ref a] ∧ SqT K H1 a xs ∧ R (Iet K a) H1) : iEt K ta σ H R := h
theorem g_iEn {ta : TA} {R : It → Hp → Prop} (h : ta σ H fun vs H1 => ∃ a xs, vs = [.ref a] ∧ SqL K H1 a xs ∧ R (Ite K a) H1) : iEnum K ta σ H R := h
theorem g_for {wi : TI} {g : TG} {tb : TS} {D : Ends} (h : wi σ H fun J H1 => ∃ W : Nat → Nat → L2.St → Hp → Prop, (∃ m, W 0 m σ H1) ∧ ∀ i m σ H, W i m σ H →
      (J.stop i H ∧ D.nx σ H) ∨ (J.go i H ∧ ∃ N : L2.St → Hp → Prop, (∀ σ' H', N σ' H' → ∃ m', m' < m ∧ W (i + 1) m' σ' H') ∧ ∀ x H', J.yld i H x H' → g x σ H' fun σ2 H2 => tb { D with nx := N, ct := N, bk := D.nx } σ2 H2)) : tFor wi g tb D σ H := h
theorem g_mk {C : Addr} {sp : Sp} {E : XK} {ts : TA} (h : ts σ H fun vs H1 => rMk C sp E vs H1 Q) : StX.tMakeR C sp E ts σ H Q := h
theorem g_lrg {tr : L2.St → Hp → (Int → Int → Hp → Prop) → Prop} (h : tr σ H fun a b H1 => rLrg a b H1 Q) : tLstRg tr σ H Q := h
theorem g_rg1 {ta : TE} {R : Int → Int → Hp → Prop} (h : ta σ H fun x H1 => ∃ n, x = .int n ∧ R 0 n H1) : tRg1 ta σ H R := h
theorem g_yes {R : Bool → Hp → Prop} (h : R true H) : tYes σ H R := h
theorem g_gtup {t : TGs} {k : Nat} {a : Addr} {xs : List V} {R : L2.St → Hp → Prop} (h : SqT K H a xs) (hn : xs.length = k) (q : t xs σ H R) : gTup K k t (.ref a) σ H R := ⟨a, xs, rfl, h, hn, q⟩
theorem g_gcons {t : TG} {u : TGs} {v : V} {r : List V} {R : L2.St → Hp → Prop} (q : t v σ H fun σ' H' => u r σ' H' R) : gCons t u (v :: r) σ H R := ⟨v, r, rfl, q⟩
theorem g_gnil {R : L2.St → Hp → Prop} (q : R σ H) : gNil [] σ H R := ⟨rfl, q⟩
theorem g_gname {i : Nat} {v : V} {R : L2.St → Hp → Prop} (q : R (σ.set i (some v)) H) : gName i v σ H R := q
/-- x(e, ..), x an instance of C -/
def tCO (C : Addr) (sp : Sp) (E : XK) (tf : TE) (t : TA) : TE := fun σ H Q => tf σ H fun y H1 => ∃ a, y = V.ref a ∧ t σ H1 fun vs H2 => (∃ dx fs, H2 a = some (.ins C dx fs)) ∧ sp (V.ref a :: vs) H2 Q E
theorem pe_co {X : Cx} {C : Addr} {sp : Sp} {E : XK} {k i : Nat} {fe e : Expr} {es : List Expr} {tf : TE} {t : TA} {pos : Pos} (c : Met X.prog X.w X.K X.mg X.base C "__call__" k sp) (fi : ∀ g, Meth X.K C "__call__" g → PySem.W.fnIn X.K g = true) (hr : Room i X.A) (hk : k ≤ i) (hx : Passes (L2.CX X.prog X.w) X E) (hf : PE X fe tf) (ha : PA X (e :: es) t)
    (h1 : eval (.Call fe (e :: es) [] pos) X.env = (eval fe X.env >>= fun z => callWith pos z [] (backTo pos (starEach (e :: es) X.env)) (backToKw pos (keywordEach [] X.env))) := by rfl)
    (h2 : starEach (e :: es) X.env = (false, eval e X.env) :: starEach es X.env := by rfl) (h3 : (backTo pos (starEach es X.env)).any (·.1) = false := by rfl) : PE X (.Call fe (e :: es) [] pos) (tCO C sp E tf t) := ⟨fun pins s σ H Q I h => by
  obtain ⟨g, hm, F⟩ := c.ex
  refine Call_ (thn (hf.run pins s σ H _ I h) fun u s1 hh => ?_) h1
  obtain ⟨y, H1, I1, ry, a, ey, q⟩ := hh
  subst ey
  cases (show u = Value.ref a from ry)
  refine StX.callO_with (thn (ha.run pos pins s1 σ H1 _ I1 q) fun us s2 hh2 => ?_) h2 h3
  obtain ⟨vs, H2, I2, r, ⟨dx, fs, hi⟩, q2⟩ := hh2
  obtain ⟨ox, od, J, hd⟩ := StX.insC_at (C := C) I2 (.inr ⟨dx, fs, hi⟩)
  exact ⟨⟨C, ox, od, J, hd⟩, StX.run_callO ⟨hm.at_, hm.fn, fi g hm⟩ F (hr.mono hk) hx I2 (.inr ⟨dx, fs, hi⟩) r q2⟩⟩
theorem g_co {C : Addr} {sp : Sp} {E : XK} {tf : TE} {t : TA} (h : tf σ H fun y H1 => ∃ a, y = V.ref a ∧ t σ H1 fun vs H2 => (∃ dx fs, H2 a = some (.ins C dx fs)) ∧ sp (V.ref a :: vs) H2 Q E) : tCO C sp E tf t σ H Q := h
theorem a_ref {a : Addr} {R : Addr → Prop} (h : R a) : ∃ b, V.ref a = .ref b ∧ R b := ⟨a, rfl, h⟩
theorem a_pop {p : Addr} {L : List V} {m : Int} {k : Nat} {y : V} (h : H p = some (.lst L)) (e : m = (k : Int)) (hk : L[k]? = some y) (hl : L.length ≤ 100000) (q : ∀ H2, But p H H2 → H2 p = some (.lst (L.eraseIdx k)) → Q y H2) : rPopAt (.ref p) [.int m] H Q := by
  have hlt := (List.getElem?_eq_some_iff.mp hk).1
  refine ⟨p, L, m, k, y, rfl, rfl, h, by omega, by omega, ?_, hk, q _ But.upd upd_same⟩
  subst e
  exact (L2.ixN_seq (by unfold ixN; rw [if_pos (by omega), if_pos (by omega)]; rfl)).1
theorem a_truB {b : Bool} {R : Bool → Prop} (h : R b) : ∃ k, TruV K (.bl b) H k ∧ R k := ⟨b, rfl, h⟩
theorem a_truI {m : Int} {R : Bool → Prop} (h : R (m != 0)) : ∃ k, TruV K (.int m) H k ∧ R k := ⟨_, rfl, h⟩
theorem a_truL {p : Addr} {xs : List V} {R : Bool → Prop} (e : SqL K H p xs) (h : R (!xs.isEmpty)) : ∃ k, TruV K (.ref p) H k ∧ R k := ⟨_, .inl ⟨xs, e, rfl⟩, h⟩
theorem a_truT {p : Addr} {xs : List V} {R : Bool → Prop} (e : SqT K H p xs) (h : R (!xs.isEmpty)) : ∃ k, TruV K (.ref p) H k ∧ R k := ⟨_, .inr (.inl ⟨xs, e, rfl⟩), h⟩
theorem a_nyes {c A B : Prop} [Decidable c] (hc : c) (h : B) : if (!decide c) = true then A else B := iteNS hc h
theorem a_nno {c A B : Prop} [Decidable c] (hc : ¬ c) (h : A) : if (!decide c) = true then A else B := by
  rw [if_pos (by rw [decide_eq_false hc]; rfl)]; exact h
theorem a_lrg {n : Int} (h0 : 0 ≤ n) (hn : n ≤ 100000) (q : ∀ p H2, H p = none → Same H H2 → H2 p = some (.lst ((List.range n.toNat).map fun i => V.int (i : Nat))) → Q (.ref p) H2) :
    rLrg 0 n H Q := by
  refine ⟨⟨by omega, by omega, by omega, by omega, by omega⟩, fun p hp => q p _ hp (same_new hp) ?_⟩
  rw [upd_same]
  have e : rgV 0 n = (List.range n.toNat).map fun i => V.int (i : Nat) := by
    unfold rgV
    rw [Int.sub_zero]
    apply List.map_congr_left
    intro i _
    rw [Int.zero_add]
  rw [e]
end
end TT

set_option Elab.async false
set_option linter.all false
set_option maxRecDepth 100000
set_option maxHeartbeats 4000000
namespace TT
open PySem PySem.Spec PyProof.Rows L2
/-! ### plain lists -/
theorem sub_len {α : Type} [DecidableEq α] : ∀ {l m : List α}, l.Nodup → (∀ x ∈ l, x ∈ m) → l.length ≤ m.length
  | [], _, _, _ => Nat.zero_le _
  | a :: l, m, nd, h => by
    have na := List.nodup_cons.mp nd
    have ha : a ∈ m := h a (List.mem_cons_self ..)
    have ih := sub_len (l := l) (m := m.erase a) na.2 fun x hx => (List.mem_erase_of_ne (fun e => na.1 (by rw [← e]; exact hx))).mpr (h x (List.mem_cons_of_mem _ hx))
    have e := List.length_erase_of_mem ha
    have p : 0 < m.length := List.length_pos_of_mem ha
    show l.length + 1 ≤ m.length
    omega
/-- an image of a permutation -/
structure OkImg (a : List Nat) : Prop where
  nd : a.Nodup
  lt : ∀ x ∈ a, x < a.length
theorem OkImg.has {a : List Nat} (h : OkImg a) {j : Nat} (hj : j < a.length) : j ∈ a := by
  by_cases hm : j ∈ a
  · exact hm
  · have := sub_len (l := j :: a) (m := List.range a.length) (List.nodup_cons.mpr ⟨hm, h.nd⟩) fun x hx => by
      rw [List.mem_range]
      rcases List.mem_cons.mp hx with rfl | hx
      · exact hj
      · exact h.lt x hx
    rw [List.length_range, List.length_cons] at this
    omega
theorem nd_inj {a : List Nat} (nd : a.Nodup) {i j : Nat} (hi : i < a.length) (hj : j < a.length) (e : a[i] = a[j]) : i = j :=
  L2.nd_ix nd (List.getElem?_eq_getElem hi) (by rw [List.getElem?_eq_getElem hj, e])
theorem idx_at {a : List Nat} {j : Nat} (h : j ∈ a) : ∃ hl : a.idxOf j < a.length, a[a.idxOf j] = j := by
  have hl := List.idxOf_lt_length_of_mem h
  exact ⟨hl, List.getElem_idxOf hl⟩
theorem idx_uniq {a : List Nat} (nd : a.Nodup) {i j : Nat} (hi : i < a.length) (e : a[i] = j) : a.idxOf j = i := by
  have hm : j ∈ a := e ▸ List.getElem_mem hi
  obtain ⟨hl, hx⟩ := idx_at hm
  exact nd_inj nd hl hi (by rw [hx, e])
def comp (a b : List Nat) : List Nat := a.map fun i => b.getD i 0
def inv (a : List Nat) : List Nat := (List.range a.length).map fun j => a.idxOf j
theorem comp_len (a b : List Nat) : (comp a b).length = a.length := List.length_map _
theorem inv_len (a : List Nat) : (inv a).length = a.length := by unfold inv; rw [List.length_map, List.length_range]
theorem getD_lt {b : List Nat} {i : Nat} (h : i < b.length) : b.getD i 0 = b[i] := by
  rw [List.getD_eq_getElem?_getD, List.getElem?_eq_getElem h]
  rfl
theorem comp_get {a b : List Nat} {i : Nat} (h : i < a.length) (h' : i < (comp a b).length := by rw [comp_len]; assumption) : (comp a b)[i] = b.getD a[i] 0 := by
  simp [comp]
theorem inv_get {a : List Nat} {i : Nat} (h : i < (inv a).length) : (inv a)[i] = a.idxOf i := by
  simp [inv]
theorem OkImg.of_inj {a : List Nat} (h : ∀ i j (hi : i < a.length) (hj : j < a.length), a[i] = a[j] → i = j) (l : ∀ i (hi : i < a.length), a[i] < a.length) : OkImg a := by
  refine ⟨?_, fun x hx => ?_⟩
  · rw [List.nodup_iff_pairwise_ne]
    rw [List.pairwise_iff_getElem]
    intro i j hi hj hij e
    exact absurd (h i j hi hj e) (Nat.ne_of_lt hij)
  · obtain ⟨i, hi, e⟩ := List.getElem_of_mem hx
    rw [← e]
    exact l i hi
theorem OkImg.comp {a b : List Nat} (ha : OkImg a) (hb : OkImg b) (e : a.length = b.length) : OkImg (TT.comp a b) := by
  have hl : ∀ i (hi : i < a.length), a[i] < b.length := fun i hi => e ▸ ha.lt _ (List.getElem_mem hi)
  refine .of_inj (fun i j hi hj q => ?_) fun i hi => ?_
  · rw [comp_len] at hi hj
    rw [comp_get hi, comp_get hj, getD_lt (hl i hi), getD_lt (hl j hj)] at q
    exact nd_inj ha.nd hi hj (nd_inj hb.nd (hl i hi) (hl j hj) q)
  · rw [comp_len] at hi ⊢
    rw [comp_get hi, getD_lt (hl i hi), e]
    exact hb.lt _ (List.getElem_mem _)
theorem OkImg.inv {a : List Nat} (ha : OkImg a) : OkImg (TT.inv a) := by
  refine .of_inj (fun i j hi hj q => ?_) fun i hi => ?_
  · rw [inv_get, inv_get] at q
    rw [inv_len] at hi hj
    obtain ⟨h1, h2⟩ := idx_at (ha.has hi)
    obtain ⟨h3, h4⟩ := idx_at (ha.has hj)
    rw [← h2, ← h4]
    exact getElem_congr_idx q
  · rw [inv_get]
    rw [inv_len] at hi ⊢
    exact (idx_at (ha.has hi)).1
theorem OkImg.range (n : Nat) : OkImg (List.range n) := ⟨List.nodup_range, fun x hx => by rw [List.length_range]; exact List.mem_range.mp hx⟩
theorem comp_inv {a : List Nat} (ha : OkImg a) : comp a (inv a) = List.range a.length := by
  refine List.ext_getElem (by rw [comp_len, List.length_range]) fun i h1 h2 => ?_
  rw [comp_len] at h1
  rw [comp_get h1, List.getElem_range, getD_lt (by rw [inv_len]; exact ha.lt _ (List.getElem_mem _)), inv_get]
  exact idx_uniq ha.nd h1 rfl
theorem inv_comp {a b : List Nat} (ha : OkImg a) (hb : OkImg b) (e : a.length = b.length) : inv (comp a b) = comp (inv b) (inv a) := by
  refine List.ext_getElem (by rw [inv_len, comp_len, comp_len, inv_len, e]) fun j h1 h2 => ?_
  rw [inv_get]
  rw [inv_len, comp_len] at h1
  have hj : j < b.length := e ▸ h1
  obtain ⟨p1, p2⟩ := idx_at (hb.has hj)
  have hk : b.idxOf j < a.length := by rw [e]; exact p1
  obtain ⟨p3, p4⟩ := idx_at (ha.has hk)
  have hj' : j < (inv b).length := by rw [inv_len]; exact hj
  rw [comp_get hj', inv_get, getD_lt (by rw [inv_len]; exact hk), inv_get]
  refine idx_uniq (ha.comp hb e).nd (by rw [comp_len]; exact p3) ?_
  rw [comp_get p3, p4, getD_lt p1, p2]
/-! ### values -/
def vi (a : List Nat) : List V := a.map fun n => V.int (n : Nat)
def di (a : List Nat) : List PyData := a.map fun n => PyData.int (n : Nat)
theorem vi_len (a : List Nat) : (vi a).length = a.length := List.length_map _
theorem vi_get {a : List Nat} {i : Nat} {x : V} (h : (vi a)[i]? = some x) : ∃ hi : i < a.length, x = V.int (a[i] : Nat) := by
  obtain ⟨h1, h2⟩ := List.getElem?_eq_some_iff.mp h
  rw [vi_len] at h1
  refine ⟨h1, ?_⟩
  rw [← h2]
  simp [vi]
theorem vi_at {a : List Nat} {i : Nat} (h : i < a.length) : (vi a)[i]? = some (V.int (a[i] : Nat)) := by
  unfold vi
  rw [List.getElem?_map, List.getElem?_eq_getElem h]
  rfl
theorem dp_vi {K : PySem.W.Frag} {H : Hp} : ∀ a : List Nat, DpAll K H (vi a) (di a)
  | [] => .nil
  | n :: a => .cons (.int _) (dp_vi a)
theorem lay_di : ∀ a : List Nat, PyData.canLayAll0 (di a) = true
  | [] => by simp [di, PyData.canLayAll0]
  | n :: a => by
    have ih := lay_di a
    simp [di, PyData.canLayAll0, PyData.canLay0] at ih ⊢
    exact ih
theorem dep_di : ∀ a : List Nat, PyData.depthAll (di a) ≤ 1
  | [] => by simp [di, PyData.depthAll]
  | n :: a => by
    have ih := dep_di a
    simp [di, PyData.depthAll, PyData.depth] at ih ⊢
    omega
theorem sh_t (a : List Nat) : SeqAt.shaped (.tuple (di a)) = true := by
  unfold SeqAt.shaped
  have h1 := lay_di a
  have h2 := dep_di a
  simp [PyData.canLay0, PyData.depth, h1]
  omega
theorem sh_l (a : List Nat) : SeqAt.shaped (.list (di a)) = true := by
  unfold SeqAt.shaped
  have h1 := lay_di a
  have h2 := dep_di a
  simp [PyData.canLay0, PyData.depth, h1]
  omega
theorem eqv_di : ∀ a b : List Nat, PyData.eqvAll (di a) (di b) = decide (a = b)
  | [], [] => by simp [di, PyData.eqvAll]
  | [], _ :: _ => by simp [di, PyData.eqvAll]
  | _ :: _, [] => by simp [di, PyData.eqvAll]
  | n :: a, m :: b => by
    have ih := eqv_di a b
    simp only [di, List.map_cons, PyData.eqvAll, PyData.eqv] at ih ⊢
    rw [ih]
    by_cases h : n = m
    · subst h
      simp
    · have h' : ((n : Int) == (m : Int)) = false := by
        rw [beq_eq_false_iff_ne]
        omega
      rw [h']
      simp [h]
theorem eqv_tt (a b : List Nat) : PyData.eqv (.tuple (di a)) (.tuple (di b)) = decide (a = b) := by
  simp only [PyData.eqv]
  exact eqv_di a b
theorem eqv_ll (a b : List Nat) : PyData.eqv (.list (di a)) (.list (di b)) = decide (a = b) := by
  simp only [PyData.eqv]
  exact eqv_di a b
end TT

set_option Elab.async false
set_option linter.all false
set_option maxRecDepth 100000
set_option maxHeartbeats 4000000
namespace TT
open PySem PySem.Spec PyProof.Rows L2
/-! ### errors of the program: classes below ValueError by way of a class of the program -/
structure Err (K : PySem.W.Frag) (C : Addr) : Prop where
  ox : OexC K C
  xf : XfC K C
  ca : PySem.W.findIn K (.ref C) "__class__" = some (some (.builtin "object.__class__"))
  cn : PySem.W.specialIn K (.builtin "object.__class__") "__get__" = some (some (.builtin "getset_descriptor.__get__"))
  ct : PySem.W.takesIn K (.builtin "object.__class__") = some true
  cm : PySem.W.mroIn K C (.type "object") = some true
  ic : (PySem.W.clsIn K C).isSome = true
  em : PySem.W.exmOne K (.ref C) (.ref C) = some true
def oexB (K : PySem.W.Frag) (C : Addr) : Bool := match K.lookup C with
  | some ⟨.type "type", _, .cls cd, sl⟩ => (match cd.mro, sl.toList with
    | .ref D :: bm, [_, _, _, _, some (.builtin n), _] => D == C && n == "ValueError.__new__" && !cd.hasDel && cd.hasDict && PySem.HandSPX.refsVE bm
    | _, _ => false)
  | _ => false
theorem oexB_ok {K : PySem.W.Frag} {C : Addr} (q : oexB K C = true) :
    ∃ nm q N bs bm sn sub ab col dd k0 k1 k2 k3 k5, K.lookup C = some (excClassObj nm q C N bs bm true sn sub ab col dd k0 k1 k2 k3 k5 "ValueError.__new__") ∧ PySem.HandSPX.refsVE bm = true := by
  unfold oexB at q
  split at q
  · rename_i dd cd sl ho
    split at q
    · rename_i D bm a0 a1 a2 a3 n a5 hm hs
      simp only [Bool.and_eq_true, beq_iff_eq, Bool.not_eq_true'] at q
      obtain ⟨⟨⟨⟨rfl, rfl⟩, q1⟩, q2⟩, q3⟩ := q
      obtain ⟨nm, bs, mro, ns, qn, hd, sn, sub, ab, col, dl⟩ := cd
      dsimp only at hm q1 q2
      subst hm q1 q2
      have es : sl = #[a0, a1, a2, a3, some (.builtin "ValueError.__new__"), a5] := by
        cases sl
        simp only at hs
        rw [hs]
      subst es
      exact ⟨nm, qn, ns, bs, bm, sn, sub, ab, col, dd, a0, a1, a2, a3, a5, ho, q3⟩
    · cases q
  · cases q
def errB (K : PySem.W.Frag) (C : Addr) : Bool :=
  oexB K C && He.eqO (PySem.W.findIn K (.ref C) "__setattr__") (some (some (.builtin "object.__setattr__"))) && decide (PySem.W.subIn K (.ref C) (.type "BaseException") = some true) &&
  (PySem.W.typeIn K (.ref C) == some (.type "type")) && PySem.W.keepIn K (.ref C) && xfB K C &&
  He.eqO (PySem.W.findIn K (.ref C) "__class__") (some (some (.builtin "object.__class__"))) && He.eqO (PySem.W.specialIn K (.builtin "object.__class__") "__get__") (some (some (.builtin "getset_descriptor.__get__"))) &&
  decide (PySem.W.takesIn K (.builtin "object.__class__") = some true) && decide (PySem.W.mroIn K C (.type "object") = some true) && (PySem.W.clsIn K C).isSome && decide (PySem.W.exmOne K (.ref C) (.ref C) = some true)
theorem errB_ok {K : PySem.W.Frag} {C : Addr} (h : errB K C = true) : Err K C := by
  unfold errB at h
  simp only [Bool.and_eq_true] at h
  obtain ⟨⟨⟨⟨⟨⟨⟨⟨⟨⟨⟨h1, h2⟩, h3⟩, h4⟩, h5⟩, h6⟩, h7⟩, h8⟩, h9⟩, h10⟩, h11⟩, h12⟩ := h
  exact ⟨⟨oexB_ok h1, He.eqO_ok h2, of_decide_eq_true h3, eq_of_beq h4, h5⟩, xfB_ok h6, He.eqO_ok h7, He.eqO_ok h8, of_decide_eq_true h9, of_decide_eq_true h10, h11, of_decide_eq_true h12⟩
/-- isinstance(e, c) where a suite holds e -/
def rIsX (K : PySem.W.Frag) (cls : Value) (d : Option Addr) (a : Addr) : List V → Hp → VK → Prop := fun xs H Q => ∃ (D : Addr) (c : V) (cv : Value) (b : Bool), cls = .ref D ∧ Err K D ∧ xs = [.ref a, c] ∧ (∀ dd, d = some dd → ∃ fs, H dd = some (.xd fs)) ∧
  (∀ u, RelV c u → u = cv) ∧ PySem.W.kitOne K (.ref D) cv = some b ∧ Q (.bl b) H
theorem call_isX {X : Cx} {a : Addr} {cls : Value} {d : Option Addr} {oe : Obj} {pn : List (Addr × Obj)} (hz : Zc cls d oe) (hf : ∃ vs, oe.data = .fields vs) : CallR (X.suite a ((a, oe) :: pn)) (.builtin "isinstance") (rIsX X.K cls d a) := by
  intro pins s σ H xs us Q I r h
  obtain ⟨D, c, cv, b, rfl, E, rfl, hdd, hcv, e, q⟩ := h
  cases r with
  | cons rx rr =>
    cases rr with
    | cons rt rr =>
      cases rr
      cases rx
      have ec := hcv _ rt
      subst ec
      obtain ⟨hget, _⟩ := I.pin (a, oe) (List.mem_append.mpr (.inl List.mem_cons_self))
      obtain ⟨vs, hv⟩ := hf
      have J : ∃ od, PySem.W.InstAt s.heap a oe D od := by
        obtain ⟨oc, od, oda, osl⟩ := oe
        obtain ⟨h1, h2⟩ := hz
        dsimp only at h1 h2 hv
        subst h1 h2 hv
        cases od with
        | none => exact ⟨none, hget, rfl, rfl, trivial⟩
        | some dd =>
          obtain ⟨fs, ed⟩ := hdd dd rfl
          have hx : ObjOk X.prog X.w H s.heap dd (.xd fs) := I.hok dd _ ed
          obtain ⟨mA, ⟨o, es, ep, ho, _⟩, _⟩ := hx
          exact ⟨some o, hget, rfl, rfl, ho⟩
      obtain ⟨od, J⟩ := J
      exact PySem.W.kia_one (PySem.W.kitx_exc E.ic E.xf.ga E.xf.gg E.xf.exC E.ca E.cn E.ct E.cm) I.kIn J e (fun z => nomatch z) fun tk => ⟨.bl b, H, I.kept (t' := tk) fun _ _ z => z, rfl, q⟩
/-! ### making an error -/
def rOex (C : Addr) (sp : Sp) (vs : List V) (H1 : Hp) (Q : XK) : Prop := vs.length ≤ 1000 ∧ ∀ a, H1 a = none → sp (.ref a :: (vs ++ [])) (upd H1 a (exo a C none))
  (fun v H2 => v = .non ∧ ∃ (d : Addr) (fs : List (Str × V)), H2 a = some (exo a C (some d)) ∧ H2 d = some (exd d fs) ∧ H1 d = none ∧ Q (.ref C) (some d) (upd (del H2 a) d (.xd fs))) (fun _ _ _ => False)
def tOex (C : Addr) (sp : Sp) (ta : TA) : L2.St → Hp → XK → Prop := fun σ H Q => ta σ H fun vs H1 => rOex C sp vs H1 Q
/-- __init__ of one field -/
def spI1 (C : Addr) (f : Str) : Sp := fun vs H Q _ => ∃ a v, vs = [.ref a, v] ∧ H a = some (exo a C none) ∧ ∀ dx, H dx = none → dx ≠ a → Q .non (upd (upd H dx (exd dx [(f, v)])) a (exo a C (some dx)))
def spI2 (C : Addr) (f g : Str) : Sp := fun vs H Q _ => ∃ a v w, vs = [.ref a, v, w] ∧ H a = some (exo a C none) ∧ ∀ dx, H dx = none → dx ≠ a → Q .non (upd (upd (upd H dx (exd dx [(f, v)])) a (exo a C (some dx))) dx (exd dx [(g, w), (f, v)]))
theorem a_oex1 {C : Addr} {f : Str} {v : V} {H : Hp} {Q : XK} (q : ∀ d H', H d = none → Same H H' → H' d = some (.xd [(f, v)]) → Q (.ref C) (some d) H') : rOex C (spI1 C f) [v] H Q := by
  refine ⟨by show 1 ≤ 1000; decide, fun a ha => ⟨a, v, rfl, upd_same, fun dx hd ne => ⟨rfl, dx, [(f, v)], upd_same, by rw [upd_ne ne, upd_same], ?_, ?_⟩⟩⟩
  · rw [upd_ne ne] at hd
    exact hd
  · rw [upd_ne ne] at hd
    refine q dx _ hd (fun c o e => ?_) upd_same
    rw [upd_ne (ne_of_none e hd), del_ne (ne_of_none e ha), upd_ne (ne_of_none e ha), upd_ne (ne_of_none e hd), upd_ne (ne_of_none e ha)]
    exact e
theorem a_oex2 {C : Addr} {f g : Str} {v w : V} {H : Hp} {Q : XK} (q : ∀ d H', H d = none → Same H H' → H' d = some (.xd [(g, w), (f, v)]) → Q (.ref C) (some d) H') : rOex C (spI2 C f g) [v, w] H Q := by
  refine ⟨by show 2 ≤ 1000; decide, fun a ha => ⟨a, v, w, rfl, upd_same, fun dx hd ne => ⟨rfl, dx, [(g, w), (f, v)], by rw [upd_ne (Ne.symm ne), upd_same], upd_same, ?_, ?_⟩⟩⟩
  · rw [upd_ne ne] at hd
    exact hd
  · rw [upd_ne ne] at hd
    refine q dx _ hd (fun c o e => ?_) upd_same
    rw [upd_ne (ne_of_none e hd), del_ne (ne_of_none e ha), upd_ne (ne_of_none e hd), upd_ne (ne_of_none e ha), upd_ne (ne_of_none e hd), upd_ne (ne_of_none e ha)]
    exact e
/-- a class whose __init__ keeps sp -/
structure Rai (P : Program) (w : World) (K : PySem.W.Frag) (mg : Str → Option Value) (base : Heap) (x : Str) (C : Addr) (k : Nat) (sp : Sp) : Prop where
  at_ : mg x = some (.ref C)
  er : Err K C
  ex : ∃ (f : Addr) (fd : FuncData) (ps : List Str), PySem.W.findIn K (.ref C) "__init__" = some (some (.ref f)) ∧ PySem.W.typeIn K (.ref f) = some (.type "function") ∧ FnOk P w K mg base (L2.CX P w) k f fd ps sp ∧ Binds K fd ps []
section
variable {X : Cx} {x : Str} {C : Addr} {k j : Nat} {sp : Sp} {e : Expr} {es : List Expr} {ta : TA} {p pos : Pos}
theorem passF {X : Cx} : Passes (L2.CX X.prog X.w) X (fun _ _ _ => False) := fun _ _ _ _ _ _ _ h => by
  obtain ⟨_, _, _, _, _, _, _, _, _, _, _, _, z⟩ := h
  exact z.elim
theorem pmk_r (c : Rai X.prog X.w X.K X.mg X.base x C k sp) (hr : Room j X.A) (hk : k + 1 ≤ j) (hg : Gl X x) (ha : PA X (e :: es) ta) (hd : (x == ("__debug__" : Str)) = false := by decide)
    (h1 : starEach (e :: es) X.env = (false, eval e X.env) :: starEach es X.env := by rfl) (h2 : (backTo pos (starEach es X.env)).any (·.1) = false := by rfl) : PMk X (.Call (.Name x p) (e :: es) [] pos) (tOex C sp ta) := by
  obtain ⟨f, fd, ps, h3, h4, F, b⟩ := c.ex
  exact pmk_oex c.er.ox h3 h4 F (hr.mono hk) b .nil passF hg c.at_ ha hd h1 h2
/-- C(): no __init__ of its own -/
structure Rai0 (K : PySem.W.Frag) (mg : Str → Option Value) (x : Str) (C : Addr) : Prop where
  at_ : mg x = some (.ref C)
  er : Err K C
  ei : PySem.W.excIn K C [.type "ValueError", .type "Exception", .type "BaseException", .type "object"] "ValueError.__new__" = true
theorem pmk_r0 (c : Rai0 X.K X.mg x C) (hg : Gl X x) (hd : (x == ("__debug__" : Str)) = false := by decide) : PMk X (.Call (.Name x p) [] [] pos) (fun _ H Q => Q (.ref C) none H) := by
  intro pins s σ H Q I h
  obtain ⟨hp, g, dr, tk, os⟩ := s
  refine wpAny_Call_Name_kw (ld_glob I hg c.at_ (PySem.W.callWith_K0 (first := []) I.kIn c.er.ox.kC ?_) hd)
  obtain ⟨bm, N, nm, qn, bs, hdct, sn, sub, ab, col, dd, a0, a1, a2, a3, a5, mN, hC, hN, hni, T⟩ := exc_obj I.kIn c.ei
  refine wpAny_call_exc_subT PySem.F.excBase_ValueError T hC hN hni (fun h' e hm => ?_) (by rw [sizeLine_eq]; exact Nat.zero_le _)
  exact mk_of I hm (raises_own c.er.ox.exC c.er.ox.tyC) h (I.hok.gone hm.new)
end
end TT

set_option Elab.async false
set_option linter.all false
set_option maxRecDepth 100000
set_option maxHeartbeats 4000000
namespace TT
open PySem PySem.Spec PyProof.Rows L2
open L2 (St)
/-! ### calls whose errors are wished for at the caller's slots -/
abbrev PassS (X : Cx) (E : L2.St → XK) : Prop := ∀ σ, PassesAt (L2.CX X.prog X.w) X σ (E σ)
theorem passS {X : Cx} {W : WX} (tk : Takes X W) : PassS X (WE W) := fun σ => passAt tk σ
section
variable {X : Cx} {x m : Str} {C f : Addr} {k j : Nat} {sp : Sp} {E : L2.St → XK} {e o a b : Expr} {es : List Expr} {to ta tb : TE} {t : TA} {p pos apos : Pos} {pl : Sem Bool}
theorem run_s {pins : List (Addr × Obj)} {σ : L2.St} {H : Hp} {s : Shared} {E : XK} {Q : VK} {us : List Value} {vs : List V} (F : FnR X.prog X.w X.K X.mg X.base (L2.CX X.prog X.w) k f sp) (hr : Room k X.A) (hx : PassesAt (L2.CX X.prog X.w) X σ E) (I : Inv X pins σ H s) (r : Vals vs us) (h : sp vs H Q E) :
    codeAny (model X.prog X.w) X.A (.call (.ref f) ⟨us, []⟩) (fun r s' => match r with | .ok (.ret v) => EP X pins σ Q v s' | .ok _ => False | .error e => X.xe e s') s :=
  codeAny_mono (F X.A X.stack s H us vs Q E hr I.env0 r h) fun r s' q => by
    rcases r with z | fl
    · exact hx pins H s z s' I q
    · cases fl with
      | ret u => exact I.after q
      | next => exact q.elim
      | brk => exact q.elim
      | cont => exact q.elim
def tFS (sp : Sp) (E : L2.St → XK) (t : TA) : TE := fun σ H Q => t σ H fun vs H1 => sp vs H1 Q (E σ)
theorem pe_fS (c : Cal X.prog X.w X.K X.mg X.base x k sp) (hr : Room j X.A) (hk : k ≤ j) (hg : Gl X x) (hx : PassS X E) (ha : PA X (e :: es) t)
    (hd : (x == ("__debug__" : Str)) = false := by decide) (h1 : starEach (e :: es) X.env = (false, eval e X.env) :: starEach es X.env := by rfl)
    (h2 : (backTo pos (starEach es X.env)).any (·.1) = false := by rfl) : PE X (.Call (.Name x p) (e :: es) [] pos) (tFS sp E t) := ⟨fun pins s σ H Q I h => by
  obtain ⟨f, hm, kp, F⟩ := c.ex
  exact wpAny_Call_Name_kw (ld_glob I hg hm (PySem.W.callWith_K (h₀ := X.base) I.ok.mod.kin kp
    (thn (ha.run pos pins s σ H _ I h) fun us s1 ⟨vs, H1, I1, r, q⟩ => ⟨I1.kIn, wpAny_call (run_s F (hr.mono hk) (hx σ) I1 r q)⟩) h1 h2) hd)⟩
theorem pe_fS0 (c : Cal X.prog X.w X.K X.mg X.base x k sp) (hr : Room j X.A) (hk : k ≤ j) (hg : Gl X x) (hx : PassS X E)
    (hd : (x == ("__debug__" : Str)) = false := by decide) : PE X (.Call (.Name x p) [] [] pos) (tFS sp E tNil) := ⟨fun pins s σ H Q I h => by
  obtain ⟨f, hm, kp, F⟩ := c.ex
  exact wpAny_Call_Name_kw (ld_glob I hg hm (PySem.W.callWith_K0 I.kIn kp (wpAny_call (run_s (us := []) (vs := []) F (hr.mono hk) (hx σ) I .nil h))) hd)⟩
def tMS (C : Addr) (m : Str) (sp : Sp) (E : L2.St → XK) (to : TE) (t : TA) : TE := fun σ H Q => to σ H fun x H1 => ∃ a dx fs, x = .ref a ∧ H1 a = some (.ins C dx fs) ∧ fs.lookup m = none ∧ t σ H1 fun vs H2 => sp (x :: vs) H2 Q (E σ)
theorem pe_mS0 (c : Met X.prog X.w X.K X.mg X.base C m k sp) (hr : Room j X.A) (hk : k ≤ j) (hx : PassS X E) (ho : PE X o to)
    (h3 : eval (.Call (.Attribute o m apos) [] [] pos) X.env = (eval o X.env >>= fun ov => standAt apos.atName >>= fun _ => holding [ov] (getMethod ov m pl) >>= fun fr =>
      callWith pos fr.1 fr.2 (backTo pos (starEach [] X.env)) (backToKw pos (keywordEach [] X.env))) := by rfl) :
    PE X (.Call (.Attribute o m apos) [] [] pos) (tMS C m sp E to tNil) := ⟨fun pins s σ H Q I h => by
  obtain ⟨f, hm, F⟩ := c.ex
  refine PySem.W.methodCall_KW (pl := pl) (thn (ho.run pins s σ H _ I h) fun u s1 hh => ?_) h3
  obtain ⟨v, H1, I1, rv, a, dx, fs, ev, ea, l, q⟩ := hh
  subst ev
  cases (show u = Value.ref a from rv)
  exact getmeth_ok I1 ea c.cl hm l (PySem.W.callWith_K0 (first := [.ref a]) I1.kIn hm.kp (wpAny_call (run_s (us := [.ref a]) (vs := [.ref a]) F (hr.mono hk) (hx σ) I1 (.cons rfl .nil) q)))⟩
theorem pe_mS (c : Met X.prog X.w X.K X.mg X.base C m k sp) (hr : Room j X.A) (hk : k ≤ j) (hx : PassS X E) (ho : PE X o to) (ha : PA X (e :: es) t)
    (h1 : starEach (e :: es) X.env = (false, eval e X.env) :: starEach es X.env := by rfl) (h2 : (backTo pos (starEach es X.env)).any (·.1) = false := by rfl)
    (h3 : eval (.Call (.Attribute o m apos) (e :: es) [] pos) X.env = (eval o X.env >>= fun ov => standAt apos.atName >>= fun _ => holding [ov] (getMethod ov m pl) >>= fun fr =>
      callWith pos fr.1 fr.2 (backTo pos (starEach (e :: es) X.env)) (backToKw pos (keywordEach [] X.env))) := by rfl) :
    PE X (.Call (.Attribute o m apos) (e :: es) [] pos) (tMS C m sp E to t) := ⟨fun pins s σ H Q I h => by
  obtain ⟨f, hm, F⟩ := c.ex
  refine PySem.W.methodCall_KW (pl := pl) (thn (ho.run pins s σ H _ I h) fun u s1 hh => ?_) h3
  obtain ⟨v, H1, I1, rv, a, dx, fs, ev, ea, l, q⟩ := hh
  subst ev
  cases (show u = Value.ref a from rv)
  exact getmeth_ok I1 ea c.cl hm l (PySem.W.callWith_K (first := [.ref a]) (h₀ := X.base) I1.ok.mod.kin hm.kp (thn (ha.run pos pins _ σ H1 _ (I1.tok _) q) fun us s2 ⟨vs, H2, I2, r, q2⟩ =>
    ⟨I2.kIn, wpAny_call (run_s (us := .ref a :: us) (vs := .ref a :: vs) F (hr.mono hk) (hx σ) I2 (.cons rfl r) q2)⟩) h1 h2)⟩
def tKS (C : Addr) (sp : Sp) (E : L2.St → XK) (t : TA) : TE := fun σ H Q => t σ H fun vs H1 => rMk C sp (E σ) vs H1 Q
theorem pe_kS (c : Mak X.prog X.w X.K X.mg X.base x C k sp) (hr : Room j X.A) (hk : k + 1 ≤ j) (hg : Gl X x) (hx : PassS X E) (ha : PA X (e :: es) t)
    (hd : (x == ("__debug__" : Str)) = false := by decide) (h1 : starEach (e :: es) X.env = (false, eval e X.env) :: starEach es X.env := by rfl)
    (h2 : (backTo pos (starEach es X.env)).any (·.1) = false := by rfl) : PE X (.Call (.Name x p) (e :: es) [] pos) (tKS C sp E t) := ⟨fun pins s σ H Q I h => by
  obtain ⟨f, M, F⟩ := c.ex
  refine wpAny_Call_Name_kw (ld_glob I hg c.at_ (PySem.W.callWith_K (h₀ := X.base) I.ok.mod.kin M.kp (thn (ha.run pos pins s σ H _ I h) fun us s1 ⟨vs, H1, I1, r, q⟩ => ⟨I1.kIn, ?_⟩) h1 h2) hd)
  have q0 := q (s1.heap.objs.size + 1) s1.heap.objs.size (I1.hok.fresh (Nat.le_succ _)) (I1.hok.fresh (Nat.le_refl _)) (Nat.ne_of_lt (Nat.lt_succ_self _))
  have I2 := Inv.made (C := C) I1
  refine wpAny_call (make_map (f := f) I1.kIn M.makes M.init (beq_iff_eq.mp M.fn) (codeAny_mono (F _ X.stack _ _ (Value.ref (s1.heap.objs.size + 1) :: us) (V.ref (s1.heap.objs.size + 1) :: vs) _ (E σ) ((hr.mono hk).make C us []) (I2.env0.make C us []) (.cons rfl r) q0) fun z s' q' => ?_))
  rcases z with z | fl
  · exact hx σ pins _ _ z s' I2 q'
  · cases fl with
    | ret u =>
      obtain ⟨v, H', I3, rv, ev, q3⟩ := I2.after q'
      subst ev
      exact ⟨rv, V.ref (s1.heap.objs.size + 1), H', I3, rfl, q3⟩
    | next => exact q'.elim
    | brk => exact q'.elim
    | cont => exact q'.elim⟩
def tSS (C : Addr) (sp : Sp) (E : L2.St → XK) (to : TE) (t : TA) : TE := fun σ H Q => to σ H fun x H1 => x = .ref C ∧ t σ H1 fun vs H2 => sp vs H2 Q (E σ)
theorem pe_sS (c : Sta X.prog X.w X.K X.mg X.base C m k sp) (hr : Room j X.A) (hk : k ≤ j) (hx : PassS X E) (ho : PE X o to) (ha : PA X (e :: es) t)
    (h1 : starEach (e :: es) X.env = (false, eval e X.env) :: starEach es X.env := by rfl) (h2 : (backTo pos (starEach es X.env)).any (·.1) = false := by rfl)
    (h3 : eval (.Call (.Attribute o m apos) (e :: es) [] pos) X.env = (eval o X.env >>= fun ov => standAt apos.atName >>= fun _ => holding [ov] (getMethod ov m pl) >>= fun fr =>
      callWith pos fr.1 fr.2 (backTo pos (starEach (e :: es) X.env)) (backToKw pos (keywordEach [] X.env))) := by rfl) :
    PE X (.Call (.Attribute o m apos) (e :: es) [] pos) (tSS C sp E to t) := ⟨fun pins s σ H Q I h => by
  obtain ⟨p, f, hf, ⟨rest, hrec⟩, kp, F⟩ := c.ex
  refine PySem.W.methodCall_KW (pl := pl) (thn (ho.run pins s σ H _ I h) fun u s1 hh => ?_) h3
  obtain ⟨v, H1, I1, rv, ev, q⟩ := hh
  subst ev
  cases (show u = Value.ref C from rv)
  refine PySem.W.method_cls I1.kIn c.ga (PySem.W.cls_bind I1.kIn c.rd hf (wpAny_call ?_))
  refine PySem.W.sm_get (s := { s1 with toks := s1.toks + 1 }) I1.kIn hrec (PySem.W.handed_on rfl ?_)
  exact PySem.W.callWith_K (first := []) (h₀ := X.base) I.ok.mod.kin kp (thn (ha.run pos pins _ σ H1 _ (I1.tok _) q) fun us s2 ⟨vs, H2, I2, r, q2⟩ =>
    ⟨I2.kIn, wpAny_call (run_s F (hr.mono hk) (hx σ) I2 r q2)⟩) h1 h2⟩
/-- a * b by the class's own def -/
def tBS (C : Addr) (sp : Sp) (E : L2.St → XK) (ta tb : TE) : TE := fun σ H Q => ta σ H fun x H1 => tb σ H1 fun y H2 => rOwnB C sp (E σ) x y H2 Q
theorem pe_mulS (ow : Own X.K C) (c : Met X.prog X.w X.K X.mg X.base C "__mul__" k sp) (hr : Room j X.A) (hk : k ≤ j) (hx : PassS X E) (ha : PE X a ta) (hb : PE X b tb) : PE X (.BinOp a .Mult b pos) (tBS C sp E ta tb) := ⟨fun pins s σ H Q I h =>
  wpAny_BinOp (binT ha hb I h fun v u s2 x y H2 I2 rx ry q => by
    obtain ⟨o1, dx, fs, o2, dy, gs, rfl, rfl, h1, h2, q⟩ := q
    obtain ⟨f, hm, F⟩ := c.ex
    cases (show v = Value.ref o1 from rx)
    cases (show u = Value.ref o2 from ry)
    obtain ⟨mA, O, _⟩ := ins_get I2.hok h1
    obtain ⟨od, J, _⟩ := O.look
    obtain ⟨mB, O', _⟩ := ins_get I2.hok h2
    obtain ⟨od', J', _⟩ := O'.look
    obtain ⟨m, hF⟩ := I2.fr
    refine PySem.W.binop_K (op := .Mult) hF I2.ok.mod.kin J J'.type ow.sf hm.at_ hm.fn ?_
    refine wpAny_mono (wpAny_call (run_s (us := [.ref o1, .ref o2]) (vs := [.ref o1, .ref o2]) F (hr.mono hk) (hx σ) I2 (.cons rfl (.cons rfl .nil)) q)) (fun w s' z => ?_) fun _ _ z => z
    obtain ⟨z', H', I', rz, qz⟩ := z
    exact SlX.cmpback rz ⟨z', H', I', rz, qz⟩)⟩
end
/-! ### try with any number of clauses «except x as n» -/
/-- what stands behind a suite: its name is gone -/
def gone (D : Ends) (i : Nat) : Ends := { nx := fun σ H => D.nx (σ.set i none) H, rt := D.rt, bk := fun σ H => D.bk (σ.set i none) H, ct := fun σ H => D.ct (σ.set i none) H }
def wN (K : PySem.W.Frag) (Wout : WX) (D : Ends) : List (Value × Nat × (Addr → Value → Option Addr → TS)) → WX
  | [] => Wout
  | (c, i, ts) :: r => fun cls d σ H => ∃ b, PySem.W.exmOne K cls c = some b ∧ (b = true → ∀ a, H a = none → ts a cls d (gone D i) (σ.set i (some (.ref a))) H) ∧ (b = false → wN K Wout D r cls d σ H)
inductive HdsN (X : Cx) : List ExceptHandler → List (Value × Nat × (Addr → Value → Option Addr → TS)) → Prop
  | nil : HdsN X [] []
  | cons {x n : Str} {c : Value} {i : Nat} {ts : Addr → Value → Option Addr → TS} {b₀ : Stmt} {suite : List Stmt} {np pos' : Pos} {hds : List ExceptHandler} {l : List (Value × Nat × (Addr → Value → Option Addr → TS))} (hi : X.N[i]? = some n) (hln : X.env.kindOf n = some .local) (hc : Names X x c)
      (hsu : ∀ (a : Addr) (oe : Obj) (cls : Value) (d : Option Addr) (pn : List (Addr × Obj)), Zc cls d oe → (∃ vs, oe.data = .fields vs) → PSs (X.suite a ((a, oe) :: pn)) (b₀ :: suite) (ts a cls d)) (r : HdsN X hds l) :
      HdsN X (.ExceptHandler (some (.Name x np)) (some n) (b₀ :: suite) pos' :: hds) ((c, i, ts) :: l)
section
variable {X : Cx} {body : List Stmt} {h₀ : ExceptHandler} {hds : List ExceptHandler} {l : List (Value × Nat × (Addr → Value → Option Addr → TS))} {pos : Pos} {tb : WX → TS} {Wout : WX}
theorem ps_tryN (hs : X.stack = X.env :: X.outer) (hf : X.env.frame = some X.env.locals) (hN : X.N.Nodup) (tk : Takes X Wout)
    (hb : ∀ (W : WX) (pn : List (Addr × Obj)) (xe : Value → Shared → Prop), Takes (X.tr pn xe) W → PassesOwn (model X.prog X.w) X.A X.env xe → PSs (X.tr pn xe) body (tb W))
    (hh : HdsN X (h₀ :: hds) l) : PS X (.Try body (h₀ :: hds) [] [] pos) (fun D σ H => tb (wN X.K Wout D l) D σ H) := ⟨fun pins s σ H D I h => by
  have ok := I.ok
  have fr0 : X.A.frames = some (X.env :: X.outer) := ok.frames.trans (by rw [hs])
  refine wpAny_Try_except (wpAny_mono ((hb (wN X.K Wout D l) (X.pn ++ pins) (fun z t1 => wpAny (model X.prog X.w) X.A (noteFrame z X.env) (fun _ t2 => wpAny (model X.prog X.w) X.A (setFlight z none) (fun _ t3 =>
    wpAny (model X.prog X.w) X.A (handleBy z X.env (h₀ :: hds)) (SP X pins D) X.xe t3) X.xe t2) X.xe t1) (fun u s' xx => ?_) PassesOwn.looking).run [] s σ H D (I.toTry _) h) (fun fl s1 hsp => ?_) fun _ _ z => z)
  · obtain ⟨a, B, sI, pins', σ', H', cls, d, rfl, J0, nb, up, sk0, na, os, ag, wi⟩ := xx
    have J : Inv X pins σ' H' sI := J0.ofTry ok
    have sk : Sky B (X.env :: X.outer) a (Zc cls d) X.env.locals s'.heap := hs ▸ sk0
    refine Sky.land Zc.steady fr0 hf sk fun h3 fl3 up3 => ?_
    have J3 : Inv X pins σ' H' { s' with heap := h3 } := J.landed nb fl3.1 (up.trans up3) os ag
    obtain ⟨oe3, vs3, he3, hz3, hd3⟩ := fl3.there
    have nfr : a ∉ frs (X.env :: X.outer) := fun hm => by
      obtain ⟨_, o', e', hnf⟩ := fl3.2.2.1.mem hm
      rw [he3] at e'
      cases e'
      exact hnf _ hd3
    have nL : a ≠ X.env.locals := fun z => nfr (List.mem_filterMap.mpr ⟨X.env, List.mem_cons_self, hf.trans (by rw [z])⟩)
    have nF : a ∉ X.fs := fun hm => by
      obtain ⟨en, he, q⟩ := List.mem_filterMap.mp hm
      exact nfr (List.mem_filterMap.mpr ⟨en, List.mem_cons_of_mem _ he, q⟩)
    have S3 := J3.suite he3 hd3 na nL nF
    have go : ∀ {g : List ExceptHandler} {l' : List (Value × Nat × (Addr → Value → Option Addr → TS))}, HdsN X g l' → wN X.K Wout D l' cls d σ' H' →
        wpAny (model X.prog X.w) X.A (handleBy (.ref a) X.env g) (SP X pins D) X.xe { s' with heap := h3 } := by
      intro g l' hk
      induction hk with
      | nil =>
        intro wi
        refine wpAny_handleBy_nil ?_
        obtain ⟨_, _, _, oe, vs, T, oT, ts', he, hz, hd, h1, _⟩ := id fl3
        unfold PySem.passOn
        refine wpAny_bind (wpAny_field he hd h1 ?_)
        rw [if_neg (by simp : ¬ ((Value.ref T == Value.none) = true))]
        have out : wpAny (model X.prog X.w) X.A (setFlight (.ref a) X.env.frame) (fun _ t4 => wpAny (model X.prog X.w) X.A (throw (.ref a) : Sem Flow) (SP X pins D) X.xe t4) X.xe { s' with heap := h3 } := by
          rw [hf]
          exact HandSPX.setFlight_upZ fl3 fun h4 hh4 up4 => wpAny_throw (tk _ _ ⟨a, B, sI, pins, σ', H', cls, d, rfl, J, nb, (up.trans up3).trans up4, .inr (.inr (by rw [hs]; exact hh4)), na, os, ag, wi⟩)
        first
          | exact wpAny_bind (wpAny_pure (wpAny_bind out))
          | exact wpAny_bind out
      | @cons x n c i ts b₀ suite np pos' g2 l2 hi hln hc hsu r ih =>
        intro wi
        obtain ⟨b, hb1, yes, no⟩ := wi
        refine wpAny_handleBy_cons (codeAny_handlers_test ?_) (fun q => by cases q)
        have LT : PySem.W.Looks (model X.prog X.w) h3 (typeOf (.ref a)) cls := fun A Q E t k q => wpAny_typeOf_ref (k _ _ he3) (hz3.1 ▸ q)
        have LM := PySem.W.exm_one (M := model X.prog X.w) (J3.kIn) LT hb1
        have test : ∀ {Q : Value → Shared → Prop} {E : Value → Shared → Prop}, Q c { s' with heap := h3 } → wpAny (model X.prog X.w) (X.A.mark (some (.ref a))) (eval (.Name x np) X.env) Q E { s' with heap := h3 } := fun {Q E} q => by
          obtain ⟨c1, c2, c3 | ⟨c3, c4, c5⟩⟩ := hc
          · exact ld_glob (X := X.suite a ((a, oe3) :: (X.pn ++ pins))) S3 c1 c3 q c2
          · exact ld_blt (X := X.suite a ((a, oe3) :: (X.pn ++ pins))) S3 c1 c3 c4 q c5 c2
        refine test (LM.here ?_)
        cases b with
        | true =>
          refine codeAny_handlers_suite_as (HandSPX.lands_againZ fl3 fun h4 fl4 up4 => ?_)
          have J4 : Inv X pins σ' H' { s' with heap := h4 } := J.landed nb fl4.1 ((up.trans up3).trans up4) os ag
          obtain ⟨oe4, vs4, he4, hz4, hd4⟩ := fl4.there
          have S4 := J4.suite he4 hd4 na nL nF
          refine store_ok (X := X.suite a ((a, oe4) :: (X.pn ++ pins))) (v := .ref a) S4 hN hi (.inl hln) rfl (fun s5 S5 => ?_) (.inr hln)
          refine wpAny_mono ((hsu a oe4 cls d (X.pn ++ pins) hz4 ⟨_, hd4⟩).run [] s5 _ H' _ S5 (yes rfl a na)) (fun fl t6 hsp => ?_) (fun _ _ z => z.elim)
          have fin : ∀ {σ6 : L2.St} {H6 : Hp} {Q : Shared → Prop}, Inv (X.suite a ((a, oe4) :: (X.pn ++ pins))) [] σ6 H6 t6 → (∀ t7, Inv X pins (σ6.set i none) H6 t7 → Q t7) →
              wpAny (model X.prog X.w) X.A (do bindName X.env n .none; unbindBehindTheSuite X.env n pos') (fun _ t7 => Q t7) X.xe t6 := fun {σ6 H6 Q} S6 hq => gone_ok (S6.unsuite ok) hN hi hln hq
          cases fl with
          | next =>
            obtain ⟨_, _, S6, q6⟩ := hsp
            exact fin S6 fun t7 J7 => ⟨_, _, J7, q6⟩
          | brk =>
            obtain ⟨_, _, S6, q6⟩ := hsp
            exact fin S6 fun t7 J7 => ⟨_, _, J7, q6⟩
          | cont =>
            obtain ⟨_, _, S6, q6⟩ := hsp
            exact fin S6 fun t7 J7 => ⟨_, _, J7, q6⟩
          | ret u =>
            obtain ⟨_, _, _, S6, r6, q6⟩ := hsp
            exact fin S6 fun t7 J7 => ⟨_, _, _, J7, r6, q6⟩
        | false => exact ih (no rfl)
    exact go hh wi
  · cases fl with
    | next =>
      obtain ⟨_, _, J1, q⟩ := hsp
      exact wpAny_execs_nil ⟨_, _, J1.ofTry ok, q⟩
    | brk =>
      obtain ⟨_, _, J1, q⟩ := hsp
      exact ⟨_, _, J1.ofTry ok, q⟩
    | cont =>
      obtain ⟨_, _, J1, q⟩ := hsp
      exact ⟨_, _, J1.ofTry ok, q⟩
    | ret u =>
      obtain ⟨_, _, _, J1, r, q⟩ := hsp
      exact ⟨_, _, _, J1.ofTry ok, r, q⟩⟩
end
end TT

set_option Elab.async false
set_option linter.all false
set_option maxRecDepth 100000
set_option maxHeartbeats 4000000
namespace TT
open PySem PySem.Spec PyProof.Rows L2
/-! ### raise and try, named -/
def tRaise (W : WX) (t : L2.St → Hp → XK → Prop) : TS := fun _ σ H => t σ H fun cls d H' => W cls d σ H'
theorem ps_rs {X : Cx} {W : WX} {e : Expr} {t : L2.St → Hp → XK → Prop} {pos : Pos} (hc : X.calm = true) (tk : Takes X W) (he : PMk X e t) : PS X (.Raise (some e) none pos) (tRaise W t) := ps_raise hc tk he
def tR0 (C : Addr) : L2.St → Hp → XK → Prop := fun _ H Q => Q (.ref C) none H
theorem pmk_n {X : Cx} {x : Str} {C : Addr} {p pos : Pos} (c : Rai0 X.K X.mg x C) (hg : Gl X x) (hd : (x == ("__debug__" : Str)) = false := by decide) : PMk X (.Call (.Name x p) [] [] pos) (tR0 C) := pmk_r0 c hg hd
def tTry (K : PySem.W.Frag) (Wout : WX) (l : List (Value × Nat × (Addr → Value → Option Addr → TS))) (tb : WX → TS) : TS := fun D σ H => tb (wN K Wout D l) D σ H
theorem ps_tr {X : Cx} {K : PySem.W.Frag} {body : List Stmt} {h₀ : ExceptHandler} {hds : List ExceptHandler} {l : List (Value × Nat × (Addr → Value → Option Addr → TS))} {pos : Pos} {tb : WX → TS} {Wout : WX} (hK : X.K = K) (hs : X.stack = X.env :: X.outer) (hf : X.env.frame = some X.env.locals) (hN : X.N.Nodup) (tk : Takes X Wout)
    (hb : ∀ (W : WX) (pn : List (Addr × Obj)) (xe : Value → Shared → Prop), Takes (X.tr pn xe) W → PassesOwn (model X.prog X.w) X.A X.env xe → PSs (X.tr pn xe) body (tb W))
    (hh : HdsN X (h₀ :: hds) l) : PS X (.Try body (h₀ :: hds) [] [] pos) (tTry K Wout l tb) := by subst hK; exact ps_tryN hs hf hN tk hb hh
theorem k_isX {X : Cx} {K : PySem.W.Frag} {a : Addr} {cls : Value} {d : Option Addr} {oe : Obj} {pn : List (Addr × Obj)} (hK : X.K = K) (hz : Zc cls d oe) (hf : ∃ vs, oe.data = .fields vs) : CallR (X.suite a ((a, oe) :: pn)) (.builtin "isinstance") (rIsX K cls d a) := by subst hK; exact call_isX hz hf
theorem k_xf {X : Cx} {K : PySem.W.Frag} {a C : Addr} {oe : Obj} {cls : Value} {d : Option Addr} {pn : List (Addr × Obj)} {e : Expr} {te : TE} {pos : Pos} {n : Str} (hK : X.K = K) (T : XfC K C) (hno : PySem.W.findIn K (.ref C) n = some none)
    (hz : Zc cls d oe) (hf : ∃ vs, oe.data = .fields vs) (he : PE (X.suite a ((a, oe) :: pn)) e te) (hb : attributeBase e n X.env (eval e X.env) = eval e X.env := by rfl) :
    PE (X.suite a ((a, oe) :: pn)) (.Attribute e n pos) (tXf a cls d C n te) := by subst hK; exact pe_xf T hno hz hf he hb
def tCOS (C : Addr) (sp : Sp) (E : L2.St → XK) (tf : TE) (t : TA) : TE := fun σ H Q => tf σ H fun y H1 => ∃ a, y = V.ref a ∧ t σ H1 fun vs H2 => (∃ dx fs, H2 a = some (.ins C dx fs)) ∧ sp (V.ref a :: vs) H2 Q (E σ)
theorem pe_coS {X : Cx} {C : Addr} {sp : Sp} {E : L2.St → XK} {k i : Nat} {fe e : Expr} {es : List Expr} {tf : TE} {t : TA} {pos : Pos} (c : Met X.prog X.w X.K X.mg X.base C "__call__" k sp) (fi : ∀ g, Meth X.K C "__call__" g → PySem.W.fnIn X.K g = true) (hr : Room i X.A) (hk : k ≤ i) (hx : PassS X E) (hf : PE X fe tf) (ha : PA X (e :: es) t)
    (h1 : eval (.Call fe (e :: es) [] pos) X.env = (eval fe X.env >>= fun z => callWith pos z [] (backTo pos (starEach (e :: es) X.env)) (backToKw pos (keywordEach [] X.env))) := by rfl)
    (h2 : starEach (e :: es) X.env = (false, eval e X.env) :: starEach es X.env := by rfl) (h3 : (backTo pos (starEach es X.env)).any (·.1) = false := by rfl) : PE X (.Call fe (e :: es) [] pos) (tCOS C sp E tf t) := ⟨fun pins s σ H Q I h => by
  obtain ⟨g, hm, F⟩ := c.ex
  refine Call_ (thn (hf.run pins s σ H _ I h) fun u s1 hh => ?_) h1
  obtain ⟨y, H1, I1, ry, a, ey, q⟩ := hh
  subst ey
  cases (show u = Value.ref a from ry)
  refine StX.callO_with (thn (ha.run pos pins s1 σ H1 _ I1 q) fun us s2 hh2 => ?_) h2 h3
  obtain ⟨vs, H2, I2, r, ⟨dx, fs, hi⟩, q2⟩ := hh2
  obtain ⟨ox, od, J, hd⟩ := StX.insC_at (C := C) I2 (.inr ⟨dx, fs, hi⟩)
  exact ⟨⟨C, ox, od, J, hd⟩, wpAny_call (PySem.W.kco_code I2.kIn J hd hm.at_ hm.fn (fi g hm) (run_s (us := .ref a :: us) (vs := .ref a :: vs) F (hr.mono hk) (hx σ) I2 (.cons rfl r) q2))⟩⟩
theorem g_cos {σ : L2.St} {H : Hp} {Q : VK} {C : Addr} {sp : Sp} {E : L2.St → XK} {tf : TE} {t : TA} (h : tf σ H fun y H1 => ∃ a, y = V.ref a ∧ t σ H1 fun vs H2 => (∃ dx fs, H2 a = some (.ins C dx fs)) ∧ sp (V.ref a :: vs) H2 Q (E σ)) : tCOS C sp E tf t σ H Q := h
section
variable {K : PySem.W.Frag} {σ : L2.St} {H H1 : Hp} {Q : VK} {QX : XK} {D : Ends} {t u : TS} {ta tb te : TE} {ts : TA} {i : Nat} {v x y : V} {a p b C : Addr} {sp : Sp} {E : L2.St → XK} {W Wout : WX} {cls : Value} {d : Option Addr}
theorem g_raise {t : L2.St → Hp → XK → Prop} (h : t σ H fun cls d H' => W cls d σ H') : tRaise W t D σ H := h
theorem g_r0 (h : QX (.ref C) none H) : tR0 C σ H QX := h
theorem g_oex (h : ts σ H fun vs H1 => rOex C sp vs H1 QX) : tOex C sp ts σ H QX := h
theorem g_try {l : List (Value × Nat × (Addr → Value → Option Addr → TS))} {tb : WX → TS} (h : tb (wN K Wout D l) D σ H) : tTry K Wout l tb D σ H := h
theorem g_FS (h : ts σ H fun vs H1 => sp vs H1 Q (E σ)) : tFS sp E ts σ H Q := h
theorem g_MS {m : Str} (h : ta σ H fun x H1 => ∃ a dx fs, x = .ref a ∧ H1 a = some (.ins C dx fs) ∧ fs.lookup m = none ∧ ts σ H1 fun vs H2 => sp (x :: vs) H2 Q (E σ)) : tMS C m sp E ta ts σ H Q := h
theorem g_KS (h : ts σ H fun vs H1 => rMk C sp (E σ) vs H1 Q) : tKS C sp E ts σ H Q := h
theorem g_SS (h : ta σ H fun x H1 => x = .ref C ∧ ts σ H1 fun vs H2 => sp vs H2 Q (E σ)) : tSS C sp E ta ts σ H Q := h
theorem g_BS (h : ta σ H fun x H1 => tb σ H1 fun y H2 => rOwnB C sp (E σ) x y H2 Q) : tBS C sp E ta tb σ H Q := h
/-- e.f, its class and its dict known -/
theorem g_xf {f : Str} {dd : Addr} {fs : List (Str × V)} (h : te σ H fun x H1 => x = .ref a ∧ ∃ fs v, H1 dd = some (.xd fs) ∧ fs.lookup f = some v ∧ Q v H1) (mono : ∀ R R' : VK, (∀ x H, R x H → R' x H) → te σ H R → te σ H R') : tXf a (.ref C) (some dd) C f te σ H Q :=
  mono _ _ (fun x H1 ⟨e, fs, v, h1, h2, q⟩ => ⟨e, rfl, dd, fs, v, rfl, h1, h2, q⟩) h
theorem g_xfv {f : Str} {dd : Addr} {fs : List (Str × V)} {i : Nat} (h1 : σ[i]? = some (some (.ref a))) (h2 : H dd = some (.xd fs)) (h3 : fs.lookup f = some v) (q : Q v H) : tXf a (.ref C) (some dd) C f (tVar i) σ H Q :=
  ⟨_, h1, rfl, rfl, dd, fs, v, rfl, h2, h3, q⟩
theorem g_xf1 {f : Str} {dd : Addr} {i : Nat} (h1 : σ[i]? = some (some (.ref a))) (h2 : H dd = some (.xd [(f, v)])) (q : Q v H) : tXf a (.ref C) (some dd) C f (tVar i) σ H Q :=
  g_xfv h1 h2 (by simp [List.lookup]) q
theorem g_gone {i : Nat} (h : D.nx (σ.set i none) H) : (gone D i).nx σ H := h
theorem a_isX {c : V} {u : Value} {b : Bool} (er : Err K C) (hd : ∀ dd, d = some dd → ∃ fs, H dd = some (.xd fs)) (k : ∀ z, RelV c z → z = u) (e : PySem.W.kitOne K (.ref C) u = some b) (q : Q (.bl b) H) : rIsX K (.ref C) d a [.ref a, c] H Q := ⟨C, c, u, b, rfl, er, rfl, hd, k, e, q⟩
theorem a_isX0 {D : Addr} {b : Bool} (er : Err K C) (e : PySem.W.kitOne K (.ref C) (.ref D) = some b) (q : Q (.bl b) H) : rIsX K (.ref C) none a [.ref a, .ref D] H Q := a_isX er (fun _ z => by cases z) (fun _ z => z) e q
theorem a_isX1 {D dd : Addr} {fs : List (Str × V)} {b : Bool} (er : Err K C) (h : H dd = some (.xd fs)) (e : PySem.W.kitOne K (.ref C) (.ref D) = some b) (q : Q (.bl b) H) : rIsX K (.ref C) (some dd) a [.ref a, .ref D] H Q :=
  a_isX er (fun _ z => by cases z; exact ⟨_, h⟩) (fun _ z => z) e q
theorem a_catch {c : Value} {i : Nat} {f : Addr → Value → Option Addr → TS} {r : List (Value × Nat × (Addr → Value → Option Addr → TS))} (e : PySem.W.exmOne K cls c = some true) (h : ∀ a, H a = none → f a cls d (gone D i) (σ.set i (some (.ref a))) H) : wN K Wout D ((c, i, f) :: r) cls d σ H :=
  ⟨true, e, fun _ => h, fun z => Bool.noConfusion z⟩
theorem a_skip {c : Value} {i : Nat} {f : Addr → Value → Option Addr → TS} {r : List (Value × Nat × (Addr → Value → Option Addr → TS))} (e : PySem.W.exmOne K cls c = some false) (h : wN K Wout D r cls d σ H) : wN K Wout D ((c, i, f) :: r) cls d σ H :=
  ⟨false, e, fun z => Bool.noConfusion z, fun _ => h⟩
theorem a_nite {c A B : Prop} [Decidable c] (h1 : ¬ c → A) (h2 : c → B) : if (!decide c) = true then A else B := by
  by_cases h : c
  · rw [decide_eq_true h]
    exact h2 h
  · rw [decide_eq_false h]
    exact h1 h
end
/-! ### weaker promises -/
section
variable {P : Program} {w : World} {K : PySem.W.Frag} {mg : Str → Option Value} {base : Heap} {x m : Str} {C : Addr} {k : Nat} {sp sp' : Sp}
theorem Cal.imp (c : Cal P w K mg base x k sp) (h : ∀ vs H Q E, sp' vs H Q E → sp vs H Q E) : Cal P w K mg base x k sp' := let ⟨f, a, b, F⟩ := c.ex; ⟨f, a, b, F.imp h⟩
theorem Met.imp (c : Met P w K mg base C m k sp) (h : ∀ vs H Q E, sp' vs H Q E → sp vs H Q E) : Met P w K mg base C m k sp' := let ⟨f, a, F⟩ := c.ex; ⟨c.cl, f, a, F.imp h⟩
theorem Mak.imp (c : Mak P w K mg base x C k sp) (h : ∀ vs H Q E, sp' vs H Q E → sp vs H Q E) : Mak P w K mg base x C k sp' := let ⟨f, a, F⟩ := c.ex; ⟨c.at_, f, a, F.imp h⟩
theorem Sta.imp (c : Sta P w K mg base C m k sp) (h : ∀ vs H Q E, sp' vs H Q E → sp vs H Q E) : Sta P w K mg base C m k sp' := let ⟨p, f, a, b, d, F⟩ := c.ex; ⟨c.rd, c.ga, p, f, a, b, d, F.imp h⟩
theorem rai_of {q : Str} {st : Stmt} {f : Addr} {fd : FuncData} {ps : List Str} {ks : List (Str × V)} (F : FX K "__init__" q st [] ks f fd) (hm : mg x = some (.ref C)) (er : Err K C) (i1 : PySem.W.findIn K (.ref C) "__init__" = some (some (.ref f))) (i2 : PySem.W.typeIn K (.ref f) = some (.type "function"))
    (G : FnOk P w K mg base (L2.CX P w) k f fd ps sp)
    (b : ∀ (kV doc pm : Value) (an : Option Addr) (cdv ct : Value) (us : List Value), us.length = ps.length → bindArgs (PySem.W.fnOf "__init__" q (defArgs st) (defBody st) (defScope st) .none kV doc pm an cdv ct) ⟨us, []⟩ = pure (ps.zip us)) :
    Rai P w K mg base x C k sp := ⟨hm, er, f, fd, ps, i1, i2, G, F.bindsN b⟩
end
end TT

set_option Elab.async false
set_option linter.all false
set_option maxRecDepth 100000
set_option maxHeartbeats 4000000
namespace TT
open PySem PySem.Spec PyProof.Rows L2
/-! ### data of small depth, that can be compared -/
structure Sm (n : Nat) (d : PyData) : Prop where
  lay : d.canLay0 = true
  dep : d.depth ≤ n
def SmA (n : Nat) (ds : List PyData) : Prop := PyData.canLayAll0 ds = true ∧ PyData.depthAll ds ≤ n
theorem Sm.le {n m : Nat} {d : PyData} (h : Sm n d) (l : n ≤ m) : Sm m d := ⟨h.lay, Nat.le_trans h.dep l⟩
theorem Sm.sh {n : Nat} {d : PyData} (h : Sm n d) (l : n ≤ 64 := by decide) : SeqAt.shaped d = true := by
  unfold SeqAt.shaped
  rw [h.lay, decide_eq_true (Nat.le_trans h.dep l)]
  rfl
theorem SmA.nil {n : Nat} : SmA n [] := ⟨by simp [PyData.canLayAll0], by simp [PyData.depthAll]⟩
theorem SmA.cons {n : Nat} {d : PyData} {ds : List PyData} (h : Sm n d) (t : SmA n ds) : SmA n (d :: ds) := ⟨by simp [PyData.canLayAll0, h.lay, t.1], by
  have h1 := h.dep
  have h2 := t.2
  simp only [PyData.depthAll]
  omega⟩
theorem SmA.of {n : Nat} : ∀ {ds : List PyData}, (∀ d ∈ ds, Sm n d) → SmA n ds
  | [], _ => .nil
  | d :: ds, h => .cons (h d (List.mem_cons_self ..)) (SmA.of fun e he => h e (List.mem_cons_of_mem _ he))
theorem Sm.int {n : Nat} (i : Int) : Sm (n + 1) (.int i) := ⟨by simp [PyData.canLay0], by simp [PyData.depth]⟩
theorem Sm.bl {n : Nat} (b : Bool) : Sm (n + 1) (.bool b) := ⟨by simp [PyData.canLay0], by simp [PyData.depth]⟩
theorem Sm.non {n : Nat} : Sm (n + 1) .none := ⟨by simp [PyData.canLay0], by simp [PyData.depth]⟩
theorem Sm.str {n : Nat} (x : Str) (h : PyData.strOk x = true) : Sm (n + 1) (.str x) := ⟨by simp [PyData.canLay0, h], by simp [PyData.depth]⟩
theorem Sm.tup {n : Nat} {ds : List PyData} (h : SmA n ds) : Sm (n + 1) (.tuple ds) := ⟨by simp [PyData.canLay0, h.1], by
  have h2 := h.2
  simp only [PyData.depth]
  omega⟩
theorem Sm.lst {n : Nat} {ds : List PyData} (h : SmA n ds) : Sm (n + 1) (.list ds) := ⟨by simp [PyData.canLay0, h.1], by
  have h2 := h.2
  simp only [PyData.depth]
  omega⟩
/-- a value that reads as small data -/
structure Dq (K : PySem.W.Frag) (H : Hp) (n : Nat) (v : V) (d : PyData) : Prop where
  dp : Dp K H v d
  sm : Sm n d
structure DqA (K : PySem.W.Frag) (H : Hp) (n : Nat) (vs : List V) (ds : List PyData) : Prop where
  dp : DpAll K H vs ds
  sm : SmA n ds
section
variable {K : PySem.W.Frag} {H H1 : Hp} {n : Nat} {v x y : V} {vs : List V} {d e : PyData} {ds : List PyData} {a : Addr} {Q : VK}
theorem DqA.nil : DqA K H n [] [] := ⟨.nil, .nil⟩
theorem DqA.cons (h : Dq K H n v d) (t : DqA K H n vs ds) : DqA K H n (v :: vs) (d :: ds) := ⟨.cons h.dp t.dp, .cons h.sm t.sm⟩
theorem Dq.int (i : Int) : Dq K H (n + 1) (.int i) (.int i) := ⟨.int i, .int i⟩
theorem Dq.bl (b : Bool) : Dq K H (n + 1) (.bl b) (.bool b) := ⟨.bl b, .bl b⟩
theorem Dq.non : Dq K H (n + 1) .non .none := ⟨.non, .non⟩
theorem Dq.str (x : Str) (h : PyData.strOk x = true) : Dq K H (n + 1) (.str x) (.str x) := ⟨.str x, .str x h⟩
theorem Dq.tup (h : SqT K H a vs) (t : DqA K H n vs ds) : Dq K H (n + 1) (.ref a) (.tuple ds) := ⟨.tup h t.dp, .tup t.sm⟩
theorem Dq.lst (h : SqL K H a vs) (t : DqA K H n vs ds) : Dq K H (n + 1) (.ref a) (.list ds) := ⟨.lst h t.dp, .lst t.sm⟩
theorem Dq.same (h : Dq K H n v d) (s : Same H H1) : Dq K H1 n v d := ⟨same_d s d h.dp, h.sm⟩
/-- == and != of what is the same -/
theorem a_eqQ (hx : Dq K H n x d) (hy : Dq K H n y d) (q : Q (.bl true) H) (l : n ≤ 64 := by decide) : rEqU K x y H Q := by
  refine a_eqD hx.dp hy.dp (hx.sm.sh l) (hy.sm.sh l) ?_
  rw [SeqAt.eqv_refl d hx.sm.lay]
  exact q
theorem a_neQ (hx : Dq K H n x d) (hy : Dq K H n y d) (q : Q (.bl false) H) (l : n ≤ 64 := by decide) : rNeU K x y H Q := by
  refine a_neD hx.dp hy.dp (hx.sm.sh l) (hy.sm.sh l) ?_
  rw [SeqAt.eqv_refl d hx.sm.lay]
  exact q
end
def zd (zs : List Int) : List PyData := zs.map .int
def zi (zs : List Int) : List V := zs.map V.int
theorem dqz {K : PySem.W.Frag} {H : Hp} {n : Nat} : ∀ zs : List Int, DqA K H (n + 1) (zi zs) (zd zs)
  | [] => .nil
  | z :: zs => .cons (.int z) (dqz zs)
theorem zi_len (zs : List Int) : (zi zs).length = zs.length := List.length_map ..
theorem zi_get {zs : List Int} {i : Nat} {y : V} (h : (zi zs)[i]? = some y) : ∃ hi : i < zs.length, y = .int zs[i] := by
  unfold zi at h
  rw [List.getElem?_map] at h
  by_cases hi : i < zs.length
  · rw [List.getElem?_eq_getElem hi] at h
    exact ⟨hi, (Option.some.inj h).symm⟩
  · rw [List.getElem?_eq_none (by omega)] at h
    cases h
theorem zi_at {zs : List Int} {i : Nat} (h : i < zs.length) : (zi zs)[i]? = some (.int zs[i]) := by
  unfold zi
  rw [List.getElem?_map, List.getElem?_eq_getElem h]
  rfl
def ni (a : List Nat) : List Int := a.map fun n : Nat => (n : Int)
theorem zi_ni (a : List Nat) : zi (ni a) = vi a := by
  unfold zi ni vi
  rw [List.map_map]
  rfl
theorem ni_inj {a b : List Nat} (h : ni a = ni b) : a = b := by
  have := congrArg (List.map Int.toNat) h
  simpa [ni, List.map_map, Function.comp_def] using this
theorem ni_len (a : List Nat) : (ni a).length = a.length := List.length_map ..
end TT

set_option Elab.async false
set_option linter.all false
set_option maxRecDepth 100000
set_option maxHeartbeats 4000000
namespace TT
open PySem PySem.Spec PyProof.Rows L2
theorem k_sortI {X : Cx} {K : PySem.W.Frag} (hK : X.K = K) : CallR X (.builtin "sorted") (rSortedI K) := by subst hK; exact cr_sortedI
section
variable {K : PySem.W.Frag} {H : Hp} {Q : VK} {p : Addr} {zs : List Int}
theorem a_sortI (h : SqL K H p (zi zs)) (q : ∀ ws l H2, List.Perm ws zs → ws.Pairwise (· ≤ ·) → H l = none → Same H H2 → H2 l = some (.lst (zi ws)) → Q (.ref l) H2) : rSortedI K [.ref p] H Q :=
  ⟨p, zs, rfl, h, fun ws l pm so hl => q ws l _ pm so hl (same_new hl) upd_same⟩
theorem a_rep {xs : List V} {k : Int} (h : H p = some (.lst xs)) (k0 : 0 ≤ k) (k1 : (xs.length : Int) * k ≤ 100000) (k2 : k ≤ 100000) (q : ∀ l H2, H l = none → Same H H2 → H2 l = some (.lst (List.replicate k.toNat xs).flatten) → Q (.ref l) H2) : rMulU K (.ref p) (.int k) H Q :=
  .inr ⟨p, k, xs, rfl, rfl, h, by omega, by omega, by
    rw [sizeLine_eq]
    have : ((xs.length * k.toNat : Nat) : Int) ≤ 100000 := by
      rw [Int.natCast_mul, Int.toNat_of_nonneg k0]
      exact k1
    omega, fun l hl => q l _ hl (same_new hl) upd_same⟩
end
/-- two ways that meet again -/
theorem a_meet {α : Type} {c A B : Prop} [Decidable c] {R J : α → Hp → Prop} (h1 : c → (∀ v H, J v H → R v H) → A) (h2 : ¬ c → (∀ v H, J v H → R v H) → B) (fin : ∀ v H, J v H → R v H) : if decide c = true then A else B := a_ite (fun h => h1 h fin) fun h => h2 h fin
theorem a_nmeet {α : Type} {c A B : Prop} [Decidable c] {R J : α → Hp → Prop} (h1 : ¬ c → (∀ v H, J v H → R v H) → A) (h2 : c → (∀ v H, J v H → R v H) → B) (fin : ∀ v H, J v H → R v H) : if (!decide c) = true then A else B := a_nite (fun h => h1 h fin) fun h => h2 h fin
theorem eqv_zd : ∀ a b : List Int, PyData.eqvAll (zd a) (zd b) = decide (a = b)
  | [], [] => by simp [zd, PyData.eqvAll]
  | [], _ :: _ => by simp [zd, PyData.eqvAll]
  | _ :: _, [] => by simp [zd, PyData.eqvAll]
  | n :: a, m :: b => by
    have ih := eqv_zd a b
    simp only [zd, List.map_cons, PyData.eqvAll, PyData.eqv] at ih ⊢
    rw [ih]
    by_cases h : n = m
    · subst h
      simp
    · have h' : (n == m) = false := by
        rw [beq_eq_false_iff_ne]
        exact h
      rw [h']
      simp [h]
section
variable {K : PySem.W.Frag} {H : Hp} {n : Nat} {x y : V} {Q : VK} {a b : List Int}
theorem a_eqZ {p q : Addr} (hx : SqL K H p (zi a)) (hy : SqL K H q (zi b)) (k : Q (.bl (decide (a = b))) H) : rEqU K (.ref p) (.ref q) H Q := by
  have d1 : Dq K H 2 (.ref p) (.list (zd a)) := .lst hx (dqz a)
  have d2 : Dq K H 2 (.ref q) (.list (zd b)) := .lst hy (dqz b)
  refine a_eqD d1.dp d2.dp d1.sm.sh d2.sm.sh ?_
  have e : PyData.eqv (.list (zd a)) (.list (zd b)) = decide (a = b) := by
    simp only [PyData.eqv]
    exact eqv_zd a b
  rw [e]
  exact k
theorem a_neZ {p q : Addr} (hx : SqL K H p (zi a)) (hy : SqL K H q (zi b)) (k : Q (.bl (!decide (a = b))) H) : rNeU K (.ref p) (.ref q) H Q := by
  have d1 : Dq K H 2 (.ref p) (.list (zd a)) := .lst hx (dqz a)
  have d2 : Dq K H 2 (.ref q) (.list (zd b)) := .lst hy (dqz b)
  refine a_neD d1.dp d2.dp d1.sm.sh d2.sm.sh ?_
  have e : PyData.eqv (.list (zd a)) (.list (zd b)) = decide (a = b) := by
    simp only [PyData.eqv]
    exact eqv_zd a b
  rw [e]
  exact k
end
theorem sorted_uniq : ∀ {a b : List Int}, List.Perm a b → a.Pairwise (· ≤ ·) → b.Pairwise (· ≤ ·) → a = b
  | [], b, h, _, _ => by rw [List.nil_perm.mp h]
  | x :: a, [], h, _, _ => by cases List.perm_nil.mp h
  | x :: a, y :: b, h, ha, hb => by
    obtain ⟨hx, ha'⟩ := List.pairwise_cons.mp ha
    obtain ⟨hy, hb'⟩ := List.pairwise_cons.mp hb
    have e : x = y := by
      have h1 : x ∈ y :: b := h.mem_iff.mp (List.mem_cons_self ..)
      have h2 : y ∈ x :: a := h.mem_iff.mpr (List.mem_cons_self ..)
      have l1 : y ≤ x := by
        rcases List.mem_cons.mp h1 with e | m
        · omega
        · exact hy _ m
      have l2 : x ≤ y := by
        rcases List.mem_cons.mp h2 with e | m
        · omega
        · exact hx _ m
      omega
    subst e
    rw [sorted_uniq (List.Perm.cons_inv h) ha' hb']
theorem range_sorted (n : Nat) : (ni (List.range n)).Pairwise (· ≤ ·) := by
  unfold ni
  rw [List.pairwise_map]
  exact List.Pairwise.imp (fun h => by omega) (List.pairwise_lt_range (n := n))
end TT

set_option Elab.async false
set_option linter.all false
set_option maxRecDepth 100000
set_option maxHeartbeats 4000000
namespace TT
open PySem PySem.Spec PyProof.Rows L2
/-! ### a list or a tuple -/
def Seq (K : PySem.W.Frag) (H : Hp) (a : Addr) (xs : List V) : Prop := SqL K H a xs ∨ SqT K H a xs
theorem Seq.same {K : PySem.W.Frag} {H H1 : Hp} {a : Addr} {xs : List V} (h : Seq K H a xs) (s : Same H H1) : Seq K H1 a xs := h.elim (fun h => .inl (same_l s h)) fun h => .inr (same_t s h)
theorem a_lenS {K : PySem.W.Frag} {H : Hp} {p : Addr} {ys : List V} {Q : VK} (h : Seq K H p ys) (q : Q (.int ys.length) H) : rLenU K [.ref p] H Q := ⟨p, ys, rfl, h, q⟩
def rIter (K : PySem.W.Frag) (x : V) (H1 : Hp) (R : It → Hp → Prop) : Prop := ∃ a, x = .ref a ∧ (((∃ xs, SqL K H1 a xs) ∧ R (Itl K a) H1) ∨ ((∃ xs, SqT K H1 a xs) ∧ R (Itt K a) H1))
def iSeq (K : PySem.W.Frag) (tl : TE) : TI := fun σ H R => tl σ H fun x H1 => rIter K x H1 R
theorem pi_seq {X : Cx} {tg l : Expr} {tl : TE} {K : PySem.W.Frag} (hK : X.K = K) (hl : PE X l tl) : PI X tg l (iSeq K tl) := ⟨fun pins s σ H R I h => by
  subst hK
  refine thn (hl.run pins s σ H _ I h) fun v s1 hh => ?_
  obtain ⟨x, H1, J, r, a, ex, w⟩ := hh
  subst ex
  cases (show v = Value.ref a from r)
  have fp : ∀ b ∈ [s1.heap.objs.size], FpOk X pins H1 b := fun b hb => by
    obtain rfl : b = s1.heap.objs.size := List.mem_singleton.mp hb
    exact J.fpOk (Nat.le_refl _) (J.hok.fresh (Nat.le_refl _))
  rcases w with ⟨⟨xs, hq⟩, q⟩ | ⟨⟨xs, hq⟩, q⟩
  · obtain ⟨its, _, pl, _⟩ := J.list hq
    exact wpAny_pyIter_list pl.isList ⟨_, [s1.heap.objs.size], _, _, H1, rfl, J.kept (t' := s1.toks) fun b o z => Heap.get?_push_of_some _ z, turn_list a _, ⟨_, Heap.get?_push_size _ rfl, rfl, rfl⟩, fp, q⟩
  · obtain ⟨its, _, pl, _⟩ := J.tuple hq
    exact wpAny_pyIter_tuple (show s1.heap.IsTuple a its.toArray from pl) ⟨_, [s1.heap.objs.size], _, _, H1, rfl, J.kept (t' := s1.toks) fun b o z => Heap.get?_push_of_some _ z, turn_tuple a _, ⟨_, Heap.get?_push_size _ rfl, rfl, rfl⟩, fp, q⟩⟩
section
variable {K : PySem.W.Frag} {σ : L2.St} {H : Hp} {Q : VK} {a : Addr} {xs : List V} {j : Nat} {te : TE}
theorem g_iSeq {tl : TE} {R : It → Hp → Prop} (h : tl σ H fun x H1 => rIter K x H1 R) : iSeq K tl σ H R := h
theorem a_iter {R : It → Hp → Prop} (h : Seq K H a xs) (q : ∀ J, Walk J xs.length (fun H' => Same H H') (YAt xs) → R J H) : rIter K (.ref a) H R := by
  refine ⟨a, rfl, ?_⟩
  rcases h with h | h
  · exact .inl ⟨⟨xs, h⟩, q _ (walk_list.mono (fun H' s => same_l s h) fun _ _ _ _ _ _ y => y)⟩
  · exact .inr ⟨⟨xs, h⟩, q _ (walk_tup.mono (fun H' s => same_t s h) fun _ _ _ _ _ _ y => y)⟩
end
theorem sqt_but {K : PySem.W.Frag} {H H1 : Hp} {D t : Addr} {xs ys : List V} (hD : H D = some (.lst ys)) (b : But D H H1) (h : SqT K H t xs) : SqT K H1 t xs := by
  rcases h with (h | ⟨o, h⟩) | h
  · exact .inl (.inl (b _ _ (ne_of h hD (by intro z; cases z)) h))
  · exact .inl (.inr ⟨o, b _ _ (ne_of h hD (by intro z; cases z)) h⟩)
  · exact .inr h
theorem sqt_butI {K : PySem.W.Frag} {H H1 : Hp} {D C dx t : Addr} {fs : List (Str × V)} {xs : List V} (hD : H D = some (.ins C dx fs)) (b : But D H H1) (h : SqT K H t xs) : SqT K H1 t xs := by
  rcases h with (h | ⟨o, h⟩) | h
  · exact .inl (.inl (b _ _ (ne_of h hD (by intro z; cases z)) h))
  · exact .inl (.inr ⟨o, b _ _ (ne_of h hD (by intro z; cases z)) h⟩)
  · exact .inr h
theorem sql_but {K : PySem.W.Frag} {H H1 : Hp} {D C dx t : Addr} {fs : List (Str × V)} {xs : List V} (hD : H D = some (.ins C dx fs)) (b : But D H H1) (h : SqL K H t xs) : SqL K H1 t xs := by
  rcases h with (h | ⟨o, h⟩) | h
  · exact .inl (.inl (b _ _ (ne_of h hD (by intro z; cases z)) h))
  · exact .inl (.inr ⟨o, b _ _ (ne_of h hD (by intro z; cases z)) h⟩)
  · exact .inr h
/-! ### comprehensions whose items are new objects: P D k v H, the k-th item v, D the list that grows -/
section
variable {K : PySem.W.Frag} {J : It} {n j : Nat} {G : Hp → Prop} {Y : Nat → Hp → V → Hp → Prop} {σ : L2.St} {H H1 : Hp} {te : TE} {Q : VK} {P : Addr → Nat → V → Hp → Prop} {xs : List V}
structure Stb (P : Addr → Nat → V → Hp → Prop) : Prop where
  same : ∀ {D k v H H'}, Same H H' → P D k v H → P D k v H'
  but : ∀ {D k v H H' ys}, H D = some (.lst ys) → But D H H' → P D k v H → P D k v H'
theorem lc_p (w : Walk J n G Y) (st : Stb P) (hn : n ≤ 100000) (hG : ∀ H', Same H1 H' → G H')
    (hs : ∀ D acc i x H' H2, i < n → H1 D = none → Same H1 H' → H' D = some (.lst acc) → Y i H' x H2 → Same H' H2 ∧ ∀ R : VK, (∀ v H4, Same H2 H4 → P D i v H4 → R v H4) → te ((σ.set j none).set j (some x)) H2 R)
    (hd : ∀ D acc H', H1 D = none → Same H1 H' → H' D = some (.lst acc) → acc.length = n → (∀ k v, acc[k]? = some v → P D k v H') → Q (.ref D) H') :
    ∀ D, H1 D = none → ∃ W : Nat → Nat → Hp → Prop, (∃ m, W 0 m (upd H1 D (.lst []))) ∧ ∀ i m H, W i m H →
      (J.stop i H ∧ Q (.ref D) H) ∨ (J.go i H ∧ ∃ Nx : Hp → Prop, (∀ H', Nx H' → ∃ m', m' < m ∧ W (i + 1) m' H') ∧ ∀ x H', J.yld i H x H' → gName j x (wipe σ [j]) H' fun σ2 H2 => wipe σ2 [j] = wipe σ [j] ∧ tYes σ2 H2 fun b H3 =>
        if b = true then te σ2 H3 fun y H4 => ∃ acc, H4 D = some (.lst acc) ∧ acc.length < sizeLine ∧ Nx (upd H4 D (.lst (acc ++ [y]))) else Nx H3) := by
  intro D hD
  refine lc_it w (fun i H' => ∃ acc, Same H1 H' ∧ H' D = some (.lst acc) ∧ acc.length = i ∧ ∀ k v, acc[k]? = some v → P D k v H') ⟨[], same_new hD, upd_same, rfl, fun k v z => by simp at z⟩ (fun i H' _ ⟨_, q, _⟩ => hG H' q) ?_ fun H' ⟨acc, q1, q2, q3, q4⟩ => hd D acc H' hD q1 q2 q3 q4
  rintro i x H' H2 hi ⟨acc, q1, q2, q3, q4⟩ hy
  obtain ⟨s2, hte⟩ := hs D acc i x H' H2 hi hD q1 q2 hy
  refine ⟨set_none σ j (some x), ?_⟩
  unfold tYes
  dsimp only
  rw [if_pos rfl]
  refine hte _ fun v H4 s4 hP => ?_
  have e4 := s4 _ _ (s2 _ _ q2)
  refine ⟨acc, e4, szl (by omega), acc ++ [v], same_mut ((q1.trans s2).trans s4) hD, upd_same, by rw [List.length_append, q3]; rfl, fun k u hk => ?_⟩
  by_cases hl : k < acc.length
  · rw [List.getElem?_append_left hl] at hk
    exact st.but e4 But.upd (st.same (s2.trans s4) (q4 k u hk))
  · rw [List.getElem?_append_right (by omega)] at hk
    have e0 : k - acc.length = 0 := by
      have := (List.getElem?_eq_some_iff.mp hk).1
      simp at this
      omega
    rw [e0] at hk
    cases Option.some.inj hk
    have ek : k = i := by omega
    subst ek
    exact st.but e4 But.upd hP
theorem c_sp {tl : TE} (st : Stb P) (hn : xs.length ≤ 100000) (hl : ∀ R : VK, (∀ a H1, Same H H1 → Seq K H1 a xs → R (.ref a) H1) → tl σ H R)
    (hs : ∀ D acc i x H', H D = none → xs[i]? = some x → Same H H' → H' D = some (.lst acc) → ∀ R : VK, (∀ v H4, Same H' H4 → P D i v H4 → R v H4) → te ((σ.set j none).set j (some x)) H' R)
    (hd : ∀ D acc H', H D = none → Same H H' → H' D = some (.lst acc) → acc.length = xs.length → (∀ k v, acc[k]? = some v → P D k v H') → Q (.ref D) H') : tLc (iSeq K tl) (gName j) tYes te [j] σ H Q := by
  refine hl _ fun a H1 s1 h => a_iter h fun J w => lc_p w st hn (fun H' s => s) (fun D acc i x H' H2 hi hD s hacc y => ?_) fun D acc H' nD s e1 e2 e3 => hd D acc H' (s1.free nD) (s1.trans s) e1 e2 e3
  obtain ⟨rfl, e⟩ := y
  exact ⟨Same.refl _, hs D acc i x _ (s1.free hD) e (s1.trans s) hacc⟩
theorem c_lp {tl : TE} (st : Stb P) (hn : xs.length ≤ 100000) (hl : ∀ R : VK, (∀ a H1, Same H H1 → SqL K H1 a xs → R (.ref a) H1) → tl σ H R)
    (hs : ∀ D acc i x H', H D = none → xs[i]? = some x → Same H H' → H' D = some (.lst acc) → ∀ R : VK, (∀ v H4, Same H' H4 → P D i v H4 → R v H4) → te ((σ.set j none).set j (some x)) H' R)
    (hd : ∀ D acc H', H D = none → Same H H' → H' D = some (.lst acc) → acc.length = xs.length → (∀ k v, acc[k]? = some v → P D k v H') → Q (.ref D) H') : tLc (iList K tl) (gName j) tYes te [j] σ H Q := by
  refine hl _ fun a H1 s1 h => ⟨a, rfl, ⟨xs, h⟩, lc_p walk_list st hn (fun H' s => same_l s h) (fun D acc i x H' H2 hi hD s hacc y => ?_) fun D acc H' nD s e1 e2 e3 => hd D acc H' (s1.free nD) (s1.trans s) e1 e2 e3⟩
  obtain ⟨rfl, e⟩ := y
  exact ⟨Same.refl _, hs D acc i x _ (s1.free hD) e (s1.trans s) hacc⟩
end
/-! ### pairs of ints, rows of pairs, lists of rows -/
abbrev Pr := Int × Int
def PairAt (K : PySem.W.Frag) (H : Hp) (v : V) (x : Pr) : Prop := ∃ q, v = .ref q ∧ SqT K H q [.int x.1, .int x.2]
def PairsIn (K : PySem.W.Frag) (H : Hp) (ys : List V) (ps : List Pr) : Prop := ys.length = ps.length ∧ ∀ (k : Nat) v x, ys[k]? = some v → ps[k]? = some x → PairAt K H v x
def PairsAt (K : PySem.W.Frag) (H : Hp) (v : V) (ps : List Pr) : Prop := ∃ q ys, v = .ref q ∧ Seq K H q ys ∧ PairsIn K H ys ps
def LinesIn (K : PySem.W.Frag) (H : Hp) (ys : List V) (ls : List (List Pr)) : Prop := ys.length = ls.length ∧ ∀ (k : Nat) v x, ys[k]? = some v → ls[k]? = some x → PairsAt K H v x
section
variable {K : PySem.W.Frag} {H H1 : Hp} {v : V} {x : Pr} {ys : List V} {ps : List Pr} {ls : List (List Pr)}
theorem PairAt.same (h : PairAt K H v x) (s : Same H H1) : PairAt K H1 v x := let ⟨q, e, h⟩ := h; ⟨q, e, same_t s h⟩
theorem PairAt.but {D : Addr} {zs : List V} (hD : H D = some (.lst zs)) (b : But D H H1) (h : PairAt K H v x) : PairAt K H1 v x := let ⟨q, e, h⟩ := h; ⟨q, e, sqt_but hD b h⟩
theorem PairsIn.same (h : PairsIn K H ys ps) (s : Same H H1) : PairsIn K H1 ys ps := ⟨h.1, fun k v x a b => (h.2 k v x a b).same s⟩
theorem PairsIn.but {D : Addr} {zs : List V} (h : PairsIn K H ys ps) (hD : H D = some (.lst zs)) (b : But D H H1) : PairsIn K H1 ys ps := ⟨h.1, fun k v x e f => (h.2 k v x e f).but hD b⟩
theorem PairsAt.same (h : PairsAt K H v ps) (s : Same H H1) : PairsAt K H1 v ps := let ⟨q, ys, e, h1, h2⟩ := h; ⟨q, ys, e, h1.same s, h2.same s⟩
theorem LinesIn.same (h : LinesIn K H ys ls) (s : Same H H1) : LinesIn K H1 ys ls := ⟨h.1, fun k v x a b => (h.2 k v x a b).same s⟩
theorem PairAt.butI {D C dx : Addr} {fs : List (Str × V)} (hD : H D = some (.ins C dx fs)) (b : But D H H1) (h : PairAt K H v x) : PairAt K H1 v x := let ⟨q, e, h⟩ := h; ⟨q, e, sqt_butI hD b h⟩
theorem PairsIn.butI {D C dx : Addr} {fs : List (Str × V)} (h : PairsIn K H ys ps) (hD : H D = some (.ins C dx fs)) (b : But D H H1) : PairsIn K H1 ys ps := ⟨h.1, fun k v x e f => (h.2 k v x e f).butI hD b⟩
theorem LinesIn.but {D C dx : Addr} {fs : List (Str × V)} (h : LinesIn K H ys ls) (hD : H D = some (.ins C dx fs)) (b : But D H H1) : LinesIn K H1 ys ls := ⟨h.1, fun k v x e f => by
  obtain ⟨q, zs, e1, h1, h2⟩ := h.2 k v x e f
  exact ⟨q, zs, e1, h1.elim (fun h => .inl (sql_but hD b h)) (fun h => .inr (sqt_butI hD b h)), h2.butI hD b⟩⟩
def prD (x : Pr) : PyData := .tuple [.int x.1, .int x.2]
def psD (ps : List Pr) : List PyData := ps.map prD
def lsD (ls : List (List Pr)) : List PyData := ls.map fun ps => .tuple (psD ps)
theorem PairAt.dq {n : Nat} (h : PairAt K H v x) : Dq K H (n + 2) v (prD x) := by
  obtain ⟨q, rfl, h⟩ := h
  exact .tup h (.cons (.int _) (.cons (.int _) .nil))
/-- all items, one by one -/
theorem dqa {α : Type} {n : Nat} (f : α → PyData) : ∀ {ys : List V} {xs : List α}, ys.length = xs.length → (∀ (k : Nat) v x, ys[k]? = some v → xs[k]? = some x → Dq K H n v (f x)) → DqA K H n ys (xs.map f)
  | [], [], _, _ => .nil
  | [], _ :: _, e, _ => by cases e
  | _ :: _, [], e, _ => by cases e
  | y :: ys, x :: xs, e, h => .cons (h 0 y x rfl rfl) (dqa f (Nat.succ.inj e) fun k v z a b => h (k + 1) v z a b)
theorem PairsIn.dq {n : Nat} (h : PairsIn K H ys ps) : DqA K H (n + 2) ys (psD ps) := dqa prD h.1 fun k v x a b => (h.2 k v x a b).dq
end
end TT

set_option Elab.async false
set_option linter.all false
set_option maxRecDepth 100000
set_option maxHeartbeats 4000000
namespace TT
open PySem PySem.Spec PyProof.Rows L2
/-! ### two lists, item by item -/
def Par {α β : Type} (R : α → β → Prop) (ys : List α) (xs : List β) : Prop := ys.length = xs.length ∧ ∀ (k : Nat) v x, ys[k]? = some v → xs[k]? = some x → R v x
section
variable {α β : Type} {R R' : α → β → Prop} {ys zs : List α} {xs ws : List β}
theorem Par.mono (h : Par R ys xs) (m : ∀ v x, R v x → R' v x) : Par R' ys xs := ⟨h.1, fun k v x a b => m v x (h.2 k v x a b)⟩
theorem Par.nil : Par R [] [] := ⟨rfl, fun k v x a => by simp at a⟩
theorem Par.one {y : α} {x : β} (h : R y x) : Par R [y] [x] := ⟨rfl, fun k v z a b => by
  have hk : k = 0 := by
    have := (List.getElem?_eq_some_iff.mp a).1
    simp at this
    omega
  subst hk
  cases Option.some.inj a
  cases Option.some.inj b
  exact h⟩
theorem Par.append (h : Par R ys xs) (h' : Par R zs ws) : Par R (ys ++ zs) (xs ++ ws) := ⟨by rw [List.length_append, List.length_append, h.1, h'.1], fun k v x a b => by
  by_cases hk : k < ys.length
  · rw [List.getElem?_append_left hk] at a
    rw [List.getElem?_append_left (by rw [← h.1]; exact hk)] at b
    exact h.2 k v x a b
  · rw [List.getElem?_append_right (by omega)] at a
    rw [List.getElem?_append_right (by rw [← h.1]; omega), ← h.1] at b
    exact h'.2 _ v x a b⟩
theorem Par.snoc {y : α} {x : β} (h : Par R ys xs) (h' : R y x) : Par R (ys ++ [y]) (xs ++ [x]) := h.append (.one h')
theorem Par.drop (h : Par R ys xs) (n : Nat) : Par R (ys.drop n) (xs.drop n) := ⟨by rw [List.length_drop, List.length_drop, h.1], fun k v x a b => by
  rw [List.getElem?_drop] at a b
  exact h.2 _ v x a b⟩
theorem Par.take (h : Par R ys xs) (n : Nat) : Par R (ys.take n) (xs.take n) := ⟨by rw [List.length_take, List.length_take, h.1], fun k v x a b => by
  rw [List.getElem?_take] at a b
  by_cases hk : k < n
  · rw [if_pos hk] at a b
    exact h.2 _ v x a b
  · rw [if_neg hk] at a
    cases a⟩
theorem Par.rep (h : Par R ys xs) : ∀ n : Nat, Par R (List.replicate n ys).flatten (List.replicate n xs).flatten
  | 0 => .nil
  | n + 1 => by
    rw [List.replicate_succ, List.replicate_succ, List.flatten_cons, List.flatten_cons]
    exact h.append (Par.rep h n)
theorem Par.get (h : Par R ys xs) {k : Nat} (hk : k < xs.length) : ∃ v, ys[k]? = some v ∧ R v xs[k] := by
  have hy : k < ys.length := by rw [h.1]; exact hk
  exact ⟨ys[k], List.getElem?_eq_getElem hy, h.2 k _ _ (List.getElem?_eq_getElem hy) (List.getElem?_eq_getElem hk)⟩
def cut (xs : List β) (lo hi : Option Int) : List β := (xs.drop (HT.sIx xs.length 0 lo)).take (HT.sIx xs.length xs.length hi - HT.sIx xs.length 0 lo)
theorem Par.cut {R : V → β → Prop} {ys : List V} (h : Par R ys xs) (lo hi : Option Int) : Par R (cutV ys lo hi) (TT.cut xs lo hi) := by
  unfold cutV TT.cut
  rw [h.1]
  exact (h.drop _).take _
theorem cut_len (xs : List β) (lo hi : Option Int) : (cut xs lo hi).length ≤ xs.length := by
  unfold cut
  rw [List.length_take, List.length_drop]
  omega
theorem cut_mem {xs : List β} {lo hi : Option Int} {x : β} (h : x ∈ cut xs lo hi) : x ∈ xs := List.mem_of_mem_drop (List.mem_of_mem_take h)
theorem sIx_nat {n d k : Nat} (h : k ≤ n) : HT.sIx n d (some (k : Int)) = k := by
  unfold HT.sIx
  simp
  have : ¬ ((k : Int) < 0) := by omega
  rw [if_neg this]
  omega
theorem cut_le {xs : List β} (k : Nat) : (cut xs none (some (k : Int))).length ≤ k := by
  unfold cut
  rw [List.length_take]
  have : HT.sIx xs.length xs.length (some (k : Int)) ≤ k := by
    unfold HT.sIx
    simp
    have : ¬ ((k : Int) < 0) := by omega
    rw [if_neg this]
    omega
  omega
theorem cut_m1 {xs : List β} : (cut xs none (some (-1))).length = xs.length - 1 := by
  have e : HT.sIx xs.length xs.length (some (-1)) = xs.length - 1 := by
    unfold HT.sIx
    simp
    omega
  have e0 : HT.sIx xs.length 0 none = 0 := rfl
  unfold cut
  rw [e, e0]
  simp
theorem cut_take {xs : List β} {k : Nat} (h : k ≤ xs.length) : cut xs none (some (k : Int)) = xs.take k := by
  have e : HT.sIx xs.length 0 none = 0 := rfl
  unfold cut
  rw [sIx_nat h, e]
  simp
theorem cut_drop {xs : List β} {k : Nat} (h : k ≤ xs.length) : cut xs (some (k : Int)) none = xs.drop k := by
  have e : HT.sIx xs.length xs.length none = xs.length := rfl
  unfold cut
  rw [sIx_nat h, e]
  exact List.take_of_length_le (by rw [List.length_drop]; omega)
end
/-! ### the heap without what may change -/
def Off (ms : List Addr) (H : Hp) : Hp := fun a => if a ∈ ms then none else H a
section
variable {ms : List Addr} {H H1 : Hp} {p a : Addr} {o : HO}
theorem Off.sub : Same (Off ms H) H := fun a o h => by
  unfold Off at h
  by_cases e : a ∈ ms
  · rw [if_pos e] at h
    cases h
  · rw [if_neg e] at h
    exact h
theorem Off.at_ (h : H a = some o) (n : a ∉ ms) : Off ms H a = some o := by
  unfold Off
  rw [if_neg n]
  exact h
theorem Off.same (s : Same H H1) : Same (Off ms H) (Off ms H1) := fun a o h => by
  unfold Off at h ⊢
  by_cases e : a ∈ ms
  · rw [if_pos e] at h
    cases h
  · rw [if_neg e] at h ⊢
    exact s a o h
theorem Off.but (m : p ∈ ms) (b : But p H H1) : Same (Off ms H) (Off ms H1) := fun a o h => by
  unfold Off at h ⊢
  by_cases e : a ∈ ms
  · rw [if_pos e] at h
    cases h
  · rw [if_neg e] at h ⊢
    exact b a o (fun z => e (z ▸ m)) h
theorem Off.mut {H0 : Hp} {q : Addr} (s : Same (Off ms H0) (Off ms H)) (n : H0 q = none) (b : But q H H1) : Same (Off ms H0) (Off ms H1) := fun a o h => by
  have h1 := s a o h
  have ne : a ≠ q := ne_of_none (Off.sub a o h) n
  unfold Off at h1 ⊢
  by_cases e : a ∈ ms
  · rw [if_pos e] at h1
    cases h1
  · rw [if_neg e] at h1 ⊢
    exact b a o ne h1
theorem Off.more {ns : List Addr} (s : ∀ a ∈ ns, a ∈ ms ∨ H a = none) : Same (Off ms H) (Off ns H) := fun a o h => by
  have e1 : a ∉ ms := fun e => by
    unfold Off at h
    rw [if_pos e] at h
    cases h
  unfold Off at h ⊢
  rw [if_neg e1] at h
  rw [if_neg fun e => (s a e).elim e1 fun z => by rw [z] at h; cases h]
  exact h
end
section
variable {K : PySem.W.Frag} {H : Hp} {Q : VK} {p b : Addr} {xs zs : List V}
theorem a_cat (h1 : H p = some (.lst xs)) (h2 : H b = some (.lst zs)) (hl : xs.length + zs.length ≤ 100000) (q : ∀ l H2, H l = none → Same H H2 → H2 l = some (.lst (xs ++ zs)) → Q (.ref l) H2) : rAddU K (.ref p) (.ref b) H Q :=
  .inr (.inl ⟨p, b, xs, zs, rfl, rfl, h1, h2, sz hl, fun l hl => q l _ hl (same_new hl) upd_same⟩)
theorem a_slL {lo hi : Option Int} (h : SqL K H p xs) (q : ∀ l H2, H l = none → Same H H2 → H2 l = some (.lst (cutV xs lo hi)) → Q (.ref l) H2) : rSlU K (.ref p) lo hi H Q := .inl ⟨p, xs, rfl, h, fun l hl => q l _ hl (same_new hl) upd_same⟩
end
def rInsert : V → List V → Hp → VK → Prop := fun x vs H Q => ∃ (l : Addr) (xs : List V) (i : Int) (y : V), x = .ref l ∧ vs = [.int i, y] ∧ H l = some (.lst xs) ∧ xs.length < sizeLine ∧ 0 ≤ i ∧ i < 2 ^ 63 ∧ Q .non (upd H l (.lst (xs.take i.toNat ++ [y] ++ xs.drop i.toNat)))
theorem mt_ins {X : Cx} : MtR X "list.insert" rInsert := mt_insert
theorem a_ins {H : Hp} {Q : VK} {p : Addr} {xs : List V} {i : Nat} {y : V} (h : H p = some (.lst xs)) (hl : xs.length < 100000) (hi : i ≤ 100000) (q : ∀ H2, But p H H2 → H2 p = some (.lst (xs.take i ++ [y] ++ xs.drop i)) → Q .non H2) : rInsert (.ref p) [.int (i : Nat), y] H Q :=
  ⟨p, xs, _, y, rfl, rfl, h, szl hl, by omega, by omega, q _ But.upd upd_same⟩
/-- the first item of a tuple of data -/
theorem Dq.fst {K : PySem.W.Frag} {H : Hp} {n : Nat} {p : Addr} {x : Str} {ds : List PyData} (h : Dq K H n (.ref p) (.tuple (.str x :: ds))) : ∃ vs, SqT K H p (.str x :: vs) := by
  cases h.dp with
  | tup h1 h2 =>
    cases h2 with
    | cons h3 h4 =>
      cases h3
      exact ⟨_, h1⟩
end TT

set_option Elab.async false
set_option linter.all false
set_option maxRecDepth 100000
set_option maxHeartbeats 4000000
namespace TT
/-! ### powers of permutations -/
def stp (a : List Nat) (x : Nat) : Nat := a.getD x 0
def itr (a : List Nat) : Nat → Nat → Nat
  | 0, x => x
  | k + 1, x => stp a (itr a k x)
section
variable {a : List Nat}
theorem stp_lt (h : OkImg a) {x : Nat} (hx : x < a.length) : stp a x < a.length := by
  unfold stp
  rw [getD_lt hx]
  exact h.lt _ (List.getElem_mem _)
theorem itr_lt (h : OkImg a) {x : Nat} (hx : x < a.length) : ∀ k, itr a k x < a.length
  | 0 => hx
  | k + 1 => stp_lt h (itr_lt h hx k)
theorem itr_add (x : Nat) (k : Nat) : ∀ j, itr a (j + k) x = itr a j (itr a k x)
  | 0 => by rw [Nat.zero_add]; rfl
  | j + 1 => by
    rw [Nat.succ_add]
    show stp a _ = stp a _
    rw [itr_add x k j]
theorem stp_inj (h : OkImg a) {x y : Nat} (hx : x < a.length) (hy : y < a.length) (e : stp a x = stp a y) : x = y := by
  unfold stp at e
  rw [getD_lt hx, getD_lt hy] at e
  exact nd_inj h.nd hx hy e
theorem itr_inj (h : OkImg a) {x y : Nat} (hx : x < a.length) (hy : y < a.length) : ∀ k, itr a k x = itr a k y → x = y
  | 0, e => e
  | k + 1, e => itr_inj h hx hy k (stp_inj h (itr_lt h hx k) (itr_lt h hy k) e)
theorem per_ex (h : OkImg a) {x : Nat} (hx : x < a.length) : ∃ L, 0 < L ∧ L ≤ a.length ∧ itr a L x = x := by
  have key : ¬ ((List.range (a.length + 1)).map fun k => itr a k x).Nodup := fun nd => by
    have := sub_len (m := List.range a.length) nd fun y hy => by
      obtain ⟨k, _, rfl⟩ := List.mem_map.mp hy
      exact List.mem_range.mpr (itr_lt h hx k)
    rw [List.length_map, List.length_range, List.length_range] at this
    omega
  rw [List.nodup_iff_pairwise_ne, List.pairwise_iff_getElem] at key
  have key2 : ∃ i j, i < j ∧ j ≤ a.length ∧ itr a i x = itr a j x := by
    refine Classical.byContradiction fun no => key fun i j hi hj hij e => no ⟨i, j, hij, ?_, ?_⟩
    · rw [List.length_map, List.length_range] at hj
      omega
    · simpa using e
  obtain ⟨i, j, hij, hj, e⟩ := key2
  refine ⟨j - i, by omega, by omega, ?_⟩
  have e2 : itr a i x = itr a i (itr a (j - i) x) := by
    rw [← itr_add, e]
    congr 1
    omega
  exact (itr_inj h hx (itr_lt h hx _) i e2).symm
def per (a : List Nat) (x : Nat) : Nat := ((List.range a.length).find? fun k => itr a (k + 1) x == x).getD 0 + 1
theorem per_is (h : OkImg a) {x : Nat} (hx : x < a.length) : itr a (per a x) x = x ∧ per a x ≤ a.length ∧ ∀ k, 0 < k → k < per a x → itr a k x ≠ x := by
  obtain ⟨L, L0, L1, eL⟩ := per_ex h hx
  unfold per
  cases hf : (List.range a.length).find? fun k => itr a (k + 1) x == x with
  | none =>
    have := List.find?_eq_none.mp hf (L - 1) (List.mem_range.mpr (by omega))
    rw [show L - 1 + 1 = L by omega, eL] at this
    simp at this
  | some i =>
    have h1 := List.find?_range_eq_some.mp hf
    obtain ⟨p1, p2, p3⟩ := h1
    rw [Option.getD_some]
    refine ⟨eq_of_beq p1, List.mem_range.mp p2, fun k k0 k1 e => ?_⟩
    have := p3 (k - 1) (by omega)
    rw [show k - 1 + 1 = k by omega, e] at this
    simp at this
theorem per_pos (a : List Nat) (x : Nat) : 0 < per a x := Nat.succ_pos _
theorem itr_mul (x : Nat) {L : Nat} (e : itr a L x = x) : ∀ q, itr a (L * q) x = x
  | 0 => rfl
  | q + 1 => by rw [Nat.mul_succ, itr_add, e, itr_mul x e q]
theorem itr_mod (h : OkImg a) {x : Nat} (hx : x < a.length) (k : Nat) : itr a k x = itr a (k % per a x) x := by
  have e : itr a k x = itr a (k % per a x + per a x * (k / per a x)) x := by rw [Nat.mod_add_div]
  rw [e, itr_add, itr_mul x (per_is h hx).1]
theorem itr_dvd (h : OkImg a) {x : Nat} (hx : x < a.length) {k : Nat} : itr a k x = x ↔ per a x ∣ k := by
  constructor
  · intro e
    rw [itr_mod h hx] at e
    have hl := Nat.mod_lt k (per_pos a x)
    by_cases h0 : k % per a x = 0
    · exact Nat.dvd_of_mod_eq_zero h0
    · exact absurd e ((per_is h hx).2.2 _ (Nat.pos_of_ne_zero h0) hl)
  · rintro ⟨q, rfl⟩
    exact itr_mul x (per_is h hx).1 q
theorem itr_uniq (h : OkImg a) {x : Nat} (hx : x < a.length) {j k : Nat} (hj : j < per a x) (hk : k < per a x) (e : itr a j x = itr a k x) : j = k := by
  have main : ∀ {j k : Nat}, j < k → k < per a x → itr a j x = itr a k x → False := fun {j k} hjk hk e => by
    have e2 : itr a j x = itr a j (itr a (k - j) x) := by
      rw [← itr_add, e]
      congr 1
      omega
    exact (per_is h hx).2.2 (k - j) (by omega) (by omega) (itr_inj h hx (itr_lt h hx _) j e2).symm
  rcases Nat.lt_trichotomy j k with l | l | l
  · exact (main l hk e).elim
  · exact l
  · exact (main l hj e.symm).elim
theorem per_itr (h : OkImg a) {x : Nat} (hx : x < a.length) (k : Nat) : per a (itr a k x) = per a x := by
  have q : ∀ m, itr a m (itr a k x) = itr a k x ↔ itr a m x = x := fun m => by
    rw [← itr_add, Nat.add_comm, itr_add]
    constructor
    · intro e
      exact itr_inj h (itr_lt h hx m) hx k e
    · intro e
      rw [e]
  unfold per
  have : (fun m => itr a (m + 1) (itr a k x) == itr a k x) = fun m => itr a (m + 1) x == x := by
    funext m
    rw [Bool.eq_iff_iff, beq_iff_eq, beq_iff_eq]
    exact q (m + 1)
  rw [this]
/-- the z-th step from x -/
def zit (a : List Nat) (z : Int) (x : Nat) : Nat := itr a (z % (per a x : Int)).toNat x
theorem emod_nat (z : Int) {L : Nat} (h : 0 < L) : 0 ≤ z % (L : Int) ∧ z % (L : Int) < L := ⟨Int.emod_nonneg _ (by omega), Int.emod_lt_of_pos _ (by omega)⟩
theorem zit_lt (h : OkImg a) {x : Nat} (hx : x < a.length) (z : Int) : zit a z x < a.length := itr_lt h hx _
theorem zit_nat (h : OkImg a) {x : Nat} (hx : x < a.length) (k : Nat) : zit a (k : Int) x = itr a k x := by
  unfold zit
  have e : ((k : Int) % (per a x : Int)).toNat = k % per a x := by
    rw [← Int.natCast_emod, Int.toNat_natCast]
  rw [e, ← itr_mod h hx]
theorem zit_add (h : OkImg a) {x : Nat} (hx : x < a.length) (z w : Int) : zit a (z + w) x = zit a w (zit a z x) := by
  have hL := per_pos a x
  have e1 : per a (zit a z x) = per a x := per_itr h hx _
  have s1 := emod_nat z hL
  have s2 := emod_nat w hL
  have s3 := emod_nat (z + w) hL
  have R : zit a w (zit a z x) = itr a ((w % (per a x : Int)).toNat + (z % (per a x : Int)).toNat) x := by
    rw [itr_add]
    show itr a (w % (per a (zit a z x) : Int)).toNat (zit a z x) = _
    rw [e1]
    rfl
  rw [R, itr_mod h hx]
  show itr a ((z + w) % (per a x : Int)).toNat x = _
  congr 1
  have : ((((w % (per a x : Int)).toNat + (z % (per a x : Int)).toNat) % per a x : Nat) : Int) = (z + w) % (per a x : Int) := by
    rw [Int.natCast_emod, Int.natCast_add, Int.toNat_of_nonneg s1.1, Int.toNat_of_nonneg s2.1, ← Int.add_emod, Int.add_comm]
  omega
theorem zit_0 (h : OkImg a) {x : Nat} (hx : x < a.length) : zit a 0 x = x := zit_nat h hx 0
theorem zit_1 (h : OkImg a) {x : Nat} (hx : x < a.length) : zit a 1 x = stp a x := zit_nat h hx 1
def pw (a : List Nat) (z : Int) : List Nat := (List.range a.length).map fun x => zit a z x
theorem pw_len (a : List Nat) (z : Int) : (pw a z).length = a.length := by unfold pw; rw [List.length_map, List.length_range]
theorem pw_get {z : Int} {x : Nat} (hx : x < (pw a z).length) : (pw a z)[x] = zit a z x := by simp [pw]
theorem pw_ok (h : OkImg a) (z : Int) : OkImg (pw a z) := by
  refine .of_inj (fun i j hi hj e => ?_) fun i hi => ?_
  · rw [pw_get, pw_get] at e
    rw [pw_len] at hi hj
    have e2 := congrArg (zit a (-z)) e
    rw [← zit_add h hi, ← zit_add h hj, Int.add_right_neg, zit_0 h hi, zit_0 h hj] at e2
    exact e2
  · rw [pw_get]
    rw [pw_len] at hi ⊢
    exact zit_lt h hi z
theorem pw_comp (h : OkImg a) (z w : Int) : comp (pw a z) (pw a w) = pw a (z + w) := by
  refine List.ext_getElem (by rw [comp_len, pw_len, pw_len]) fun i h1 h2 => ?_
  rw [comp_len] at h1
  rw [comp_get h1, pw_get, pw_get]
  rw [pw_len] at h1
  have hl := zit_lt h h1 z
  rw [getD_lt (by rw [pw_len]; exact hl), pw_get, zit_add h h1]
theorem pw_0 (h : OkImg a) : pw a 0 = List.range a.length := by
  refine List.ext_getElem (by rw [pw_len, List.length_range]) fun i h1 h2 => ?_
  rw [pw_get, List.getElem_range]
  rw [pw_len] at h1
  exact zit_0 h h1
theorem pw_1 (h : OkImg a) : pw a 1 = a := by
  refine List.ext_getElem (pw_len _ _) fun i h1 h2 => ?_
  rw [pw_get, zit_1 h h2]
  unfold stp
  rw [getD_lt h2]
theorem pw_m1 (h : OkImg a) : pw a (-1) = inv a := by
  refine List.ext_getElem (by rw [pw_len, inv_len]) fun i h1 h2 => ?_
  rw [pw_get, inv_get]
  rw [pw_len] at h1
  have hl := zit_lt h h1 (-1)
  refine (idx_uniq h.nd hl ?_).symm
  have e : zit a 1 (zit a (-1) i) = i := by
    rw [← zit_add h h1]
    exact zit_0 h h1
  rw [zit_1 h hl] at e
  unfold stp at e
  rw [getD_lt hl] at e
  exact e
theorem pw_up (h : OkImg a) (z : Int) : comp (pw a z) a = pw a (z + 1) := by
  have := pw_comp h z 1
  rw [pw_1 h] at this
  exact this
theorem pw_down (h : OkImg a) (z : Int) : comp (pw a z) (inv a) = pw a (z - 1) := by
  have := pw_comp h z (-1)
  rw [pw_m1 h] at this
  exact this
theorem zit_per (h : OkImg a) {x : Nat} (hx : x < a.length) {z w : Int} (d : (per a x : Int) ∣ z - w) : zit a z x = zit a w x := by
  unfold zit
  have : z % (per a x : Int) = w % (per a x : Int) := Int.emod_eq_emod_iff_emod_sub_eq_zero.mpr (Int.emod_eq_zero_of_dvd d)
  rw [this]
theorem pw_per (h : OkImg a) {z w : Int} (d : ∀ x, x < a.length → (per a x : Int) ∣ z - w) : pw a z = pw a w := by
  refine List.ext_getElem (by rw [pw_len, pw_len]) fun i h1 h2 => ?_
  rw [pw_get, pw_get]
  rw [pw_len] at h1
  exact zit_per h h1 (d i h1)
/-- the cycle from x -/
def cyc (a : List Nat) (x : Nat) : List Nat := (List.range (per a x)).map fun k => itr a k x
theorem cyc_len (a : List Nat) (x : Nat) : (cyc a x).length = per a x := by unfold cyc; rw [List.length_map, List.length_range]
theorem cyc_get {x k : Nat} (hk : k < (cyc a x).length) : (cyc a x)[k] = itr a k x := by simp [cyc]
theorem cyc_pw (h : OkImg a) {x : Nat} (hx : x < a.length) {k : Nat} (hk : k < per a x) (z : Int) : ∃ j : Nat, j < per a x ∧ (((k : Int) + z) % (per a x : Int)) = j ∧ (cyc a x)[j]? = some (zit a z (itr a k x)) := by
  have s := emod_nat ((k : Int) + z) (per_pos a x)
  refine ⟨(((k : Int) + z) % (per a x : Int)).toNat, by omega, by omega, ?_⟩
  rw [List.getElem?_eq_getElem (by rw [cyc_len]; omega), cyc_get]
  have e := zit_add h hx (k : Int) z
  rw [zit_nat h hx k] at e
  rw [← e]
  rfl
end
end TT

set_option Elab.async false
set_option linter.all false
set_option maxRecDepth 100000
set_option maxHeartbeats 4000000
namespace TT
open PySem PySem.Spec PyProof.Rows L2
theorem w_loop {c : TT} {tb : TS} {D : Ends} {σ : L2.St} {H : Hp} (W : Nat → L2.St → Hp → Prop) (m : Nat) (h0 : W m σ H) (hs : ∀ m σ H, W m σ H → c σ H fun b H1 => if b = true then ∃ N : L2.St → Hp → Prop, (∀ σ' H', N σ' H' → ∃ m', m' < m ∧ W m' σ' H') ∧ tb { D with nx := N, ct := N, bk := D.nx } σ H1 else D.nx σ H1) : tWhile c tb D σ H := ⟨W, ⟨m, h0⟩, hs⟩
theorem w_go {tb : TS} {D : Ends} {σ : L2.St} {H : Hp} {W : Nat → L2.St → Hp → Prop} {m : Nat} (h : tb { D with nx := fun σ' H' => ∃ m', m' < m ∧ W m' σ' H', ct := fun σ' H' => ∃ m', m' < m ∧ W m' σ' H', bk := D.nx } σ H) :
    ∃ N : L2.St → Hp → Prop, (∀ σ' H', N σ' H' → ∃ m', m' < m ∧ W m' σ' H') ∧ tb { D with nx := N, ct := N, bk := D.nx } σ H := ⟨_, fun _ _ h => h, h⟩
def seenP (ps : List Nat) (n : Nat) : List V := (List.range n).map fun j => V.bl (decide (j ∈ ps))
theorem seenP_len (ps : List Nat) (n : Nat) : (seenP ps n).length = n := by unfold seenP; rw [List.length_map, List.length_range]
theorem seenP_at (ps : List Nat) (n j : Nat) (h : j < n) : (seenP ps n)[j]? = some (.bl (decide (j ∈ ps))) := by
  unfold seenP
  rw [List.getElem?_map, List.getElem?_range h]
  rfl
theorem seenP_set (ps : List Nat) (n j : Nat) (h : j < n) : (seenP ps n).set j (.bl true) = seenP (ps ++ [j]) n := by
  refine List.ext_getElem (by rw [List.length_set, seenP_len, seenP_len]) fun i h1 h2 => ?_
  rw [List.getElem_set]
  simp only [seenP, List.getElem_map, List.getElem_range]
  by_cases e : j = i
  · subst e
    rw [if_pos rfl, decide_eq_true (List.mem_append_right _ (List.mem_singleton.mpr rfl))]
  · rw [if_neg e]
    congr 1
    rw [decide_eq_decide, List.mem_append, List.mem_singleton]
    exact ⟨.inl, fun z => z.elim id fun z => absurd z.symm e⟩
theorem a_truP {K : PySem.W.Frag} {H : Hp} {p : Addr} {xs : List V} {R : Bool → Prop} (e : SqL K H p xs) (h : R (decide (xs ≠ []))) : ∃ k, TruV K (.ref p) H k ∧ R k := a_truL e (by
  cases xs with
  | nil => exact h
  | cons x xs => exact h)
/-- the first k of the cycle from x -/
def cyk (a : List Nat) (x k : Nat) : List Nat := (List.range k).map fun k => itr a k x
theorem cyk_up (a : List Nat) (x k : Nat) : cyk a x (k + 1) = cyk a x k ++ [itr a k x] := by
  unfold cyk
  rw [List.range_succ, List.map_append]
  rfl
theorem cyk_len (a : List Nat) (x k : Nat) : (cyk a x k).length = k := by unfold cyk; rw [List.length_map, List.length_range]
theorem mem_cyk {a : List Nat} {x k y : Nat} : y ∈ cyk a x k ↔ ∃ j, j < k ∧ itr a j x = y := by
  unfold cyk
  rw [List.mem_map]
  exact ⟨fun ⟨j, h, e⟩ => ⟨j, List.mem_range.mp h, e⟩, fun ⟨j, h, e⟩ => ⟨j, List.mem_range.mpr h, e⟩⟩
/-- all points of the cycles that begin at bs -/
def cyf (a : List Nat) (bs : List Nat) : List Nat := (bs.map (cyc a)).flatten
theorem mem_cyf {a bs : List Nat} {y : Nat} : y ∈ cyf a bs ↔ ∃ b ∈ bs, y ∈ cyc a b := by
  unfold cyf
  rw [List.mem_flatten]
  constructor
  · rintro ⟨l, hl, hy⟩
    obtain ⟨b, hb, rfl⟩ := List.mem_map.mp hl
    exact ⟨b, hb, hy⟩
  · rintro ⟨b, hb, hy⟩
    exact ⟨_, List.mem_map.mpr ⟨b, hb, rfl⟩, hy⟩
theorem cyf_snoc (a bs : List Nat) (b : Nat) : cyf a (bs ++ [b]) = cyf a bs ++ cyc a b := by
  unfold cyf
  rw [List.map_append, List.flatten_append]
  simp
theorem cyc_eq (a : List Nat) (x : Nat) : cyc a x = cyk a x (per a x) := rfl
/-- a cycle that has a later point has the point -/
theorem cyf_back {a bs : List Nat} (h : OkImg a) (hb : ∀ b ∈ bs, b < a.length) {x k : Nat} (hx : x < a.length) (m : itr a k x ∈ cyf a bs) : x ∈ cyf a bs := by
  obtain ⟨b, hbm, hy⟩ := mem_cyf.mp m
  have hbl := hb b hbm
  obtain ⟨j, hj, e⟩ := mem_cyk.mp hy
  refine mem_cyf.mpr ⟨b, hbm, mem_cyk.mpr ?_⟩
  have px : per a x = per a b := by
    rw [← per_itr h hx k, ← e, per_itr h hbl]
  -- x = itr (j + (L * k - k)) b
  have e2 : itr a (per a x * k - k + k) x = x := by
    rw [show per a x * k - k + k = per a x * k from Nat.sub_add_cancel (Nat.le_mul_of_pos_left k (per_pos a x))]
    exact itr_mul x (per_is h hx).1 k
  rw [itr_add, ← e, ← itr_add] at e2
  refine ⟨(per a x * k - k + j) % per a b, Nat.mod_lt _ (per_pos a b), ?_⟩
  rw [← itr_mod h hbl]
  exact e2
end TT

set_option Elab.async false
set_option linter.all false
set_option maxRecDepth 100000
set_option maxHeartbeats 4000000
namespace TT
open PySem PySem.Spec PyProof.Rows L2
/-- an if whose ways meet again -/
theorem g_seqIf {c : TT} {t u v : TS} {D : Ends} {σ : L2.St} {H : Hp} (J : L2.St → Hp → Prop) (h : (∀ σ' H', J σ' H' → v D σ' H') → c σ H fun b H1 => if b = true then t { D with nx := v D } σ H1 else u { D with nx := v D } σ H1) (fin : ∀ σ' H', J σ' H' → v D σ' H') : tSeq (tIfS c t u) v D σ H := h fin
theorem sqt_off {K : PySem.W.Frag} {H : Hp} {ms : List Addr} {t : Addr} {xs : List V} (hm : ∀ q ∈ ms, ∃ xs, H q = some (.lst xs)) (h : SqT K H t xs) : SqT K (Off ms H) t xs := by
  have no : ∀ {o : HO}, H t = some o → (∀ ys, o ≠ .lst ys) → t ∉ ms := fun {o} e ne z => by
    obtain ⟨ys, e2⟩ := hm t z
    rw [e] at e2
    exact ne ys (Option.some.inj e2)
  rcases h with (h | ⟨o, h⟩) | h
  · exact .inl (.inl (Off.at_ h (no h fun ys z => by cases z)))
  · exact .inl (.inr ⟨o, Off.at_ h (no h fun ys z => by cases z)⟩)
  · exact .inr h
theorem PairAt.off {K : PySem.W.Frag} {H : Hp} {ms : List Addr} {v : V} {x : Pr} (h : PairAt K H v x) (hm : ∀ q ∈ ms, ∃ xs, H q = some (.lst xs)) : PairAt K (Off ms H) v x := let ⟨q, e, h⟩ := h; ⟨q, e, sqt_off hm h⟩
theorem Off.bt {ms : List Addr} {H H1 : Hp} {D : Addr} (b : But D H H1) : But D (Off ms H) (Off ms H1) := fun a o n e => by
  unfold Off at e ⊢
  by_cases z : a ∈ ms
  · rw [if_pos z] at e
    cases e
  · rw [if_neg z] at e ⊢
    exact b a o n e
section
variable {K : PySem.W.Frag} {j : Nat} {σ : L2.St} {H : Hp} {te : TE} {Q : VK} {P : Addr → Nat → V → Hp → Prop}
theorem c_rp {ta : TA} {k : Nat} (st : Stb P) (hn : k ≤ 100000) (hl : ∀ R : List V → Hp → Prop, (∀ H1, Same H H1 → R [.int (k : Nat)] H1) → ta σ H R)
    (hs : ∀ D acc (i : Nat) H', H D = none → i < k → Same H H' → H' D = some (.lst acc) → ∀ R : VK, (∀ v H4, Same H' H4 → P D i v H4 → R v H4) → te ((σ.set j none).set j (some (.int (i : Nat)))) H' R)
    (hd : ∀ D acc H', H D = none → Same H H' → H' D = some (.lst acc) → acc.length = k → (∀ k v, acc[k]? = some v → P D k v H') → Q (.ref D) H') : tLc (iRng1 ta) (gName j) tYes te [j] σ H Q := by
  refine hl _ fun H1 s1 => ⟨(k : Int), rfl, by omega, by omega, lc_p walk_range st (by omega) (fun _ _ => True.intro) (fun D acc i x H' H2 hi hD s hacc y => ?_) fun D acc H' nD s e1 e2 e3 => hd D acc H' (s1.free nD) (s1.trans s) e1 (by omega) e3⟩
  obtain ⟨rfl, e⟩ := y
  subst e
  refine ⟨Same.refl _, ?_⟩
  have e0 : (0 : Int) + (i : Int) = i := by omega
  show ∀ R : VK, _ → te ((σ.set j none).set j (some (.int (0 + (i : Int))))) H2 R
  rw [e0]
  exact hs D acc i _ (s1.free hD) (by omega) (s1.trans s) hacc
end
end TT

set_option Elab.async false
set_option linter.all false
set_option maxRecDepth 100000
set_option maxHeartbeats 4000000
namespace TT
open PySem PySem.Spec PyProof.Rows L2
/-! dicts: steps and arrivals -/
def rDGet (x y : V) (H : Hp) (Q : VK) : Prop := ∃ a v, x = .ref a ∧ DGet H a y (some v) ∧ Q v H
def rDIn (y x : V) (H : Hp) (Q : VK) : Prop := ∃ a o, x = .ref a ∧ DGet H a y o ∧ Q (.bl o.isSome) H
def rDNin (y x : V) (H : Hp) (Q : VK) : Prop := ∃ a o, x = .ref a ∧ DGet H a y o ∧ Q (.bl (!o.isSome)) H
def rDPut (x y v : V) (H : Hp) (R : Hp → Prop) : Prop := ∃ a H4, x = .ref a ∧ DPut H a y v H4 ∧ R H4
def rDNew (H : Hp) (Q : VK) : Prop := ∀ p, H p = none → Q (.ref p) (upd H p (.dK []))
def rDNewT (H : Hp) (Q : VK) : Prop := ∀ p, H p = none → Q (.ref p) (upd H p (.dT []))
section
variable {K : PySem.W.Frag} {σ : L2.St} {H : Hp} {Q : VK} {D : Ends} {td ty tv te : TE} {QB : Bool → Hp → Prop} {a : Addr} {kvs : List (Key × V)} {k : Key} {v : V}
theorem g_dget (h : td σ H fun x H1 => ty σ H1 fun y H2 => rDGet x y H2 Q) : tDGet td ty σ H Q := h
theorem g_din (h : ty σ H fun y H1 => td σ H1 fun x H2 => rDIn y x H2 Q) : tDIn ty td σ H Q := h
theorem g_dnin (h : ty σ H fun y H1 => td σ H1 fun x H2 => rDNin y x H2 Q) : tDNotIn ty td σ H Q := h
theorem g_dput (h : tv σ H fun v H1 => td σ H1 fun x H2 => ty σ H2 fun y H3 => rDPut x y v H3 fun H4 => D.nx σ H4) : sDPut td ty tv D σ H := h
theorem g_dnew (h : rDNew H Q) : tDNewK σ H Q := h
theorem g_dnewT (h : rDNewT H Q) : tDNewT σ H Q := h
theorem g_tB (h : te σ H fun x H' => ∃ k, x = .bl k ∧ QB k H') : tB te σ H QB := h
theorem a_dnew (h : ∀ p H2, H p = none → Same H H2 → H2 p = some (.dK []) → Q (.ref p) H2) : rDNew H Q := fun p hp => h p _ hp (same_new hp) upd_same
theorem a_dnewT (h : ∀ p H2, H p = none → Same H H2 → H2 p = some (.dT []) → Q (.ref p) H2) : rDNewT H Q := fun p hp => h p _ hp (same_new hp) upd_same
theorem a_dgetS {s : Str} (h : Rd H a (.dK kvs)) (e : valV kvs (.inr s) = some v) (q : Q v H) : rDGet (.ref a) (.str s) H Q := ⟨a, v, rfl, .inl ⟨kvs, .inr s, h, rfl, e.symm⟩, q⟩
theorem a_dgetI {n : Int} (h : Rd H a (.dK kvs)) (e : valV kvs (.inl n) = some v) (q : Q v H) : rDGet (.ref a) (.int n) H Q := ⟨a, v, rfl, .inl ⟨kvs, .inl n, h, rfl, e.symm⟩, q⟩
theorem a_dinS {s : Str} (h : Rd H a (.dK kvs)) (q : Q (.bl (valV kvs (.inr s)).isSome) H) : rDIn (.str s) (.ref a) H Q := ⟨a, _, rfl, .inl ⟨kvs, .inr s, h, rfl, rfl⟩, q⟩
theorem a_dninS {s : Str} (h : Rd H a (.dK kvs)) (q : Q (.bl (!(valV kvs (.inr s)).isSome)) H) : rDNin (.str s) (.ref a) H Q := ⟨a, _, rfl, .inl ⟨kvs, .inr s, h, rfl, rfl⟩, q⟩
theorem a_dinI {n : Int} (h : Rd H a (.dK kvs)) (q : Q (.bl (valV kvs (.inl n)).isSome) H) : rDIn (.int n) (.ref a) H Q := ⟨a, _, rfl, .inl ⟨kvs, .inl n, h, rfl, rfl⟩, q⟩
theorem a_dninI {n : Int} (h : Rd H a (.dK kvs)) (q : Q (.bl (!(valV kvs (.inl n)).isSome)) H) : rDNin (.int n) (.ref a) H Q := ⟨a, _, rfl, .inl ⟨kvs, .inl n, h, rfl, rfl⟩, q⟩
theorem a_dinT {kts : List (List Key × V)} {b : Addr} {ks : List Key} (h : Rd H a (.dT kts)) (hb : H b = some (.tup (ks.map kV))) (q : Q (.bl (valV kts ks).isSome) H) : rDIn (.ref b) (.ref a) H Q := ⟨a, _, rfl, .inr ⟨kts, ks, b, h, rfl, hb, rfl⟩, q⟩
theorem a_dninT {kts : List (List Key × V)} {b : Addr} {ks : List Key} (h : Rd H a (.dT kts)) (hb : H b = some (.tup (ks.map kV))) (q : Q (.bl (!(valV kts ks).isSome)) H) : rDNin (.ref b) (.ref a) H Q := ⟨a, _, rfl, .inr ⟨kts, ks, b, h, rfl, hb, rfl⟩, q⟩
theorem a_dgetT {kts : List (List Key × V)} {b : Addr} {ks : List Key} (h : Rd H a (.dT kts)) (hb : H b = some (.tup (ks.map kV))) (e : valV kts ks = some v) (q : Q v H) : rDGet (.ref a) (.ref b) H Q := ⟨a, v, rfl, .inr ⟨kts, ks, b, h, rfl, hb, e.symm⟩, q⟩
theorem a_dputS {s : Str} {R : Hp → Prop} (h : H a = some (.dK kvs)) (hl : kvs.length ≤ 100000) (q : ∀ H2, But a H H2 → H2 a = some (.dK (putK kvs (.inr s) v)) → R H2) : rDPut (.ref a) (.str s) v H R := ⟨a, _, rfl, .inl ⟨kvs, .inr s, h, rfl, Nat.lt_of_le_of_lt hl (by decide), rfl⟩, q _ But.upd upd_same⟩
theorem a_dputI {n : Int} {R : Hp → Prop} (h : H a = some (.dK kvs)) (hl : kvs.length ≤ 100000) (q : ∀ H2, But a H H2 → H2 a = some (.dK (putK kvs (.inl n) v)) → R H2) : rDPut (.ref a) (.int n) v H R := ⟨a, _, rfl, .inl ⟨kvs, .inl n, h, rfl, Nat.lt_of_le_of_lt hl (by decide), rfl⟩, q _ But.upd upd_same⟩
theorem a_dputT {kts : List (List Key × V)} {b : Addr} {ks : List Key} {R : Hp → Prop} (h : H a = some (.dT kts)) (hb : H b = some (.tup (ks.map kV))) (hl : kts.length ≤ 100000) (q : ∀ H2, But a H H2 → H2 a = some (.dT (putK kts ks v)) → R H2) : rDPut (.ref a) (.ref b) v H R := ⟨a, _, rfl, .inr ⟨kts, ks, b, h, rfl, hb, Nat.lt_of_le_of_lt hl (by decide), rfl⟩, q _ But.upd upd_same⟩
/-- a walk over a dict: it is locked meanwhile -/
theorem a_lock {d : Addr} {u : HO} {t : TS} (h : H d = some u) (m : Mut (some u)) (q : ∀ od H1, But d H H1 → H1 d = some (.frz od u) → t ⟨fun σ' H' => H' d = some (.frz od u) ∧ D.nx σ' (upd H' d u), fun v H' => H' d = some (.frz od u) ∧ D.rt v (upd H' d u), fun σ' H' => H' d = some (.frz od u) ∧ D.bk σ' (upd H' d u), fun σ' H' => H' d = some (.frz od u) ∧ D.ct σ' (upd H' d u)⟩ σ H1) : tLock t D σ H := ⟨d, u, h, m, fun od => q od _ But.upd upd_same⟩
theorem a_lockE {d : Addr} {u : HO} (h : H d = some u) (m : Mut (some u)) (q : ∀ od H1, But d H H1 → H1 d = some (.frz od u) → te σ H1 fun v H' => H' d = some (.frz od u) ∧ Q v (upd H' d u)) : tLockE te σ H Q := ⟨d, u, h, m, fun od => q od _ But.upd upd_same⟩
def rKeys (x : V) (H : Hp) (R : It → Hp → Prop) : Prop := ∃ d o, x = .ref d ∧ ((∃ kvs, H d = some (.frz o (.dK kvs)) ∧ R (Itk d o kvs) H) ∨ ∃ kvs, H d = some (.frz o (.dT kvs)) ∧ R (Itkt d o kvs) H)
theorem g_iKeys {R : It → Hp → Prop} (h : td σ H fun x H1 => rKeys x H1 R) : iKeys td σ H R := h
theorem a_keys {R : It → Hp → Prop} {od : Obj} (h : H a = some (.frz od (.dK kvs))) (q : R (Itk a od kvs) H) : rKeys (.ref a) H R := ⟨a, od, rfl, .inl ⟨kvs, h, q⟩⟩
def rStrI (x : V) (H : Hp) (R : It → Hp → Prop) : Prop := ∃ z, x = .str z ∧ R (Its z) H
theorem g_iStr {R : It → Hp → Prop} (h : td σ H fun x H1 => rStrI x H1 R) : iStr td σ H R := h
/-- list(d), dict(d) -/
def rListDU : List V → Hp → VK → Prop := fun xs H Q => ∃ (a : Addr) (kvs : List (Key × V)), xs = [.ref a] ∧ Rd H a (.dK kvs) ∧ ∀ p, H p = none → Q (.ref p) (upd H p (.lst (kvs.map fun kv => kV kv.1)))
def rDictDU : List V → Hp → VK → Prop := fun xs H Q => ∃ (a : Addr) (kvs : List (Key × V)), xs = [.ref a] ∧ Rd H a (.dK kvs) ∧ ∀ p, H p = none → Q (.ref p) (upd H p (.dK kvs))
theorem call_listDU {X : Cx} (hc : X.calm = true) : CallR X (.type "list") rListDU := call_listD hc
theorem call_dictDU {X : Cx} : CallR X (.type "dict") rDictDU := call_dictD
theorem a_listD (h : Rd H a (.dK kvs)) (q : ∀ p H2, H p = none → Same H H2 → H2 p = some (.lst (kvs.map fun kv => kV kv.1)) → Q (.ref p) H2) : rListDU [V.ref a] H Q := ⟨a, kvs, rfl, h, fun p hp => q p _ hp (same_new hp) upd_same⟩
theorem a_dictD (h : Rd H a (.dK kvs)) (q : ∀ p H2, H p = none → Same H H2 → H2 p = some (.dK kvs) → Q (.ref p) H2) : rDictDU [V.ref a] H Q := ⟨a, kvs, rfl, h, fun p hp => q p _ hp (same_new hp) upd_same⟩
def rAddS : R2 := fun x y H Q => ∃ i j, x = .str i ∧ y = .str j ∧ i.length + j.length ≤ sizeLine ∧ Q (.str (i ++ j)) H
theorem op_addSU {X : Cx} : OpR X (binaryOp .Add) rAddS := op_add_str
def rInS : R2 := fun x y H Q => ∃ (c : Nat) (z : Str), x = .str ⟨#[c]⟩ ∧ y = .str z ∧ Q (.bl (decide (c ∈ z.cps.toList))) H
theorem op_inSU {X : Cx} : OpR X (compareOp .In) rInS := op_in_sign
def rLenS : List V → Hp → VK → Prop := fun xs H Q => ∃ z, xs = [.str z] ∧ z.length ≤ sizeLine ∧ Q (.int z.length) H
theorem call_lenSU {X : Cx} : CallR X (.builtin "len") rLenS := call_len_str
def rIsN : R2 := fun x y H Q => y = .non ∧ Q (.bl (decide (x = .non))) H
theorem op_isNU {X : Cx} : OpR X (compareOp .Is) rIsN := op_isN
theorem a_isNt (q : Q (.bl true) H) : rIsN .non .non H Q := ⟨rfl, q⟩
theorem a_isNf {x : V} (h : x ≠ .non) (q : Q (.bl false) H) : rIsN x .non H Q := ⟨rfl, by rw [decide_eq_false h]; exact q⟩
end
section
variable {K : PySem.W.Frag} {J : It} {n j : Nat} {G : Hp → Prop} {Y : Nat → Hp → V → Hp → Prop} {σ : L2.St} {H H1 : Hp} {te tk tv : TE} {tt : TT} {Q : VK}
/-- over the keys of a locked dict -/
theorem c_k {td : TE} {d : Addr} {od : Obj} {kvs : List (Key × V)} (f : Nat → V) (hn : kvs.length ≤ 100000) (hl : ∀ R : VK, (∀ H1, Same H H1 → H1 d = some (.frz od (.dK kvs)) → R (.ref d) H1) → td σ H R)
    (hs : ∀ i k v H', kvs[i]? = some (k, v) → Same H H' → ∀ R : VK, (∀ H4, Same H' H4 → R (f i) H4) → te ((σ.set j none).set j (some (kV k))) H' R)
    (hd : ∀ D H', H D = none → Same H H' → H' D = some (.lst ((List.range kvs.length).map f)) → Q (.ref D) H') : tLc (iKeys td) (gName j) tYes te [j] σ H Q := by
  refine hl _ fun H1 s1 h => ⟨d, od, rfl, .inl ⟨kvs, h, lc_1 walk_keys f hn (fun H' s => s _ _ h) (fun i x H' H2 hi s y => ?_) fun D H' n s e => hd D H' (s1.free n) (s1.trans s) e⟩⟩
  obtain ⟨rfl, k, v, e, rfl⟩ := y
  exact ⟨Same.refl _, hs i k v _ e (s1.trans s)⟩
theorem cf_k {td : TE} {d : Addr} {od : Obj} {kvs : List (Key × V)} (b : Nat → Bool) (f : Nat → V) (hn : kvs.length ≤ 100000) (hl : ∀ R : VK, (∀ H1, Same H H1 → H1 d = some (.frz od (.dK kvs)) → R (.ref d) H1) → td σ H R)
    (hs : ∀ i k v H', kvs[i]? = some (k, v) → Same H H' → (∀ R : Bool → Hp → Prop, (∀ H3, Same H' H3 → R (b i) H3) → tt ((σ.set j none).set j (some (kV k))) H' R) ∧
      (b i = true → ∀ H3, Same H' H3 → ∀ R : VK, (∀ H4, Same H3 H4 → R (f i) H4) → te ((σ.set j none).set j (some (kV k))) H3 R))
    (hd : ∀ D H', H D = none → Same H H' → H' D = some (.lst (((List.range kvs.length).filter b).map f)) → Q (.ref D) H') : tLc (iKeys td) (gName j) tt te [j] σ H Q := by
  refine hl _ fun H1 s1 h => ⟨d, od, rfl, .inl ⟨kvs, h, lc_f walk_keys b f hn (fun H' s => s _ _ h) (fun i x H' H2 hi s y => ?_) fun D H' n s e => hd D H' (s1.free n) (s1.trans s) e⟩⟩
  obtain ⟨rfl, k, v, e, rfl⟩ := y
  exact ⟨Same.refl _, hs i k v _ e (s1.trans s)⟩
/-- over the signs of a text -/
theorem c_s {td : TE} {z : Str} (f : Nat → V) (hn : z.cps.size ≤ 100000) (hl : ∀ R : VK, (∀ H1, Same H H1 → R (.str z) H1) → td σ H R)
    (hs : ∀ i c H', z.cps[i]? = some c → Same H H' → ∀ R : VK, (∀ H4, Same H' H4 → R (f i) H4) → te ((σ.set j none).set j (some (.str ⟨#[c]⟩))) H' R)
    (hd : ∀ D H', H D = none → Same H H' → H' D = some (.lst ((List.range z.cps.size).map f)) → Q (.ref D) H') : tLc (iStr td) (gName j) tYes te [j] σ H Q := by
  refine hl _ fun H1 s1 => ⟨z, rfl, lc_1 walk_str f hn (fun _ _ => True.intro) (fun i x H' H2 hi s y => ?_) fun D H' n s e => hd D H' (s1.free n) (s1.trans s) e⟩
  obtain ⟨rfl, c, e, rfl⟩ := y
  exact ⟨Same.refl _, hs i c _ e (s1.trans s)⟩
/-- the first ones: what a dict of such keys holds -/
def putAll (v : V) (ks : List Key) : List (Key × V) := ks.foldl (fun acc k => putK acc k v) []
theorem putAll_snoc (v : V) (ks : List Key) (k : Key) : putAll v (ks ++ [k]) = putK (putAll v ks) k v := by
  unfold putAll
  rw [List.foldl_append]
  rfl
theorem revInd {α : Type} {P : List α → Prop} (h0 : P []) (h1 : ∀ l x, P l → P (l ++ [x])) (l : List α) : P l := by
  have : ∀ m : List α, P m.reverse := fun m => by
    induction m with
    | nil => exact h0
    | cons x m ih =>
      rw [List.reverse_cons]
      exact h1 _ _ ih
  rw [← List.reverse_reverse l]
  exact this _
theorem putAll_len (v : V) (ks : List Key) : (putAll v ks).length ≤ ks.length := by
  refine revInd (P := fun ks => (putAll v ks).length ≤ ks.length) (Nat.le_refl _) (fun ks x ih => ?_) ks
  · rw [putAll_snoc, List.length_append]
    have := length_putK (putAll v ks) x v
    simp only [List.length_singleton]
    omega
theorem valV_keys {κ : Type} [DecidableEq κ] (k : κ) : ∀ kvs : List (κ × V), (valV kvs k).isSome = true ↔ k ∈ kvs.map (·.1) := by
  intro kvs
  rw [← valV_any, List.any_eq_true]
  simp [eq_comm]
theorem putK_keys {κ : Type} [DecidableEq κ] (kvs : List (κ × V)) (k : κ) (v : V) : (putK kvs k v).map (·.1) = if k ∈ kvs.map (·.1) then kvs.map (·.1) else kvs.map (·.1) ++ [k] := by
  by_cases h : k ∈ kvs.map (·.1)
  · rw [if_pos h]
    have := (valV_keys k kvs).mpr h
    unfold putK
    rw [valV_any, if_pos this, List.map_map]
    refine List.map_congr_left fun p _ => ?_
    show (if p.1 = k then (p.1, v) else p).1 = p.1
    split <;> rfl
  · rw [if_neg h, putK_new]
    · simp
    · have : ¬ (valV kvs k).isSome = true := fun z => h ((valV_keys k kvs).mp z)
      simpa using this
theorem putK_nodup {κ : Type} [DecidableEq κ] {kvs : List (κ × V)} (k : κ) (v : V) (h : (kvs.map (·.1)).Nodup) : ((putK kvs k v).map (·.1)).Nodup := by
  rw [putK_keys]
  split
  · exact h
  · rename_i n
    rw [List.nodup_append]
    refine ⟨h, by simp, fun a ha b hb => ?_⟩
    rw [List.mem_singleton] at hb
    subst hb
    exact fun e => n (e ▸ ha)
theorem putAll_nodup (v : V) (ks : List Key) : ((putAll v ks).map (·.1)).Nodup := by
  refine revInd (P := fun ks => ((putAll v ks).map (·.1)).Nodup) List.nodup_nil (fun ks x ih => ?_) ks
  rw [putAll_snoc]
  exact putK_nodup x v ih
theorem putAll_mem (v : V) (ks : List Key) (k : Key) : k ∈ (putAll v ks).map (·.1) ↔ k ∈ ks := by
  refine revInd (P := fun ks => k ∈ (putAll v ks).map (·.1) ↔ k ∈ ks) Iff.rfl (fun ks x ih => ?_) ks
  rw [putAll_snoc, putK_keys]
  split
  · rename_i h
    rw [ih, List.mem_append, List.mem_singleton]
    refine ⟨.inl, fun z => z.elim id fun e => ?_⟩
    subst e
    exact ih.mp h
  · rw [List.mem_append, List.mem_append, ih]
/-- {k: v for ..}: over a list or a tuple -/
theorem c_d {tl : TE} {xs : List V} {ks : List Key} {v : V} (hn : xs.length ≤ 100000) (hk : xs = ks.map kV) (hl : ∀ R : VK, (∀ a H1, Same H H1 → Seq K H1 a xs → R (.ref a) H1) → tl σ H R)
    (hs : ∀ (i : Nat) (k : Key) H', ks[i]? = some k → Same H H' → ∀ R : VK, (∀ H4, Same H' H4 → R (kV k) H4) → tk ((σ.set j none).set j (some (kV k))) H' R)
    (hv : ∀ (i : Nat) (k : Key) H', ks[i]? = some k → Same H H' → ∀ R : VK, (∀ H4, Same H' H4 → R v H4) → tv ((σ.set j none).set j (some (kV k))) H' R)
    (hd : ∀ D H', H D = none → Same H H' → H' D = some (.dK (putAll v ks)) → Q (.ref D) H') : tDc (iSeq K tl) (gName j) tYes tk tv [j] σ H Q := by
  have hkl : xs.length = ks.length := by rw [hk, List.length_map]
  refine hl _ fun a H1 s1 h => a_iter h fun J w => ?_
  intro D hD
  refine ⟨fun i m H' => m = xs.length - i ∧ i ≤ xs.length ∧ Same H1 H' ∧ H' D = some (.dK (putAll v (ks.take i))), ⟨xs.length, by simp, Nat.zero_le _, same_new hD, upd_same⟩, ?_⟩
  rintro i m H' ⟨rfl, hi, s, e⟩
  by_cases hlt : i < xs.length
  · refine .inr ⟨w.goes i H' hlt s, fun H2 => Same H1 H2 ∧ H2 D = some (.dK (putAll v (ks.take (i + 1)))), fun H2 q => ⟨xs.length - (i + 1), by omega, rfl, hlt, q.1, q.2⟩, fun x H2 y => ?_⟩
    obtain ⟨rfl, ex⟩ := w.yields i H' x H2 hlt s y
    rw [hk, List.getElem?_map] at ex
    obtain ⟨k, ek, rfl⟩ := Option.map_eq_some_iff.mp ex
    refine ⟨set_none σ j _, ?_⟩
    unfold tYes
    dsimp only
    rw [if_pos rfl]
    refine hs i k _ ek (s1.trans s) _ fun H4 s4 => hv i k _ ek ((s1.trans s).trans s4) _ fun H5 s5 => ⟨_, k, rfl, s5 _ _ (s4 _ _ e), ?_, same_mut ((s.trans s4).trans s5) hD, ?_⟩
    · refine Nat.lt_of_le_of_lt (putAll_len v _) (Nat.lt_of_le_of_lt (m := 100000) ?_ (by decide))
      rw [List.length_take]
      omega
    · have hi2 : i < ks.length := by omega
      rw [upd_same, ← List.take_append_getElem hi2, putAll_snoc]
      rw [List.getElem?_eq_getElem hi2] at ek
      rw [Option.some.inj ek]
  · have e2 : i = xs.length := by omega
    subst e2
    refine .inl ⟨w.stops H' s, hd D H' (s1.free hD) (s1.trans s) ?_⟩
    rw [e, hkl, List.take_length]
end
section
variable {K : PySem.W.Frag} {σ : L2.St} {H : Hp} {Q : VK}
def rTrg (a b : Int) (H : Hp) (Q : VK) : Prop := RgOk a b ∧ ∀ q, H q = none → Q (.ref q) (upd H q (.tup (rgV a b)))
theorem g_trg {tr : L2.St → Hp → (Int → Int → Hp → Prop) → Prop} (h : tr σ H fun a b H1 => rTrg a b H1 Q) : tTupRg tr σ H Q := h
theorem a_trg {n : Int} (h0 : 0 ≤ n) (hn : n ≤ 100000) (q : ∀ p H2, H p = none → Same H H2 → H2 p = some (.tup ((List.range n.toNat).map fun i => V.int (i : Nat))) → Q (.ref p) H2) : rTrg 0 n H Q := by
  refine ⟨RgOk.of_le (by omega) (by omega) (by omega) h0, fun p hp => ?_⟩
  have e : rgV 0 n = (List.range n.toNat).map fun i => V.int (i : Nat) := by
    unfold rgV
    have : (n - 0).toNat = n.toNat := by omega
    rw [this]
    refine List.map_congr_left fun i _ => ?_
    congr 1
    omega
  rw [e]
  exact q p _ hp (same_new hp) upd_same
theorem cut_last (xs : List V) (v : V) : cutV (xs ++ [v]) none (some (-1)) = xs := by
  unfold cutV
  have e : (-1 + ((xs.length : Int) + 1)).toNat = xs.length := by omega
  simp [HT.sIx, e]
end
end TT

set_option Elab.async false
set_option linter.all false
set_option maxRecDepth 100000
set_option maxHeartbeats 4000000
namespace TT
open PySem PySem.Spec PyProof.Rows L2
/-! min, max, in, any, all -/
def rMax2 : List V → Hp → VK → Prop := fun xs H Q => ∃ i j, xs = [.int i, .int j] ∧ Q (.int (if j > i then j else i)) H
def rMin2 : List V → Hp → VK → Prop := fun xs H Q => ∃ i j, xs = [.int i, .int j] ∧ Q (.int (if j < i then j else i)) H
theorem call_max2U {X : Cx} (hc : X.calm = true) : CallR X (.builtin "max") rMax2 := call_max2 hc
theorem call_min2U {X : Cx} (hc : X.calm = true) : CallR X (.builtin "min") rMin2 := call_min2 hc
section
variable {K : PySem.W.Frag} {H : Hp} {Q : VK} {p : Addr} {xs : List V}
theorem a_max2 {i j : Int} (q : Q (.int (max i j)) H) : rMax2 [.int i, .int j] H Q := ⟨i, j, rfl, by
  have e : (if j > i then j else i) = max i j := by split <;> omega
  rw [e]; exact q⟩
theorem a_min2 {i j : Int} (q : Q (.int (min i j)) H) : rMin2 [.int i, .int j] H Q := ⟨i, j, rfl, by
  have e : (if j < i then j else i) = min i j := by split <;> omega
  rw [e]; exact q⟩
theorem inV_zi (z : Int) : ∀ zs : List Int, inV (.int z) (zi zs) = decide (z ∈ zs)
  | [] => rfl
  | x :: zs => by
    have ih := inV_zi z zs
    unfold inV zi at ih ⊢
    rw [List.map_cons, List.any_cons, ih]
    show (x == z || _) = _
    by_cases e : x = z
    · subst e; simp
    · have e2 : ¬ z = x := fun h => e h.symm
      simp [e, e2]
theorem inV_str (z : Str) : ∀ zs : List Str, inV (.str z) (zs.map V.str) = decide (z ∈ zs)
  | [] => rfl
  | x :: zs => by
    have ih := inV_str z zs
    unfold inV at ih ⊢
    rw [List.map_cons, List.any_cons, ih]
    show (x == z || _) = _
    by_cases e : x = z
    · subst e; simp
    · have e2 : ¬ z = x := fun h => e h.symm
      simp [e, e2]
theorem flat_zi (zs : List Int) : (zi zs).all flatV = true := by
  rw [List.all_eq_true]
  intro x hx
  obtain ⟨n, _, rfl⟩ := List.mem_map.mp hx
  rfl
theorem flat_str (zs : List Str) : (zs.map V.str).all flatV = true := by
  rw [List.all_eq_true]
  intro x hx
  obtain ⟨n, _, rfl⟩ := List.mem_map.mp hx
  rfl
theorem a_inZ {z : Int} {zs : List Int} (h : Seq K H p (zi zs)) (q : Q (.bl (decide (z ∈ zs))) H) : rIn K false (.int z) (.ref p) H Q := ⟨p, _, rfl, h, rfl, flat_zi zs, by rw [inV_zi]; exact q⟩
theorem a_ninZ {z : Int} {zs : List Int} (h : Seq K H p (zi zs)) (q : Q (.bl (!decide (z ∈ zs))) H) : rIn K true (.int z) (.ref p) H Q := ⟨p, _, rfl, h, rfl, flat_zi zs, by rw [inV_zi]; exact q⟩
theorem a_inN {z : Nat} {a : List Nat} (h : Seq K H p (vi a)) (q : Q (.bl (decide (z ∈ a))) H) : rIn K false (.int (z : Nat)) (.ref p) H Q := by
  rw [← zi_ni] at h
  refine a_inZ h ?_
  have e : ((z : Int) ∈ ni a) ↔ z ∈ a := ⟨fun h => by unfold ni at h; obtain ⟨x, hx, e⟩ := List.mem_map.mp h; rwa [← Int.ofNat.inj e], fun h => List.mem_map_of_mem h⟩
  rw [decide_eq_decide.mpr e]
  exact q
theorem a_ninN {z : Nat} {a : List Nat} (h : Seq K H p (vi a)) (q : Q (.bl (!decide (z ∈ a))) H) : rIn K true (.int (z : Nat)) (.ref p) H Q := by
  rw [← zi_ni] at h
  refine a_ninZ h ?_
  have e : ((z : Int) ∈ ni a) ↔ z ∈ a := ⟨fun h => by unfold ni at h; obtain ⟨x, hx, e⟩ := List.mem_map.mp h; rwa [← Int.ofNat.inj e], fun h => List.mem_map_of_mem h⟩
  rw [decide_eq_decide.mpr e]
  exact q
theorem a_inT {z : Str} {zs : List Str} (h : Seq K H p (zs.map V.str)) (q : Q (.bl (decide (z ∈ zs))) H) : rIn K false (.str z) (.ref p) H Q := ⟨p, _, rfl, h, rfl, flat_str zs, by rw [inV_str]; exact q⟩
theorem a_ninT {z : Str} {zs : List Str} (h : Seq K H p (zs.map V.str)) (q : Q (.bl (!decide (z ∈ zs))) H) : rIn K true (.str z) (.ref p) H Q := ⟨p, _, rfl, h, rfl, flat_str zs, by rw [inV_str]; exact q⟩
theorem a_any {bs : List Bool} (h : SqL K H p (bs.map V.bl)) (q : Q (.bl (bs.any id)) H) : rAny K [.ref p] H Q := ⟨p, bs, rfl, h, q⟩
theorem a_all {bs : List Bool} (h : SqL K H p (bs.map V.bl)) (q : Q (.bl (bs.all id)) H) : rAll K [.ref p] H Q := ⟨p, bs, rfl, h, q⟩
theorem a_ext {q : Addr} {ys : List V} (h : H p = some (.lst xs)) (h2 : H q = some (.lst ys)) (hl : xs.length + ys.length ≤ 100000) (k : ∀ H2, But p H H2 → H2 p = some (.lst (xs ++ ys)) → Q .non H2) : rExtend (.ref p) [.ref q] H Q := ⟨p, q, xs, ys, rfl, rfl, h, h2, Nat.le_trans hl (by decide), k _ But.upd upd_same⟩
theorem a_inSU {c : Nat} {z : Str} (q : Q (.bl (decide (c ∈ z.cps.toList))) H) : rInS (.str ⟨#[c]⟩) (.str z) H Q := ⟨c, z, rfl, rfl, q⟩
theorem a_lenSU {z : Str} (h : z.cps.size ≤ 100000) (q : Q (.int (z.cps.size : Nat)) H) : rLenS [.str z] H Q := ⟨z, rfl, Nat.le_trans h (by decide), q⟩
end
/-! names -/
def fitsN (z : Str) : Bool := decide (1 ≤ z.cps.size) && decide (z.cps.size ≤ 3) && z.cps.toList.all fun c => decide (c ∈ ("abcdefghijklmnopqrstuvwxyz" : Str).cps.toList)
/-! what can be come to -/
inductive Rch (ways : Nat → Nat → Prop) (b : Nat) : Nat → Prop
  | base : Rch ways b b
  | step {x y : Nat} : Rch ways b x → ways x y → Rch ways b y
/-- the list of what is found goes on till all is found -/
structure Spr (ways : List (List Nat)) (b : Nat) (found : List Nat) (at_ : Nat) : Prop where
  first : found.head? = some b
  nd : found.Nodup
  lt : ∀ x ∈ found, x < ways.length
  rch : ∀ x ∈ found, Rch (fun x y => y ∈ ways.getD x []) b x
  le : at_ ≤ found.length
  done : ∀ i (hi : i < found.length), i < at_ → ∀ y ∈ ways.getD found[i] [], y ∈ found
theorem getDL_lt {b : List (List Nat)} {i : Nat} (h : i < b.length) : b.getD i [] = b[i] := by
  rw [List.getD_eq_getElem?_getD, List.getElem?_eq_getElem h]
  rfl
theorem Spr.len {ways : List (List Nat)} {b : Nat} {found : List Nat} {k : Nat} (h : Spr ways b found k) : found.length ≤ ways.length := by
  have := sub_len (m := List.range ways.length) h.nd fun x hx => List.mem_range.mpr (h.lt x hx)
  rwa [List.length_range] at this
theorem Spr.go {ways : List (List Nat)} {b : Nat} {found : List Nat} {k : Nat} (h : Spr ways b found k) (hk : k < found.length) (wnd : ∀ l ∈ ways, l.Nodup) (wlt : ∀ l ∈ ways, ∀ y ∈ l, y < ways.length) :
    Spr ways b (found ++ (ways.getD found[k] []).filter fun g => decide (g ∉ found)) (k + 1) := by
  have hw : found[k] < ways.length := h.lt _ (List.getElem_mem hk)
  have hm : ways.getD found[k] [] ∈ ways := by rw [getDL_lt hw]; exact List.getElem_mem hw
  refine ⟨?_, ?_, ?_, ?_, ?_, ?_⟩
  · cases found with
    | nil => cases hk
    | cons x l => exact h.first
  · rw [List.nodup_append]
    refine ⟨h.nd, (wnd _ hm).filter _, fun x hx y hy e => ?_⟩
    subst e
    have := (List.mem_filter.mp hy).2
    simp at this
    exact this hx
  · intro x hx
    rcases List.mem_append.mp hx with hx | hx
    · exact h.lt x hx
    · exact wlt _ hm x (List.mem_filter.mp hx).1
  · intro x hx
    rcases List.mem_append.mp hx with hx | hx
    · exact h.rch x hx
    · exact .step (h.rch _ (List.getElem_mem hk)) (List.mem_filter.mp hx).1
  · rw [List.length_append]
    omega
  · intro i hi hik y hy
    have hi2 : i < found.length := by omega
    rw [List.getElem_append_left hi2] at hy
    by_cases e : i = k
    · subst e
      by_cases z : y ∈ found
      · exact List.mem_append_left _ z
      · exact List.mem_append_right _ (List.mem_filter.mpr ⟨hy, by simpa using z⟩)
    · exact List.mem_append_left _ (h.done i hi2 (by omega) y hy)
theorem Spr.fin {ways : List (List Nat)} {b : Nat} {found : List Nat} (h : Spr ways b found found.length) (x : Nat) : x ∈ found ↔ Rch (fun x y => y ∈ ways.getD x []) b x := by
  refine ⟨h.rch x, fun r => ?_⟩
  induction r with
  | base =>
    have := h.first
    cases found with
    | nil => cases this
    | cons y l => cases this; exact List.mem_cons_self ..
  | step _ hw ih =>
    obtain ⟨i, hi, e⟩ := List.getElem_of_mem ih
    exact h.done i hi hi _ (e ▸ hw)
/-! arrows -/
abbrev Ar := Int × Int × Str
def ArV (a : Ar) : List V := [.int a.1, .int a.2.1, .str a.2.2]
def ArS (K : PySem.W.Frag) (H : Hp) (v : V) (a : Ar) : Prop := ∃ q, v = .ref q ∧ Seq K H q (ArV a)
def ArT (K : PySem.W.Frag) (H : Hp) (v : V) (a : Ar) : Prop := ∃ q, v = .ref q ∧ SqT K H q (ArV a)
theorem ArT.s {K : PySem.W.Frag} {H : Hp} {v : V} {a : Ar} (h : ArT K H v a) : ArS K H v a := let ⟨q, e, h⟩ := h; ⟨q, e, .inr h⟩
theorem ArS.same {K : PySem.W.Frag} {H H1 : Hp} {v : V} {a : Ar} (h : ArS K H v a) (s : Same H H1) : ArS K H1 v a := let ⟨q, e, h⟩ := h; ⟨q, e, h.same s⟩
theorem ArT.same {K : PySem.W.Frag} {H H1 : Hp} {v : V} {a : Ar} (h : ArT K H v a) (s : Same H H1) : ArT K H1 v a := let ⟨q, e, h⟩ := h; ⟨q, e, same_t s h⟩
theorem ArT.but {K : PySem.W.Frag} {H H1 : Hp} {v : V} {a : Ar} {p : Addr} {o : HO} (h : ArT K H v a) (b : But p H H1) (hp : H p = some o) (no : ∀ xs, o ≠ .tup xs) (nf : ∀ ob xs, o ≠ .frz ob (.tup xs)) : ArT K H1 v a := by
  obtain ⟨q, e, h⟩ := h
  refine ⟨q, e, ?_⟩
  have ne : ∀ {u : HO}, H q = some u → u ≠ o → q ≠ p := fun hu n z => by
    subst z
    rw [hu] at hp
    exact n (Option.some.inj hp)
  rcases h with (h | ⟨ob, h⟩) | h
  · exact .inl (.inl (b _ _ (ne h fun z => no _ z.symm) h))
  · exact .inl (.inr ⟨ob, b _ _ (ne h fun z => nf _ _ z.symm) h⟩)
  · exact .inr h
/-- a tuple that another object's change leaves -/
theorem sqt_chg {K : PySem.W.Frag} {H H1 : Hp} {p q : Addr} {o : HO} {xs : List V} (h : SqT K H q xs) (b : But p H H1) (hp : H p = some o) (no : ∀ xs, o ≠ .tup xs) (nf : ∀ ob xs, o ≠ .frz ob (.tup xs)) : SqT K H1 q xs := by
  have ne : ∀ {u : HO}, H q = some u → u ≠ o → q ≠ p := fun hu n z => by
    subst z
    rw [hu] at hp
    exact n (Option.some.inj hp)
  rcases h with (h | ⟨ob, h⟩) | h
  · exact .inl (.inl (b _ _ (ne h fun z => no _ z.symm) h))
  · exact .inl (.inr ⟨ob, b _ _ (ne h fun z => nf _ _ z.symm) h⟩)
  · exact .inr h
def badAr (n : Int) (a : Ar) : Bool := decide (min a.1 a.2.1 < 0) || decide (n ≤ max a.1 a.2.1) || !fitsN a.2.2
end TT
namespace TT
open PySem PySem.Spec PyProof.Rows L2
section
variable {K : PySem.W.Frag} {j : Nat} {σ : L2.St} {H : Hp} {te : TE} {tt : TT} {Q : VK}
/-- over a list or a tuple -/
theorem c_s1 {tl : TE} {xs : List V} (f : Nat → V) (hn : xs.length ≤ 100000) (hl : ∀ R : VK, (∀ a H1, Same H H1 → Seq K H1 a xs → R (.ref a) H1) → tl σ H R)
    (hs : ∀ i x H', xs[i]? = some x → Same H H' → ∀ R : VK, (∀ H4, Same H' H4 → R (f i) H4) → te ((σ.set j none).set j (some x)) H' R)
    (hd : ∀ D H', H D = none → Same H H' → H' D = some (.lst ((List.range xs.length).map f)) → Q (.ref D) H') : tLc (iSeq K tl) (gName j) tYes te [j] σ H Q := by
  refine hl _ fun a H1 s1 h => a_iter h fun J w => lc_1 w f hn (fun H' s => s) (fun i x H' H2 hi s y => ?_) fun D H' n s e => hd D H' (s1.free n) (s1.trans s) e
  obtain ⟨rfl, e⟩ := y
  exact ⟨Same.refl _, hs i x _ e (s1.trans s)⟩
theorem cf_s1 {tl : TE} {xs : List V} (b : Nat → Bool) (f : Nat → V) (hn : xs.length ≤ 100000) (hl : ∀ R : VK, (∀ a H1, Same H H1 → Seq K H1 a xs → R (.ref a) H1) → tl σ H R)
    (hs : ∀ i x H', xs[i]? = some x → Same H H' → (∀ R : Bool → Hp → Prop, (∀ H3, Same H' H3 → R (b i) H3) → tt ((σ.set j none).set j (some x)) H' R) ∧
      (b i = true → ∀ H3, Same H' H3 → ∀ R : VK, (∀ H4, Same H3 H4 → R (f i) H4) → te ((σ.set j none).set j (some x)) H3 R))
    (hd : ∀ D H', H D = none → Same H H' → H' D = some (.lst (((List.range xs.length).filter b).map f)) → Q (.ref D) H') : tLc (iSeq K tl) (gName j) tt te [j] σ H Q := by
  refine hl _ fun a H1 s1 h => a_iter h fun J w => lc_f w b f hn (fun H' s => s) (fun i x H' H2 hi s y => ?_) fun D H' n s e => hd D H' (s1.free n) (s1.trans s) e
  obtain ⟨rfl, e⟩ := y
  exact ⟨Same.refl _, hs i x _ e (s1.trans s)⟩
end
end TT
namespace TT
open PySem PySem.Spec PyProof.Rows L2
def rDisp1 (p : Addr) (y z : V) (H : Hp) (Q : VK) : Prop := H p = some (.dK []) ∧ ∃ kvs : List (Key × V), [(y, z)] = kvs.map (fun kv => (kV kv.1, kv.2)) ∧ kvs.length ≤ 15 ∧ Q (.ref p) (upd H p (.dK (mergeK [] kvs)))
theorem g_disp1 {tk tv : TE} {σ : L2.St} {H : Hp} {Q : VK} (h : ∀ p H1, H p = none → Same H H1 → H1 p = some (.dK []) → tk σ H1 fun y H2 => tv σ H2 fun z H3 => rDisp1 p y z H3 Q) : tDisp [(tk, tv)] σ H Q := fun p hp => h p _ hp (same_new hp) upd_same
theorem a_disp1 {p : Addr} {y z : V} {k : Key} {H : Hp} {Q : VK} (e : y = kV k) (h : H p = some (.dK [])) (q : ∀ H2, But p H H2 → H2 p = some (.dK [(k, z)]) → Q (.ref p) H2) : rDisp1 p y z H Q := ⟨h, [(k, z)], by rw [e]; rfl, by show 1 ≤ 15; decide, q _ But.upd upd_same⟩
theorem Rch.pre {w : Nat → Nat → Prop} {x y z : Nat} (h : w x y) (r : Rch w y z) : Rch w x z := by
  induction r with
  | base => exact .step .base h
  | step _ hw ih => exact .step ih hw
theorem Rch.rev {w1 w2 : Nat → Nat → Prop} (h : ∀ x y, w1 x y → w2 y x) {b x : Nat} (r : Rch w1 b x) : Rch w2 x b := by
  induction r with
  | base => exact .base
  | step _ hw ih => exact Rch.pre (h _ _ hw) ih
end TT

set_option Elab.async false
set_option linter.all false
set_option maxRecDepth 100000
set_option maxHeartbeats 4000000
namespace TT
open PySem PySem.Spec PyProof.Rows L2
section
variable {K : PySem.W.Frag} {H : Hp} {Q : VK} {n : Nat} {x y : V} {d e : PyData}
theorem a_eqW (hx : Dq K H n x d) (hy : Dq K H n y e) (q : Q (.bl (PyData.eqv d e)) H) (l : n ≤ 64 := by decide) : rEqU K x y H Q := a_eqD hx.dp hy.dp (hx.sm.sh l) (hy.sm.sh l) q
theorem a_neW (hx : Dq K H n x d) (hy : Dq K H n y e) (q : Q (.bl (!PyData.eqv d e)) H) (l : n ≤ 64 := by decide) : rNeU K x y H Q := .inr ⟨_, _, hx.dp, hy.dp, hx.sm.sh l, hy.sm.sh l, q⟩
end
def rNinS : R2 := fun x y H Q => ∃ (c : Nat) (z : Str), x = .str ⟨#[c]⟩ ∧ y = .str z ∧ Q (.bl (!decide (c ∈ z.cps.toList))) H
theorem op_ninSU {X : Cx} : OpR X (compareOp .NotIn) rNinS := op_notIn_sign
theorem a_ninSU {H : Hp} {Q : VK} {c : Nat} {z : Str} (q : Q (.bl (!decide (c ∈ z.cps.toList))) H) : rNinS (.str ⟨#[c]⟩) (.str z) H Q := ⟨c, z, rfl, rfl, q⟩
section
variable {K : PySem.W.Frag} {j : Nat} {σ : L2.St} {H : Hp} {te : TE} {tt : TT} {Q : VK}
theorem cf_s {td : TE} {z : Str} (b : Nat → Bool) (f : Nat → V) (hn : z.cps.size ≤ 100000) (hl : ∀ R : VK, (∀ H1, Same H H1 → R (.str z) H1) → td σ H R)
    (hs : ∀ i c H', z.cps[i]? = some c → Same H H' → (∀ R : Bool → Hp → Prop, (∀ H3, Same H' H3 → R (b i) H3) → tt ((σ.set j none).set j (some (.str ⟨#[c]⟩))) H' R) ∧
      (b i = true → ∀ H3, Same H' H3 → ∀ R : VK, (∀ H4, Same H3 H4 → R (f i) H4) → te ((σ.set j none).set j (some (.str ⟨#[c]⟩))) H3 R))
    (hd : ∀ D H', H D = none → Same H H' → H' D = some (.lst (((List.range z.cps.size).filter b).map f)) → Q (.ref D) H') : tLc (iStr td) (gName j) tt te [j] σ H Q := by
  refine hl _ fun H1 s1 => ⟨z, rfl, lc_f walk_str b f hn (fun _ _ => True.intro) (fun i x H' H2 hi s y => ?_) fun D H' n s e => hd D H' (s1.free n) (s1.trans s) e⟩
  obtain ⟨rfl, c, e, rfl⟩ := y
  exact ⟨Same.refl _, hs i c _ e (s1.trans s)⟩
end
/-! what pairs lead to, round by round -/
inductive RchZ (prs : List Pr) (b : Int) : Int → Prop
  | base : RchZ prs b b
  | step {x y : Int} : RchZ prs b x → (x, y) ∈ prs → RchZ prs b y
def roundZ (prs : List Pr) (found : List Int) : List Int := found ++ (prs.filter fun p => decide (p.1 ∈ found) && decide (p.2 ∉ found)).map (·.2)
def closedZ (prs : List Pr) (found : List Int) : Prop := ∀ p ∈ prs, p.1 ∈ found → p.2 ∈ found
def cntZ (prs : List Pr) (found : List Int) : Nat := (prs.filter fun p => decide (p.2 ∈ found)).length
theorem closed_round {prs : List Pr} {found : List Int} (h : closedZ prs found) : roundZ prs found = found := by
  unfold roundZ
  have : (prs.filter fun p => decide (p.1 ∈ found) && decide (p.2 ∉ found)) = [] := by
    rw [List.filter_eq_nil_iff]
    intro p hp z
    simp only [Bool.and_eq_true, decide_eq_true_eq] at z
    exact z.2 (h p hp z.1)
  rw [this]
  simp
theorem filter_lt {α : Type} {p q : α → Bool} : ∀ {l : List α}, (∀ x ∈ l, p x = true → q x = true) → (∃ x ∈ l, p x = false ∧ q x = true) → (l.filter p).length < (l.filter q).length
  | [], _, ⟨x, hx, _⟩ => by cases hx
  | y :: l, h, ⟨x, hx, h1, h2⟩ => by
    have mono : (l.filter p).length ≤ (l.filter q).length := by
      have := fun x hx => h x (List.mem_cons_of_mem y hx)
      clear h hx h1 h2 x
      induction l with
      | nil => exact Nat.le_refl _
      | cons z l ih =>
        have ih := ih fun x hx => this x (List.mem_cons_of_mem z hx)
        rw [List.filter_cons, List.filter_cons]
        by_cases hp : p z = true
        · rw [if_pos hp, if_pos (this z (List.mem_cons_self ..) hp)]
          simpa using ih
        · rw [if_neg hp]
          split
          · simp; omega
          · exact ih
    rw [List.filter_cons, List.filter_cons]
    rcases List.mem_cons.mp hx with rfl | hx
    · rw [if_neg (by rw [h1]; decide), if_pos h2]
      simp; omega
    · have ih := filter_lt (fun x hx => h x (List.mem_cons_of_mem y hx)) ⟨x, hx, h1, h2⟩
      by_cases hp : p y = true
      · rw [if_pos hp, if_pos (h y (List.mem_cons_self ..) hp)]
        simpa using ih
      · rw [if_neg hp]
        split
        · simp; omega
        · exact ih
theorem round_next {prs : List Pr} {found : List Int} {i : Nat} (h : closedZ prs found ∨ i ≤ cntZ prs found) : closedZ prs (roundZ prs found) ∨ i + 1 ≤ cntZ prs (roundZ prs found) := by
  by_cases c : closedZ prs found
  · rw [closed_round c]
    exact .inl c
  · refine .inr ?_
    rcases h with h | h
    · exact absurd h c
    unfold closedZ at c
    obtain ⟨p, hp⟩ := Classical.not_forall.mp c
    obtain ⟨hm, hp⟩ := Classical.not_forall.mp hp
    obtain ⟨h1, h2⟩ := Classical.not_forall.mp hp
    refine Nat.lt_of_le_of_lt h (filter_lt (fun x _ hx => ?_) ⟨p, hm, decide_eq_false h2, ?_⟩)
    · exact decide_eq_true (List.mem_append_left _ (of_decide_eq_true hx))
    · refine decide_eq_true (List.mem_append_right _ (List.mem_map_of_mem (List.mem_filter.mpr ⟨hm, ?_⟩)))
      simp [h1, h2]
theorem closed_full {prs : List Pr} {found : List Int} (h : closedZ prs found ∨ prs.length ≤ cntZ prs found) : closedZ prs found := by
  rcases h with h | h
  · exact h
  · intro p hp _
    unfold cntZ at h
    have e := List.filter_sublist.eq_of_length_le (l₂ := prs) (by simpa using h)
    rw [← e] at hp
    exact of_decide_eq_true (List.mem_filter.mp hp).2
theorem rchZ_iff {prs : List Pr} {b : Int} {found : List Int} (hb : b ∈ found) (hr : ∀ x ∈ found, RchZ prs b x) (hc : closedZ prs found) (x : Int) : x ∈ found ↔ RchZ prs b x := by
  refine ⟨hr x, fun r => ?_⟩
  induction r with
  | base => exact hb
  | step _ hp ih => exact hc _ hp ih
theorem round_rch {prs : List Pr} {b : Int} {found : List Int} (hr : ∀ x ∈ found, RchZ prs b x) : ∀ x ∈ roundZ prs found, RchZ prs b x := fun x hx => by
  rcases List.mem_append.mp hx with hx | hx
  · exact hr x hx
  · obtain ⟨p, hp, rfl⟩ := List.mem_map.mp hx
    obtain ⟨h1, h2⟩ := List.mem_filter.mp hp
    simp only [Bool.and_eq_true, decide_eq_true_eq] at h2
    exact .step (hr _ h2.1) h1
end TT

namespace TT
open PySem PySem.Spec PyProof.Rows L2
local macro_rules | `(tactic| walk_at "tt") => `(tactic| first
  | with_reducible refine g_seq ?_
  | with_reducible refine g_raise ?_
  | with_reducible refine g_cos ?_
  | with_reducible refine g_gone ?_
  | with_reducible refine g_r0 ?_
  | with_reducible refine g_oex ?_
  | with_reducible refine g_try ?_
  | with_reducible refine g_FS ?_
  | with_reducible refine g_MS ?_
  | with_reducible refine g_KS ?_
  | with_reducible refine g_SS ?_
  | with_reducible refine g_BS ?_
  | with_reducible refine g_set ?_
  | with_reducible refine g_c ?_
  | ((with_reducible show tVar _ _ _ _); refine g_var rfl ?_)
  | with_reducible refine g_op ?_
  | with_reducible refine g_un ?_
  | with_reducible refine g_nil ?_
  | with_reducible refine g_cons ?_
  | with_reducible refine g_cb ?_
  | with_reducible refine g_if ?_
  | with_reducible refine g_ife ?_
  | with_reducible refine g_test ?_
  | with_reducible refine a_bl ?_
  | with_reducible refine g_tr ?_
  | with_reducible refine g_not ?_
  | with_reducible refine g_or ?_
  | with_reducible refine g_and ?_
  | with_reducible refine g_F ?_
  | with_reducible refine g_S ?_
  | with_reducible refine g_lst ?_
  | with_reducible refine g_tup ?_
  | with_reducible refine g_fld ?_
  | with_reducible refine g_sfld ?_
  | with_reducible refine g_methR ?_
  | with_reducible refine g_andV ?_
  | with_reducible refine g_orV ?_
  | with_reducible refine g_notT ?_
  | with_reducible refine g_chain ?_
  | with_reducible refine g_bm ?_
  | with_reducible refine g_bm0 ?_
  | with_reducible refine g_sl ?_
  | with_reducible refine g_nop ?_
  | with_reducible refine g_part ?_
  | with_reducible refine g_ret ?_
  | with_reducible refine g_drop ?_
  | with_reducible refine g_next ?_
  | with_reducible refine g_asg ?_
  | with_reducible refine g_sub ?_
  | with_reducible refine g_par ?_
  | with_reducible refine g_for ?_
  | with_reducible refine g_iSeq ?_
  | with_reducible refine g_iTup ?_
  | with_reducible refine g_iList ?_
  | with_reducible refine g_iRng ?_
  | with_reducible refine g_iEt ?_
  | with_reducible refine g_iEn ?_
  | with_reducible refine g_mk ?_
  | with_reducible refine g_lrg ?_
  | with_reducible refine g_rg1 ?_
  | with_reducible refine a_truB ?_
  | with_reducible refine a_truI ?_
  | with_reducible refine g_gcons ?_
  | with_reducible refine g_gnil ?_
  | with_reducible refine g_gname ?_
  | ((with_reducible show gTup _ _ _ (V.ref _) _ _ _); refine g_gtup (SqT.of (by assumption)) rfl ?_)
  | with_reducible refine g_co ?_
  | with_reducible refine a_two ?_
  | with_reducible refine g_dget ?_
  | with_reducible refine g_din ?_
  | with_reducible refine g_dnin ?_
  | with_reducible refine g_dput ?_
  | with_reducible refine g_dnew ?_
  | with_reducible refine g_dnewT ?_
  | with_reducible refine g_tB ?_
  | with_reducible refine g_iKeys ?_
  | with_reducible refine g_iStr ?_
  | with_reducible refine g_trg ?_
  | with_reducible refine g_m1 ?_
  | with_reducible refine a_isStr ?_
  | ((with_reducible show tAug _ _ _ _ _ _); refine g_aug rfl ?_)
  | with_reducible refine a_max2 ?_
  | with_reducible refine a_min2 ?_
  | with_reducible refine a_inSU ?_
  | with_reducible refine a_int ?_
  | with_reducible refine a_addI ?_
  | with_reducible refine a_I0 ?_
  | with_reducible refine a_U ?_
  | with_reducible refine a_ipI ?_
  | with_reducible refine a_int1 ?_
  | ((with_reducible refine a_eq ?_ ?_); (exact rfl))
  | ((with_reducible refine a_ne ?_ ?_); (exact rfl))
  | ((with_reducible show rIx _ (V.ref _) (V.int _) _ _); refine a_ixL (SqL.of (by assumption)) rfl ?_)
  | ((with_reducible show rLenU _ [V.ref _] _ _); refine a_lenL (SqL.of (by assumption)) ?_)
  | ((with_reducible show rLenU _ [V.ref _] _ _); refine a_lenT (SqT.of (by assumption)) ?_)
  | ((with_reducible refine a_mulI ?_ ?_); (dsimp only [CMul]; omega))
  | ((with_reducible refine a_I ?_ ?_); ((try dsimp only [CDiv, CPow, CMul]); omega)))
local macro_rules | `(tactic| walk_at "go") => `(tactic| (repeat walk_at "tt"))
local macro_rules | `(tactic| walk_at "if") => `(tactic| ((repeat ((fail_if_success (with_reducible show tSeq (tIfS _ _ _) _ _ _ _)); walk_at "tt")); (with_reducible show tSeq (tIfS _ _ _) _ _ _ _)))

def top (i : Nat) : Stmt := PySem.Challenge.pw_triedtells_k61_charts_kept_and_refused.main.body.getD i (.Pass ⟨0, 0, 0, 0⟩)
abbrev s__wall : Stmt := top 0
abbrev s_NoPlace_init : Stmt := inClass (top 3) 0
abbrev s_BadArrow_init : Stmt := inClass (top 4) 0
abbrev s_LoosePlace_init : Stmt := inClass (top 5) 0
abbrev s_fits_name : Stmt := top 9
abbrev s_spread : Stmt := top 13
abbrev s_distinct : Stmt := top 14
abbrev s_Chart_init : Stmt := inClass (top 15) 0
abbrev s_Chart_check_arrows : Stmt := inClass (top 15) 1
abbrev s_Chart_check_places : Stmt := inClass (top 15) 2
abbrev s_Chart_parts : Stmt := inClass (top 15) 3
abbrev s_Chart_eq : Stmt := inClass (top 15) 4
abbrev s_Chart_is_run : Stmt := inClass (top 15) 5
abbrev s_Chart_row_of : Stmt := inClass (top 15) 6
abbrev s_Chart_closed : Stmt := inClass (top 15) 7
abbrev s_Chart_clash : Stmt := inClass (top 15) 8
abbrev s_Chart_needed : Stmt := inClass (top 15) 9
abbrev s__law_state : Stmt := top 17
abbrev s__law_draw : Stmt := top 18
abbrev s__law_pick : Stmt := top 19
abbrev s__law_cell : Stmt := top 20
abbrev s__law_mixed : Stmt := top 21
abbrev s__law_chart : Stmt := top 22
abbrev s__law_onward : Stmt := top 23
abbrev s__law_walk : Stmt := top 24
abbrev s__law_caught : Stmt := top 25
abbrev s__law_named : Stmt := top 26
abbrev s__law_reached : Stmt := top 27
abbrev s__law_due : Stmt := top 28
abbrev s__law_spoiled : Stmt := top 29
abbrev s_law : Stmt := top 30
structure Txt (K : PySem.W.Frag) (mg : Str → Option Value) : Prop where
  b_list : mg "list" = none
  b_range : mg "range" = none
  b_all : mg "all" = none
  b_len : mg "len" = none
  b_tuple : mg "tuple" = none
  b_enumerate : mg "enumerate" = none
  b_int : mg "int" = none
  b_max : mg "max" = none
  b_isinstance : mg "isinstance" = none
  b_min : mg "min" = none
  k_LETTERS : ∃ u, mg "LETTERS" = some u ∧ RelV (.str "abcdefghijklmnopqrstuvwxyz") u
  k_MOST_PLACES : ∃ u, mg "MOST_PLACES" = some u ∧ RelV (.int 40) u
  k_MOST_ARROWS : ∃ u, mg "MOST_ARROWS" = some u ∧ RelV (.int 80) u
  g_TriedError : mg "TriedError" = some (.ref (He.ga K "TriedError"))
  g_NoPlace : mg "NoPlace" = some (.ref (He.ga K "NoPlace"))
  g_BadArrow : mg "BadArrow" = some (.ref (He.ga K "BadArrow"))
  g_LoosePlace : mg "LoosePlace" = some (.ref (He.ga K "LoosePlace"))
  g_TooGreat : mg "TooGreat" = some (.ref (He.ga K "TooGreat"))
  g_Chart : mg "Chart" = some (.ref (He.ga K "Chart"))
  o_Chart : Own K (He.ga K "Chart")
  mk_Chart : Mk K (He.ga K "Chart") (He.ma K (He.ga K "Chart") "__init__")
  n_Chart_count : NoAttr K (He.ga K "Chart") "count"
  n_Chart_start : NoAttr K (He.ga K "Chart") "start"
  n_Chart_end : NoAttr K (He.ga K "Chart") "end"
  n_Chart_arrows : NoAttr K (He.ga K "Chart") "arrows"
  m_Chart_check_arrows : Meth K (He.ga K "Chart") "check_arrows" (He.ma K (He.ga K "Chart") "check_arrows")
  m_Chart_check_places : Meth K (He.ga K "Chart") "check_places" (He.ma K (He.ga K "Chart") "check_places")
  m_Chart_parts : Meth K (He.ga K "Chart") "parts" (He.ma K (He.ga K "Chart") "parts")
  m_Chart_eq : Meth K (He.ga K "Chart") "__eq__" (He.ma K (He.ga K "Chart") "__eq__")
  m_Chart_is_run : Meth K (He.ga K "Chart") "is_run" (He.ma K (He.ga K "Chart") "is_run")
  m_Chart_row_of : Meth K (He.ga K "Chart") "row_of" (He.ma K (He.ga K "Chart") "row_of")
  m_Chart_closed : Meth K (He.ga K "Chart") "closed" (He.ma K (He.ga K "Chart") "closed")
  m_Chart_clash : Meth K (He.ga K "Chart") "clash" (He.ma K (He.ga K "Chart") "clash")
  m_Chart_needed : Meth K (He.ga K "Chart") "needed" (He.ma K (He.ga K "Chart") "needed")
  x_TooGreat : Err K (He.ga K "TooGreat")
  r_TooGreat : Rai0 K mg "TooGreat" (He.ga K "TooGreat")
  x_NoPlace : Err K (He.ga K "NoPlace")
  nx_NoPlace_place : PySem.W.findIn K (.ref (He.ga K "NoPlace")) "place" = some none
  xi_NoPlace : PySem.W.findIn K (.ref (He.ga K "NoPlace")) "__init__" = some (some (.ref (He.ma K (He.ga K "NoPlace") "__init__")))
  xt_NoPlace : PySem.W.typeIn K (.ref (He.ma K (He.ga K "NoPlace") "__init__")) = some (.type "function")
  x_BadArrow : Err K (He.ga K "BadArrow")
  nx_BadArrow_number : PySem.W.findIn K (.ref (He.ga K "BadArrow")) "number" = some none
  xi_BadArrow : PySem.W.findIn K (.ref (He.ga K "BadArrow")) "__init__" = some (some (.ref (He.ma K (He.ga K "BadArrow") "__init__")))
  xt_BadArrow : PySem.W.typeIn K (.ref (He.ma K (He.ga K "BadArrow") "__init__")) = some (.type "function")
  x_LoosePlace : Err K (He.ga K "LoosePlace")
  nx_LoosePlace_place : PySem.W.findIn K (.ref (He.ga K "LoosePlace")) "place" = some none
  xi_LoosePlace : PySem.W.findIn K (.ref (He.ga K "LoosePlace")) "__init__" = some (some (.ref (He.ma K (He.ga K "LoosePlace") "__init__")))
  xt_LoosePlace : PySem.W.typeIn K (.ref (He.ma K (He.ga K "LoosePlace") "__init__")) = some (.type "function")
  ki_TooGreat_TriedError : PySem.W.kitOne K (.ref (He.ga K "TooGreat")) (.ref (He.ga K "TriedError")) = some true
  ki_NoPlace_TriedError : PySem.W.kitOne K (.ref (He.ga K "NoPlace")) (.ref (He.ga K "TriedError")) = some true
  ki_BadArrow_TriedError : PySem.W.kitOne K (.ref (He.ga K "BadArrow")) (.ref (He.ga K "TriedError")) = some true
  ki_LoosePlace_TriedError : PySem.W.kitOne K (.ref (He.ga K "LoosePlace")) (.ref (He.ga K "TriedError")) = some true
  xm_TooGreat_TooGreat : PySem.W.exmOne K (.ref (He.ga K "TooGreat")) (.ref (He.ga K "TooGreat")) = some true
  xm_NoPlace_TooGreat : PySem.W.exmOne K (.ref (He.ga K "NoPlace")) (.ref (He.ga K "TooGreat")) = some false
  xm_NoPlace_NoPlace : PySem.W.exmOne K (.ref (He.ga K "NoPlace")) (.ref (He.ga K "NoPlace")) = some true
  xm_BadArrow_TooGreat : PySem.W.exmOne K (.ref (He.ga K "BadArrow")) (.ref (He.ga K "TooGreat")) = some false
  xm_BadArrow_NoPlace : PySem.W.exmOne K (.ref (He.ga K "BadArrow")) (.ref (He.ga K "NoPlace")) = some false
  xm_BadArrow_BadArrow : PySem.W.exmOne K (.ref (He.ga K "BadArrow")) (.ref (He.ga K "BadArrow")) = some true
  xm_LoosePlace_TooGreat : PySem.W.exmOne K (.ref (He.ga K "LoosePlace")) (.ref (He.ga K "TooGreat")) = some false
  xm_LoosePlace_NoPlace : PySem.W.exmOne K (.ref (He.ga K "LoosePlace")) (.ref (He.ga K "NoPlace")) = some false
  xm_LoosePlace_BadArrow : PySem.W.exmOne K (.ref (He.ga K "LoosePlace")) (.ref (He.ga K "BadArrow")) = some false
  xm_LoosePlace_LoosePlace : PySem.W.exmOne K (.ref (He.ga K "LoosePlace")) (.ref (He.ga K "LoosePlace")) = some true
  g_fits_name : mg "fits_name" = some (.ref (He.ga K "fits_name"))
  g_spread : mg "spread" = some (.ref (He.ga K "spread"))
  g_distinct : mg "distinct" = some (.ref (He.ga K "distinct"))
  g__law_state : mg "_law_state" = some (.ref (He.ga K "_law_state"))
  g__law_draw : mg "_law_draw" = some (.ref (He.ga K "_law_draw"))
  g__law_pick : mg "_law_pick" = some (.ref (He.ga K "_law_pick"))
  g__law_cell : mg "_law_cell" = some (.ref (He.ga K "_law_cell"))
  g__law_mixed : mg "_law_mixed" = some (.ref (He.ga K "_law_mixed"))
  g__law_chart : mg "_law_chart" = some (.ref (He.ga K "_law_chart"))
  g__law_onward : mg "_law_onward" = some (.ref (He.ga K "_law_onward"))
  g__law_walk : mg "_law_walk" = some (.ref (He.ga K "_law_walk"))
  g__law_caught : mg "_law_caught" = some (.ref (He.ga K "_law_caught"))
  g__law_named : mg "_law_named" = some (.ref (He.ga K "_law_named"))
  g__law_reached : mg "_law_reached" = some (.ref (He.ga K "_law_reached"))
  g__law_due : mg "_law_due" = some (.ref (He.ga K "_law_due"))
  g__law_spoiled : mg "_law_spoiled" = some (.ref (He.ga K "_law_spoiled"))
  g_law : mg "law" = some (.ref (He.ga K "law"))
  i_Chart : PySem.W.kitOne K (.ref (He.ga K "Chart")) (.ref (He.ga K "Chart")) = some true
  it_Chart : PySem.W.kitOne K (.type "tuple") (.ref (He.ga K "Chart")) = some false
  nf_Chart : PySem.W.notFirst K (He.ga K "Chart") (.ref (He.ga K "Chart")) = true
  nft_Chart : PySem.W.notFirst K (He.ga K "Chart") (.type "tuple") = true
def facts : List (PySem.W.Frag → Bool) := [
  fun K => (He.Fa.free "list").ok K,
  fun K => (He.Fa.free "range").ok K,
  fun K => (He.Fa.free "all").ok K,
  fun K => (He.Fa.free "len").ok K,
  fun K => (He.Fa.free "tuple").ok K,
  fun K => (He.Fa.free "enumerate").ok K,
  fun K => (He.Fa.free "int").ok K,
  fun K => (He.Fa.free "max").ok K,
  fun K => (He.Fa.free "isinstance").ok K,
  fun K => (He.Fa.free "min").ok K,
  fun K => (He.Fa.str "LETTERS" "abcdefghijklmnopqrstuvwxyz").ok K,
  fun K => (He.Fa.int "MOST_PLACES" 40).ok K,
  fun K => (He.Fa.int "MOST_ARROWS" 80).ok K,
  fun K => (He.Fa.glo "TriedError").ok K,
  fun K => (He.Fa.glo "NoPlace").ok K,
  fun K => (He.Fa.glo "BadArrow").ok K,
  fun K => (He.Fa.glo "LoosePlace").ok K,
  fun K => (He.Fa.glo "TooGreat").ok K,
  fun K => (He.Fa.glo "Chart").ok K,
  fun K => ownB K (He.ga K "Chart"),
  fun K => (He.Fa.mkr "Chart").ok K,
  fun K => (He.Fa.noat "Chart" "count").ok K,
  fun K => (He.Fa.noat "Chart" "start").ok K,
  fun K => (He.Fa.noat "Chart" "end").ok K,
  fun K => (He.Fa.noat "Chart" "arrows").ok K,
  fun K => (He.Fa.meth "Chart" "check_arrows").ok K,
  fun K => (He.Fa.meth "Chart" "check_places").ok K,
  fun K => (He.Fa.meth "Chart" "parts").ok K,
  fun K => (He.Fa.meth "Chart" "__eq__").ok K,
  fun K => (He.Fa.meth "Chart" "is_run").ok K,
  fun K => (He.Fa.meth "Chart" "row_of").ok K,
  fun K => (He.Fa.meth "Chart" "closed").ok K,
  fun K => (He.Fa.meth "Chart" "clash").ok K,
  fun K => (He.Fa.meth "Chart" "needed").ok K,
  fun K => errB K (He.ga K "TooGreat"),
  fun K => PySem.W.excIn K (He.ga K "TooGreat") [.type "ValueError", .type "Exception", .type "BaseException", .type "object"] "ValueError.__new__",
  fun K => errB K (He.ga K "NoPlace"),
  fun K => He.eqO (PySem.W.findIn K (.ref (He.ga K "NoPlace")) "place") (some none),
  fun K => He.eqO (PySem.W.findIn K (.ref (He.ga K "NoPlace")) "__init__") (some (some (.ref (He.ma K (He.ga K "NoPlace") "__init__")))),
  fun K => PySem.W.typeIn K (.ref (He.ma K (He.ga K "NoPlace") "__init__")) == some (.type "function"),
  fun K => errB K (He.ga K "BadArrow"),
  fun K => He.eqO (PySem.W.findIn K (.ref (He.ga K "BadArrow")) "number") (some none),
  fun K => He.eqO (PySem.W.findIn K (.ref (He.ga K "BadArrow")) "__init__") (some (some (.ref (He.ma K (He.ga K "BadArrow") "__init__")))),
  fun K => PySem.W.typeIn K (.ref (He.ma K (He.ga K "BadArrow") "__init__")) == some (.type "function"),
  fun K => errB K (He.ga K "LoosePlace"),
  fun K => He.eqO (PySem.W.findIn K (.ref (He.ga K "LoosePlace")) "place") (some none),
  fun K => He.eqO (PySem.W.findIn K (.ref (He.ga K "LoosePlace")) "__init__") (some (some (.ref (He.ma K (He.ga K "LoosePlace") "__init__")))),
  fun K => PySem.W.typeIn K (.ref (He.ma K (He.ga K "LoosePlace") "__init__")) == some (.type "function"),
  fun K => decide (PySem.W.kitOne K (.ref (He.ga K "TooGreat")) (.ref (He.ga K "TriedError")) = some true),
  fun K => decide (PySem.W.kitOne K (.ref (He.ga K "NoPlace")) (.ref (He.ga K "TriedError")) = some true),
  fun K => decide (PySem.W.kitOne K (.ref (He.ga K "BadArrow")) (.ref (He.ga K "TriedError")) = some true),
  fun K => decide (PySem.W.kitOne K (.ref (He.ga K "LoosePlace")) (.ref (He.ga K "TriedError")) = some true),
  fun K => decide (PySem.W.exmOne K (.ref (He.ga K "TooGreat")) (.ref (He.ga K "TooGreat")) = some true),
  fun K => decide (PySem.W.exmOne K (.ref (He.ga K "NoPlace")) (.ref (He.ga K "TooGreat")) = some false),
  fun K => decide (PySem.W.exmOne K (.ref (He.ga K "NoPlace")) (.ref (He.ga K "NoPlace")) = some true),
  fun K => decide (PySem.W.exmOne K (.ref (He.ga K "BadArrow")) (.ref (He.ga K "TooGreat")) = some false),
  fun K => decide (PySem.W.exmOne K (.ref (He.ga K "BadArrow")) (.ref (He.ga K "NoPlace")) = some false),
  fun K => decide (PySem.W.exmOne K (.ref (He.ga K "BadArrow")) (.ref (He.ga K "BadArrow")) = some true),
  fun K => decide (PySem.W.exmOne K (.ref (He.ga K "LoosePlace")) (.ref (He.ga K "TooGreat")) = some false),
  fun K => decide (PySem.W.exmOne K (.ref (He.ga K "LoosePlace")) (.ref (He.ga K "NoPlace")) = some false),
  fun K => decide (PySem.W.exmOne K (.ref (He.ga K "LoosePlace")) (.ref (He.ga K "BadArrow")) = some false),
  fun K => decide (PySem.W.exmOne K (.ref (He.ga K "LoosePlace")) (.ref (He.ga K "LoosePlace")) = some true),
  fun K => (He.Fa.glo "fits_name").ok K,
  fun K => (He.Fa.glo "spread").ok K,
  fun K => (He.Fa.glo "distinct").ok K,
  fun K => (He.Fa.glo "_law_state").ok K,
  fun K => (He.Fa.glo "_law_draw").ok K,
  fun K => (He.Fa.glo "_law_pick").ok K,
  fun K => (He.Fa.glo "_law_cell").ok K,
  fun K => (He.Fa.glo "_law_mixed").ok K,
  fun K => (He.Fa.glo "_law_chart").ok K,
  fun K => (He.Fa.glo "_law_onward").ok K,
  fun K => (He.Fa.glo "_law_walk").ok K,
  fun K => (He.Fa.glo "_law_caught").ok K,
  fun K => (He.Fa.glo "_law_named").ok K,
  fun K => (He.Fa.glo "_law_reached").ok K,
  fun K => (He.Fa.glo "_law_due").ok K,
  fun K => (He.Fa.glo "_law_spoiled").ok K,
  fun K => (He.Fa.glo "law").ok K,
  fun K => decide (PySem.W.kitOne K (.ref (He.ga K "Chart")) (.ref (He.ga K "Chart")) = some true),
  fun K => decide (PySem.W.kitOne K (.type "tuple") (.ref (He.ga K "Chart")) = some false),
  fun K => PySem.W.notFirst K (He.ga K "Chart") (.ref (He.ga K "Chart")),
  fun K => PySem.W.notFirst K (He.ga K "Chart") (.type "tuple")]
def fbs (K : PySem.W.Frag) : Bool := facts.all fun f => f K
structure FbsOk (K : PySem.W.Frag) : Prop where
  ok : fbs K = true
theorem FbsOk.fact {K : PySem.W.Frag} (c : FbsOk K) (i : Nat) {f : PySem.W.Frag → Bool} (h : facts[i]? = some f := by rfl) : f K = true := List.all_eq_true.mp c.ok f (List.mem_of_getElem? h)
theorem txt_of {K : PySem.W.Frag} {h : Heap} {mg : Str → Option Value} (X : K.In h) (G : h.Ns mainGlobals mg) (c : FbsOk K) : Txt K mg where
    b_list := He.free_ok X G (c.fact 0)
    b_range := He.free_ok X G (c.fact 1)
    b_all := He.free_ok X G (c.fact 2)
    b_len := He.free_ok X G (c.fact 3)
    b_tuple := He.free_ok X G (c.fact 4)
    b_enumerate := He.free_ok X G (c.fact 5)
    b_int := He.free_ok X G (c.fact 6)
    b_max := He.free_ok X G (c.fact 7)
    b_isinstance := He.free_ok X G (c.fact 8)
    b_min := He.free_ok X G (c.fact 9)
    k_LETTERS := (let ⟨t, h⟩ := He.str_ok X G (c.fact 10); ⟨_, h, ⟨t, rfl⟩⟩)
    k_MOST_PLACES := (let ⟨t, h⟩ := He.int_ok X G (c.fact 11); ⟨_, h, ⟨t, rfl⟩⟩)
    k_MOST_ARROWS := (let ⟨t, h⟩ := He.int_ok X G (c.fact 12); ⟨_, h, ⟨t, rfl⟩⟩)
    g_TriedError := He.glo_ok X G (c.fact 13)
    g_NoPlace := He.glo_ok X G (c.fact 14)
    g_BadArrow := He.glo_ok X G (c.fact 15)
    g_LoosePlace := He.glo_ok X G (c.fact 16)
    g_TooGreat := He.glo_ok X G (c.fact 17)
    g_Chart := He.glo_ok X G (c.fact 18)
    o_Chart := ownB_ok (c.fact 19)
    mk_Chart := He.mkr_ok (c.fact 20)
    n_Chart_count := He.noat_ok (c.fact 21)
    n_Chart_start := He.noat_ok (c.fact 22)
    n_Chart_end := He.noat_ok (c.fact 23)
    n_Chart_arrows := He.noat_ok (c.fact 24)
    m_Chart_check_arrows := He.meth_ok (c.fact 25)
    m_Chart_check_places := He.meth_ok (c.fact 26)
    m_Chart_parts := He.meth_ok (c.fact 27)
    m_Chart_eq := He.meth_ok (c.fact 28)
    m_Chart_is_run := He.meth_ok (c.fact 29)
    m_Chart_row_of := He.meth_ok (c.fact 30)
    m_Chart_closed := He.meth_ok (c.fact 31)
    m_Chart_clash := He.meth_ok (c.fact 32)
    m_Chart_needed := He.meth_ok (c.fact 33)
    x_TooGreat := errB_ok (c.fact 34)
    r_TooGreat := ⟨He.glo_ok X G (c.fact 17), errB_ok (c.fact 34), (c.fact 35)⟩
    x_NoPlace := errB_ok (c.fact 36)
    nx_NoPlace_place := He.eqO_ok (c.fact 37)
    xi_NoPlace := He.eqO_ok (c.fact 38)
    xt_NoPlace := eq_of_beq (c.fact 39)
    x_BadArrow := errB_ok (c.fact 40)
    nx_BadArrow_number := He.eqO_ok (c.fact 41)
    xi_BadArrow := He.eqO_ok (c.fact 42)
    xt_BadArrow := eq_of_beq (c.fact 43)
    x_LoosePlace := errB_ok (c.fact 44)
    nx_LoosePlace_place := He.eqO_ok (c.fact 45)
    xi_LoosePlace := He.eqO_ok (c.fact 46)
    xt_LoosePlace := eq_of_beq (c.fact 47)
    ki_TooGreat_TriedError := of_decide_eq_true (c.fact 48)
    ki_NoPlace_TriedError := of_decide_eq_true (c.fact 49)
    ki_BadArrow_TriedError := of_decide_eq_true (c.fact 50)
    ki_LoosePlace_TriedError := of_decide_eq_true (c.fact 51)
    xm_TooGreat_TooGreat := of_decide_eq_true (c.fact 52)
    xm_NoPlace_TooGreat := of_decide_eq_true (c.fact 53)
    xm_NoPlace_NoPlace := of_decide_eq_true (c.fact 54)
    xm_BadArrow_TooGreat := of_decide_eq_true (c.fact 55)
    xm_BadArrow_NoPlace := of_decide_eq_true (c.fact 56)
    xm_BadArrow_BadArrow := of_decide_eq_true (c.fact 57)
    xm_LoosePlace_TooGreat := of_decide_eq_true (c.fact 58)
    xm_LoosePlace_NoPlace := of_decide_eq_true (c.fact 59)
    xm_LoosePlace_BadArrow := of_decide_eq_true (c.fact 60)
    xm_LoosePlace_LoosePlace := of_decide_eq_true (c.fact 61)
    g_fits_name := He.glo_ok X G (c.fact 62)
    g_spread := He.glo_ok X G (c.fact 63)
    g_distinct := He.glo_ok X G (c.fact 64)
    g__law_state := He.glo_ok X G (c.fact 65)
    g__law_draw := He.glo_ok X G (c.fact 66)
    g__law_pick := He.glo_ok X G (c.fact 67)
    g__law_cell := He.glo_ok X G (c.fact 68)
    g__law_mixed := He.glo_ok X G (c.fact 69)
    g__law_chart := He.glo_ok X G (c.fact 70)
    g__law_onward := He.glo_ok X G (c.fact 71)
    g__law_walk := He.glo_ok X G (c.fact 72)
    g__law_caught := He.glo_ok X G (c.fact 73)
    g__law_named := He.glo_ok X G (c.fact 74)
    g__law_reached := He.glo_ok X G (c.fact 75)
    g__law_due := He.glo_ok X G (c.fact 76)
    g__law_spoiled := He.glo_ok X G (c.fact 77)
    g_law := He.glo_ok X G (c.fact 78)
    i_Chart := of_decide_eq_true (c.fact 79)
    it_Chart := of_decide_eq_true (c.fact 80)
    nf_Chart := (c.fact 81)
    nft_Chart := (c.fact 82)
theorem sc_NoPlace_init : FnScope ["self", "place"] ["self", "place"] (defScope s_NoPlace_init) := ⟨rfl, rfl, rfl, by decide +kernel, rfl, by decide +kernel, by decide +kernel⟩
theorem ok_NoPlace {P : Program} {w : World} {K : PySem.W.Frag} {mg : Str → Option Value} {base : Heap} {f : Addr} {fd : FuncData} (F : FX K "__init__" "NoPlace.__init__" s_NoPlace_init [] [] f fd) (T : Txt K mg) : FnOk P w K mg base (L2.CX P w) 1 f fd ["self", "place"] (spI1 (He.ga K "NoPlace") "place") := by
  refine F.ok sc_NoPlace_init (fun vs H Q E h => ?_) (fun cdv A outer s H vs Q E hr h => ?_)
  · obtain ⟨a, v, rfl, _⟩ := h
    rfl
  · obtain ⟨a, v, rfl, ha, k⟩ := h
    refine ⟨_, PSs.nox (pss_one (ps_ost (pv 0) (pv 1))), ?_⟩
    exact ⟨_, rfl, _, rfl, a, He.ga K "NoPlace", rfl, T.x_NoPlace.ox, T.nx_NoPlace_place, .inl ⟨ha, k⟩⟩
theorem sc_BadArrow_init : FnScope ["self", "number"] ["self", "number"] (defScope s_BadArrow_init) := ⟨rfl, rfl, rfl, by decide +kernel, rfl, by decide +kernel, by decide +kernel⟩
theorem ok_BadArrow {P : Program} {w : World} {K : PySem.W.Frag} {mg : Str → Option Value} {base : Heap} {f : Addr} {fd : FuncData} (F : FX K "__init__" "BadArrow.__init__" s_BadArrow_init [] [] f fd) (T : Txt K mg) : FnOk P w K mg base (L2.CX P w) 1 f fd ["self", "number"] (spI1 (He.ga K "BadArrow") "number") := by
  refine F.ok sc_BadArrow_init (fun vs H Q E h => ?_) (fun cdv A outer s H vs Q E hr h => ?_)
  · obtain ⟨a, v, rfl, _⟩ := h
    rfl
  · obtain ⟨a, v, rfl, ha, k⟩ := h
    refine ⟨_, PSs.nox (pss_one (ps_ost (pv 0) (pv 1))), ?_⟩
    exact ⟨_, rfl, _, rfl, a, He.ga K "BadArrow", rfl, T.x_BadArrow.ox, T.nx_BadArrow_number, .inl ⟨ha, k⟩⟩
theorem sc_LoosePlace_init : FnScope ["self", "place"] ["self", "place"] (defScope s_LoosePlace_init) := ⟨rfl, rfl, rfl, by decide +kernel, rfl, by decide +kernel, by decide +kernel⟩
theorem ok_LoosePlace {P : Program} {w : World} {K : PySem.W.Frag} {mg : Str → Option Value} {base : Heap} {f : Addr} {fd : FuncData} (F : FX K "__init__" "LoosePlace.__init__" s_LoosePlace_init [] [] f fd) (T : Txt K mg) : FnOk P w K mg base (L2.CX P w) 1 f fd ["self", "place"] (spI1 (He.ga K "LoosePlace") "place") := by
  refine F.ok sc_LoosePlace_init (fun vs H Q E h => ?_) (fun cdv A outer s H vs Q E hr h => ?_)
  · obtain ⟨a, v, rfl, _⟩ := h
    rfl
  · obtain ⟨a, v, rfl, ha, k⟩ := h
    refine ⟨_, PSs.nox (pss_one (ps_ost (pv 0) (pv 1))), ?_⟩
    exact ⟨_, rfl, _, rfl, a, He.ga K "LoosePlace", rfl, T.x_LoosePlace.ox, T.nx_LoosePlace_place, .inl ⟨ha, k⟩⟩

/-! ### the pen: what the law draws from -/
structure Pen (H : Hp) (p : Addr) (n : Nat) : Prop where
  ex : ∃ (a b k : Int), H p = some (.lst [.int a, .int b, .int k]) ∧ 0 ≤ k ∧ k + (n : Int) ≤ 1000000000
theorem Pen.le {H : Hp} {p : Addr} {n m : Nat} (h : Pen H p n) (l : m ≤ n) : Pen H p m := by
  obtain ⟨a, b, k, h1, h5, h6⟩ := h.ex
  exact ⟨a, b, k, h1, h5, by omega⟩
theorem Pen.mv {H H1 : Hp} {p : Addr} {n : Nat} (h : Pen H p n) (s : ∀ o, H p = some o → H1 p = some o) : Pen H1 p n := by
  obtain ⟨a, b, k, h1, h3⟩ := h.ex
  exact ⟨a, b, k, s _ h1, h3⟩
theorem Pen.same {H H1 : Hp} {p : Addr} {n : Nat} (h : Pen H p n) (s : Same H H1) : Pen H1 p n := h.mv fun o e => s p o e
theorem Pen.but {H H1 : Hp} {p q : Addr} {n : Nat} (h : Pen H p n) (s : But q H H1) (n1 : p ≠ q) : Pen H1 p n := h.mv fun o e => s p o n1 e
theorem Pen.at_ {H : Hp} {p : Addr} {n : Nat} (h : Pen H p n) : ∃ xs, H p = some (.lst xs) := by
  obtain ⟨a, b, k, h1, _⟩ := h.ex
  exact ⟨_, h1⟩
theorem Pen.ne {H : Hp} {p q : Addr} {n : Nat} (h : Pen H p n) (hq : H q = none) : p ≠ q := by
  obtain ⟨_, h1⟩ := h.at_
  exact ne_of_none h1 hq
theorem Pen.free {H H1 : Hp} {p q : Addr} {n : Nat} (h : Pen H1 p n) (b : But p H H1) (hq : H1 q = none) : H q = none := by
  cases e : H q with
  | none => rfl
  | some o =>
    have := b q o (Ne.symm (h.ne hq)) e
    rw [hq] at this
    cases this
def spState : Sp := fun vs H Q _ => ∃ (c : Int), vs = [.int c] ∧ ∀ p H', H p = none → Same H H' → Pen H' p 1000000000 → Q (.ref p) H'
def spDraw : Sp := fun vs H Q _ => ∃ (p : Addr) (m : Int) (n : Nat), vs = [.ref p, .int m] ∧ Pen H p (n + 1) ∧ 0 < m ∧ m < 1073741824 ∧
  ∀ (r : Int) H', 0 ≤ r → r < m → But p H H' → Pen H' p n → Q (.int r) H'
def spCell (K : PySem.W.Frag) : Sp := fun vs H Q _ => ∃ (a : Addr) (ns : List Int) (i : Nat), vs = [.ref a, .int (i : Nat)] ∧ SqL K H a (ns.map V.int) ∧ ∀ c : Int, Q (.int c) H
section
variable {P : Program} {w : World} {K : PySem.W.Frag} {mg : Str → Option Value} {base : Heap} {f : Addr} {fd : FuncData}
theorem sc__law_draw : FnScope ["_law_state_here", "_law_many", "_law_drawn", "_law_mixed_here"] ["_law_state_here", "_law_many"] (defScope s__law_draw) := ⟨rfl, rfl, rfl, by decide +kernel, rfl, by decide +kernel, by decide +kernel⟩
theorem ok_draw (F : FX K "_law_draw" "_law_draw" s__law_draw [] [] f fd) (T : Txt K mg) : FnOk P w K mg base (L2.CX P w) 2 f fd ["_law_state_here", "_law_many"] spDraw := by
  refine F.ok sc__law_draw (fun vs H Q E h => ?_) (fun cdv A outer s H vs Q E hr h => ?_)
  · obtain ⟨p, m, n, rfl, _⟩ := h
    rfl
  · obtain ⟨p, m, n, rfl, hp, m0, m1, k⟩ := h
    refine ⟨_, PSs.nox ((pss_cons (ps_asg (pe_op (k_add (K := K) rfl) (pe_ix (k_ix (K := K) rfl) (pv 0) pe_int (fun _ _ => rfl)) pe_int) (pg_sub (pv 0) pe_int set_list)) 
      (pss_cons (ps_if (pt_cmpR (k_eq (K := K) rfl hr.units) (pe_ix (k_ix (K := K) rfl) (pv 0) pe_int (fun _ _ => rfl)) pe_int (nomark _)) (pss_cons (ps_set (i := 2) sc__law_draw.nd rfl (Or.inl rfl) (pe_op op_mod (pe_callTy call_int1U (by rfl) T.b_int (by decide +kernel) (pa_cons (pe_ix (k_ix (K := K) rfl) (pv 0) pe_int (fun _ _ => rfl)) pa_nil)) (pv 1))) 
      (pss_cons (ps_asg (pe_op op_fdiv (pe_ix (k_ix (K := K) rfl) (pv 0) pe_int (fun _ _ => rfl)) (pv 1)) (pg_sub (pv 0) pe_int set_list)) (pss_one (ps_ret (pv 2))))) pss_nil) 
      (pss_cons (ps_set (i := 3) sc__law_draw.nd rfl (Or.inl rfl) (pe_op op_pow (pe_callTy call_int1U (by rfl) T.b_int (by decide +kernel) (pa_cons (pe_op (k_add (K := K) rfl) (pe_op (k_add (K := K) rfl) (pe_op op_mod (pe_callTy call_int1U (by rfl) T.b_int (by decide +kernel) (pa_cons (pe_ix (k_ix (K := K) rfl) (pv 0) pe_int (fun _ _ => rfl)) pa_nil)) pe_int) (pe_op (k_mul (K := K) rfl) (pe_ix (k_ix (K := K) rfl) (pv 0) pe_int (fun _ _ => rfl)) pe_int)) pe_int) pa_nil)) pe_int)) (pss_one (ps_ret (pe_op op_mod (pe_callTy call_int1U (by rfl) T.b_int (by decide +kernel) (pa_cons (pe_op op_fdiv (pe_op op_mod (pe_callTy call_int1U (by rfl) T.b_int (by decide +kernel) (pa_cons (pv 3) pa_nil)) pe_int) pe_int) pa_nil)) (pv 1)))))))), ?_⟩
    try dsimp only [cxOf]
    obtain ⟨a, b, n2, h1, k0, k1⟩ := hp.ex
    walk_at "go"
    refine a_setB h1 rfl fun H2 b1 g1 => ?_
    walk_at "go"
    refine a_ite (fun hc => ?_) (fun hc => ?_)
    · walk_at "go"
      refine a_setB g1 rfl fun H3 b2 g2 => ?_
      walk_at "go"
      exact k _ _ (Int.emod_nonneg _ (by omega)) (Int.emod_lt_of_pos _ m0) (b1.trans b2) ⟨_, _, _, g2, by omega, by omega⟩
    · walk_at "go"
      exact k _ _ (Int.emod_nonneg _ (by omega)) (Int.emod_lt_of_pos _ m0) b1 ⟨_, _, _, g1, by omega, by omega⟩
theorem sc__law_state : FnScope ["_law_cell_here"] ["_law_cell_here"] (defScope s__law_state) := ⟨rfl, rfl, rfl, by decide +kernel, rfl, by decide +kernel, by decide +kernel⟩
theorem ok_state (F : FX K "_law_state" "_law_state" s__law_state [] [] f fd) (T : Txt K mg) : FnOk P w K mg base (L2.CX P w) 2 f fd ["_law_cell_here"] spState := by
  refine F.ok sc__law_state (fun vs H Q E h => ?_) (fun cdv A outer s H vs Q E hr h => ?_)
  · obtain ⟨c, rfl, _⟩ := h
    rfl
  · obtain ⟨c, rfl, k⟩ := h
    refine ⟨_, PSs.nox ((pss_one (ps_ret (pe_lst (pa_cons (pe_callTy call_int1U (by rfl) T.b_int (by decide +kernel) (pa_cons (pv 0) pa_nil)) (pa_cons (pe_callTy call_int1U (by rfl) T.b_int (by decide +kernel) (pa_cons (pe_cmpR op_ge (pv 0) (pe_op op_pow pe_int pe_int) (nomark _)) pa_nil)) (pa_cons pe_int pa_nil))))))), ?_⟩
    try dsimp only [cxOf]
    walk_at "go"
    refine .inr ⟨_, rfl, ?_⟩
    walk_at "go"
    refine a_newL (by show 3 ≤ 100000; decide) fun p H2 np s2 h2 => ?_
    exact k p H2 np s2 ⟨_, _, _, h2, by omega, by omega⟩
theorem sc__law_cell : FnScope ["_law_script", "_law_at"] ["_law_script", "_law_at"] (defScope s__law_cell) := ⟨rfl, rfl, rfl, by decide +kernel, rfl, by decide +kernel, by decide +kernel⟩
theorem ok_cell (F : FX K "_law_cell" "_law_cell" s__law_cell [] [] f fd) (T : Txt K mg) : FnOk P w K mg base (L2.CX P w) 2 f fd ["_law_script", "_law_at"] (spCell K) := by
  refine F.ok sc__law_cell (fun vs H Q E h => ?_) (fun cdv A outer s H vs Q E hr h => ?_)
  · obtain ⟨a, ns, i, rfl, _⟩ := h
    rfl
  · obtain ⟨a, ns, i, rfl, hs, k⟩ := h
    refine ⟨_, PSs.nox ((pss_cons (ps_if (pt_cmpR op_lt (pv 1) (pe_callB (k_len (K := K) rfl) (by rfl) T.b_len PySem.boot_len (pa_cons (pv 0) pa_nil)) (nomark _)) (pss_one (ps_ret (pe_ix (k_ix (K := K) rfl) (pv 0) (pv 1) (fun _ _ => rfl)))) pss_nil) (pss_one (ps_ret (pe_op (k_add (K := K) rfl) pe_int (pv 1)))))), ?_⟩
    try dsimp only [cxOf]
    walk_at "go"
    refine a_lenL hs ?_
    walk_at "go"
    refine a_ite (fun hl => ?_) (fun hl => ?_)
    · rw [List.length_map] at hl
      have hj : i < ns.length := by omega
      walk_at "go"
      refine a_ixL hs (atI_of (j := i) (z := V.int ns[i]) rfl (by rw [List.getElem?_map, List.getElem?_eq_getElem hj]; rfl)) ?_
      exact k _
    · walk_at "go"
      exact k _
end

/-! ### charts -/
def spFits : Sp := fun vs H Q _ => ∃ z : Str, vs = [.str z] ∧ z.cps.size ≤ 1000 ∧ ∀ H', Same H H' → Q (.bl (fitsN z)) H'
section
variable {P : Program} {w : World} {K : PySem.W.Frag} {mg : Str → Option Value} {base : Heap} {f : Addr} {fd : FuncData}
theorem sc_fits_name : FnScope ["text", "letter"] ["text"] (defScope s_fits_name) := ⟨rfl, rfl, rfl, by decide +kernel, rfl, by decide +kernel, by decide +kernel⟩
theorem ok_fits (F : FX K "fits_name" "fits_name" s_fits_name [] [] f fd) (T : Txt K mg) : FnOk P w K mg base (L2.CX P w) 2 f fd ["text"] spFits := by
  refine F.ok sc_fits_name (fun vs H Q E h => ?_) (fun cdv A outer s H vs Q E hr h => ?_)
  · obtain ⟨z, rfl, _⟩ := h
    rfl
  · obtain ⟨z, rfl, hz, k⟩ := h
    refine ⟨_, PSs.nox ((pss_one (ps_ret (pe_and (pe_chain op_le op_le pe_int (pe_callB call_lenSU (by rfl) T.b_len PySem.boot_len (pa_cons (pv 0) pa_nil)) pe_int) (pe_one (pe_callB (k_all (K := K) rfl rfl) (by rfl) T.b_all (by decide +kernel) (pa_cons (by exact (pe_lc (own := [("letter", 1)]) rfl sc_fits_name.nd (pi_str (pv 0)) (blkOk_by (own := [("letter", 1)]) (N := ["text", "letter"]) (sc := defScope s_fits_name) (by decide +kernel)) (fun _ _ _ _ _ => by exact (pg_name (i := 1) sc_fits_name.nd rfl (Or.inl rfl))) (fun _ _ _ _ _ => by exact pts_nil) (fun _ _ _ _ _ => by exact (pe_cmpR op_inSU (pv 1) (pe_gv rfl T.k_LETTERS) rfl)))) pa_nil))))))), ?_⟩
    try dsimp only [cxOf]
    walk_at "go"
    refine a_lenSU (by omega) ?_
    have kk : ∀ b H', Same H H' → b = fitsN z → Q (.bl b) H' := fun b H' s e => e ▸ k H' s
    walk_at "go"
    refine a_ite (fun h1 => ?_) (fun h1 => ?_)
    · walk_at "go"
      refine a_ite (fun h2 => ?_) (fun h2 => ?_)
      · walk_at "go"
        refine c_s (z := z) (fun i => V.bl (decide (z.cps.getD i 0 ∈ ("abcdefghijklmnopqrstuvwxyz" : Str).cps.toList))) (by omega) ?_ ?_ ?_
        · intro R r
          walk_at "go"
          exact r _ (Same.refl _)
        · intro i c H' hc s' R r
          walk_at "go"
          have := r _ (Same.refl _)
          rw [Array.getD_eq_getD_getElem?, hc] at this
          exact this
        intro D H1 nD s1 hD
        walk_at "go"
        have e0 : (List.range z.cps.size).map (fun i => V.bl (decide (z.cps.getD i 0 ∈ ("abcdefghijklmnopqrstuvwxyz" : Str).cps.toList))) = (z.cps.toList.map fun c => decide (c ∈ ("abcdefghijklmnopqrstuvwxyz" : Str).cps.toList)).map V.bl := by
          refine List.ext_getElem (by simp) fun i p1 p2 => ?_
          have : i < z.cps.size := by simpa using p1
          simp [this]
        rw [e0] at hD
        refine a_all (SqL.of hD) (kk _ _ s1 ?_)
        unfold fitsN
        rw [decide_eq_true (by omega), decide_eq_true (by omega), List.all_map]
        rfl
      · refine kk _ _ (Same.refl _) ?_
        unfold fitsN
        rw [decide_eq_false (p := z.cps.size ≤ 3) (by omega)]
        simp
    · walk_at "go"
      refine a_F rfl ?_
      refine kk _ _ (Same.refl _) ?_
      unfold fitsN
      rw [decide_eq_false (p := 1 ≤ z.cps.size) (by omega)]
      rfl
end

def spDist (K : PySem.W.Frag) : Sp := fun vs H Q _ => ∃ (l : Addr) (a : List Nat), vs = [.ref l] ∧ SqL K H l (vi a) ∧ a.length ≤ 1000 ∧ ∀ r b H', H r = none → Same H H' → H' r = some (.lst (vi b)) → b.Nodup → (∀ x, x ∈ b ↔ x ∈ a) → Q (.ref r) H'
def LiAt (H : Hp) (v : V) (l : List Nat) : Prop := ∃ q, v = .ref q ∧ H q = some (.lst (vi l))
theorem LiAt.same {H H1 : Hp} {v : V} {l : List Nat} (h : LiAt H v l) (s : Same H H1) : LiAt H1 v l := let ⟨q, e, h⟩ := h; ⟨q, e, s _ _ h⟩
def spSpread (K : PySem.W.Frag) : Sp := fun vs H Q _ => ∃ (b : Nat) (w : Addr) (ws : List V) (ways : List (List Nat)), vs = [.int (b : Nat), .ref w] ∧ SqL K H w ws ∧ Par (LiAt H) ws ways ∧ b < ways.length ∧ (∀ l ∈ ways, l.Nodup) ∧ (∀ l ∈ ways, ∀ y ∈ l, y < ways.length) ∧ ways.length ≤ 1000 ∧
  ∀ r found H', H r = none → Same H H' → H' r = some (.lst (vi found)) → (∀ x, x ∈ found ↔ Rch (fun x y => y ∈ ways.getD x []) b x) → Q (.ref r) H'
theorem nat_keys : ∀ {l : List Key}, (∀ k ∈ l, ∃ n : Nat, k = .inl (n : Int)) → ∃ b : List Nat, l = b.map fun (n : Nat) => (.inl (n : Int) : Key)
  | [], _ => ⟨[], rfl⟩
  | k :: l, h => by
    obtain ⟨n, rfl⟩ := h k (List.mem_cons_self ..)
    obtain ⟨b, rfl⟩ := nat_keys (l := l) fun k hk => h k (List.mem_cons_of_mem _ hk)
    exact ⟨n :: b, rfl⟩
theorem range_getD (l : List Nat) : (List.range l.length).map (fun i => l.getD i 0) = l := by
  refine List.ext_getElem (by simp) fun i h1 h2 => ?_
  simp [h2]
theorem filt_vi (l : List Nat) (p : Nat → Bool) : ((List.range l.length).filter fun i => p (l.getD i 0)).map (fun i => V.int (l.getD i 0 : Nat)) = vi (l.filter p) := by
  conv => rhs; rw [← range_getD l, List.filter_map]
  unfold vi
  rw [List.map_map]
  rfl
section
variable {P : Program} {w : World} {K : PySem.W.Frag} {mg : Str → Option Value} {base : Heap} {f : Addr} {fd : FuncData}
theorem sc_distinct : FnScope ["places", "place"] ["places"] (defScope s_distinct) := ⟨rfl, rfl, rfl, by decide +kernel, rfl, by decide +kernel, by decide +kernel⟩
theorem ok_dist (F : FX K "distinct" "distinct" s_distinct [] [] f fd) (T : Txt K mg) : FnOk P w K mg base (L2.CX P w) 2 f fd ["places"] (spDist K) := by
  refine F.ok sc_distinct (fun vs H Q E h => ?_) (fun cdv A outer s H vs Q E hr h => ?_)
  · obtain ⟨l, a, rfl, _⟩ := h
    rfl
  · obtain ⟨l, a, rfl, hl, hn, k⟩ := h
    refine ⟨_, PSs.nox ((pss_one (ps_ret (pe_callTy (call_listDU rfl) (by rfl) T.b_list (by decide +kernel) (pa_cons (by exact (pe_dc (own := [("place", 1)]) rfl sc_distinct.nd (pi_seq (K := K) rfl (pv 0)) (blkOk_by (own := [("place", 1)]) (N := ["places", "place"]) (sc := defScope s_distinct) (by decide +kernel)) (fun _ _ _ _ _ => by exact (pg_name (i := 1) sc_distinct.nd rfl (Or.inl rfl))) (fun _ _ _ _ _ => by exact pts_nil) (fun _ _ _ _ _ => by exact (pv 1)) (fun _ _ _ _ _ => by exact pe_bl))) pa_nil))))), ?_⟩
    try dsimp only [cxOf]
    walk_at "go"
    refine c_d (xs := vi a) (ks := a.map fun (n : Nat) => (.inl (n : Int) : Key)) (v := .bl true) (by rw [vi_len]; omega) (by rw [List.map_map]; rfl) ?_ ?_ ?_ ?_
    · intro R r
      walk_at "go"
      exact r _ _ (Same.refl _) (.inl hl)
    · intro i kk H' hk s' R r
      walk_at "go"
      exact r _ (Same.refl _)
    · intro i kk H' hk s' R r
      walk_at "go"
      exact r _ (Same.refl _)
    intro D H1 nD s1 hD
    walk_at "go"
    refine a_listD (.inl hD) fun r H2 nr s2 h2 => ?_
    obtain ⟨b, eb⟩ := nat_keys (l := (putAll (.bl true) (a.map fun (n : Nat) => (.inl (n : Int) : Key))).map (·.1)) fun kk hk => by
      obtain ⟨n, _, rfl⟩ := List.mem_map.mp ((putAll_mem _ _ _).mp hk)
      exact ⟨n, rfl⟩
    have e2 : (putAll (.bl true) (a.map fun (n : Nat) => (.inl (n : Int) : Key))).map (fun kv => kV kv.1) = vi b := by
      have := congrArg (List.map kV) eb
      rw [List.map_map, List.map_map] at this
      exact this
    rw [e2] at h2
    refine k r b H2 (s1.free nr) (s1.trans s2) h2 ?_ fun x => ?_
    · have := putAll_nodup (.bl true) (a.map fun (n : Nat) => (.inl (n : Int) : Key))
      rw [eb] at this
      unfold List.Nodup at this ⊢
      rw [List.pairwise_map] at this
      exact this.imp fun h e => h (by rw [e])
    · have := putAll_mem (.bl true) (a.map fun (n : Nat) => (.inl (n : Int) : Key)) (.inl (x : Int))
      rw [eb] at this
      simp only [List.mem_map] at this
      constructor
      · intro hx
        obtain ⟨y, hy, e⟩ := this.mp ⟨x, hx, rfl⟩
        have := Int.ofNat.inj (Sum.inl.inj e)
        rwa [← this]
      · intro hx
        obtain ⟨y, hy, e⟩ := this.mpr ⟨x, hx, rfl⟩
        have := Int.ofNat.inj (Sum.inl.inj e)
        rwa [← this]
theorem sc_spread : FnScope ["begun", "ways", "found", "at", "goal"] ["begun", "ways"] (defScope s_spread) := ⟨rfl, rfl, rfl, by decide +kernel, rfl, by decide +kernel, by decide +kernel⟩
theorem ok_spread (F : FX K "spread" "spread" s_spread [] [] f fd) (T : Txt K mg) : FnOk P w K mg base (L2.CX P w) 3 f fd ["begun", "ways"] (spSpread K) := by
  refine F.ok sc_spread (fun vs H Q E h => ?_) (fun cdv A outer s H vs Q E hr h => ?_)
  · obtain ⟨b, w, ws, ways, rfl, _⟩ := h
    rfl
  · obtain ⟨b, wa, ws, ways, rfl, hw, pw, hb, wnd, wlt, wn, k⟩ := h
    refine ⟨_, PSs.nox ((pss_cons (ps_set (i := 2) sc_spread.nd rfl (Or.inr rfl) (pe_lst (pa_cons (pv 0) pa_nil))) 
      (pss_cons (ps_set (i := 3) sc_spread.nd rfl (Or.inl rfl) pe_int) 
      (pss_cons (ps_while PassesOwn.never (pt_cmpR op_lt (pv 3) (pe_callB (k_len (K := K) rfl) (by rfl) T.b_len PySem.boot_len (pa_cons (pv 2) pa_nil)) (nomark _)) (pss_cons (ps_expr (k_bm (K := K) rfl PySem.F.plainAttrs_list PySem.F.slot_list_extend PySem.F.type_list_extend mt_extend (pv 2) (pa_cons (by exact (pe_lc (own := [("goal", 4)]) rfl sc_spread.nd (k_iL (K := K) rfl (pe_ix (k_ix (K := K) rfl) (pv 1) (pe_ix (k_ix (K := K) rfl) (pv 2) (pv 3) (fun _ _ => rfl)) (fun _ _ => rfl))) (blkOk_by (own := [("goal", 4)]) (N := ["begun", "ways", "found", "at", "goal"]) (sc := defScope s_spread) (by decide +kernel)) (fun _ _ _ _ _ => by exact (pg_name (i := 4) sc_spread.nd rfl (Or.inl rfl))) (fun _ _ _ _ _ => by exact (pts_one (pt_cmpR (k_notin (K := K) rfl) (pv 4) (pv 2) rfl))) (fun _ _ _ _ _ => by exact (pv 4)))) pa_nil))) (pss_one (ps_aug (i := 3) sc_spread.nd rfl (Or.inl rfl) pe_int ip_add)))) (pss_one (ps_ret (pv 2))))))), ?_⟩
    try dsimp only [cxOf]
    walk_at "go"
    refine a_newL (by show 1 ≤ 100000; decide) fun D H1 nD s1 hD => ?_
    walk_at "go"
    refine w_loop (fun m σ H' => ∃ (found : List Nat) (at_ : Nat) (v4 : Option V), σ = [some (.int (b : Nat)), some (.ref wa), some (.ref D), some (.int (at_ : Nat)), v4] ∧ Same H H' ∧ H' D = some (.lst (vi found)) ∧ Spr ways b found at_ ∧ m = ways.length - at_) ways.length
      ⟨[b], 0, none, rfl, s1, hD, ⟨rfl, by simp, by simpa using hb, by intro x hx; rw [List.mem_singleton.mp hx]; exact .base, Nat.zero_le _, by intro i hi h; omega⟩, by omega⟩ ?_
    rintro m σ H2 ⟨found, at_, v4, rfl, s2, hD2, sp, rfl⟩
    walk_at "go"
    rw [vi_len]
    walk_at "go"
    refine a_ite (fun hlt => ?_) (fun hge => ?_)
    · have hlt : at_ < found.length := by omega
      have hfl := sp.len
      refine w_go ?_
      walk_at "go"
      refine a_ty hD2 ?_
      have hx := sp.lt _ (List.getElem_mem hlt)
      obtain ⟨v, ev, q, rfl, hq⟩ := pw.get hx
      refine cf_l (xs := vi ways[found[at_]]) (fun i => decide (ways[found[at_]].getD i 0 ∉ found)) (fun i => V.int (ways[found[at_]].getD i 0 : Nat)) (by rw [vi_len]; have := sub_len (m := List.range ways.length) (wnd _ (List.getElem_mem hx)) (fun x h => List.mem_range.mpr (wlt _ (List.getElem_mem hx) x h)); rw [List.length_range] at this; omega) ?_ ?_ ?_
      · intro R r
        walk_at "go"
        refine a_ixL (SqL.of hD2) (atI_of rfl (vi_at hlt)) ?_
        walk_at "go"
        refine a_ixL (same_l s2 hw) (atI_of rfl ev) ?_
        exact r _ _ (Same.refl _) (SqL.of (s2 _ _ hq))
      · intro i x H' hx' s' 
        obtain ⟨hi, rfl⟩ := vi_get hx'
        refine ⟨fun R r => ?_, fun _ H3 s3 R r => ?_⟩
        · walk_at "go"
          refine a_ninN (.inl (SqL.of (s' _ _ hD2))) ?_
          walk_at "go"
          have := r _ (Same.refl _)
          rw [getD_lt hi] at this
          simpa using this
        · walk_at "go"
          have := r _ (Same.refl _)
          rw [getD_lt hi] at this
          exact this
      intro E1 H3 nE s3 hE
      have ef := filt_vi ways[found[at_]] fun g => decide (g ∉ found)
      rw [vi_len, ef] at hE
      walk_at "go"
      have hlen : (ways[found[at_]].filter fun g => decide (g ∉ found)).length ≤ 1000 := by
        refine Nat.le_trans (List.length_filter_le _ _) ?_
        have := sub_len (m := List.range ways.length) (wnd _ (List.getElem_mem hx)) fun x h => List.mem_range.mpr (wlt _ (List.getElem_mem hx) x h)
        rw [List.length_range] at this
        omega
      refine a_ext (s3 _ _ hD2) hE (by rw [vi_len, vi_len]; omega) fun H4 b4 h4 => ?_
      walk_at "go"
      have g := sp.go hlt wnd wlt
      rw [getDL_lt hx] at g
      refine ⟨_, ?_, _, at_ + 1, _, rfl, fun c o e => b4 c o (ne_of_none e nD) (s3 c o (s2 c o e)), ?_, g, rfl⟩
      · omega
      · rw [h4]
        unfold vi
        rw [List.map_append]
    · walk_at "go"
      have he : at_ = found.length := by have := sp.le; omega
      subst he
      exact k D found H2 nD s2 hD2 sp.fin
end
/-! ### what a chart holds -/
def chF (n s e : Int) (t : Addr) : List (Str × V) := [("count", .int n), ("start", .int s), ("end", .int e), ("arrows", .ref t)]
def ChAt (K : PySem.W.Frag) (H : Hp) (p : Addr) (n : Int) (as : List Ar) (s e : Int) : Prop := ∃ dx t vs, H p = some (.ins (He.ga K "Chart") dx (chF n s e t)) ∧ SqT K H t vs ∧ Par (ArT K H) vs as
theorem ChAt.same {K : PySem.W.Frag} {H H1 : Hp} {p : Addr} {n s e : Int} {as : List Ar} (h : ChAt K H p n as s e) (sm : Same H H1) : ChAt K H1 p n as s e := by
  obtain ⟨dx, t, vs, h1, h2, h3⟩ := h
  exact ⟨dx, t, vs, sm _ _ h1, same_t sm h2, h3.mono fun v a h => h.same sm⟩
theorem lk_count (n s e : Int) (t : Addr) : (chF n s e t).lookup ("count" : Str) = some (.int n) := by simp [chF, List.lookup]
theorem lk_start (n s e : Int) (t : Addr) : (chF n s e t).lookup ("start" : Str) = some (.int s) := by
  have h1 : (("start" : Str) == ("count" : Str)) = false := by decide +kernel
  simp [chF, List.lookup, h1]
theorem lk_end (n s e : Int) (t : Addr) : (chF n s e t).lookup ("end" : Str) = some (.int e) := by
  have h1 : (("end" : Str) == ("count" : Str)) = false := by decide +kernel
  have h2 : (("end" : Str) == ("start" : Str)) = false := by decide +kernel
  simp [chF, List.lookup, h1, h2]
theorem lk_arrows (n s e : Int) (t : Addr) : (chF n s e t).lookup ("arrows" : Str) = some (.ref t) := by
  have h1 : (("arrows" : Str) == ("count" : Str)) = false := by decide +kernel
  have h2 : (("arrows" : Str) == ("start" : Str)) = false := by decide +kernel
  have h3 : (("arrows" : Str) == ("end" : Str)) = false := by decide +kernel
  simp [chF, List.lookup, h1, h2, h3]
def ahead (as : List Ar) (x y : Nat) : Prop := ∃ a ∈ as, a.1 = (x : Int) ∧ a.2.1 = (y : Int)
def aback (as : List Ar) (x y : Nat) : Prop := ∃ a ∈ as, a.2.1 = (x : Int) ∧ a.1 = (y : Int)
def onway (as : List Ar) (s e x : Nat) : Prop := Rch (ahead as) s x ∧ Rch (aback as) e x
/-- the arrows have their form -/
def arsOk (n : Nat) (as : List Ar) : Prop := ∀ a ∈ as, badAr n a = false
theorem arsOk.at_ {n : Nat} {as : List Ar} (h : arsOk n as) : ∀ a ∈ as, ∃ x y : Nat, a.1 = (x : Int) ∧ a.2.1 = (y : Int) ∧ x < n ∧ y < n ∧ fitsN a.2.2 = true := fun a ha => by
  have := h a ha
  unfold badAr at this
  simp only [Bool.or_eq_false_iff, decide_eq_false_iff_not, Bool.not_eq_false'] at this
  obtain ⟨⟨h1, h2⟩, h3⟩ := this
  exact ⟨a.1.toNat, a.2.1.toNat, by omega, by omega, by omega, by omega, h3⟩
def spChkA (K : PySem.W.Frag) : Sp := fun vs H Q E => ∃ (p : Addr) (n s e : Int) (as : List Ar), vs = [.ref p] ∧ ChAt K H p n as s e ∧ as.length ≤ 1000 ∧ (∀ a ∈ as, a.2.2.cps.size ≤ 1000) ∧
  ((∀ a ∈ as, badAr n a = false) → ∀ H', Same H H' → Q .non H') ∧
  (∀ i (hi : i < as.length), badAr n as[i] = true → (∀ j (hj : j < i), badAr n (as[j]'(by omega)) = false) → ∀ D H', Same H H' → H' D = some (.xd [("number", .int (i : Nat))]) → E (.ref (He.ga K "BadArrow")) (some D) H')
def spChkP (K : PySem.W.Frag) : Sp := fun vs H Q E => ∃ (p : Addr) (n s e : Nat) (as : List Ar), vs = [.ref p] ∧ ChAt K H p n as s e ∧ as.length ≤ 1000 ∧ n ≤ 1000 ∧ s < n ∧ e < n ∧ arsOk n as ∧
  ((∀ x, x < n → onway as s e x) → ∀ H', Same H H' → Q .non H') ∧
  (∀ x, x < n → ¬ onway as s e x → (∀ y, y < x → onway as s e y) → ∀ D H', Same H H' → H' D = some (.xd [("place", .int (x : Nat))]) → E (.ref (He.ga K "LoosePlace")) (some D) H')
theorem filt_map {α : Type} (l : List α) (d : α) (p : α → Bool) (g : α → V) : ((List.range l.length).filter fun i => p (l.getD i d)).map (fun i => g (l.getD i d)) = (l.filter p).map g := by
  have e : (List.range l.length).map (fun i => l.getD i d) = l := by
    refine List.ext_getElem (by simp) fun i h1 h2 => ?_
    simp [h2]
  conv => rhs; rw [← e, List.filter_map]
  rw [List.map_map]
  rfl
theorem par_choose {α β : Type} [Inhabited β] {R : α → β → Prop} {S : Nat → β → Prop} {acc : List α} (h : ∀ k v, acc[k]? = some v → ∃ b, R v b ∧ S k b) : ∃ ways : List β, Par R acc ways ∧ ∀ k b, ways[k]? = some b → S k b := by
  refine revInd (P := fun acc => (∀ k v, acc[k]? = some v → ∃ b, R v b ∧ S k b) → ∃ ways : List β, Par R acc ways ∧ ∀ k b, ways[k]? = some b → S k b) ?_ ?_ acc h
  · intro _
    exact ⟨[], .nil, fun k b e => by simp at e⟩
  · intro l x ih h
    obtain ⟨ways, h1, h2⟩ := ih fun k v e => h k v (by rw [List.getElem?_append_left (List.getElem?_eq_some_iff.mp e).1]; exact e)
    obtain ⟨b, hb1, hb2⟩ := h l.length x (by simp)
    refine ⟨ways ++ [b], h1.snoc hb1, fun k c e => ?_⟩
    by_cases hk : k < ways.length
    · rw [List.getElem?_append_left hk] at e
      exact h2 k c e
    · have : k = ways.length := by
        have := (List.getElem?_eq_some_iff.mp e).1
        simp at this
        omega
      subst this
      simp at e
      subst e
      rw [← h1.1]
      exact hb2
theorem Rch.congr {w1 w2 : Nat → Nat → Prop} (h : ∀ x y, w1 x y ↔ w2 x y) {b x : Nat} : Rch w1 b x ↔ Rch w2 b x := by
  have e : w1 = w2 := funext fun x => funext fun y => propext (h x y)
  rw [e]
theorem c_ways {K : PySem.W.Frag} {mg : Str → Option Value} (T : Txt K mg) {H : Hp} {p dx t : Addr} {n s e : Nat} {as : List Ar} {vs : List V} {v1 v2 v3 v4 v5 v6 : Option V} {Q : VK} (h1 : H p = some (.ins (He.ga K "Chart") dx (chF n s e t))) (h2 : SqT K H t vs) (h3 : Par (ArT K H) vs as) (hl : as.length ≤ 1000) (hn : n ≤ 1000)
    (i0 i1 : Int) (g0 g1 : Ar → Int) (e0 : ∀ a, atI (ArV a) i0 = some (.int (g0 a))) (e1 : ∀ a, atI (ArV a) i1 = some (.int (g1 a))) (nn : ∀ a ∈ as, 0 ≤ g1 a)
    (k : ∀ D ws H' ways, H D = none → Same H H' → H' D = some (.lst ws) → Par (LiAt H') ws ways → ways.length = n → (∀ x b, ways[x]? = some b → b.Nodup ∧ ∀ y, y ∈ b ↔ ∃ a ∈ as, g0 a = (x : Nat) ∧ g1 a = (y : Nat)) → Q (.ref D) H') :
    tLc (iRng1 (tCons (tFld K (tVar 0) (Str.ofString "count")) tNil)) (gName 3) tYes (tF (spDist K) E0 (tCons (tLc (iTup K (tFld K (tVar 0) (Str.ofString "arrows"))) (gName 2) (tTest (tOp (rEqU K) (tOp (rIx K) (tVar 2) (tC (V.int i0))) (tVar 3))) (tOp (rIx K) (tVar 2) (tC (V.int i1))) [2]) tNil)) [3]
      [some (.ref p), v1, v2, v3, v4, v5, v6] H Q := by
  refine c_rp (k := n) (P := fun D i v H' => ∃ q b, v = V.ref q ∧ q ≠ D ∧ H' q = some (.lst (vi b)) ∧ b.Nodup ∧ ∀ y, y ∈ b ↔ ∃ a ∈ as, g0 a = (i : Nat) ∧ g1 a = (y : Nat)) ⟨?_, ?_⟩ (by omega) ?_ ?_ ?_
  · rintro D i v H H' sm ⟨q, b, rfl, nq, hq, r⟩
    exact ⟨q, b, rfl, nq, sm _ _ hq, r⟩
  · rintro D i v H H' ys hD bt ⟨q, b, rfl, nq, hq, r⟩
    exact ⟨q, b, rfl, nq, bt _ _ nq hq, r⟩
  · intro R r
    walk_at "go"
    refine a_fld h1 T.o_Chart.cl T.n_Chart_count (lk_count ..) ?_
    walk_at "go"
    exact r _ (Same.refl _)
  · intro D acc i H' nD hi s' hacc R r
    walk_at "go"
    refine cf_t (xs := vs) (fun j => decide (g0 (as.getD j (0, 0, "")) = (i : Nat))) (fun j => V.int (g1 (as.getD j (0, 0, "")))) (by rw [h3.1]; omega) ?_ ?_ ?_
    · intro R r
      walk_at "go"
      exact a_fld (s' _ _ h1) T.o_Chart.cl T.n_Chart_arrows (lk_arrows ..) (r _ _ (Same.refl _) (same_t s' h2))
    · intro j x H3 hx s3
      have hj : j < as.length := by
        rw [← h3.1]
        exact (List.getElem?_eq_some_iff.mp hx).1
      obtain ⟨v, ev, q, rfl, hq⟩ := h3.get hj
      rw [hx] at ev
      cases ev
      have eg : as.getD j (0, 0, "") = as[j] := by
        rw [List.getD_eq_getElem?_getD, List.getElem?_eq_getElem hj]
        rfl
      refine ⟨fun R r => ?_, fun _ H4 s4 R r => ?_⟩
      · walk_at "go"
        refine a_ixT (same_t (s'.trans s3) hq) (e0 _) ?_
        walk_at "go"
        have := r _ (Same.refl _)
        rw [eg] at this
        rw [decide_eq_decide.mpr (show (V.int (g0 as[j]) = V.int (i : Nat)) ↔ g0 as[j] = (i : Nat) from ⟨V.int.inj, fun z => by rw [z]⟩)]
        exact this
      · walk_at "go"
        refine a_ixT (same_t (s'.trans (s3.trans s4)) hq) (e1 _) ?_
        have := r _ (Same.refl _)
        rw [eg] at this
        exact this
    intro E1 H3 nE s3 hE
    have ef := filt_map as (0, 0, "") (fun a => decide (g0 a = (i : Nat))) (fun a => V.int (g1 a))
    have ev : (as.filter fun a => decide (g0 a = (i : Nat))).map (fun a => V.int (g1 a)) = vi ((as.filter fun a => decide (g0 a = (i : Nat))).map fun a => (g1 a).toNat) := by
      unfold vi
      rw [List.map_map]
      refine List.map_congr_left fun a ha => ?_
      have := nn a (List.mem_filter.mp ha).1
      show V.int _ = V.int _
      congr 1
      show g1 a = ((g1 a).toNat : Int)
      omega
    rw [h3.1, ef, ev] at hE
    walk_at "go"
    refine ⟨E1, _, rfl, SqL.of hE, ?_, fun q b H4 nq s4 hq nd mem => ?_⟩
    · rw [List.length_map]
      exact Nat.le_trans (List.length_filter_le _ _) hl
    refine r _ _ (s3.trans s4) ⟨q, b, rfl, Ne.symm (ne_of_none (s3 _ _ hacc) nq), hq, nd, fun y => ?_⟩
    rw [mem, List.mem_map]
    constructor
    · rintro ⟨a, ha, rfl⟩
      obtain ⟨h1, h2⟩ := List.mem_filter.mp ha
      have := nn a h1
      exact ⟨a, h1, of_decide_eq_true h2, by omega⟩
    · rintro ⟨a, ha, h1, h2⟩
      exact ⟨a, List.mem_filter.mpr ⟨ha, decide_eq_true h1⟩, by omega⟩
  · intro D acc H' nD s' hD len al
    obtain ⟨ways, pw, sw⟩ := par_choose (R := LiAt H') (S := fun i b => b.Nodup ∧ ∀ y, y ∈ b ↔ ∃ a ∈ as, g0 a = (i : Nat) ∧ g1 a = (y : Nat)) fun k v e => by
      obtain ⟨q, b, rfl, _, hq, r⟩ := al k v e
      exact ⟨b, ⟨q, rfl, hq⟩, r⟩
    exact k D acc H' ways nD s' hD pw (by rw [← pw.1]; exact len) sw
section
variable {P : Program} {w : World} {K : PySem.W.Frag} {mg : Str → Option Value} {base : Heap} {f : Addr} {fd : FuncData}
theorem sc_Chart_check_arrows : FnScope ["self", "number", "arrow"] ["self"] (defScope s_Chart_check_arrows) := ⟨rfl, rfl, rfl, by decide +kernel, rfl, by decide +kernel, by decide +kernel⟩
theorem ok_chkA (F : FX K "check_arrows" "Chart.check_arrows" s_Chart_check_arrows [] [] f fd) (T : Txt K mg) (c_fits_name : Cal P w K mg base "fits_name" 2 spFits) (c_BadArrow : Rai P w K mg base "BadArrow" (He.ga K "BadArrow") 1 (spI1 (He.ga K "BadArrow") "number")) : FnOk P w K mg base (L2.CX P w) 4 f fd ["self"] (spChkA K) := by
  refine F.ok sc_Chart_check_arrows (fun vs H Q E h => ?_) (fun cdv A outer s H vs Q E hr h => ?_)
  · obtain ⟨p, n, s, e, as, rfl, _⟩ := h
    rfl
  · obtain ⟨p, n, s, e, as, rfl, ⟨dx, t, vs, h1, h2, h3⟩, hl, hz, kQ, kE⟩ := h
    refine ⟨_, ((pss_one (ps_for (passes_of rfl) rfl (k_iEt (K := K) rfl (by rfl) T.b_enumerate (pa_cons (k_fld (K := K) rfl (pv 0)) pa_nil)) (k_gtup (K := K) (n := 2) rfl (by rfl) (pgs_cons (pg_name (i := 1) sc_Chart_check_arrows.nd rfl (Or.inl rfl)) (pgs_cons (pg_name (i := 2) sc_Chart_check_arrows.nd rfl (Or.inl rfl)) pgs_nil))) (pss_one (ps_if (PW.pt (pw_or (pt_cmpR op_lt (pe_callB (call_min2U rfl) (by rfl) T.b_min (by decide +kernel) (pa_cons (pe_ix (k_ix (K := K) rfl) (pv 2) pe_int (fun _ _ => rfl)) (pa_cons (pe_ix (k_ix (K := K) rfl) (pv 2) pe_int (fun _ _ => rfl)) pa_nil))) pe_int (nomark _)) (pw_or (pt_cmpR op_ge (pe_callB (call_max2U rfl) (by rfl) T.b_max (by decide +kernel) (pa_cons (pe_ix (k_ix (K := K) rfl) (pv 2) pe_int (fun _ _ => rfl)) (pa_cons (pe_ix (k_ix (K := K) rfl) (pv 2) pe_int (fun _ _ => rfl)) pa_nil))) (k_fld (K := K) rfl (pv 0)) (nomark _)) (pw_or1 (pt_not (k_tr (K := K) rfl (pe_f c_fits_name hr (by decide) rfl (passes_call (E := E) (takes_of rfl rfl rfl rfl) (fun _ _ _ _ h => h)) (pa_cons (pe_ix (k_ix (K := K) rfl) (pv 2) pe_int (fun _ _ => rfl)) pa_nil)))))))) (pss_one (ps_rs rfl (takes_of rfl rfl rfl rfl) (pmk_r c_BadArrow hr (by decide) rfl (pa_cons (pv 1) pa_nil)))) pss_nil))))), ?_⟩
    try dsimp only [cxOf]
    walk_at "go"
    refine a_fld h1 T.o_Chart.cl T.n_Chart_arrows (lk_arrows ..) ?_
    walk_at "go"
    refine ⟨t, vs, rfl, h2, for_it walk_et (fun i σ H' => ∃ v w : Option V, σ = [some (.ref p), v, w] ∧ Same H H' ∧ ∀ j (hj : j < as.length), j < i → badAr n as[j] = false)
      ⟨none, none, rfl, Same.refl _, fun j hj h => by omega⟩ (fun i σ H' _ ⟨_, _, _, s', _⟩ => same_t s' h2) ?_ ?_⟩
    · rintro i x σ H' H4 hi ⟨v, w', rfl, s', hal⟩ ⟨q, y, z, rfl, nq, rfl, ey, ez⟩
      cases Option.some.inj ey
      have hi : i < as.length := by rw [← h3.1]; exact hi
      obtain ⟨z', ez', ra, rfl, hra⟩ := h3.get hi
      replace ez : vs[i]? = some z := ez
      rw [ez] at ez'
      cases ez'
      have s4 : Same H' (upd H' q (.tup [.int (i : Nat), .ref ra])) := same_new nq
      have hra4 := same_t (s'.trans s4) hra
      have bad : ∀ H5, Same H' H5 → badAr n as[i] = true → rOex (He.ga K "BadArrow") (spI1 (He.ga K "BadArrow") "number") [.int (i : Nat)] H5 E := fun H5 s5 hb =>
        a_oex1 fun D H6 _ s6 h6 => kE i hi hb (fun j hj => hal j (by omega) hj) D H6 (s'.trans (s5.trans s6)) h6
      refine ⟨q, _, rfl, SqT.of upd_same, rfl, _, _, rfl, _, _, rfl, rfl, ?_⟩
      walk_at "go"
      refine a_ixT hra4 (atI_of (j := 0) rfl rfl) ?_
      walk_at "go"
      refine a_ixT hra4 (atI_of (j := 1) rfl rfl) ?_
      walk_at "go"
      refine a_ite (fun c1 => ?_) (fun c1 => ?_)
      · refine a_T rfl ?_
        walk_at "go"
        exact bad _ s4 (by unfold badAr; rw [decide_eq_true c1]; rfl)
      walk_at "go"
      refine a_ixT hra4 (atI_of (j := 0) rfl rfl) ?_
      walk_at "go"
      refine a_ixT hra4 (atI_of (j := 1) rfl rfl) ?_
      walk_at "go"
      refine a_fld (s4 _ _ (s' _ _ h1)) T.o_Chart.cl T.n_Chart_count (lk_count ..) ?_
      walk_at "go"
      refine a_ite (fun c2 => ?_) (fun c2 => ?_)
      · refine a_T rfl ?_
        walk_at "go"
        exact bad _ s4 (by unfold badAr; rw [decide_eq_true (p := n ≤ _) c2]; simp)
      walk_at "go"
      refine a_ixT hra4 (atI_of (j := 2) rfl rfl) ?_
      walk_at "go"
      refine ⟨_, rfl, hz _ (List.getElem_mem hi), fun H5 s5 => ?_⟩
      walk_at "go"
      cases ef : fitsN as[i].2.2 with
      | false =>
        refine a_T rfl ?_
        walk_at "go"
        exact bad _ (s4.trans s5) (by unfold badAr; rw [ef]; simp)
      | true =>
        refine a_F rfl ?_
        walk_at "go"
        refine ⟨_, _, rfl, s'.trans (s4.trans s5), fun j hj hji => ?_⟩
        by_cases e1 : j = i
        · subst e1
          unfold badAr
          rw [ef, decide_eq_false c1, decide_eq_false c2]
          rfl
        · exact hal j hj (by omega)
    · rintro σ H' ⟨v, w', rfl, s', hal⟩
      refine kQ (fun a ha => ?_) H' s'
      obtain ⟨j, hj, rfl⟩ := List.getElem_of_mem ha
      exact hal j hj (by rw [h3.1]; exact hj)
theorem sc_Chart_check_places : FnScope ["self", "ahead", "arrow", "place", "back", "come", "go"] ["self"] (defScope s_Chart_check_places) := ⟨rfl, rfl, rfl, by decide +kernel, rfl, by decide +kernel, by decide +kernel⟩
theorem ok_chkP (F : FX K "check_places" "Chart.check_places" s_Chart_check_places [] [] f fd) (T : Txt K mg) (c_distinct : Cal P w K mg base "distinct" 2 (spDist K)) (c_spread : Cal P w K mg base "spread" 3 (spSpread K)) (c_LoosePlace : Rai P w K mg base "LoosePlace" (He.ga K "LoosePlace") 1 (spI1 (He.ga K "LoosePlace") "place")) : FnOk P w K mg base (L2.CX P w) 5 f fd ["self"] (spChkP K) := by
  refine F.ok sc_Chart_check_places (fun vs H Q E h => ?_) (fun cdv A outer s H vs Q E hr h => ?_)
  · obtain ⟨p, n, s, e, as, rfl, _⟩ := h
    rfl
  · obtain ⟨p, n, s, e, as, rfl, ⟨dx, t, vs, h1, h2, h3⟩, hl, hn, hs, he, ok, kQ, kE⟩ := h
    refine ⟨_, ((pss_cons (ps_setLc (i := 1) (own := [("place", 3)]) rfl sc_Chart_check_places.nd rfl rfl (sw_true rfl rfl rfl (by decide +kernel)) (pi_range1 (by rfl) T.b_range (pa_cons (k_fld (K := K) rfl (pv 0)) pa_nil)) (blkOk_by (own := [("place", 3)]) (N := ["self", "ahead", "arrow", "place", "back", "come", "go"]) (sc := defScope s_Chart_check_places) (by decide +kernel)) (fun _ _ _ _ _ => by exact (pg_name (i := 3) sc_Chart_check_places.nd rfl (Or.inr rfl))) (fun _ _ _ _ _ => by exact pts_nil) (fun _ _ _ _ _ => by exact (pe_f c_distinct hr (by decide) rfl passL (pa_cons (by exact (pe_lc (own := [("arrow", 2)]) rfl sc_Chart_check_places.nd (k_iT (K := K) rfl (k_fld (K := K) rfl (pv 0))) (blkOk_by (own := [("arrow", 2)]) (by first | rfl | kernel_rfl)) (fun _ _ _ _ _ => by exact (pg_name (i := 2) sc_Chart_check_places.nd rfl (Or.inl rfl))) (fun _ _ _ _ _ => by exact (pts_one (pt_cmpR (k_eq (K := K) rfl hr.units) (pe_ix (k_ix (K := K) rfl) (pv 2) pe_int (fun _ _ => rfl)) (pv 3) (nomark _)))) (fun _ _ _ _ _ => by exact (pe_ix (k_ix (K := K) rfl) (pv 2) pe_int (fun _ _ => rfl))))) pa_nil)))) 
      (pss_cons (ps_setLc (i := 4) (own := [("place", 3)]) rfl sc_Chart_check_places.nd rfl rfl (sw_true rfl rfl rfl (by decide +kernel)) (pi_range1 (by rfl) T.b_range (pa_cons (k_fld (K := K) rfl (pv 0)) pa_nil)) (blkOk_by (own := [("place", 3)]) (N := ["self", "ahead", "arrow", "place", "back", "come", "go"]) (sc := defScope s_Chart_check_places) (by decide +kernel)) (fun _ _ _ _ _ => by exact (pg_name (i := 3) sc_Chart_check_places.nd rfl (Or.inr rfl))) (fun _ _ _ _ _ => by exact pts_nil) (fun _ _ _ _ _ => by exact (pe_f c_distinct hr (by decide) rfl passL (pa_cons (by exact (pe_lc (own := [("arrow", 2)]) rfl sc_Chart_check_places.nd (k_iT (K := K) rfl (k_fld (K := K) rfl (pv 0))) (blkOk_by (own := [("arrow", 2)]) (by first | rfl | kernel_rfl)) (fun _ _ _ _ _ => by exact (pg_name (i := 2) sc_Chart_check_places.nd rfl (Or.inl rfl))) (fun _ _ _ _ _ => by exact (pts_one (pt_cmpR (k_eq (K := K) rfl hr.units) (pe_ix (k_ix (K := K) rfl) (pv 2) pe_int (fun _ _ => rfl)) (pv 3) (nomark _)))) (fun _ _ _ _ _ => by exact (pe_ix (k_ix (K := K) rfl) (pv 2) pe_int (fun _ _ => rfl))))) pa_nil)))) 
      (pss_cons (ps_par (i := 5) (j := 6) (by rfl) sc_Chart_check_places.nd rfl rfl (by decide) rfl rfl (pa_cons (pe_f c_spread hr (by decide) rfl (passes_call (E := E) (takes_of rfl rfl rfl rfl) (fun _ _ _ _ h => h)) (pa_cons (k_fld (K := K) rfl (pv 0)) (pa_cons (pv 1) pa_nil))) (pa_cons (pe_f c_spread hr (by decide) rfl (passes_call (E := E) (takes_of rfl rfl rfl rfl) (fun _ _ _ _ h => h)) (pa_cons (k_fld (K := K) rfl (pv 0)) (pa_cons (pv 4) pa_nil))) pa_nil)) (by rfl)) (pss_one (ps_for (passes_of rfl) rfl (pi_range1 (by rfl) T.b_range (pa_cons (k_fld (K := K) rfl (pv 0)) pa_nil)) (pg_name (i := 3) sc_Chart_check_places.nd rfl (Or.inl rfl)) (pss_one (ps_if (PW.pt (pw_or (pt_cmpR (k_notin (K := K) rfl) (pv 3) (pv 5) rfl) (pw_or1 (pt_cmpR (k_notin (K := K) rfl) (pv 3) (pv 6) rfl)))) (pss_one (ps_rs rfl (takes_of rfl rfl rfl rfl) (pmk_r c_LoosePlace hr (by decide) rfl (pa_cons (pv 3) pa_nil)))) pss_nil)))))))), ?_⟩
    try dsimp only [cxOf]
    have oka := ok.at_
    walk_at "go"
    refine c_ways T h1 h2 h3 hl hn 0 1 (fun a => a.1) (fun a => a.2.1) (fun a => atI_of (j := 0) rfl rfl) (fun a => atI_of (j := 1) rfl rfl) (fun a ha => by obtain ⟨x, y, e1, e2, _⟩ := oka a ha; omega) ?_
    intro D1 ws1 H1 w1 nD1 s1 hD1 pw1 lw1 mw1
    walk_at "go"
    refine c_ways T (s1 _ _ h1) (same_t s1 h2) (h3.mono fun v a h => h.same s1) hl hn 1 0 (fun a => a.2.1) (fun a => a.1) (fun a => atI_of (j := 1) rfl rfl) (fun a => atI_of (j := 0) rfl rfl) (fun a ha => by obtain ⟨x, y, e1, e2, _⟩ := oka a ha; omega) ?_
    intro D2 ws2 H2 w2 nD2 s2 hD2 pw2 lw2 mw2
    have rel : ∀ (g0 g1 : Ar → Int) (ways : List (List Nat)), ways.length = n → (∀ a ∈ as, ∃ x y : Nat, g0 a = x ∧ g1 a = y ∧ x < n ∧ y < n) → (∀ x b, ways[x]? = some b → b.Nodup ∧ ∀ y, y ∈ b ↔ ∃ a ∈ as, g0 a = (x : Nat) ∧ g1 a = (y : Nat)) →
        (∀ x y, y ∈ ways.getD x [] ↔ ∃ a ∈ as, g0 a = (x : Nat) ∧ g1 a = (y : Nat)) ∧ (∀ l ∈ ways, l.Nodup) ∧ ∀ l ∈ ways, ∀ y ∈ l, y < ways.length := by
      intro g0 g1 ways lw ga mw
      refine ⟨fun x y => ?_, fun l hl => ?_, fun l hl y hy => ?_⟩
      · by_cases hx : x < ways.length
        · rw [getDL_lt hx]
          exact (mw x _ (List.getElem?_eq_getElem hx)).2 y
        · rw [List.getD_eq_getElem?_getD, List.getElem?_eq_none (by omega)]
          refine ⟨(fun z => by cases z), fun ⟨a, ha, z1, z2⟩ => ?_⟩
          obtain ⟨x', y', q1, q2, q3, q4⟩ := ga a ha
          omega
      · obtain ⟨i, hi, rfl⟩ := List.getElem_of_mem hl
        exact (mw i _ (List.getElem?_eq_getElem hi)).1
      · obtain ⟨i, hi, rfl⟩ := List.getElem_of_mem hl
        obtain ⟨a, ha, z1, z2⟩ := ((mw i _ (List.getElem?_eq_getElem hi)).2 y).mp hy
        obtain ⟨x', y', q1, q2, q3, q4⟩ := ga a ha
        omega
    obtain ⟨r1, nd1, lt1⟩ := rel (fun a => a.1) (fun a => a.2.1) w1 lw1 (fun a ha => by obtain ⟨x, y, e1, e2, e3, e4, _⟩ := oka a ha; exact ⟨x, y, e1, e2, e3, e4⟩) mw1
    obtain ⟨r2, nd2, lt2⟩ := rel (fun a => a.2.1) (fun a => a.1) w2 lw2 (fun a ha => by obtain ⟨x, y, e1, e2, e3, e4, _⟩ := oka a ha; exact ⟨y, x, e2, e1, e4, e3⟩) mw2
    walk_at "go"
    refine a_fld (s2 _ _ (s1 _ _ h1)) T.o_Chart.cl T.n_Chart_start (lk_start ..) ?_
    walk_at "go"
    refine ⟨s, D1, ws1, w1, rfl, SqL.of (s2 _ _ hD1), pw1.mono fun v a h => h.same s2, by omega, nd1, lt1, by omega, fun D3 f1 H3 nD3 s3 hD3 m1 => ?_⟩
    walk_at "go"
    refine a_fld (s3 _ _ (s2 _ _ (s1 _ _ h1))) T.o_Chart.cl T.n_Chart_end (lk_end ..) ?_
    walk_at "go"
    refine ⟨e, D2, ws2, w2, rfl, SqL.of (s3 _ _ hD2), pw2.mono fun v a h => h.same s3, by omega, nd2, lt2, by omega, fun D4 f2 H4 nD4 s4 hD4 m2 => ?_⟩
    have m1' : ∀ x, x ∈ f1 ↔ Rch (ahead as) s x := fun x => (m1 x).trans (Rch.congr r1)
    have m2' : ∀ x, x ∈ f2 ↔ Rch (aback as) e x := fun x => (m2 x).trans (Rch.congr r2)
    have s14 : Same H H4 := s1.trans (s2.trans (s3.trans s4))
    walk_at "go"
    refine a_fld (s14 _ _ h1) T.o_Chart.cl T.n_Chart_count (lk_count ..) ?_
    walk_at "go"
    refine ⟨(n : Int), rfl, by omega, by omega, ?_⟩
    refine for_range (n := n) (fun i σ H' => ∃ v3 : Option V, σ = [some (.ref p), some (.ref D1), none, v3, some (.ref D2), some (.ref D3), some (.ref D4)] ∧ Same H4 H' ∧ ∀ y, y < i → onway as s e y)
      ⟨none, rfl, Same.refl _, fun y hy => by omega⟩ ?_ ?_
    · rintro i σ H5 hi ⟨v3, rfl, s5, hal⟩
      have e00 : (0 : Int) + (i : Nat) = (i : Nat) := by omega
      have bad : ¬ onway as s e i → rOex (He.ga K "LoosePlace") (spI1 (He.ga K "LoosePlace") "place") [.int (i : Nat)] H5 E := fun hb =>
        a_oex1 fun D H6 _ s6 h6 => kE i hi hb hal D H6 (s14.trans (s5.trans s6)) h6
      show tIfS _ _ _ _ _ _
      walk_at "go"
      rw [e00]
      refine a_ninN (.inl (SqL.of (s5 _ _ (s4 _ _ hD3)))) ?_
      walk_at "go"
      refine a_nite (fun c1 => ?_) (fun c1 => ?_)
      · refine a_T rfl ?_
        walk_at "go"
        exact bad fun z => c1 ((m1' i).mpr z.1)
      walk_at "go"
      refine a_ninN (.inl (SqL.of (s5 _ _ hD4))) ?_
      walk_at "go"
      refine a_nite (fun c2 => ?_) (fun c2 => ?_)
      · walk_at "go"
        exact bad fun z => c2 ((m2' i).mpr z.2)
      walk_at "go"
      refine ⟨_, rfl, s5, fun y hy => ?_⟩
      by_cases ey : y = i
      · subst ey
        exact ⟨(m1' y).mp c1, (m2' y).mp c2⟩
      · exact hal y (by omega)
    · rintro σ H5 ⟨v3, rfl, s5, hal⟩
      exact kQ hal H5 (s14.trans s5)
end
theorem lk_ca (n s e : Int) (t : Addr) : (chF n s e t).lookup ("check_arrows" : Str) = none := by
  have h1 : (("check_arrows" : Str) == ("count" : Str)) = false := by decide +kernel
  have h2 : (("check_arrows" : Str) == ("start" : Str)) = false := by decide +kernel
  have h3 : (("check_arrows" : Str) == ("end" : Str)) = false := by decide +kernel
  have h4 : (("check_arrows" : Str) == ("arrows" : Str)) = false := by decide +kernel
  simp [chF, List.lookup, h1, h2, h3, h4]
theorem lk_cp (n s e : Int) (t : Addr) : (chF n s e t).lookup ("check_places" : Str) = none := by
  have h1 : (("check_places" : Str) == ("count" : Str)) = false := by decide +kernel
  have h2 : (("check_places" : Str) == ("start" : Str)) = false := by decide +kernel
  have h3 : (("check_places" : Str) == ("end" : Str)) = false := by decide +kernel
  have h4 : (("check_places" : Str) == ("arrows" : Str)) = false := by decide +kernel
  simp [chF, List.lookup, h1, h2, h3, h4]
theorem seq_butI {K : PySem.W.Frag} {H H1 : Hp} {D C dx t : Addr} {fs : List (Str × V)} {xs : List V} (hD : H D = some (.ins C dx fs)) (b : But D H H1) (h : Seq K H t xs) : Seq K H1 t xs := by
  rcases h with h | h
  · refine .inl ?_
    rcases h with (h | ⟨o, h⟩) | h
    · exact .inl (.inl (b _ _ (ne_of h hD (by intro z; cases z)) h))
    · exact .inl (.inr ⟨o, b _ _ (ne_of h hD (by intro z; cases z)) h⟩)
    · exact .inr h
  · exact .inr (sqt_butI hD b h)
/-! Chart(..) -/
def spChInit (K : PySem.W.Frag) : Sp := fun vs H Q E => ∃ (p x dx : Addr) (n s e : Int) (as : List Ar) (ws : List V), vs = [.ref p, .int n, .ref x, .int s, .int e] ∧ H p = some (.ins (He.ga K "Chart") dx []) ∧ Seq K H x ws ∧ Par (ArS K H) ws as ∧ as.length ≤ 1000 ∧ (∀ a ∈ as, a.2.2.cps.size ≤ 1000) ∧
  ((40 < n ∨ 80 < as.length) → ∀ H', But p H H' → E (.ref (He.ga K "TooGreat")) none H') ∧
  (n ≤ 40 → as.length ≤ 80 →
    ((s < 0 ∨ n ≤ s) → ∀ D H', But p H H' → H' D = some (.xd [("place", .int s)]) → E (.ref (He.ga K "NoPlace")) (some D) H') ∧
    (0 ≤ s → s < n → (e < 0 ∨ n ≤ e) → ∀ D H', But p H H' → H' D = some (.xd [("place", .int e)]) → E (.ref (He.ga K "NoPlace")) (some D) H') ∧
    (0 ≤ s → s < n → 0 ≤ e → e < n →
      (∀ i (hi : i < as.length), badAr n as[i] = true → (∀ j (hj : j < i), badAr n (as[j]'(by omega)) = false) → ∀ D H', But p H H' → H' D = some (.xd [("number", .int (i : Nat))]) → E (.ref (He.ga K "BadArrow")) (some D) H') ∧
      ((∀ a ∈ as, badAr n a = false) →
        (∀ x : Nat, (x : Int) < n → ¬ onway as s.toNat e.toNat x → (∀ y, y < x → onway as s.toNat e.toNat y) → ∀ D H', But p H H' → H' D = some (.xd [("place", .int (x : Nat))]) → E (.ref (He.ga K "LoosePlace")) (some D) H') ∧
        ((∀ x : Nat, (x : Int) < n → onway as s.toNat e.toNat x) → ∀ H', But p H H' → ChAt K H' p n as s e → Q .non H'))))
section
variable {P : Program} {w : World} {K : PySem.W.Frag} {mg : Str → Option Value} {base : Heap} {f : Addr} {fd : FuncData}
theorem sc_Chart_init : FnScope ["self", "count", "arrows", "start", "end", "place", "arrow"] ["self", "count", "arrows", "start", "end"] (defScope s_Chart_init) := ⟨rfl, rfl, rfl, by decide +kernel, rfl, by decide +kernel, by decide +kernel⟩
theorem ok_chI (F : FX K "__init__" "Chart.__init__" s_Chart_init [] [] f fd) (T : Txt K mg) (c_NoPlace : Rai P w K mg base "NoPlace" (He.ga K "NoPlace") 1 (spI1 (He.ga K "NoPlace") "place")) (c_Chart_check_arrows : Met P w K mg base (He.ga K "Chart") "check_arrows" 4 (spChkA K)) (c_Chart_check_places : Met P w K mg base (He.ga K "Chart") "check_places" 5 (spChkP K)) : FnOk P w K mg base (L2.CX P w) 7 f fd ["self", "count", "arrows", "start", "end"] (spChInit K) := by
  refine F.ok sc_Chart_init (fun vs H Q E h => ?_) (fun cdv A outer s H vs Q E hr h => ?_)
  · obtain ⟨p, x, dx, n, s, e, as, ws, rfl, _⟩ := h
    rfl
  · obtain ⟨p, x, dx, n, s, e, as, ws, rfl, hp, hx, pw, hl, hz, kG, kS⟩ := h
    refine ⟨_, ((pss_cons (ps_if (PW.pt (pw_or (pt_cmpR op_gt (pv 1) (pe_gv rfl T.k_MOST_PLACES) (nomark _)) (pw_or1 (pt_cmpR op_gt (pe_callB (k_len (K := K) rfl) (by rfl) T.b_len PySem.boot_len (pa_cons (pv 2) pa_nil)) (pe_gv rfl T.k_MOST_ARROWS) (nomark _))))) (pss_one (ps_rs rfl (takes_of rfl rfl rfl rfl) (pmk_n T.r_TooGreat rfl))) pss_nil) 
      (pss_cons (ps_for (passes_of rfl) rfl (k_iT (K := K) rfl (pe_tup (pa_cons (pv 3) (pa_cons (pv 4) pa_nil)))) (pg_name (i := 5) sc_Chart_init.nd rfl (Or.inl rfl)) (pss_one (ps_if (PW.pt (pw_or (pt_cmpR op_lt (pv 5) pe_int (nomark _)) (pw_or1 (pt_cmpR op_ge (pv 5) (pv 1) (nomark _))))) (pss_one (ps_rs rfl (takes_of rfl rfl rfl rfl) (pmk_r c_NoPlace hr (by decide) rfl (pa_cons (pv 5) pa_nil)))) pss_nil))) 
      (pss_cons (k_put (K := K) rfl (pv 0) (pv 1)) 
      (pss_cons (k_put (K := K) rfl (pv 0) (pv 3)) 
      (pss_cons (k_put (K := K) rfl (pv 0) (pv 4)) 
      (pss_cons (k_put (K := K) rfl (pv 0) (pe_callTy (k_tuple (K := K) rfl) (by rfl) T.b_tuple (by decide +kernel) (pa_cons (by exact (pe_lc (own := [("arrow", 6)]) rfl sc_Chart_init.nd (pi_seq (K := K) rfl (pv 2)) (blkOk_by (own := [("arrow", 6)]) (N := ["self", "count", "arrows", "start", "end", "place", "arrow"]) (sc := defScope s_Chart_init) (by decide +kernel)) (fun _ _ _ _ _ => by exact (pg_name (i := 6) sc_Chart_init.nd rfl (Or.inl rfl))) (fun _ _ _ _ _ => by exact pts_nil) (fun _ _ _ _ _ => by exact (pe_callTy (k_tuple (K := K) rfl) (by rfl) T.b_tuple (by decide +kernel) (pa_cons (pv 6) pa_nil))))) pa_nil))) 
      (pss_cons (ps_expr (pe_m0 c_Chart_check_arrows hr (by decide) (passes_call (E := E) (takes_of rfl rfl rfl rfl) (fun _ _ _ _ h => h)) (pv 0))) (pss_one (ps_expr (pe_m0 c_Chart_check_places hr (by decide) (passes_call (E := E) (takes_of rfl rfl rfl rfl) (fun _ _ _ _ h => h)) (pv 0)))))))))))), ?_⟩
    try dsimp only [cxOf]
    walk_at "go"
    refine a_ite (fun c1 => ?_) (fun c1 => ?_)
    · refine a_T rfl ?_
      walk_at "go"
      exact kG (.inl c1) H (But.of (Same.refl _))
    walk_at "go"
    refine a_lenS hx ?_
    walk_at "go"
    rw [pw.1]
    refine a_ite (fun c2 => ?_) (fun c2 => ?_)
    · walk_at "go"
      exact kG (.inr (by omega)) H (But.of (Same.refl _))
    obtain ⟨kP1, kP2, kR⟩ := kS (by omega) (by omega)
    walk_at "go"
    refine a_newT (by show 2 ≤ 100000; decide) fun tt H1 nt s1 h1 => ?_
    walk_at "go"
    refine ⟨tt, rfl, ⟨_, SqT.of h1⟩, ?_⟩
    refine for_tup (K := K) (a := tt) (xs := [.int s, .int e]) (fun i σ H' => ∃ v : Option V, σ = [some (.ref p), some (.int n), some (.ref x), some (.int s), some (.int e), v, none] ∧ H' = H1 ∧ (0 < i → 0 ≤ s ∧ s < n) ∧ (1 < i → 0 ≤ e ∧ e < n))
      ⟨none, rfl, rfl, fun h => by omega, fun h => by omega⟩ (fun i σ H' _ ⟨_, _, h, _⟩ => by rw [h]; exact SqT.of h1) ?_ ?_
    · rintro i y σ H' hy ⟨v, rfl, rfl, q1, q2⟩
      show tIfS _ _ _ _ _ _
      match i, hy with
      | 0, hy =>
        cases hy
        walk_at "go"
        refine a_ite (fun d1 => ?_) (fun d1 => ?_)
        · refine a_T rfl ?_
          walk_at "go"
          exact a_oex1 fun D H2 _ s2 h2 => kP1 (.inl d1) D H2 (But.of (s1.trans s2)) h2
        walk_at "go"
        refine a_ite (fun d2 => ?_) (fun d2 => ?_)
        · walk_at "go"
          exact a_oex1 fun D H2 _ s2 h2 => kP1 (.inr d2) D H2 (But.of (s1.trans s2)) h2
        walk_at "go"
        exact ⟨_, rfl, rfl, fun _ => ⟨by omega, by omega⟩, fun h => by omega⟩
      | 1, hy =>
        cases hy
        obtain ⟨p1, p2⟩ := q1 (by omega)
        walk_at "go"
        refine a_ite (fun d1 => ?_) (fun d1 => ?_)
        · refine a_T rfl ?_
          walk_at "go"
          exact a_oex1 fun D H2 _ s2 h2 => kP2 p1 p2 (.inl d1) D H2 (But.of (s1.trans s2)) h2
        walk_at "go"
        refine a_ite (fun d2 => ?_) (fun d2 => ?_)
        · walk_at "go"
          exact a_oex1 fun D H2 _ s2 h2 => kP2 p1 p2 (.inr d2) D H2 (But.of (s1.trans s2)) h2
        walk_at "go"
        exact ⟨_, rfl, rfl, fun _ => ⟨p1, p2⟩, fun _ => ⟨by omega, by omega⟩⟩
      | (i + 2), hy => simp at hy
    · rintro σ H' ⟨v, rfl, rfl, q1, q2⟩
      obtain ⟨p1, p2⟩ := q1 (by show 0 < 2; omega)
      obtain ⟨p3, p4⟩ := q2 (by show 1 < 2; omega)
      obtain ⟨kA, kL⟩ := kR p1 p2 p3 p4
      walk_at "go"
      refine a_put (s1 _ _ hp) T.o_Chart.cl T.n_Chart_count (by show 0 < 1000; decide) fun H2 b2 hp2 => ?_
      walk_at "go"
      refine a_put hp2 T.o_Chart.cl T.n_Chart_start (by show 1 < 1000; decide) fun H3 b3 hp3 => ?_
      walk_at "go"
      refine a_put hp3 T.o_Chart.cl T.n_Chart_end (by show 2 < 1000; decide) fun H4 b4 hp4 => ?_
      have b14 : But p H H4 := (((But.of s1).trans b2).trans b3).trans b4
      have hx4 : Seq K H4 x ws := seq_butI (s1 _ _ hp) ((b2.trans b3).trans b4) (hx.same s1)
      have pw4 : Par (ArS K H4) ws as := pw.mono fun v a ⟨q, e, h⟩ => ⟨q, e, seq_butI (s1 _ _ hp) ((b2.trans b3).trans b4) (h.same s1)⟩
      walk_at "go"
      refine c_sp (xs := ws) (P := fun D i v H' => ∀ a, as[i]? = some a → ArT K H' v a) ⟨?_, ?_⟩ (by rw [pw.1]; omega) ?_ ?_ ?_
      · intro D i v H H' sm h a ea
        exact (h a ea).same sm
      · intro D i v H H' ys hD bt h a ea
        exact (h a ea).but bt hD (by intro xs z; cases z) (by intro o xs z; cases z)
      · intro R r
        walk_at "go"
        exact r _ _ (Same.refl _) hx4
      · intro D acc i y H' nD hy s' hacc R r
        have hi : i < as.length := by
          rw [← pw.1]
          exact (List.getElem?_eq_some_iff.mp hy).1
        obtain ⟨v, ev, q, rfl, hq⟩ := pw4.get hi
        rw [hy] at ev
        cases ev
        walk_at "go"
        refine a_tup (hq.same s') fun t5 H5 s5 h5 => ?_
        refine r _ _ s5 fun a ea => ?_
        rw [List.getElem?_eq_getElem hi] at ea
        cases ea
        exact ⟨t5, rfl, h5⟩
      intro D acc H5 nD s5 hD len al
      walk_at "go"
      refine a_tup (.inl (SqL.of hD)) fun t6 H6 s6 h6 => ?_
      have pw6 : Par (ArT K H6) acc as := ⟨len.trans pw.1, fun k v a e1 e2 => (al k v e1 a e2).same s6⟩
      have hp6 := s6 _ _ (s5 _ _ hp4)
      walk_at "go"
      refine a_put hp6 T.o_Chart.cl T.n_Chart_arrows (by show 3 < 1000; decide) fun H7 b7 hp7 => ?_
      have ch7 : ChAt K H7 p n as s e := by
        refine ⟨dx, t6, acc, ?_, sqt_butI hp6 b7 h6, pw6.mono fun v a h => h.but b7 hp6 (by intro xs z; cases z) (by intro o xs z; cases z)⟩
        exact hp7
      have b17 : But p H H7 := (b14.trans (But.of (s5.trans s6))).trans b7
      walk_at "go"
      have hp7' : H7 p = some (.ins (He.ga K "Chart") dx (chF n s e t6)) := hp7
      refine ⟨p, dx, _, rfl, hp7', lk_ca .., ?_⟩
      refine ⟨p, n, s, e, as, rfl, ch7, hl, hz, fun okA H8 s8 => ?_, fun i hi hb hbf D H8 s8 hD => kA i hi hb hbf D H8 (b17.trans (But.of s8)) hD⟩
      obtain ⟨kLo, kOk⟩ := kL okA
      obtain ⟨n', rfl⟩ : ∃ n' : Nat, n = (n' : Int) := ⟨n.toNat, by omega⟩
      obtain ⟨s', rfl⟩ : ∃ n' : Nat, s = (n' : Int) := ⟨s.toNat, by omega⟩
      obtain ⟨e', rfl⟩ : ∃ n' : Nat, e = (n' : Int) := ⟨e.toNat, by omega⟩
      rw [Int.toNat_natCast, Int.toNat_natCast] at kLo kOk
      walk_at "go"
      refine ⟨p, dx, _, rfl, s8 _ _ hp7', lk_cp .., ?_⟩
      refine ⟨p, n', s', e', as, rfl, ch7.same s8, hl, by omega, by omega, by omega, okA, fun al H9 s9 => ?_, fun x hx no bf D H9 s9 hD => kLo x (by omega) no bf D H9 (b17.trans (But.of (s8.trans s9))) hD⟩
      walk_at "go"
      exact kOk (fun x hx => al x (by omega)) H9 (b17.trans (But.of (s8.trans s9))) (ch7.same (s8.trans s9))
end

/-! ### the law's own charts -/
theorem par_perm {α β : Type} {R : α → β → Prop} {ys zs : List α} (hp : zs.Perm ys) : ∀ {xs : List β}, Par R ys xs → ∃ ws, ws.Perm xs ∧ Par R zs ws := by
  have cons : ∀ {y : α} {x : β} {ys : List α} {xs : List β}, R y x → Par R ys xs → Par R (y :: ys) (x :: xs) := fun {y x ys xs} h h' => (Par.one h).append h'
  have uncons : ∀ {y : α} {ys : List α} {xs : List β}, Par R (y :: ys) xs → ∃ x xs', xs = x :: xs' ∧ R y x ∧ Par R ys xs' := fun {y ys xs} h => by
    cases xs with
    | nil => have := h.1; simp at this
    | cons x xs => exact ⟨x, xs, rfl, h.2 0 y x rfl rfl, ⟨by have := h.1; simpa using this, fun k v z a b => h.2 (k + 1) v z a b⟩⟩
  induction hp with
  | nil =>
    intro xs h
    exact ⟨xs, .refl _, h⟩
  | cons x _ ih =>
    intro xs h
    obtain ⟨a, as, rfl, h1, h2⟩ := uncons h
    obtain ⟨ws, p, q⟩ := ih h2
    exact ⟨a :: ws, p.cons a, cons h1 q⟩
  | swap x y l =>
    intro xs h
    obtain ⟨a, as, rfl, h1, h2⟩ := uncons h
    obtain ⟨b, bs, rfl, h3, h4⟩ := uncons h2
    exact ⟨b :: a :: bs, .swap a b bs, cons h3 (cons h1 h4)⟩
  | trans _ _ ih1 ih2 =>
    intro xs h
    obtain ⟨ws, p, q⟩ := ih2 h
    obtain ⟨us, p2, q2⟩ := ih1 q
    exact ⟨us, p2.trans p, q2⟩
theorem perm_eraseV : ∀ {l : List V} {k : Nat} (h : k < l.length), ([l[k]] ++ l.eraseIdx k).Perm l
  | x :: l, 0, _ => List.Perm.refl _
  | x :: l, k + 1, h => by
    have h' : k < l.length := Nat.lt_of_succ_lt_succ h
    show (l[k] :: x :: l.eraseIdx k).Perm (x :: l)
    exact (List.Perm.swap x l[k] _).trans (List.Perm.cons x (perm_eraseV h'))
def spPick : Sp := fun vs H Q _ => ∃ (p l : Addr) (xs : List V) (n : Nat), vs = [.ref p, .ref l] ∧ Pen H p (n + 1) ∧ H l = some (.lst xs) ∧ l ≠ p ∧ 0 < xs.length ∧ xs.length ≤ 100000 ∧ ∀ v H', v ∈ xs → But p H H' → Pen H' p n → Q v H'
section
variable {P : Program} {w : World} {K : PySem.W.Frag} {mg : Str → Option Value} {base : Heap} {f : Addr} {fd : FuncData}
theorem sc__law_pick : FnScope ["_law_state_here", "_law_row"] ["_law_state_here", "_law_row"] (defScope s__law_pick) := ⟨rfl, rfl, rfl, by decide +kernel, rfl, by decide +kernel, by decide +kernel⟩
theorem ok_pick (F : FX K "_law_pick" "_law_pick" s__law_pick [] [] f fd) (T : Txt K mg) (c__law_draw : Cal P w K mg base "_law_draw" 2 spDraw) : FnOk P w K mg base (L2.CX P w) 4 f fd ["_law_state_here", "_law_row"] spPick := by
  refine F.ok sc__law_pick (fun vs H Q E h => ?_) (fun cdv A outer s H vs Q E hr h => ?_)
  · obtain ⟨p, l, xs, n, rfl, _⟩ := h
    rfl
  · obtain ⟨p, l, xs, n, rfl, hp, hl, nlp, l0, l1, k⟩ := h
    refine ⟨_, PSs.nox ((pss_one (ps_ret (pe_ix (k_ix (K := K) rfl) (pv 1) (pe_f c__law_draw hr (by decide) rfl passL (pa_cons (pv 0) (pa_cons (pe_callB (k_len (K := K) rfl) (by rfl) T.b_len PySem.boot_len (pa_cons (pv 1) pa_nil)) pa_nil))) (fun _ _ => rfl))))), ?_⟩
    try dsimp only [cxOf]
    walk_at "go"
    refine ⟨p, _, n, rfl, hp, by omega, by omega, fun r H1 r0 r1 b1 hp1 => ?_⟩
    obtain ⟨j, rfl⟩ : ∃ j : Nat, r = (j : Int) := ⟨r.toNat, by omega⟩
    have hj : j < xs.length := by omega
    walk_at "go"
    exact a_ixL (SqL.of (b1 _ _ nlp hl)) (atI_of rfl (List.getElem?_eq_getElem hj)) (k _ _ (List.getElem_mem hj) b1 hp1)
end

def spMixed : Sp := fun vs H Q _ => ∃ (p l : Addr) (xs : List V) (n : Nat), vs = [.ref p, .ref l] ∧ Pen H p (xs.length + n) ∧ H l = some (.lst xs) ∧ l ≠ p ∧ xs.length ≤ 1000 ∧ ∀ r ys H', H r = none → But p H H' → Pen H' p n → H' r = some (.lst ys) → ys.Perm xs → Q (.ref r) H'
section
variable {P : Program} {w : World} {K : PySem.W.Frag} {mg : Str → Option Value} {base : Heap} {f : Addr} {fd : FuncData}
theorem sc__law_mixed : FnScope ["_law_state_here", "_law_row", "_law_rest", "_law_found", "_law_k"] ["_law_state_here", "_law_row"] (defScope s__law_mixed) := ⟨rfl, rfl, rfl, by decide +kernel, rfl, by decide +kernel, by decide +kernel⟩
theorem ok_mixed (F : FX K "_law_mixed" "_law_mixed" s__law_mixed [] [] f fd) (T : Txt K mg) (c__law_draw : Cal P w K mg base "_law_draw" 2 spDraw) : FnOk P w K mg base (L2.CX P w) 4 f fd ["_law_state_here", "_law_row"] spMixed := by
  refine F.ok sc__law_mixed (fun vs H Q E h => ?_) (fun cdv A outer s H vs Q E hr h => ?_)
  · obtain ⟨p, l, xs, n, rfl, _⟩ := h
    rfl
  · obtain ⟨p, l, xs, n, rfl, hp, hl, nlp, l1, k⟩ := h
    refine ⟨_, PSs.nox ((pss_cons (ps_set (i := 2) sc__law_mixed.nd rfl (Or.inl rfl) (pe_callTy (k_list (K := K) rfl) (by rfl) T.b_list (by decide +kernel) (pa_cons (pv 1) pa_nil))) 
      (pss_cons (ps_set (i := 3) sc__law_mixed.nd rfl (Or.inl rfl) (pe_lst pa_nil)) 
      (pss_cons (ps_for PassesOwn.never rfl (pi_range1 (by rfl) T.b_range (pa_cons (pe_callB (k_len (K := K) rfl) (by rfl) T.b_len PySem.boot_len (pa_cons (pv 1) pa_nil)) pa_nil)) (pg_name (i := 4) sc__law_mixed.nd rfl (Or.inl rfl)) (pss_one (ps_expr (k_bm (K := K) rfl PySem.F.plainAttrs_list PySem.F.slot_list_append PySem.F.type_list_append mt_append (pv 3) (pa_cons (k_bm (K := K) rfl PySem.F.plainAttrs_list PySem.F.slot_list_pop PySem.F.type_list_pop mt_popAt (pv 2) (pa_cons (pe_f c__law_draw hr (by decide) rfl passL (pa_cons (pv 0) (pa_cons (pe_callB (k_len (K := K) rfl) (by rfl) T.b_len PySem.boot_len (pa_cons (pv 2) pa_nil)) pa_nil))) pa_nil)) pa_nil))))) (pss_one (ps_ret (pv 3))))))), ?_⟩
    try dsimp only [cxOf]
    walk_at "go"
    refine a_list (.inl (SqL.of hl)) fun L H1 nL s1 hL => ?_
    walk_at "go"
    refine a_newL (by show 0 ≤ 100000; decide) fun D H2 nD s2 hD => ?_
    have npL := hp.ne nL
    have npD := (hp.same s1).ne nD
    have nLD : L ≠ D := ne_of_none hL nD
    walk_at "go"
    refine a_lenL (SqL.of (s2 _ _ (s1 _ _ hl))) ?_
    walk_at "go"
    refine ⟨(xs.length : Int), rfl, by omega, by omega, ?_⟩
    refine for_range (n := xs.length) (fun i σ H' => ∃ (v : Option V) (acc pool : List V), σ = [some (.ref p), some (.ref l), some (.ref L), some (.ref D), v] ∧ But p H H' ∧ Pen H' p (xs.length - i + n) ∧ H' L = some (.lst pool) ∧ H' D = some (.lst acc) ∧ (acc ++ pool).Perm xs ∧ acc.length = i)
      ⟨none, [], xs, rfl, But.of (s1.trans s2), (hp.same (s1.trans s2)).le (by omega), s2 _ _ hL, hD, List.Perm.refl _, rfl⟩ ?_ ?_
    · rintro i σ H3 hi ⟨v, acc, pool, rfl, b3, hp3, hL3, hD3, pm, el⟩
      have plen : acc.length + pool.length = xs.length := by
        have := pm.length_eq
        rw [List.length_append] at this
        exact this
      walk_at "go"
      refine a_ty hD3 ?_
      walk_at "go"
      refine a_ty hL3 ?_
      walk_at "go"
      refine ⟨p, _, xs.length - (i + 1) + n, rfl, hp3.le (by omega), by omega, by omega, fun r H4 r0 r1 b4 hp4 => ?_⟩
      obtain ⟨kk, rfl⟩ : ∃ kk : Nat, r = (kk : Int) := ⟨r.toNat, by omega⟩
      have hk : kk < pool.length := by omega
      walk_at "go"
      refine a_pop (k := kk) (b4 _ _ (Ne.symm npL) hL3) rfl (List.getElem?_eq_getElem hk) (by omega) fun H5 b5 h5 => ?_
      walk_at "go"
      refine a_app (b5 _ _ (Ne.symm nLD) (b4 _ _ (Ne.symm npD) hD3)) (szl (by omega)) fun H6 b6 h6 => ?_
      refine ⟨_, acc ++ [pool[kk]], pool.eraseIdx kk, rfl, ?_, ?_, ?_, h6, ?_, by rw [List.length_append, el]; rfl⟩
      · intro c o nc e
        exact b6 c o (ne_of_none (s1 c o e) nD) (b5 c o (ne_of_none e nL) (b4 c o nc (b3 c o nc e)))
      · exact (hp4.but b5 npL).but b6 npD
      · exact b6 _ _ nLD h5
      · refine List.Perm.trans ?_ pm
        rw [List.append_assoc]
        exact List.Perm.append_left acc (perm_eraseV hk)
    · rintro σ H3 ⟨v, acc, pool, rfl, b3, hp3, hL3, hD3, pm, el⟩
      have plen : acc.length + pool.length = xs.length := by
        have := pm.length_eq
        rw [List.length_append] at this
        exact this
      have : pool = [] := List.eq_nil_of_length_eq_zero (by omega)
      subst this
      rw [List.append_nil] at pm
      walk_at "go"
      exact k D acc H3 (s1.free nD) b3 (hp3.le (by omega)) hD3 pm
end

structure Drawn (n s e : Nat) (as : List Ar) : Prop where
  n0 : 1 ≤ n
  n1 : n ≤ 5
  sl : s < n
  el : e < n
  ok : arsOk n as
  way : ∀ x, x < n → onway as s e x
  few : as.length ≤ 10
def DrAt (K : PySem.W.Frag) (H : Hp) (q : Addr) (n s e : Nat) (as : List Ar) : Prop := ∃ t vs, SqT K H q [.int (n : Nat), .ref t, .int (s : Nat), .int (e : Nat)] ∧ SqT K H t vs ∧ Par (ArT K H) vs as
theorem DrAt.same {K : PySem.W.Frag} {H H1 : Hp} {q : Addr} {n s e : Nat} {as : List Ar} (h : DrAt K H q n s e as) (sm : Same H H1) : DrAt K H1 q n s e as := by
  obtain ⟨t, vs, h1, h2, h3⟩ := h
  exact ⟨t, vs, same_t sm h1, same_t sm h2, h3.mono fun v a h => h.same sm⟩
theorem DrAt.but {K : PySem.W.Frag} {H H1 : Hp} {q p : Addr} {n s e : Nat} {as : List Ar} {xs : List V} (h : DrAt K H q n s e as) (b : But p H H1) (hp : H p = some (.lst xs)) : DrAt K H1 q n s e as := by
  obtain ⟨t, vs, h1, h2, h3⟩ := h
  exact ⟨t, vs, sqt_but hp b h1, sqt_but hp b h2, h3.mono fun v a h => h.but b hp (by intro xs z; cases z) (by intro o xs z; cases z)⟩
theorem a_catA {K : PySem.W.Frag} {H : Hp} {Q : VK} {a b : Addr} {xs ys : List V} (h1 : SqT K H a xs) (h2 : SqT K H b ys) (hl : xs.length + ys.length ≤ 100000) (n1 : xs ≠ []) (n2 : ys ≠ []) (q : ∀ p H2, H p = none → Same H H2 → H2 p = some (.tup (xs ++ ys)) → Q (.ref p) H2) : rAddU K (.ref a) (.ref b) H Q :=
  .inr (.inr ⟨a, b, xs, ys, rfl, rfl, h1, h2, Nat.le_trans hl (by decide), fun z => absurd z n1, fun _ z => absurd z n2, fun _ _ p hp => q p _ hp (same_new hp) upd_same⟩)
def spChart (K : PySem.W.Frag) : Sp := fun vs H Q _ => ∃ (p : Addr) (b : Bool) (m : Nat), vs = [.ref p, .bl b] ∧ Pen H p (m + 100) ∧ ∀ q n s e as H', H q = none → But p H H' → Pen H' p m → DrAt K H' q n s e as → Drawn n s e as → Q (.ref q) H'
theorem perm_vi {ys : List V} {a : List Nat} (h : ys.Perm (vi a)) : ∃ b : List Nat, b.Perm a ∧ ys = vi b := by
  obtain ⟨b, pb, q⟩ := par_perm (R := fun (v : V) (x : Nat) => v = V.int (x : Nat)) h (xs := a) ⟨vi_len a, fun k v x e1 e2 => by
    unfold vi at e1
    rw [List.getElem?_map, e2] at e1
    exact (Option.some.inj e1).symm⟩
  refine ⟨b, pb, List.ext_getElem (by rw [vi_len]; exact q.1) fun i h1 h2 => ?_⟩
  rw [vi_len] at h2
  have := q.2 i _ _ (List.getElem?_eq_getElem h1) (List.getElem?_eq_getElem h2)
  rw [this]
  simp [vi]
/-- the pairs of a way -/
def steps (way : List Nat) : List Pr := (List.range (way.length - 1)).map fun k => ((way.getD k 0 : Nat), (way.getD (k + 1) 0 : Nat))
theorem way_all {n s e : Nat} {mid : List Nat} (hm : mid.Perm ((List.range n).filter fun x => decide (x ≠ s ∧ x ≠ e))) (x : Nat) (hx : x < n) : x ∈ [s] ++ mid ++ [e] := by
  by_cases h1 : x = s
  · simp [h1]
  by_cases h2 : x = e
  · simp [h2]
  have : x ∈ mid := hm.mem_iff.mpr (List.mem_filter.mpr ⟨List.mem_range.mpr hx, by simp [h1, h2]⟩)
  simp [this]
theorem rch_way {as : List Ar} {way : List Nat} (h : ∀ k, k + 1 < way.length → ahead as (way.getD k 0) (way.getD (k + 1) 0)) : ∀ k, k < way.length → Rch (ahead as) (way.getD 0 0) (way.getD k 0)
  | 0, _ => .base
  | k + 1, hk => .step (rch_way h k (by omega)) (h k hk)
theorem rch_back {as : List Ar} {way : List Nat} (h : ∀ k, k + 1 < way.length → ahead as (way.getD k 0) (way.getD (k + 1) 0)) : ∀ k, k < way.length → Rch (aback as) (way.getD (way.length - 1) 0) (way.getD (way.length - 1 - k) 0)
  | 0, _ => .base
  | k + 1, hk => by
    refine .step (rch_back h k (by omega)) ?_
    obtain ⟨a, ha, e1, e2⟩ := h (way.length - 1 - (k + 1)) (by omega)
    have : way.length - 1 - (k + 1) + 1 = way.length - 1 - k := by omega
    rw [this] at e2
    exact ⟨a, ha, e2, e1⟩
theorem onway_of {n s e : Nat} {as : List Ar} {mid : List Nat} (hm : mid.Perm ((List.range n).filter fun x => decide (x ≠ s ∧ x ≠ e))) (h : n = 1 ∨ ∀ pr ∈ steps ([s] ++ mid ++ [e]), ∃ a ∈ as, (a.1, a.2.1) = pr) (hs : s < n) (he : e < n) : ∀ x, x < n → onway as s e x := by
  intro x hx
  rcases h with h | h
  · have e1 : x = s := by omega
    have e2 : x = e := by omega
    constructor
    · rw [e1]; exact .base
    · rw [e2]; exact .base
  · have st : ∀ k, k + 1 < ([s] ++ mid ++ [e]).length → ahead as (([s] ++ mid ++ [e]).getD k 0) (([s] ++ mid ++ [e]).getD (k + 1) 0) := fun k hk => by
      obtain ⟨a, ha, z⟩ := h _ (List.mem_map_of_mem (List.mem_range.mpr (show k < ([s] ++ mid ++ [e]).length - 1 by omega)))
      exact ⟨a, ha, congrArg Prod.fst z, congrArg Prod.snd z⟩
    obtain ⟨k, hk, ek⟩ := List.getElem_of_mem (way_all hm x hx)
    have hl : ([s] ++ mid ++ [e]).length = mid.length + 2 := by simp
    constructor
    · have := rch_way st k hk
      rw [getD_lt hk, ek] at this
      exact this
    · have := rch_back st (([s] ++ mid ++ [e]).length - 1 - k) (by omega)
      have ee : ([s] ++ mid ++ [e]).length - 1 - (([s] ++ mid ++ [e]).length - 1 - k) = k := by omega
      rw [ee, getD_lt hk, ek] at this
      have e2 : ([s] ++ mid ++ [e]).getD (([s] ++ mid ++ [e]).length - 1) 0 = e := by
        rw [List.getD_eq_getElem?_getD]
        simp
      rw [e2] at this
      exact this
section
variable {P : Program} {w : World} {K : PySem.W.Frag} {mg : Str → Option Value} {base : Heap} {f : Addr} {fd : FuncData}
theorem sc__law_chart : FnScope ["_law_state_here", "_law_own", "_law_count", "_law_start", "_law_end", "_law_way", "_law_place", "_law_pairs", "_law_k", "_law_turn", "_law_names"] ["_law_state_here", "_law_own"] (defScope s__law_chart) := ⟨rfl, rfl, rfl, by decide +kernel, rfl, by decide +kernel, by decide +kernel⟩
theorem ok_chart (F : FX K "_law_chart" "_law_chart" s__law_chart [] [] f fd) (T : Txt K mg) (c__law_draw : Cal P w K mg base "_law_draw" 2 spDraw) (c__law_pick : Cal P w K mg base "_law_pick" 4 spPick) (c__law_mixed : Cal P w K mg base "_law_mixed" 4 spMixed) : FnOk P w K mg base (L2.CX P w) 6 f fd ["_law_state_here", "_law_own"] (spChart K) := by
  refine F.ok sc__law_chart (fun vs H Q E h => ?_) (fun cdv A outer s H vs Q E hr h => ?_)
  · obtain ⟨p, b, m, rfl, _⟩ := h
    rfl
  · obtain ⟨p, own, m, rfl, hp, k⟩ := h
    refine ⟨_, PSs.nox ((pss_cons (ps_set (i := 2) sc__law_chart.nd rfl (Or.inl rfl) (pe_op (k_add (K := K) rfl) pe_int (pe_f c__law_draw hr (by decide) rfl passL (pa_cons (pv 0) (pa_cons pe_int pa_nil))))) 
      (pss_cons (ps_asg (pe_tup (pa_cons (pe_f c__law_draw hr (by decide) rfl passL (pa_cons (pv 0) (pa_cons (pv 2) pa_nil))) (pa_cons (pe_f c__law_draw hr (by decide) rfl passL (pa_cons (pv 0) (pa_cons (pv 2) pa_nil))) pa_nil))) (k_gtup (K := K) (n := 2) rfl (by rfl) (pgs_cons (pg_name (i := 3) sc__law_chart.nd rfl (Or.inr rfl)) (pgs_cons (pg_name (i := 4) sc__law_chart.nd rfl (Or.inr rfl)) pgs_nil)))) 
      (pss_cons (ps_set (i := 5) sc__law_chart.nd rfl (Or.inr rfl) (pe_op (k_add (K := K) rfl) (pe_op (k_add (K := K) rfl) (pe_lst (pa_cons (pv 3) pa_nil)) (pe_f c__law_mixed hr (by decide) rfl passL (pa_cons (pv 0) (pa_cons (by exact (pe_lc (own := [("_law_place", 6)]) rfl sc__law_chart.nd (pi_range1 (by rfl) T.b_range (pa_cons (pv 2) pa_nil)) (blkOk_by (own := [("_law_place", 6)]) (N := ["_law_state_here", "_law_own", "_law_count", "_law_start", "_law_end", "_law_way", "_law_place", "_law_pairs", "_law_k", "_law_turn", "_law_names"]) (sc := defScope s__law_chart) (by decide +kernel)) (fun _ _ _ _ _ => by exact (pg_name (i := 6) sc__law_chart.nd rfl (Or.inl rfl))) (fun _ _ _ _ _ => by exact (pts_one (pt_cmpR (k_notin (K := K) rfl) (pv 6) (pe_tup (pa_cons (pv 3) (pa_cons (pv 4) pa_nil))) rfl))) (fun _ _ _ _ _ => by exact (pv 6)))) pa_nil)))) (pe_lst (pa_cons (pv 4) pa_nil)))) 
      (pss_cons (ps_set (i := 7) sc__law_chart.nd rfl (Or.inr rfl) (by exact (pe_lc (own := [("_law_k", 8)]) rfl sc__law_chart.nd (pi_range1 (by rfl) T.b_range (pa_cons (pe_op op_sub (pe_callB (k_len (K := K) rfl) (by rfl) T.b_len PySem.boot_len (pa_cons (pv 5) pa_nil)) pe_int) pa_nil)) (blkOk_by (own := [("_law_k", 8)]) (N := ["_law_state_here", "_law_own", "_law_count", "_law_start", "_law_end", "_law_way", "_law_place", "_law_pairs", "_law_k", "_law_turn", "_law_names"]) (sc := defScope s__law_chart) (by decide +kernel)) (fun _ _ _ _ _ => by exact (pg_name (i := 8) sc__law_chart.nd rfl (Or.inl rfl))) (fun _ _ _ _ _ => by exact pts_nil) (fun _ _ _ _ _ => by exact (pe_tup (pa_cons (pe_ix (k_ix (K := K) rfl) (pv 5) (pv 8) (fun _ _ => rfl)) (pa_cons (pe_ix (k_ix (K := K) rfl) (pv 5) (pe_op (k_add (K := K) rfl) (pv 8) pe_int) (fun _ _ => rfl)) pa_nil))))))) 
      (pss_cons (ps_if (pt_cmpR (k_eq (K := K) rfl hr.units) (pv 2) pe_int (nomark _)) (pss_one (ps_set (i := 7) sc__law_chart.nd rfl (Or.inr rfl) (pe_lst pa_nil))) pss_nil) 
      (pss_cons (ps_for PassesOwn.never rfl (pi_range1 (by rfl) T.b_range (pa_cons (pe_f c__law_draw hr (by decide) rfl passL (pa_cons (pv 0) (pa_cons pe_int pa_nil))) pa_nil)) (pg_name (i := 9) sc__law_chart.nd rfl (Or.inl rfl)) (pss_one (ps_expr (k_bm (K := K) rfl PySem.F.plainAttrs_list PySem.F.slot_list_append PySem.F.type_list_append mt_append (pv 7) (pa_cons (pe_tup (pa_cons (pe_f c__law_draw hr (by decide) rfl passL (pa_cons (pv 0) (pa_cons (pv 2) pa_nil))) (pa_cons (pe_f c__law_draw hr (by decide) rfl passL (pa_cons (pv 0) (pa_cons (pv 2) pa_nil))) pa_nil))) pa_nil))))) 
      (pss_cons (ps_set (i := 10) sc__law_chart.nd rfl (Or.inr rfl) (pe_lst (pa_cons pe_str (pa_cons pe_str (pa_cons pe_str (pa_cons pe_str (pa_cons pe_str (pa_cons pe_str (pa_cons pe_str (pa_cons pe_str (pa_cons pe_str (pa_cons pe_str (pa_cons pe_str pa_nil))))))))))))) 
      (pss_cons (ps_if (pt_not (k_tr (K := K) rfl (pv 1))) (pss_one (ps_set (i := 10) sc__law_chart.nd rfl (Or.inr rfl) (by exact (pe_lc (own := [("_law_k", 8)]) rfl sc__law_chart.nd (pi_range1 (by rfl) T.b_range (pa_cons pe_int pa_nil)) (blkOk_by (own := [("_law_k", 8)]) (N := ["_law_state_here", "_law_own", "_law_count", "_law_start", "_law_end", "_law_way", "_law_place", "_law_pairs", "_law_k", "_law_turn", "_law_names"]) (sc := defScope s__law_chart) (by decide +kernel)) (fun _ _ _ _ _ => by exact (pg_name (i := 8) sc__law_chart.nd rfl (Or.inl rfl))) (fun _ _ _ _ _ => by exact pts_nil) (fun _ _ _ _ _ => by exact (pe_f c__law_pick hr (by decide) rfl passL (pa_cons (pv 0) (pa_cons (pe_lst (pa_cons pe_str (pa_cons pe_str (pa_cons pe_str pa_nil)))) pa_nil)))))))) pss_nil) 
      (pss_cons (ps_set (i := 7) sc__law_chart.nd rfl (Or.inr rfl) (pe_f c__law_mixed hr (by decide) rfl passL (pa_cons (pv 0) (pa_cons (pv 7) pa_nil)))) (pss_one (ps_ret (pe_tup (pa_cons (pv 2) (pa_cons (pe_callTy (k_tuple (K := K) rfl) (by rfl) T.b_tuple (by decide +kernel) (pa_cons (by exact (pe_lc (own := [("_law_k", 8)]) rfl sc__law_chart.nd (pi_range1 (by rfl) T.b_range (pa_cons (pe_callB (k_len (K := K) rfl) (by rfl) T.b_len PySem.boot_len (pa_cons (pv 7) pa_nil)) pa_nil)) (blkOk_by (own := [("_law_k", 8)]) (N := ["_law_state_here", "_law_own", "_law_count", "_law_start", "_law_end", "_law_way", "_law_place", "_law_pairs", "_law_k", "_law_turn", "_law_names"]) (sc := defScope s__law_chart) (by decide +kernel)) (fun _ _ _ _ _ => by exact (pg_name (i := 8) sc__law_chart.nd rfl (Or.inl rfl))) (fun _ _ _ _ _ => by exact pts_nil) (fun _ _ _ _ _ => by exact (pe_op (k_add (K := K) rfl) (pe_ix (k_ix (K := K) rfl) (pv 7) (pv 8) (fun _ _ => rfl)) (pe_tup (pa_cons (pe_ix (k_ix (K := K) rfl) (pv 10) (pv 8) (fun _ _ => rfl)) pa_nil)))))) pa_nil)) (pa_cons (pv 3) (pa_cons (pv 4) pa_nil))))))))))))))))), ?_⟩
    try dsimp only [cxOf]
    walk_at "go"
    refine ⟨p, 5, m + 90, rfl, hp.le (by omega), by omega, by omega, fun r1 H1 r0 r0' b1 hp1 => ?_⟩
    obtain ⟨c, rfl⟩ : ∃ c : Nat, r1 = (c : Int) := ⟨r1.toNat, by omega⟩
    walk_at "go"
    obtain ⟨n, en⟩ : ∃ n : Nat, n = 1 + c := ⟨_, rfl⟩
    have en' : (1 : Int) + (c : Int) = (n : Int) := by omega
    rw [en']
    refine ⟨p, _, m + 89, rfl, hp1.le (by omega), by omega, by omega, fun r2 H2 q0 q1 b2 hp2 => ?_⟩
    obtain ⟨s0, rfl⟩ : ∃ c : Nat, r2 = (c : Int) := ⟨r2.toNat, by omega⟩
    walk_at "go"
    refine ⟨p, _, m + 88, rfl, hp2.le (by omega), by omega, by omega, fun r3 H3 q2 q3 b3 hp3 => ?_⟩
    obtain ⟨e0, rfl⟩ : ∃ c : Nat, r3 = (c : Int) := ⟨r3.toNat, by omega⟩
    walk_at "go"
    refine a_newT (by show 2 ≤ 100000; decide) fun t4 H4 nt4 s4 h4 => ?_
    walk_at "go"
    refine a_newL (by show 1 ≤ 100000; decide) fun l5 H5 nl5 s5 h5 => ?_
    walk_at "go"
    have fy : ∀ {own : List Str} , True := fun {_} => True.intro
    refine cf_r (k := n) (fun i => !decide (i ∈ [s0, e0])) (fun i => V.int (i : Nat)) (by omega) ?_ ?_ ?_
    · intro R r
      walk_at "go"
      exact r _ (Same.refl _)
    · intro i H' hi s'
      refine ⟨fun R r => ?_, fun _ H3 s3 R r => ?_⟩
      · walk_at "go"
        refine a_newT (by show 2 ≤ 100000; decide) fun t H6 nt s6 h6 => ?_
        refine a_ninN (a := [s0, e0]) (.inr (SqT.of h6)) ?_
        walk_at "go"
        exact r _ s6
      · walk_at "go"
        exact r _ (Same.refl _)
    intro D6 H6 nD6 s6 hD6
    have hp6 := hp3.same (s4.trans (s5.trans s6))
    have nD6p : D6 ≠ p := Ne.symm ((hp3.same (s4.trans s5)).ne nD6)
    walk_at "go"
    have e6 : ((List.range n).filter fun i => !decide (i ∈ [s0, e0])).map (fun i => V.int (i : Nat)) = vi ((List.range n).filter fun x => decide (x ≠ s0 ∧ x ≠ e0)) := by
      unfold vi
      congr 1
      refine List.filter_congr fun x _ => ?_
      simp
    rw [e6] at hD6
    have len6 : ((List.range n).filter fun x => decide (x ≠ s0 ∧ x ≠ e0)).length ≤ n := by
      refine Nat.le_trans (List.length_filter_le _ _) ?_
      rw [List.length_range]
      exact Nat.le_refl _
    have len6' : ((List.range n).filter fun x => decide (x ≠ s0 ∧ x ≠ e0)).length + 1 ≤ n := by
      have := sub_len (l := s0 :: (List.range n).filter fun x => decide (x ≠ s0 ∧ x ≠ e0)) (m := List.range n) (List.nodup_cons.mpr ⟨by simp, List.nodup_range.filter _⟩) fun x hx => by
        rcases List.mem_cons.mp hx with rfl | hx
        · exact List.mem_range.mpr (by omega)
        · exact (List.mem_filter.mp hx).1
      rw [List.length_range] at this
      exact this
    refine ⟨p, D6, _, m + 80, rfl, hp6.le (by rw [vi_len]; omega), hD6, nD6p, by rw [vi_len]; omega, fun D7 ys H7 nD7 b7 hp7 hD7 pm => ?_⟩
    obtain ⟨mid, pmid, rfl⟩ := perm_vi pm
    have mlen : mid.length + 1 ≤ n := by rw [pmid.length_eq]; exact len6'
    have b37 : But p H3 H7 := (But.of (s4.trans (s5.trans s6))).trans b7
    have nl5p : l5 ≠ p := Ne.symm ((hp3.same s4).ne nl5)
    walk_at "go"
    refine a_cat (b7 _ _ nl5p (s6 _ _ h5)) hD7 (by rw [vi_len]; simp; omega) fun l8 H8 nl8 s8 h8 => ?_
    walk_at "go"
    refine a_newL (by show 1 ≤ 100000; decide) fun l9 H9 nl9 s9 h9 => ?_
    refine a_cat (s9 _ _ h8) h9 (by simp [vi_len]; omega) fun lw H10 nlw s10 hw => ?_
    have ew : [V.int (s0 : Nat)] ++ vi mid ++ [V.int (e0 : Nat)] = vi ([s0] ++ mid ++ [e0]) := by simp [vi]
    rw [ew] at hw
    have wlen : ([s0] ++ mid ++ [e0]).length = mid.length + 2 := by simp
    have wlt : ∀ x ∈ [s0] ++ mid ++ [e0], x < n := fun x hx => by
      rcases List.mem_append.mp hx with hx | hx
      · rcases List.mem_append.mp hx with hx | hx
        · rw [List.mem_singleton.mp hx]; omega
        · exact List.mem_range.mp (List.mem_filter.mp (pmid.mem_iff.mp hx)).1
      · rw [List.mem_singleton.mp hx]; omega
    have onw := fun as => onway_of (as := as) pmid
    generalize ewy : [s0] ++ mid ++ [e0] = way at hw wlen wlt onw
    have b010 : But p H H10 := (((b1.trans b2).trans b3).trans b37).trans (But.of (s8.trans (s9.trans s10)))
    have hp10 := hp7.same (s8.trans (s9.trans s10))
    have nlwp : lw ≠ p := Ne.symm ((hp7.same (s8.trans s9)).ne nlw)
    walk_at "go"
    refine c_rp (k := mid.length + 1) (P := fun D i v H' => PairAt K H' v ((way.getD i 0 : Nat), (way.getD (i + 1) 0 : Nat))) ⟨?_, ?_⟩ (by omega) ?_ ?_ ?_
    · intro D i v H H' sm h
      exact h.same sm
    · intro D i v H H' ys hD bt h
      exact h.but hD bt
    · intro R r
      walk_at "go"
      rw [vi_len, wlen]
      have e1 : ((mid.length + 2 : Nat) : Int) - 1 = ((mid.length + 1 : Nat) : Int) := by omega
      rw [e1]
      exact r _ (Same.refl _)
    · intro D acc i H' nD hi s' hacc R r
      walk_at "go"
      refine a_ixL (SqL.of (s' _ _ hw)) (atI_of (j := i) rfl (vi_at (by omega))) ?_
      walk_at "go"
      refine a_ixL (SqL.of (s' _ _ hw)) (atI_of (j := i + 1) (by omega) (vi_at (by omega))) ?_
      walk_at "go"
      refine a_newT (by show 2 ≤ 100000; decide) fun t H6 nt s6 h6 => ?_
      refine r _ _ s6 ⟨t, rfl, ?_⟩
      rw [getD_lt (by omega), getD_lt (by omega)]
      exact SqT.of h6
    intro D11 acc H11 nD11 s11 hD11 alen aal
    have par11 : Par (PairAt K H11) acc (steps way) := by
      refine ⟨by unfold steps; simp; omega, fun i v x ev ex => ?_⟩
      have := aal i v ev
      unfold steps at ex
      rw [List.getElem?_map] at ex
      obtain ⟨j, ej, rfl⟩ := Option.map_eq_some_iff.mp ex
      have ej2 := List.getElem?_eq_some_iff.mp ej
      obtain ⟨hj, ej3⟩ := ej2
      rw [List.getElem_range] at ej3
      subst ej3
      exact this
    have stlt : ∀ pr ∈ steps way, (0 ≤ pr.1 ∧ pr.1 < n) ∧ 0 ≤ pr.2 ∧ pr.2 < n := fun pr hpr => by
      unfold steps at hpr
      obtain ⟨i, hi, rfl⟩ := List.mem_map.mp hpr
      have hi := List.mem_range.mp hi
      have a1 := wlt _ (List.getElem_mem (l := way) (n := i) (by omega))
      have a2 := wlt _ (List.getElem_mem (l := way) (n := i + 1) (by omega))
      simp only [getD_lt (show i < way.length by omega), getD_lt (show i + 1 < way.length by omega)]
      omega
    have stlen : (steps way).length ≤ 5 := by unfold steps; simp; omega
    have hD11p : D11 ≠ p := Ne.symm (hp10.ne nD11)
    have nD11H : H D11 = none := hp10.free b010 nD11
    walk_at "if"
    refine g_seqIf (fun σ' H' => ∃ (pl : Addr) (vsP : List V) (prs : List Pr), σ' = [some (.ref p), some (.bl own), some (.int (n : Nat)), some (.int (s0 : Nat)), some (.int (e0 : Nat)), some (.ref lw), none, some (.ref pl), none, none, none] ∧ But p H H' ∧ Pen H' p (m + 80) ∧ H pl = none ∧ pl ≠ p ∧ H' pl = some (.lst vsP) ∧ Par (PairAt K H') vsP prs ∧ (n = 1 ∨ ∀ pr ∈ steps way, pr ∈ prs) ∧ (∀ pr ∈ prs, (0 ≤ pr.1 ∧ pr.1 < n) ∧ 0 ≤ pr.2 ∧ pr.2 < n) ∧ prs.length ≤ 5) ?_ ?_
    · intro fin
      walk_at "go"
      refine a_ite (fun c1 => ?_) (fun c1 => ?_)
      · walk_at "go"
        refine a_newL (by show 0 ≤ 100000; decide) fun l12 H12 nl12 s12 h12 => ?_
        refine fin _ _ ⟨l12, [], [], rfl, b010.trans (But.of (s11.trans s12)), hp10.same (s11.trans s12), ?_, Ne.symm ((hp10.same s11).ne nl12), h12, .nil, .inl ?_, (fun pr h => by cases h), by show 0 ≤ 5; omega⟩
        · exact hp10.free b010 (s11.free nl12)
        · have := V.int.inj c1
          omega
      · refine g_next ?_
        exact fin _ _ ⟨D11, acc, steps way, rfl, b010.trans (But.of s11), hp10.same s11, nD11H, hD11p, hD11, par11, .inr fun pr h => h, stlt, stlen⟩
    rintro σ' H12 ⟨pl, vsP, prs, rfl, b12, hp12, npl, nplp, hpl, par12, hst, plt, plen⟩
    clear par11 stlt stlen hD11p nD11H aal alen hD11 s11
    walk_at "go"
    refine ⟨p, 6, m + 79, rfl, hp12.le (by omega), by omega, by omega, fun r4 H13 q4 q5 b13 hp13 => ?_⟩
    obtain ⟨tn, rfl⟩ : ∃ c : Nat, r4 = (c : Int) := ⟨r4.toNat, by omega⟩
    have htn : tn < 6 := by omega
    obtain ⟨px12, hpx12⟩ := hp12.at_
    walk_at "go"
    refine ⟨(tn : Int), rfl, by omega, by omega, ?_⟩
    refine for_range (n := tn) (fun i σ H' => ∃ (v9 : Option V) (vsP : List V) (prs : List Pr), σ = [some (.ref p), some (.bl own), some (.int (n : Nat)), some (.int (s0 : Nat)), some (.int (e0 : Nat)), some (.ref lw), none, some (.ref pl), none, v9, none] ∧ But p H H' ∧ Pen H' p (m + 79 - 2 * i) ∧ H' pl = some (.lst vsP) ∧ Par (PairAt K H') vsP prs ∧ (n = 1 ∨ ∀ pr ∈ steps way, pr ∈ prs) ∧ (∀ pr ∈ prs, (0 ≤ pr.1 ∧ pr.1 < n) ∧ 0 ≤ pr.2 ∧ pr.2 < n) ∧ prs.length ≤ 5 + i)
      ⟨none, vsP, prs, rfl, b12.trans b13, hp13.le (by omega), b13 _ _ nplp hpl, par12.mono fun v x h => h.but hpx12 b13, hst, plt, by omega⟩ ?_ ?_
    · clear par12 hst plt plen hpl hpx12 px12 hp13 b13 q4 q5
      rintro i σ H13 hi ⟨v9, vsP, prs, rfl, b13, hp13, hpl, par13, hst, plt, plen⟩
      obtain ⟨px13, hpx13⟩ := hp13.at_
      walk_at "go"
      refine a_ty hpl ?_
      walk_at "go"
      refine ⟨p, _, m + 79 - 2 * i - 1, rfl, hp13.le (by omega), by omega, by omega, fun r5 H14 q4 q5 b14 hp14 => ?_⟩
      walk_at "go"
      refine ⟨p, _, m + 79 - 2 * i - 2, rfl, hp14.le (by omega), by omega, by omega, fun r6 H15 q6 q7 b15 hp15 => ?_⟩
      obtain ⟨px14, hpx14⟩ := hp14.at_
      walk_at "go"
      refine a_newT (by show 2 ≤ 100000; decide) fun t16 H16 nt16 s16 h16 => ?_
      walk_at "go"
      have hpl16 := s16 _ _ (b15 _ _ nplp (b14 _ _ nplp hpl))
      have vl : vsP.length = prs.length := par13.1
      refine a_app hpl16 (szl (by omega)) fun H17 b17 h17 => ?_
      have bpl : But p H H17 := fun a o na e => b17 a o (ne_of_none e npl) (s16 a o (b15 a o na (b14 a o na (b13 a o na e))))
      refine ⟨_, vsP ++ [.ref t16], prs ++ [(r5, r6)], rfl, bpl, (hp15.same s16).but b17 (Ne.symm nplp) |>.le (by omega), h17, ?_, ?_, ?_, ?_⟩
      · refine Par.snoc (par13.mono fun v x h => ?_) ?_
        · exact (((h.but hpx13 b14).but hpx14 b15).same s16).but hpl16 b17
        · exact (show PairAt K H16 (.ref t16) (r5, r6) from ⟨t16, rfl, SqT.of h16⟩).but hpl16 b17
      · rcases hst with h | h
        · exact .inl h
        · exact .inr fun pr hpr => List.mem_append_left _ (h pr hpr)
      · intro pr hpr
        rcases List.mem_append.mp hpr with hpr | hpr
        · exact plt pr hpr
        · rw [List.mem_singleton.mp hpr]
          exact ⟨⟨q4, q5⟩, q6, q7⟩
      · rw [List.length_append]
        simp
        omega
    clear par12 hst plt plen hpl hpx12 px12 hp13 b13 vsP prs
    rintro σ H13 ⟨v9, vsP, prs, rfl, b13, hp13, hpl, par13, hst, plt, plen⟩
    replace hp13 := hp13.le (m := m + 60) (by omega)
    obtain ⟨px13, hpx13⟩ := hp13.at_
    walk_at "go"
    refine a_newL (by show 11 ≤ 100000; decide) fun ln H14 nln s14 hln => ?_
    have hln' : H14 ln = some (.lst ((["a", "b", "cd", "e", "fgh", "z", "y", "x", "w", "v", "u"] : List Str).map V.str)) := hln
    have nlnp : ln ≠ p := Ne.symm (hp13.ne nln)
    walk_at "if"
    refine g_seqIf (fun σ' H' => ∃ (ln : Addr) (nms : List Str) (v8 : Option V), σ' = [some (.ref p), some (.bl own), some (.int (n : Nat)), some (.int (s0 : Nat)), some (.int (e0 : Nat)), some (.ref lw), none, some (.ref pl), v8, v9, some (.ref ln)] ∧ But p H H' ∧ Pen H' p (m + 20) ∧ ln ≠ p ∧ H' ln = some (.lst (nms.map V.str)) ∧ nms.length = 11 ∧ (∀ x ∈ nms, fitsN x = true) ∧ H' pl = some (.lst vsP) ∧ Par (PairAt K H') vsP prs) ?_ ?_
    · intro fin
      walk_at "go"
      cases own with
      | true =>
        refine a_F rfl ?_
        refine g_next ?_
        exact fin _ _ ⟨ln, _, none, rfl, b13.trans (But.of s14), (hp13.same s14).le (by omega), nlnp, hln', rfl, by decide +kernel, s14 _ _ hpl, par13.mono fun v x h => h.same s14⟩
      | false =>
        refine a_T rfl ?_
        walk_at "go"
        refine g_lcT ?_
        walk_at "go"
        refine ⟨11, rfl, by decide, by decide, fun D hD => ?_⟩
        have hp14 := hp13.same s14
        have nDp : D ≠ p := Ne.symm (hp14.ne hD)
        have hpl14 := s14 _ _ hpl
        have nDpl : pl ≠ D := ne_of_none hpl14 hD
        have bH14 : But p H H14 := b13.trans (But.of s14)
        refine lc_it walk_range (fun i H' => ∃ nms : List Str, But p H H' ∧ Pen H' p (m + 20 + (11 - i)) ∧ H' pl = some (.lst vsP) ∧ Par (PairAt K H') vsP prs ∧ H' D = some (.lst (nms.map V.str)) ∧ (∀ x ∈ nms, fitsN x = true) ∧ nms.length = i)
          ⟨[], bH14.trans (But.of (same_new hD)), (hp14.same (same_new hD)).le (by omega), (same_new hD) _ _ hpl14, par13.mono fun v x h => (h.same s14).same (same_new hD), upd_same, (fun x hx => by cases hx), rfl⟩ (fun _ _ _ _ => True.intro) ?_ ?_
        · rintro i x H' H2 hi ⟨nms, b', hp', hpl', par', hD', al, el⟩ ⟨rfl, rfl⟩
          have hi : i < 11 := by simpa using hi
          refine ⟨rfl, ?_⟩
          refine g_yes (a_T rfl ?_)
          walk_at "go"
          refine a_newL (by show 3 ≤ 100000; decide) fun l20 H20 nl20 s20 h20 => ?_
          walk_at "go"
          refine ⟨p, l20, _, m + 20 + (11 - (i + 1)), rfl, (hp'.same s20).le (by omega), h20, Ne.symm (hp'.ne nl20), by show 0 < 3; omega, by show 3 ≤ _; omega, fun v H21 hv b21 hp21 => ?_⟩
          obtain ⟨nm, rfl, fnm⟩ : ∃ nm : Str, v = V.str nm ∧ fitsN nm = true := by
            have hv : v = V.str "a" ∨ v = V.str "b" ∨ v = V.str "ab" := by simpa using hv
            rcases hv with rfl | rfl | rfl
            · exact ⟨_, rfl, by decide +kernel⟩
            · exact ⟨_, rfl, by decide +kernel⟩
            · exact ⟨_, rfl, by decide +kernel⟩
          obtain ⟨px20, hpx20⟩ := (hp'.same s20).at_
          have hD21 := b21 _ _ nDp (s20 _ _ hD')
          have hpl21 := b21 _ _ nplp (s20 _ _ hpl')
          refine ⟨_, hD21, by rw [List.length_map]; exact szl (by omega), nms ++ [nm], ?_, ?_, ?_, ?_, ?_, ?_, by rw [List.length_append, el]; rfl⟩
          · intro a o na e
            have ha := b21 a o na (s20 a o (b' a o na e))
            rw [upd_ne (fun z => ?_)]
            · exact ha
            · subst z
              exact absurd (bH14 _ _ na e) (by rw [hD]; intro q; cases q)
          · exact hp21.but But.upd (Ne.symm nDp)
          · rw [upd_ne nDpl]
            exact hpl21
          · exact par'.mono fun v x h => (((h.same s20).but hpx20 b21).but hD21 But.upd)
          · rw [upd_same, List.map_append]
            rfl
          · intro x hx
            rcases List.mem_append.mp hx with hx | hx
            · exact al x hx
            · rw [List.mem_singleton.mp hx]
              exact fnm
        · rintro H' ⟨nms, b', hp', hpl', par', hD', al, el⟩
          exact fin _ _ ⟨D, nms, none, rfl, b', hp'.le (by omega), nDp, hD', el, al, hpl', par'⟩
    clear hln' hln nlnp s14 nln ln
    rintro σ' H14 ⟨ln, nms, v8, rfl, b14, hp14, nlnp, hln, nlen, nok, hpl14, par14⟩
    clear par13 hpl hpx13 px13 hp13 b13
    walk_at "go"
    have vl : vsP.length = prs.length := par14.1
    refine ⟨p, pl, vsP, m, rfl, hp14.le (by omega), hpl14, nplp, by omega, fun pl2 vs2 H15 npl2 b15 hp15 hpl2 pm2 => ?_⟩
    obtain ⟨px14, hpx14⟩ := hp14.at_
    obtain ⟨prs2, pm3, par15⟩ := par_perm pm2 (par14.mono fun v x h => h.but hpx14 b15)
    have hln15 := b15 _ _ nlnp hln
    have vl2 : vs2.length = prs2.length := par15.1
    have pl2len : prs2.length ≤ 10 := by rw [pm3.length_eq]; omega
    walk_at "go"
    refine c_rp (k := prs2.length) (P := fun D i v H' => ∀ (hi : i < prs2.length) (hn : i < nms.length), ArT K H' v (prs2[i].1, prs2[i].2, nms[i])) ⟨?_, ?_⟩ (by omega) ?_ ?_ ?_
    · intro D i v H H' sm h hi hn
      exact (h hi hn).same sm
    · intro D i v H H' ys hD bt h hi hn
      exact (h hi hn).but bt hD (by intro xs z; cases z) (by intro o xs z; cases z)
    · intro R r
      walk_at "go"
      rw [vl2]
      exact r _ (Same.refl _)
    · intro D acc i H' nD hi s' hacc R r
      obtain ⟨v, ev, q, rfl, hq⟩ := par15.get hi
      have hn : i < nms.length := by omega
      walk_at "go"
      refine a_ixL (SqL.of (s' _ _ hpl2)) (atI_of (j := i) rfl ev) ?_
      walk_at "go"
      refine a_ixL (SqL.of (s' _ _ hln15)) (atI_of (j := i) (z := V.str nms[i]) rfl (by rw [List.getElem?_map, List.getElem?_eq_getElem hn]; rfl)) ?_
      walk_at "go"
      refine a_newT (by show 1 ≤ 100000; decide) fun t H16 nt s16 h16 => ?_
      refine a_catA (same_t (s'.trans s16) hq) (SqT.of h16) (by show 2 + 1 ≤ 100000; decide) (by simp) (by simp) fun t2 H17 nt2 s17 h17 => ?_
      refine r _ _ (s16.trans s17) fun hi hn => ⟨t2, rfl, SqT.of h17⟩
    intro D16 acc H16 nD16 s16 hD16 alen aal
    walk_at "go"
    refine a_tup (.inl (SqL.of hD16)) fun t17 H17 s17 h17 => ?_
    walk_at "go"
    refine a_newT (by show 4 ≤ 100000; decide) fun q H18 nq s18 h18 => ?_
    have bfin : But p H H18 := (b14.trans b15).trans (But.of (s16.trans (s17.trans s18)))
    let as : List Ar := (List.range prs2.length).map fun i => ((prs2.getD i (0, 0)).1, (prs2.getD i (0, 0)).2, nms.getD i "")
    have alas : as.length = prs2.length := by simp [as]
    have asget : ∀ i (hi : i < prs2.length) (hn : i < nms.length), as[i]? = some (prs2[i].1, prs2[i].2, nms[i]) := fun i hi hn => by
      simp [as, hi, hn]
    have asmem : ∀ a ∈ as, ∃ i, ∃ (hi : i < prs2.length) (hn : i < nms.length), a = (prs2[i].1, prs2[i].2, nms[i]) := fun a ha => by
      obtain ⟨i, hi, rfl⟩ := List.getElem_of_mem ha
      rw [alas] at hi
      have := asget i hi (by omega)
      rw [List.getElem?_eq_getElem (by omega)] at this
      exact ⟨i, hi, by omega, Option.some.inj this⟩
    refine k q n s0 e0 as H18 ?_ bfin (hp15.same (s16.trans (s17.trans s18))) ⟨t17, acc, SqT.of h18, same_t s18 h17, ?_⟩ ⟨by omega, by omega, by omega, by omega, ?_, ?_, by omega⟩
    · exact hp15.free (b14.trans b15) (s16.free (s17.free nq))
    · refine ⟨by omega, fun i v a ev ea => ?_⟩
      have hi : i < prs2.length := by rw [← alas]; exact (List.getElem?_eq_some_iff.mp ea).1
      rw [asget i hi (by omega)] at ea
      cases ea
      exact ((aal i v ev hi (by omega)).same s17).same s18
    · intro a ha
      obtain ⟨i, hi, hn, rfl⟩ := asmem a ha
      have h1 := plt _ (pm3.mem_iff.mp (List.getElem_mem hi))
      have h2 := nok _ (List.getElem_mem hn)
      unfold badAr
      simp only [h2, Bool.not_true, Bool.or_false, Bool.or_eq_false_iff, decide_eq_false_iff_not]
      omega
    · refine onw as ?_ (by omega) (by omega)
      rcases hst with h | h
      · exact .inl h
      · refine .inr fun pr hpr => ?_
        obtain ⟨i, hi, e⟩ := List.getElem_of_mem (pm3.mem_iff.mpr (h pr hpr))
        refine ⟨(prs2[i].1, prs2[i].2, nms[i]'(by omega)), List.mem_of_getElem? (asget i hi (by omega)), ?_⟩
        rw [← e]
end

theorem fits_size {z : Str} (h : fitsN z = true) : z.cps.size ≤ 3 := by
  unfold fitsN at h
  simp only [Bool.and_eq_true, decide_eq_true_eq] at h
  exact h.1.2
/-- Chart(..) where it is made of a drawn one -/
theorem a_mkCh {K : PySem.W.Frag} {H : Hp} {x : Addr} {n s e : Nat} {as : List Ar} {ws : List V} {Q : VK} {E : XK} (h : Seq K H x ws) (pw : Par (ArS K H) ws as) (d : Drawn n s e as) (q : ∀ r H', H r = none → Same H H' → ChAt K H' r n as s e → Q (.ref r) H') :
    rMk (He.ga K "Chart") (spChInit K) E [.int (n : Nat), .ref x, .int (s : Nat), .int (e : Nat)] H Q := by
  intro r dx hr hd ne
  have s1 : Same H (upd (upd H dx (.own r)) r (.ins (He.ga K "Chart") dx [])) := same_mut (same_new hd) hr
  have hn := d.n1
  have hs := d.sl
  have he := d.el
  have hf := d.few
  refine ⟨r, x, dx, n, s, e, as, ws, rfl, upd_same, h.same s1, pw.mono fun v a h => h.same s1, by omega, fun a ha => ?_, fun z => by omega, fun _ _ => ⟨fun z => by omega, fun _ _ z => by omega, fun _ _ _ _ => ⟨fun i hi hb => ?_, fun _ => ⟨fun x hx no => ?_, fun _ H' b hc => ⟨rfl, q r H' hr (fun c o e => b c o (ne_of_none e hr) (s1 c o e)) hc⟩⟩⟩⟩⟩
  · obtain ⟨x, y, _, _, _, _, hz⟩ := d.ok.at_ a ha
    have := fits_size hz
    omega
  · have := d.ok _ (List.getElem_mem hi)
    rw [this] at hb
    cases hb
  · rw [Int.toNat_natCast, Int.toNat_natCast] at no
    exact absurd (d.way x (by omega)) no

theorem letters_small : ∀ c ∈ ("abcdefghijklmnopqrstuvwxyz" : Str).cps.toList, c < 0x110000 := by decide +kernel
theorem fits_strOk {z : Str} (h : fitsN z = true) : PyData.strOk z = true := by
  unfold fitsN at h
  simp only [Bool.and_eq_true, List.all_eq_true, decide_eq_true_eq] at h
  unfold PyData.strOk
  rw [← Array.all_toList, List.all_eq_true]
  intro c hc
  exact decide_eq_true (letters_small c (h.2 c hc))
theorem dqs {K : PySem.W.Frag} {H : Hp} {n : Nat} : ∀ ss : List Str, (∀ x ∈ ss, PyData.strOk x = true) → DqA K H (n + 1) (ss.map V.str) (ss.map PyData.str)
  | [], _ => .nil
  | x :: ss, h => .cons (.str x (h x (List.mem_cons_self ..))) (dqs ss fun y hy => h y (List.mem_cons_of_mem _ hy))

abbrev ar0 : Ar := (0, 0, "")
open Classical in
noncomputable def loose1 (n : Nat) (as : List Ar) (s e : Nat) : Option Nat := (List.range n).find? fun x => decide (¬ onway as s e x)
def bad1 (n : Int) (as : List Ar) : Option Nat := (List.range as.length).find? fun i => badAr n (as.getD i ar0)
noncomputable def outD (n : Int) (as : List Ar) (s e : Int) : PyData :=
  if 40 < n ∨ 80 < as.length then .tuple [.str "great", .bool true]
  else if s < 0 ∨ n ≤ s then .tuple [.str "place", .int s, .bool true]
  else if e < 0 ∨ n ≤ e then .tuple [.str "place", .int e, .bool true]
  else match bad1 n as with
    | some i => .tuple [.str "arrow", .int (i : Nat), .bool true]
    | none => match loose1 n.toNat as s.toNat e.toNat with
      | some x => .tuple [.str "loose", .int (x : Nat), .bool true]
      | none => .tuple [.str "done", .int n]
theorem getD_ar {as : List Ar} {i : Nat} (h : i < as.length) : as.getD i ar0 = as[i] := by
  rw [List.getD_eq_getElem?_getD, List.getElem?_eq_getElem h]
  rfl
theorem bad1_some {n : Int} {as : List Ar} {i : Nat} (hi : i < as.length) (h : badAr n as[i] = true) (bf : ∀ j (hj : j < i), badAr n (as[j]'(by omega)) = false) : bad1 n as = some i := by
  unfold bad1
  rw [List.find?_eq_some_iff_getElem]
  refine ⟨by rw [getD_ar hi]; exact h, i, by rw [List.length_range]; exact hi, by simp, fun j hj => ?_⟩
  rw [List.getElem_range, getD_ar (by omega), bf j hj]
  rfl
theorem bad1_none {n : Int} {as : List Ar} (h : ∀ a ∈ as, badAr n a = false) : bad1 n as = none := by
  unfold bad1
  rw [List.find?_eq_none]
  intro j hj
  have hj := List.mem_range.mp hj
  rw [getD_ar hj, h _ (List.getElem_mem hj)]
  decide
theorem loose1_some {n : Nat} {as : List Ar} {s e x : Nat} (hx : x < n) (h : ¬ onway as s e x) (bf : ∀ y, y < x → onway as s e y) : loose1 n as s e = some x := by
  unfold loose1
  rw [List.find?_eq_some_iff_getElem]
  refine ⟨by simpa using h, x, by rw [List.length_range]; exact hx, by simp, fun j hj => ?_⟩
  rw [List.getElem_range]
  simp [bf j hj]
theorem loose1_none {n : Nat} {as : List Ar} {s e : Nat} (h : ∀ x, x < n → onway as s e x) : loose1 n as s e = none := by
  unfold loose1
  rw [List.find?_eq_none]
  intro j hj
  simp [h j (List.mem_range.mp hj)]
def spCaught (K : PySem.W.Frag) : Sp := fun vs H Q _ => ∃ (n s e : Int) (x : Addr) (as : List Ar) (ws : List V), vs = [.int n, .ref x, .int s, .int e] ∧ Seq K H x ws ∧ Par (ArS K H) ws as ∧ as.length ≤ 1000 ∧ (∀ a ∈ as, a.2.2.cps.size ≤ 1000) ∧
  ∀ t H', Same H H' → Dq K H' 4 (.ref t) (outD n as s e) → Q (.ref t) H'
theorem dq2 {K : PySem.W.Frag} {H : Hp} {r : Addr} {s : Str} {v : V} {d : PyData} (h : H r = some (.tup [.str s, v])) (hs : PyData.strOk s = true) (hv : Dq K H 3 v d) : Dq K H 4 (.ref r) (.tuple [.str s, d]) := .tup (SqT.of h) (.cons (.str s hs) (.cons hv .nil))
theorem dq3 {K : PySem.W.Frag} {H : Hp} {r : Addr} {s : Str} {v w : V} {d e : PyData} (h : H r = some (.tup [.str s, v, w])) (hs : PyData.strOk s = true) (hv : Dq K H 3 v d) (hw : Dq K H 3 w e) : Dq K H 4 (.ref r) (.tuple [.str s, d, e]) := .tup (SqT.of h) (.cons (.str s hs) (.cons hv (.cons hw .nil)))
section
variable {P : Program} {w : World} {K : PySem.W.Frag} {mg : Str → Option Value} {base : Heap} {f : Addr} {fd : FuncData}
theorem sc__law_caught : FnScope ["_law_count", "_law_arrows", "_law_start", "_law_end", "_law_caught_here", "e"] ["_law_count", "_law_arrows", "_law_start", "_law_end"] (defScope s__law_caught) := ⟨rfl, rfl, rfl, by decide +kernel, rfl, by decide +kernel, by decide +kernel⟩
theorem ok_caught (F : FX K "_law_caught" "_law_caught" s__law_caught [] [] f fd) (T : Txt K mg) (c_Chart_init : Mak P w K mg base "Chart" (He.ga K "Chart") 7 (spChInit K)) : FnOk P w K mg base (L2.CX P w) 9 f fd ["_law_count", "_law_arrows", "_law_start", "_law_end"] (spCaught K) := by
  refine F.ok sc__law_caught (fun vs H Q E h => ?_) (fun cdv A outer s H vs Q E hr h => ?_)
  · obtain ⟨n, s, e, x, as, ws, rfl, _⟩ := h
    rfl
  · obtain ⟨n, s, e, x, as, ws, rfl, hx, pw, al, az, k⟩ := h
    refine ⟨_, PSs.nox ((pss_cons (ps_set (i := 4) sc__law_caught.nd rfl (Or.inl rfl) pe_non) 
      (pss_cons (ps_tr (K := K) rfl rfl rfl sc__law_caught.nd takes0 (fun W pn xe tk po => (pss_one (ps_set (i := 4) sc__law_caught.nd rfl (Or.inl rfl) (pe_tup (pa_cons pe_str (pa_cons (k_fld (K := K) rfl (pe_kS c_Chart_init hr (by decide) rfl (passS tk) (pa_cons (pv 0) (pa_cons (pv 1) (pa_cons (pv 2) (pa_cons (pv 3) pa_nil)))))) pa_nil)))))) (HdsN.cons (i := 5) rfl rfl ⟨rfl, by decide, Or.inl T.g_TooGreat⟩ (fun a oe cls d pn hz hf => (pss_one (ps_set (i := 4) sc__law_caught.nd rfl (Or.inl rfl) (pe_tup (pa_cons pe_str (pa_cons (pe_callB (k_isX (K := K) rfl hz hf) (by rfl) T.b_isinstance (by decide +kernel) (pa_cons (pv 5) (pa_cons (pe_gv (v := .ref (He.ga K "TriedError")) rfl ⟨_, T.g_TriedError, rfl⟩) pa_nil))) pa_nil)))))) (HdsN.cons (i := 5) rfl rfl ⟨rfl, by decide, Or.inl T.g_NoPlace⟩ (fun a oe cls d pn hz hf => (pss_one (ps_set (i := 4) sc__law_caught.nd rfl (Or.inl rfl) (pe_tup (pa_cons pe_str (pa_cons (k_xf (K := K) rfl T.x_NoPlace.xf T.nx_NoPlace_place hz hf (pv 5)) (pa_cons (pe_callB (k_isX (K := K) rfl hz hf) (by rfl) T.b_isinstance (by decide +kernel) (pa_cons (pv 5) (pa_cons (pe_gv (v := .ref (He.ga K "TriedError")) rfl ⟨_, T.g_TriedError, rfl⟩) pa_nil))) pa_nil))))))) (HdsN.cons (i := 5) rfl rfl ⟨rfl, by decide, Or.inl T.g_BadArrow⟩ (fun a oe cls d pn hz hf => (pss_one (ps_set (i := 4) sc__law_caught.nd rfl (Or.inl rfl) (pe_tup (pa_cons pe_str (pa_cons (k_xf (K := K) rfl T.x_BadArrow.xf T.nx_BadArrow_number hz hf (pv 5)) (pa_cons (pe_callB (k_isX (K := K) rfl hz hf) (by rfl) T.b_isinstance (by decide +kernel) (pa_cons (pv 5) (pa_cons (pe_gv (v := .ref (He.ga K "TriedError")) rfl ⟨_, T.g_TriedError, rfl⟩) pa_nil))) pa_nil))))))) (HdsN.cons (i := 5) rfl rfl ⟨rfl, by decide, Or.inl T.g_LoosePlace⟩ (fun a oe cls d pn hz hf => (pss_one (ps_set (i := 4) sc__law_caught.nd rfl (Or.inl rfl) (pe_tup (pa_cons pe_str (pa_cons (k_xf (K := K) rfl T.x_LoosePlace.xf T.nx_LoosePlace_place hz hf (pv 5)) (pa_cons (pe_callB (k_isX (K := K) rfl hz hf) (by rfl) T.b_isinstance (by decide +kernel) (pa_cons (pv 5) (pa_cons (pe_gv (v := .ref (He.ga K "TriedError")) rfl ⟨_, T.g_TriedError, rfl⟩) pa_nil))) pa_nil))))))) HdsN.nil))))) (pss_one (ps_ret (pv 4)))))), ?_⟩
    try dsimp only [cxOf]
    walk_at "go"
    intro r dx hr' hd' ne
    have s1 : Same H (upd (upd H dx (.own r)) r (.ins (He.ga K "Chart") dx [])) := same_mut (same_new hd') hr'
    have sb : ∀ H', But r (upd (upd H dx (.own r)) r (.ins (He.ga K "Chart") dx [])) H' → Same H H' := fun H' b c o e => b c o (ne_of_none e hr') (s1 c o e)
    refine ⟨r, x, dx, n, s, e, as, ws, rfl, upd_same, hx.same s1, pw.mono fun v a h => h.same s1, al, az, fun z H' b => ?_, fun n40 a80 => ⟨fun z D H' b hD => ?_, fun s0 s1' z D H' b hD => ?_, fun s0 s1' e0 e1 => ⟨fun i hi hb bf D H' b hD => ?_, fun okA => ⟨fun y hy no bf D H' b hD => ?_, fun all H' b hc => ⟨rfl, ?_⟩⟩⟩⟩⟩
    · refine a_catch T.xm_TooGreat_TooGreat fun a0 ha0 => ?_
      walk_at "go"
      refine a_isX0 T.x_TooGreat T.ki_TooGreat_TriedError ?_
      walk_at "go"
      refine a_newT (by show 2 ≤ 100000; decide) fun t H2 nt s2 h2 => ?_
      walk_at "go"
      refine k t H2 ((sb H' b).trans s2) ?_
      unfold outD
      rw [if_pos z]
      exact dq2 h2 (by decide +kernel) (.bl _)
    · refine a_skip T.xm_NoPlace_TooGreat (a_catch T.xm_NoPlace_NoPlace fun a0 ha0 => ?_)
      walk_at "go"
      refine g_xf1 rfl hD ?_
      walk_at "go"
      refine a_isX1 T.x_NoPlace hD T.ki_NoPlace_TriedError ?_
      walk_at "go"
      refine a_newT (by show 3 ≤ 100000; decide) fun t H2 nt s2 h2 => ?_
      walk_at "go"
      refine k t H2 ((sb H' b).trans s2) ?_
      unfold outD
      rw [if_neg (by omega), if_pos z]
      exact dq3 h2 (by decide +kernel) (.int _) (.bl _)
    · refine a_skip T.xm_NoPlace_TooGreat (a_catch T.xm_NoPlace_NoPlace fun a0 ha0 => ?_)
      walk_at "go"
      refine g_xf1 rfl hD ?_
      walk_at "go"
      refine a_isX1 T.x_NoPlace hD T.ki_NoPlace_TriedError ?_
      walk_at "go"
      refine a_newT (by show 3 ≤ 100000; decide) fun t H2 nt s2 h2 => ?_
      walk_at "go"
      refine k t H2 ((sb H' b).trans s2) ?_
      unfold outD
      rw [if_neg (by omega), if_neg (by omega), if_pos z]
      exact dq3 h2 (by decide +kernel) (.int _) (.bl _)
    · refine a_skip T.xm_BadArrow_TooGreat (a_skip T.xm_BadArrow_NoPlace (a_catch T.xm_BadArrow_BadArrow fun a0 ha0 => ?_))
      walk_at "go"
      refine g_xf1 rfl hD ?_
      walk_at "go"
      refine a_isX1 T.x_BadArrow hD T.ki_BadArrow_TriedError ?_
      walk_at "go"
      refine a_newT (by show 3 ≤ 100000; decide) fun t H2 nt s2 h2 => ?_
      walk_at "go"
      refine k t H2 ((sb H' b).trans s2) ?_
      unfold outD
      rw [if_neg (by omega), if_neg (by omega), if_neg (by omega), bad1_some hi hb bf]
      exact dq3 h2 (by decide +kernel) (.int _) (.bl _)
    · refine a_skip T.xm_LoosePlace_TooGreat (a_skip T.xm_LoosePlace_NoPlace (a_skip T.xm_LoosePlace_BadArrow (a_catch T.xm_LoosePlace_LoosePlace fun a0 ha0 => ?_)))
      walk_at "go"
      refine g_xf1 rfl hD ?_
      walk_at "go"
      refine a_isX1 T.x_LoosePlace hD T.ki_LoosePlace_TriedError ?_
      walk_at "go"
      refine a_newT (by show 3 ≤ 100000; decide) fun t H2 nt s2 h2 => ?_
      walk_at "go"
      refine k t H2 ((sb H' b).trans s2) ?_
      unfold outD
      rw [if_neg (by omega), if_neg (by omega), if_neg (by omega), bad1_none okA, loose1_some (by omega) no bf]
      exact dq3 h2 (by decide +kernel) (.int _) (.bl _)
    · obtain ⟨dy, t, vs, g1, g2, g3⟩ := hc
      walk_at "go"
      refine a_fld g1 T.o_Chart.cl T.n_Chart_count (lk_count ..) ?_
      walk_at "go"
      refine a_newT (by show 2 ≤ 100000; decide) fun t H2 nt s2 h2 => ?_
      walk_at "go"
      refine k t H2 ((sb H' b).trans s2) ?_
      unfold outD
      rw [if_neg (by omega), if_neg (by omega), if_neg (by omega), bad1_none okA, loose1_none fun y hy => all y (by omega)]
      exact dq2 h2 (by decide +kernel) (.int _)
end
def pairsOf (g0 g1 : Ar → Int) (as : List Ar) : List Pr := as.map fun a => (g0 a, g1 a)
def spNamed : Sp := fun vs H Q _ => ∃ z : Str, vs = [.str z] ∧ z.cps.size ≤ 1000 ∧ (∀ c ∈ z.cps.toList, c < 0x110000) ∧ ∀ H', Same H H' → Q (.bl (fitsN z)) H'
def spReached (K : PySem.W.Frag) : Sp := fun vs H Q _ => ∃ (l : Addr) (b : Int) (ws : List V) (prs : List Pr), vs = [.ref l, .int b] ∧ SqL K H l ws ∧ Par (PairAt K H) ws prs ∧ prs.length ≤ 100 ∧
  ∀ r found H', H r = none → Same H H' → H' r = some (.lst (zi found)) → (∀ x, x ∈ found ↔ RchZ prs b x) → Q (.ref r) H'
theorem rchZ_nat {as : List Ar} {n : Nat} (ok : arsOk n as) {s : Nat} (g0 g1 : Ar → Int) (w : Nat → Nat → Prop) (hw : ∀ x y : Nat, w x y ↔ ∃ a ∈ as, g0 a = (x : Nat) ∧ g1 a = (y : Nat)) (nn : ∀ a ∈ as, 0 ≤ g0 a ∧ 0 ≤ g1 a) (x : Nat) : RchZ (pairsOf g0 g1 as) (s : Int) (x : Int) ↔ Rch w s x := by
  constructor
  · intro r
    have : ∀ y : Int, RchZ (pairsOf g0 g1 as) (s : Int) y → ∃ z : Nat, y = (z : Int) ∧ Rch w s z := fun y r => by
      induction r with
      | base => exact ⟨s, rfl, .base⟩
      | step _ hp ih =>
        obtain ⟨z, rfl, rz⟩ := ih
        obtain ⟨a, ha, e⟩ := List.mem_map.mp hp
        have e1 := congrArg Prod.fst e
        have e2 := congrArg Prod.snd e
        simp only at e1 e2
        have := (nn a ha).2
        obtain ⟨z2, ez2⟩ : ∃ z2 : Nat, g1 a = (z2 : Int) := ⟨(g1 a).toNat, by omega⟩
        exact ⟨z2, by rw [← e2, ez2], .step rz ((hw _ _).mpr ⟨a, ha, e1, ez2⟩)⟩
    obtain ⟨z, ez, rz⟩ := this _ r
    have : x = z := by omega
    rw [this]
    exact rz
  · intro r
    induction r with
    | base => exact .base
    | step _ hp ih =>
      obtain ⟨a, ha, e1, e2⟩ := (hw _ _).mp hp
      exact .step ih (by rw [← e1, ← e2]; exact List.mem_map_of_mem (f := fun a => (g0 a, g1 a)) ha)
theorem eqvAll_nil : ∀ ds : List PyData, PyData.eqvAll ds [] = decide (ds = [])
  | [] => by simp [PyData.eqvAll]
  | d :: ds => by simp [PyData.eqvAll]
section
variable {P : Program} {w : World} {K : PySem.W.Frag} {mg : Str → Option Value} {base : Heap} {f : Addr} {fd : FuncData}
theorem sc__law_named : FnScope ["_law_name", "_law_signs", "_law_sign"] ["_law_name"] (defScope s__law_named) := ⟨rfl, rfl, rfl, by decide +kernel, rfl, by decide +kernel, by decide +kernel⟩
theorem ok_named (F : FX K "_law_named" "_law_named" s__law_named [] [] f fd) (T : Txt K mg) : FnOk P w K mg base (L2.CX P w) 2 f fd ["_law_name"] spNamed := by
  refine F.ok sc__law_named (fun vs H Q E h => ?_) (fun cdv A outer s H vs Q E hr h => ?_)
  · obtain ⟨z, rfl, _⟩ := h
    rfl
  · obtain ⟨z, rfl, hz, hc, k⟩ := h
    refine ⟨_, PSs.nox ((pss_cons (ps_set (i := 1) sc__law_named.nd rfl (Or.inr rfl) pe_str) (pss_one (ps_ret (pe_and (pe_chain op_le op_le pe_int (pe_callB call_lenSU (by rfl) T.b_len PySem.boot_len (pa_cons (pv 0) pa_nil)) pe_int) (pe_one (pe_cmpR (k_eq (K := K) rfl hr.units) (by exact (pe_lc (own := [("_law_sign", 2)]) rfl sc__law_named.nd (pi_str (pv 0)) (blkOk_by (own := [("_law_sign", 2)]) (N := ["_law_name", "_law_signs", "_law_sign"]) (sc := defScope s__law_named) (by decide +kernel)) (fun _ _ _ _ _ => by exact (pg_name (i := 2) sc__law_named.nd rfl (Or.inl rfl))) (fun _ _ _ _ _ => by exact (pts_one (pt_cmpR op_ninSU (pv 2) (pv 1) rfl))) (fun _ _ _ _ _ => by exact (pv 2)))) (pe_lst pa_nil) (nomark _)))))))), ?_⟩
    try dsimp only [cxOf]
    walk_at "go"
    refine a_lenSU (by omega) ?_
    have kk : ∀ b H', Same H H' → b = fitsN z → Q (.bl b) H' := fun b H' s e => e ▸ k H' s
    walk_at "go"
    refine a_ite (fun h1 => ?_) (fun h1 => ?_)
    · walk_at "go"
      refine a_ite (fun h2 => ?_) (fun h2 => ?_)
      · walk_at "go"
        refine cf_s (z := z) (fun i => !decide (z.cps.getD i 0 ∈ ("abcdefghijklmnopqrstuvwxyz" : Str).cps.toList)) (fun i => V.str ⟨#[z.cps.getD i 0]⟩) (by omega) ?_ ?_ ?_
        · intro R r
          walk_at "go"
          exact r _ (Same.refl _)
        · intro i c H' hc s'
          refine ⟨fun R r => ?_, fun _ H3 s3 R r => ?_⟩
          · walk_at "go"
            refine a_ninSU ?_
            walk_at "go"
            have := r _ (Same.refl _)
            rw [Array.getD_eq_getD_getElem?, hc] at this
            exact this
          · walk_at "go"
            have := r _ (Same.refl _)
            rw [Array.getD_eq_getD_getElem?, hc] at this
            exact this
        intro D H1 nD s1 hD
        walk_at "go"
        refine a_newL (by show 0 ≤ 100000; decide) fun l2 H2 nl2 s2 h2' => ?_
        have e0 : ((List.range z.cps.size).filter fun i => !decide (z.cps.getD i 0 ∈ ("abcdefghijklmnopqrstuvwxyz" : Str).cps.toList)).map (fun i => V.str ⟨#[z.cps.getD i 0]⟩) = ((z.cps.toList.filter fun c => !decide (c ∈ ("abcdefghijklmnopqrstuvwxyz" : Str).cps.toList)).map fun c => (⟨#[c]⟩ : Str)).map V.str := by
          have er : (List.range z.cps.size).map (fun i => z.cps.getD i 0) = z.cps.toList := by
            refine List.ext_getElem (by simp) fun i p1 p2 => ?_
            have : i < z.cps.size := by simpa using p1
            simp [this]
          rw [← er, List.filter_map, List.map_map, List.map_map]
          rfl
        rw [e0] at hD
        have sok : ∀ x ∈ (z.cps.toList.filter fun c => !decide (c ∈ ("abcdefghijklmnopqrstuvwxyz" : Str).cps.toList)).map (fun c => (⟨#[c]⟩ : Str)), PyData.strOk x = true := fun x hx => by
          obtain ⟨c, hc', rfl⟩ := List.mem_map.mp hx
          have := hc c (List.mem_filter.mp hc').1
          simp [PyData.strOk, this]
        refine a_eqW (n := 2) (.lst (SqL.of (s2 _ _ hD)) (dqs _ sok)) (.lst (SqL.of h2') .nil) ?_
        refine kk _ _ (s1.trans s2) ?_
        rw [PyData.eqv, eqvAll_nil]
        unfold fitsN
        rw [decide_eq_true (p := 1 ≤ z.cps.size) (by omega), decide_eq_true (p := z.cps.size ≤ 3) (by omega), Bool.true_and, Bool.true_and, Bool.eq_iff_iff, decide_eq_true_eq]
        simp only [List.map_eq_nil_iff, List.filter_eq_nil_iff, List.all_eq_true]
        simp
      · refine kk _ _ (Same.refl _) ?_
        unfold fitsN
        rw [decide_eq_false (p := z.cps.size ≤ 3) (by omega)]
        simp
    · walk_at "go"
      refine a_F rfl ?_
      refine kk _ _ (Same.refl _) ?_
      unfold fitsN
      rw [decide_eq_false (p := 1 ≤ z.cps.size) (by omega)]
      rfl
theorem sc__law_reached : FnScope ["_law_pairs", "_law_begun", "_law_found", "_law_turn", "_law_pair"] ["_law_pairs", "_law_begun"] (defScope s__law_reached) := ⟨rfl, rfl, rfl, by decide +kernel, rfl, by decide +kernel, by decide +kernel⟩
theorem ok_reached (F : FX K "_law_reached" "_law_reached" s__law_reached [] [] f fd) (T : Txt K mg) : FnOk P w K mg base (L2.CX P w) 2 f fd ["_law_pairs", "_law_begun"] (spReached K) := by
  refine F.ok sc__law_reached (fun vs H Q E h => ?_) (fun cdv A outer s H vs Q E hr h => ?_)
  · obtain ⟨l, b, ws, prs, rfl, _⟩ := h
    rfl
  · obtain ⟨l, b, ws, prs, rfl, hl, pw, pl, k⟩ := h
    refine ⟨_, PSs.nox ((pss_cons (ps_set (i := 2) sc__law_reached.nd rfl (Or.inr rfl) (pe_lst (pa_cons (pv 1) pa_nil))) 
      (pss_cons (ps_for PassesOwn.never rfl (pi_range1 (by rfl) T.b_range (pa_cons (pe_callB (k_len (K := K) rfl) (by rfl) T.b_len PySem.boot_len (pa_cons (pv 0) pa_nil)) pa_nil)) (pg_name (i := 3) sc__law_reached.nd rfl (Or.inl rfl)) (pss_one (ps_set (i := 2) sc__law_reached.nd rfl (Or.inr rfl) (pe_op (k_add (K := K) rfl) (pv 2) (by exact (pe_lc (own := [("_law_pair", 4)]) rfl sc__law_reached.nd (k_iL (K := K) rfl (pv 0)) (blkOk_by (own := [("_law_pair", 4)]) (N := ["_law_pairs", "_law_begun", "_law_found", "_law_turn", "_law_pair"]) (sc := defScope s__law_reached) (by decide +kernel)) (fun _ _ _ _ _ => by exact (pg_name (i := 4) sc__law_reached.nd rfl (Or.inl rfl))) (fun _ _ _ _ _ => by exact (pts_one (PW.pt (pw_and (pt_cmpR (k_in (K := K) rfl) (pe_ix (k_ix (K := K) rfl) (pv 4) pe_int (fun _ _ => rfl)) (pv 2) rfl) (pw_and1 (pt_cmpR (k_notin (K := K) rfl) (pe_ix (k_ix (K := K) rfl) (pv 4) pe_int (fun _ _ => rfl)) (pv 2) rfl)))))) (fun _ _ _ _ _ => by exact (pe_ix (k_ix (K := K) rfl) (pv 4) pe_int (fun _ _ => rfl))))))))) (pss_one (ps_ret (pv 2)))))), ?_⟩
    try dsimp only [cxOf]
    walk_at "go"
    refine a_newL (by show 1 ≤ 100000; decide) fun D H1 nD s1 hD => ?_
    walk_at "go"
    refine a_lenL (same_l s1 hl) ?_
    walk_at "go"
    rw [pw.1]
    refine ⟨(prs.length : Int), rfl, by omega, by omega, ?_⟩
    refine for_range (n := prs.length) (fun i σ H' => ∃ (D : Addr) (found : List Int) (v3 v4 : Option V), σ = [some (.ref l), some (.int b), some (.ref D), v3, v4] ∧ Same H H' ∧ H D = none ∧ H' D = some (.lst (zi found)) ∧ b ∈ found ∧ (∀ x ∈ found, RchZ prs b x) ∧ (closedZ prs found ∨ i ≤ cntZ prs found) ∧ found.length ≤ 1 + 100 * i)
      ⟨D, [b], none, none, rfl, s1, nD, hD, by simp, (fun x hx => by rw [List.mem_singleton.mp hx]; exact .base), .inr (Nat.zero_le _), by simp⟩ ?_ ?_
    · rintro i σ H2 hi ⟨D, found, v3, v4, rfl, s2, nD, hD, hb, hrc, hc, flen⟩
      walk_at "go"
      refine cf_l (K := K) (xs := ws) (fun j => decide ((prs.getD j (0, 0)).1 ∈ found) && decide ((prs.getD j (0, 0)).2 ∉ found)) (fun j => V.int (prs.getD j (0, 0)).2) (by rw [pw.1]; omega) ?_ ?_ ?_
      · intro R r
        walk_at "go"
        exact r _ _ (Same.refl _) (same_l s2 hl)
      · intro j x H' hx s'
        have hj : j < prs.length := by
          rw [← pw.1]
          exact (List.getElem?_eq_some_iff.mp hx).1
        obtain ⟨v, ev, q, rfl, hq⟩ := pw.get hj
        rw [hx] at ev
        cases ev
        have eg : prs.getD j (0, 0) = prs[j] := by
          rw [List.getD_eq_getElem?_getD, List.getElem?_eq_getElem hj]
          rfl
        have hq' := same_t (s2.trans s') hq
        have hD' := s' _ _ hD
        refine ⟨fun R r => ?_, fun _ H3 s3 R r => ?_⟩
        · have r' := r H' (Same.refl _)
          rw [eg] at r'
          walk_at "go"
          refine a_ixT hq' (atI_of (j := 0) rfl rfl) ?_
          walk_at "go"
          refine a_inZ (.inl (SqL.of hD')) ?_
          walk_at "go"
          refine a_ite (fun c1 => ?_) (fun c1 => ?_)
          · walk_at "go"
            refine a_ixT hq' (atI_of (j := 1) rfl rfl) ?_
            walk_at "go"
            refine a_ninZ (.inl (SqL.of hD')) ?_
            walk_at "go"
            rw [decide_eq_true c1, Bool.true_and] at r'
            simpa using r'
          · rw [decide_eq_false c1, Bool.false_and] at r'
            exact r'
        · walk_at "go"
          refine a_ixT (same_t s3 hq') (atI_of (j := 1) rfl rfl) ?_
          have := r _ (Same.refl _)
          rw [eg] at this
          exact this
      intro D3 H3 nD3 s3 hD3
      have ef : ((List.range ws.length).filter fun j => decide ((prs.getD j (0, 0)).1 ∈ found) && decide ((prs.getD j (0, 0)).2 ∉ found)).map (fun j => V.int (prs.getD j (0, 0)).2) = zi ((prs.filter fun p => decide (p.1 ∈ found) && decide (p.2 ∉ found)).map (·.2)) := by
        rw [pw.1]
        have er : (List.range prs.length).map (fun i => prs.getD i (0, 0)) = prs := by
          refine List.ext_getElem (by simp) fun i p1 p2 => ?_
          simp [p2]
        conv => rhs; rw [← er, List.filter_map]
        unfold zi
        rw [List.map_map, List.map_map]
        rfl
      rw [ef] at hD3
      have flt : ((prs.filter fun p => decide (p.1 ∈ found) && decide (p.2 ∉ found)).map (·.2)).length ≤ 100 := by
        rw [List.length_map]
        exact Nat.le_trans (List.length_filter_le _ _) pl
      walk_at "go"
      refine a_cat (s3 _ _ hD) hD3 (by rw [zi_len, zi_len]; omega) fun D4 H4 nD4 s4 h4 => ?_
      have e4 : zi found ++ zi ((prs.filter fun p => decide (p.1 ∈ found) && decide (p.2 ∉ found)).map (·.2)) = zi (roundZ prs found) := by
        unfold roundZ zi
        rw [List.map_append]
      rw [e4] at h4
      refine ⟨D4, roundZ prs found, _, _, rfl, s2.trans (s3.trans s4), s2.free (s3.free nD4), h4, List.mem_append_left _ hb, round_rch hrc, round_next hc, ?_⟩
      unfold roundZ
      rw [List.length_append]
      omega
    · rintro σ H2 ⟨D, found, v3, v4, rfl, s2, nD, hD, hb, hrc, hc, flen⟩
      walk_at "go"
      exact k D found H2 nD s2 hD (rchZ_iff hb hrc (closed_full hc))
end

def spDue (K : PySem.W.Frag) : Sp := fun vs H Q _ => ∃ (n s e : Int) (x : Addr) (as : List Ar) (ws : List V), vs = [.int n, .ref x, .int s, .int e] ∧ SqL K H x ws ∧ Par (ArT K H) ws as ∧ as.length ≤ 1000 ∧ (∀ a ∈ as, a.2.2.cps.size ≤ 1000 ∧ ∀ c ∈ a.2.2.cps.toList, c < 0x110000) ∧
  ∀ t H', Same H H' → Dq K H' 4 (.ref t) (outD n as s e) → Q (.ref t) H'
section
variable {P : Program} {w : World} {K : PySem.W.Frag} {mg : Str → Option Value} {base : Heap} {f : Addr} {fd : FuncData}
/-- the pairs of the arrows -/
theorem c_prs {H : Hp} {ws : List V} {as : List Ar} {σ : L2.St} {Q : VK} {j : Nat} {tl : TE} {te : TE} (g0 g1 : Ar → Int) (pw : Par (ArT K H) ws as) (al : as.length ≤ 1000)
    (hl : ∀ R : VK, (∀ a H1, Same H H1 → SqL K H1 a ws → R (.ref a) H1) → tl σ H R)
    (hs : ∀ q a H' (R : VK), SqT K H' q (ArV a) → (∀ t H4, Same H' H4 → H4 t = some (.tup [.int (g0 a), .int (g1 a)]) → R (.ref t) H4) → te ((σ.set j none).set j (some (.ref q))) H' R)
    (k : ∀ D us H', H D = none → Same H H' → H' D = some (.lst us) → Par (PairAt K H') us (pairsOf g0 g1 as) → Q (.ref D) H') : tLc (iList K tl) (gName j) tYes te [j] σ H Q := by
  refine c_lp (K := K) (xs := ws) (P := fun D i v H' => ∀ a, as[i]? = some a → PairAt K H' v (g0 a, g1 a)) ⟨?_, ?_⟩ (by rw [pw.1]; omega) hl ?_ ?_
  · intro D i v H H' sm h a ea
    exact (h a ea).same sm
  · intro D i v H H' ys hD bt h a ea
    exact (h a ea).but hD bt
  · intro D acc i y H' nD hy s' hacc R r
    have hi : i < as.length := by
      rw [← pw.1]
      exact (List.getElem?_eq_some_iff.mp hy).1
    obtain ⟨v, ev, q, rfl, hq⟩ := pw.get hi
    rw [hy] at ev
    cases ev
    refine hs q as[i] H' R (same_t s' hq) fun t H4 s4 h4 => r _ _ s4 fun a ea => ?_
    rw [List.getElem?_eq_getElem hi] at ea
    cases ea
    exact ⟨t, rfl, SqT.of h4⟩
  · intro D acc H' nD s' hD len al'
    refine k D acc H' nD s' hD ⟨by unfold pairsOf; rw [List.length_map, len, pw.1], fun i v x ev ex => ?_⟩
    unfold pairsOf at ex
    rw [List.getElem?_map] at ex
    obtain ⟨a, ea, rfl⟩ := Option.map_eq_some_iff.mp ex
    exact al' i v ev a ea
theorem sc__law_due : FnScope ["_law_count", "_law_arrows", "_law_start", "_law_end", "_law_place", "_law_k", "_law_come", "_law_arrow", "_law_left", "_law_loose"] ["_law_count", "_law_arrows", "_law_start", "_law_end"] (defScope s__law_due) := ⟨rfl, rfl, rfl, by decide +kernel, rfl, by decide +kernel, by decide +kernel⟩
theorem ok_due (F : FX K "_law_due" "_law_due" s__law_due [] [] f fd) (T : Txt K mg) (c__law_named : Cal P w K mg base "_law_named" 2 spNamed) (c__law_reached : Cal P w K mg base "_law_reached" 2 (spReached K)) : FnOk P w K mg base (L2.CX P w) 4 f fd ["_law_count", "_law_arrows", "_law_start", "_law_end"] (spDue K) := by
  refine F.ok sc__law_due (fun vs H Q E h => ?_) (fun cdv A outer s H vs Q E hr h => ?_)
  · obtain ⟨n, s, e, x, as, ws, rfl, _⟩ := h
    rfl
  · obtain ⟨n, s, e, x, as, ws, rfl, hx, pw, al, az, k⟩ := h
    refine ⟨_, PSs.nox ((pss_cons (ps_if (PW.pt (pw_or (pt_cmpR op_gt (pv 0) pe_int (nomark _)) (pw_or1 (pt_cmpR op_gt (pe_callB (k_len (K := K) rfl) (by rfl) T.b_len PySem.boot_len (pa_cons (pv 1) pa_nil)) pe_int (nomark _))))) (pss_one (ps_ret (pe_tup (pa_cons pe_str (pa_cons pe_bl pa_nil))))) pss_nil) 
      (pss_cons (ps_for PassesOwn.never rfl (k_iT (K := K) rfl (pe_tup (pa_cons (pv 2) (pa_cons (pv 3) pa_nil)))) (pg_name (i := 4) sc__law_due.nd rfl (Or.inl rfl)) (pss_one (ps_if (pt_not (pt_chain op_le op_lt pe_int (pv 4) (pv 0))) (pss_one (ps_ret (pe_tup (pa_cons pe_str (pa_cons (pv 4) (pa_cons pe_bl pa_nil)))))) pss_nil))) 
      (pss_cons (ps_for PassesOwn.never rfl (pi_range1 (by rfl) T.b_range (pa_cons (pe_callB (k_len (K := K) rfl) (by rfl) T.b_len PySem.boot_len (pa_cons (pv 1) pa_nil)) pa_nil)) (pg_name (i := 5) sc__law_due.nd rfl (Or.inl rfl)) (pss_one (ps_if (PW.pt (pw_or (pt_not (pt_chain op_le op_lt pe_int (pe_ix (k_ix (K := K) rfl) (pe_ix (k_ix (K := K) rfl) (pv 1) (pv 5) (fun _ _ => rfl)) pe_int (fun _ _ => rfl)) (pv 0))) (pw_or (pt_not (pt_chain op_le op_lt pe_int (pe_ix (k_ix (K := K) rfl) (pe_ix (k_ix (K := K) rfl) (pv 1) (pv 5) (fun _ _ => rfl)) pe_int (fun _ _ => rfl)) (pv 0))) (pw_or1 (pt_not (k_tr (K := K) rfl (pe_f c__law_named hr (by decide) rfl passL (pa_cons (pe_ix (k_ix (K := K) rfl) (pe_ix (k_ix (K := K) rfl) (pv 1) (pv 5) (fun _ _ => rfl)) pe_int (fun _ _ => rfl)) pa_nil)))))))) (pss_one (ps_ret (pe_tup (pa_cons pe_str (pa_cons (pv 5) (pa_cons pe_bl pa_nil)))))) pss_nil))) 
      (pss_cons (ps_set (i := 6) sc__law_due.nd rfl (Or.inr rfl) (pe_f c__law_reached hr (by decide) rfl passL (pa_cons (by exact (pe_lc (own := [("_law_arrow", 7)]) rfl sc__law_due.nd (k_iL (K := K) rfl (pv 1)) (blkOk_by (own := [("_law_arrow", 7)]) (N := ["_law_count", "_law_arrows", "_law_start", "_law_end", "_law_place", "_law_k", "_law_come", "_law_arrow", "_law_left", "_law_loose"]) (sc := defScope s__law_due) (by decide +kernel)) (fun _ _ _ _ _ => by exact (pg_name (i := 7) sc__law_due.nd rfl (Or.inl rfl))) (fun _ _ _ _ _ => by exact pts_nil) (fun _ _ _ _ _ => by exact (pe_tup (pa_cons (pe_ix (k_ix (K := K) rfl) (pv 7) pe_int (fun _ _ => rfl)) (pa_cons (pe_ix (k_ix (K := K) rfl) (pv 7) pe_int (fun _ _ => rfl)) pa_nil)))))) (pa_cons (pv 2) pa_nil)))) 
      (pss_cons (ps_set (i := 8) sc__law_due.nd rfl (Or.inr rfl) (pe_f c__law_reached hr (by decide) rfl passL (pa_cons (by exact (pe_lc (own := [("_law_arrow", 7)]) rfl sc__law_due.nd (k_iL (K := K) rfl (pv 1)) (blkOk_by (own := [("_law_arrow", 7)]) (N := ["_law_count", "_law_arrows", "_law_start", "_law_end", "_law_place", "_law_k", "_law_come", "_law_arrow", "_law_left", "_law_loose"]) (sc := defScope s__law_due) (by decide +kernel)) (fun _ _ _ _ _ => by exact (pg_name (i := 7) sc__law_due.nd rfl (Or.inl rfl))) (fun _ _ _ _ _ => by exact pts_nil) (fun _ _ _ _ _ => by exact (pe_tup (pa_cons (pe_ix (k_ix (K := K) rfl) (pv 7) pe_int (fun _ _ => rfl)) (pa_cons (pe_ix (k_ix (K := K) rfl) (pv 7) pe_int (fun _ _ => rfl)) pa_nil)))))) (pa_cons (pv 3) pa_nil)))) 
      (pss_cons (ps_setLc (i := 9) (own := [("_law_place", 4)]) rfl sc__law_due.nd rfl rfl (sw_true rfl rfl rfl (by decide +kernel)) (pi_range1 (by rfl) T.b_range (pa_cons (pv 0) pa_nil)) (blkOk_by (own := [("_law_place", 4)]) (N := ["_law_count", "_law_arrows", "_law_start", "_law_end", "_law_place", "_law_k", "_law_come", "_law_arrow", "_law_left", "_law_loose"]) (sc := defScope s__law_due) (by decide +kernel)) (fun _ _ _ _ _ => by exact (pg_name (i := 4) sc__law_due.nd rfl (Or.inl rfl))) (fun _ _ _ _ _ => by exact (pts_one (PW.pt (pw_or (pt_cmpR (k_notin (K := K) rfl) (pv 4) (pv 6) rfl) (pw_or1 (pt_cmpR (k_notin (K := K) rfl) (pv 4) (pv 8) rfl)))))) (fun _ _ _ _ _ => by exact (pv 4))) (pss_one (ps_ret (pe_ifExp (pt_cmpR (k_eq (K := K) rfl hr.units) (pv 9) (pe_lst pa_nil) (nomark _)) (pe_tup (pa_cons pe_str (pa_cons (pv 0) pa_nil))) (pe_tup (pa_cons pe_str (pa_cons (pe_ix (k_ix (K := K) rfl) (pv 9) pe_int (fun _ _ => rfl)) (pa_cons pe_bl pa_nil)))))))))))))), ?_⟩
    try dsimp only [cxOf]
    walk_at "go"
    have great : (40 < n ∨ 80 < as.length) → ∀ H', Same H H' → rNewT [.str "great", .bl true] H' Q := fun z H' s' => a_newT (by show 2 ≤ 100000; decide) fun t H2 nt s2 h2 => k t H2 (s'.trans s2) (by
      unfold outD
      rw [if_pos z]
      exact dq2 h2 (by decide +kernel) (.bl _))
    refine a_ite (fun c1 => ?_) (fun c1 => ?_)
    · refine a_T rfl ?_
      walk_at "go"
      exact great (.inl c1) H (Same.refl _)
    walk_at "go"
    refine a_lenL hx ?_
    walk_at "go"
    rw [pw.1]
    refine a_ite (fun c2 => ?_) (fun c2 => ?_)
    · walk_at "go"
      exact great (.inr (by omega)) H (Same.refl _)
    have place : ∀ y : Int, (s < 0 ∨ n ≤ s) ∧ y = s ∨ (¬ (s < 0 ∨ n ≤ s) ∧ (e < 0 ∨ n ≤ e)) ∧ y = e → ∀ H', Same H H' → rNewT [.str "place", .int y, .bl true] H' Q := fun y z H' s' => a_newT (by show 3 ≤ 100000; decide) fun t H2 nt s2 h2 => k t H2 (s'.trans s2) (by
      unfold outD
      rcases z with ⟨z, rfl⟩ | ⟨⟨z1, z2⟩, rfl⟩
      · rw [if_neg (by omega), if_pos z]
        exact dq3 h2 (by decide +kernel) (.int _) (.bl _)
      · rw [if_neg (by omega), if_neg z1, if_pos z2]
        exact dq3 h2 (by decide +kernel) (.int _) (.bl _))
    walk_at "go"
    refine a_newT (by show 2 ≤ 100000; decide) fun tt H1 nt s1 h1 => ?_
    walk_at "go"
    refine ⟨tt, rfl, ⟨_, SqT.of h1⟩, ?_⟩
    refine for_tup (K := K) (a := tt) (xs := [.int s, .int e]) (fun i σ H' => ∃ v : Option V, σ = [some (.int n), some (.ref x), some (.int s), some (.int e), v, none, none, none, none, none] ∧ H' = H1 ∧ (0 < i → 0 ≤ s ∧ s < n) ∧ (1 < i → 0 ≤ e ∧ e < n))
      ⟨none, rfl, rfl, fun h => by omega, fun h => by omega⟩ (fun i σ H' _ ⟨_, _, h, _⟩ => by rw [h]; exact SqT.of h1) ?_ ?_
    · rintro i y σ H' hy ⟨v, rfl, rfl, q1, q2⟩
      show tIfS _ _ _ _ _ _
      match i, hy with
      | 0, hy =>
        cases hy
        walk_at "go"
        refine a_ite (fun d1 => ?_) (fun d1 => ?_)
        · walk_at "go"
          refine a_nite (fun d2 => ?_) (fun d2 => ?_)
          · walk_at "go"
            exact place s (.inl ⟨by omega, rfl⟩) _ s1
          walk_at "go"
          exact ⟨_, rfl, rfl, fun _ => ⟨by omega, by omega⟩, fun h => by omega⟩
        · walk_at "go"
          refine a_T rfl ?_
          walk_at "go"
          exact place s (.inl ⟨by omega, rfl⟩) _ s1
      | 1, hy =>
        cases hy
        obtain ⟨p1, p2⟩ := q1 (by omega)
        walk_at "go"
        refine a_ite (fun d1 => ?_) (fun d1 => ?_)
        · walk_at "go"
          refine a_nite (fun d2 => ?_) (fun d2 => ?_)
          · walk_at "go"
            exact place e (.inr ⟨⟨by omega, by omega⟩, rfl⟩) _ s1
          walk_at "go"
          exact ⟨_, rfl, rfl, fun _ => ⟨p1, p2⟩, fun _ => ⟨by omega, by omega⟩⟩
        · walk_at "go"
          refine a_T rfl ?_
          walk_at "go"
          exact place e (.inr ⟨⟨by omega, by omega⟩, rfl⟩) _ s1
      | (i + 2), hy => simp at hy
    rintro σ H' ⟨v, rfl, rfl, q1, q2⟩
    obtain ⟨p1, p2⟩ := q1 (by show 0 < 2; omega)
    obtain ⟨p3, p4⟩ := q2 (by show 1 < 2; omega)
    clear place great q1 q2
    have hx1 := same_l s1 hx
    have pw1 : Par (ArT K H') ws as := pw.mono fun v a h => h.same s1
    walk_at "go"
    refine a_lenL hx1 ?_
    walk_at "go"
    rw [pw.1]
    refine ⟨(as.length : Int), rfl, by omega, by omega, ?_⟩
    refine for_range (n := as.length) (fun i σ H2 => ∃ v5 : Option V, σ = [some (.int n), some (.ref x), some (.int s), some (.int e), v, v5, none, none, none, none] ∧ Same H' H2 ∧ ∀ j (hj : j < as.length), j < i → badAr n as[j] = false)
      ⟨none, rfl, Same.refl _, fun j hj h => by omega⟩ ?_ ?_
    · rintro i σ H2 hi ⟨v5, rfl, s2, hal⟩
      have e00 : (0 : Int) + (i : Nat) = (i : Nat) := by omega
      obtain ⟨va, eva, a1, rfl, ha1⟩ := pw1.get hi
      have hx2 := same_l s2 hx1
      have ha2 := same_t s2 ha1
      have bad : badAr n as[i] = true → ∀ H3, Same H2 H3 → rNewT [.str "arrow", .int (i : Nat), .bl true] H3 Q := fun hb H3 s3 => a_newT (by show 3 ≤ 100000; decide) fun t H4 nt s4 h4 => k t H4 (s1.trans (s2.trans (s3.trans s4))) (by
        unfold outD
        rw [if_neg (by omega), if_neg (by omega), if_neg (by omega), bad1_some hi hb fun j hj => hal j (by omega) hj]
        exact dq3 h4 (by decide +kernel) (.int _) (.bl _))
      show tIfS _ _ _ _ _ _
      walk_at "go"
      rw [e00]
      refine a_ixL hx2 (atI_of (j := i) rfl eva) ?_
      walk_at "go"
      refine a_ixT ha2 (atI_of (j := 0) rfl rfl) ?_
      walk_at "go"
      refine a_ite (fun d1 => ?_) (fun d1 => ?_)
      rotate_left
      · walk_at "go"
        refine a_T rfl ?_
        refine a_T rfl ?_
        walk_at "go"
        exact bad (by unfold badAr; rw [decide_eq_true (show min as[i].1 as[i].2.1 < 0 by omega)]; rfl) _ (Same.refl _)
      walk_at "go"
      refine a_nite (fun d2 => ?_) (fun d2 => ?_)
      · refine a_T rfl ?_
        walk_at "go"
        exact bad (by unfold badAr; rw [decide_eq_true (show n ≤ max as[i].1 as[i].2.1 by omega)]; simp) _ (Same.refl _)
      walk_at "go"
      refine a_ixL hx2 (atI_of (j := i) rfl eva) ?_
      walk_at "go"
      refine a_ixT ha2 (atI_of (j := 1) rfl rfl) ?_
      walk_at "go"
      refine a_ite (fun d3 => ?_) (fun d3 => ?_)
      rotate_left
      · walk_at "go"
        refine a_T rfl ?_
        refine a_T rfl ?_
        walk_at "go"
        exact bad (by unfold badAr; rw [decide_eq_true (show min as[i].1 as[i].2.1 < 0 by omega)]; rfl) _ (Same.refl _)
      walk_at "go"
      refine a_nite (fun d4 => ?_) (fun d4 => ?_)
      · refine a_T rfl ?_
        walk_at "go"
        exact bad (by unfold badAr; rw [decide_eq_true (show n ≤ max as[i].1 as[i].2.1 by omega)]; simp) _ (Same.refl _)
      walk_at "go"
      refine a_ixL hx2 (atI_of (j := i) rfl eva) ?_
      walk_at "go"
      refine a_ixT ha2 (atI_of (j := 2) rfl rfl) ?_
      walk_at "go"
      refine ⟨_, rfl, (az _ (List.getElem_mem hi)).1, (az _ (List.getElem_mem hi)).2, fun H3 s3 => ?_⟩
      walk_at "go"
      cases ef : fitsN as[i].2.2 with
      | false =>
        refine a_T rfl ?_
        walk_at "go"
        exact bad (by unfold badAr; rw [ef]; simp) _ s3
      | true =>
        refine a_F rfl ?_
        walk_at "go"
        refine ⟨_, rfl, s2.trans s3, fun j hj hji => ?_⟩
        by_cases e1 : j = i
        · subst e1
          unfold badAr
          rw [ef, decide_eq_false (show ¬ min as[j].1 as[j].2.1 < 0 by omega), decide_eq_false (show ¬ n ≤ max as[j].1 as[j].2.1 by omega)]
          rfl
        · exact hal j hj (by omega)
    rintro σ H2 ⟨v5, rfl, s2, hal⟩
    have okA : ∀ a ∈ as, badAr n a = false := fun a ha => by
      obtain ⟨j, hj, rfl⟩ := List.getElem_of_mem ha
      exact hal j hj hj
    obtain ⟨n', rfl⟩ : ∃ n' : Nat, n = (n' : Int) := ⟨n.toNat, by omega⟩
    obtain ⟨s', rfl⟩ : ∃ n' : Nat, s = (n' : Int) := ⟨s.toNat, by omega⟩
    obtain ⟨e', rfl⟩ : ∃ n' : Nat, e = (n' : Int) := ⟨e.toNat, by omega⟩
    have ok : arsOk n' as := okA
    have oka := ok.at_
    have hx2 := same_l s2 hx1
    have pw2 : Par (ArT K H2) ws as := pw1.mono fun v a h => h.same s2
    walk_at "go"
    refine c_prs (fun a => a.1) (fun a => a.2.1) pw2 al ?_ ?_ ?_
    · intro R r
      walk_at "go"
      exact r _ _ (Same.refl _) hx2
    · intro q a H3 R hq r
      walk_at "go"
      refine a_ixT hq (atI_of (j := 0) rfl rfl) ?_
      walk_at "go"
      refine a_ixT hq (atI_of (j := 1) rfl rfl) ?_
      walk_at "go"
      exact a_newT (by show 2 ≤ 100000; decide) fun t H4 nt s4 h4 => r t H4 s4 h4
    intro D3 us3 H3 nD3 s3 hD3 pw3
    walk_at "go"
    refine ⟨D3, _, us3, _, rfl, SqL.of hD3, pw3, by unfold pairsOf; rw [List.length_map]; omega, fun D4 f4 H4 nD4 s4 hD4 m4 => ?_⟩
    walk_at "go"
    refine c_prs (fun a => a.2.1) (fun a => a.1) (pw2.mono fun v a h => h.same (s3.trans s4)) al ?_ ?_ ?_
    · intro R r
      walk_at "go"
      exact r _ _ (Same.refl _) (same_l (s3.trans s4) hx2)
    · intro q a H3 R hq r
      walk_at "go"
      refine a_ixT hq (atI_of (j := 1) rfl rfl) ?_
      walk_at "go"
      refine a_ixT hq (atI_of (j := 0) rfl rfl) ?_
      walk_at "go"
      exact a_newT (by show 2 ≤ 100000; decide) fun t H4 nt s4 h4 => r t H4 s4 h4
    intro D5 us5 H5 nD5 s5 hD5 pw5
    walk_at "go"
    refine ⟨D5, _, us5, _, rfl, SqL.of hD5, pw5, by unfold pairsOf; rw [List.length_map]; omega, fun D6 f6 H6 nD6 s6 hD6 m6 => ?_⟩
    have c4 : ∀ y : Nat, (y : Int) ∈ f4 ↔ Rch (ahead as) s' y := fun y => (m4 _).trans (rchZ_nat ok (fun a => a.1) (fun a => a.2.1) (ahead as) (fun _ _ => Iff.rfl) (fun a ha => by obtain ⟨x, y, e1, e2, _⟩ := oka a ha; omega) y)
    have c6 : ∀ y : Nat, (y : Int) ∈ f6 ↔ Rch (aback as) e' y := fun y => (m6 _).trans (rchZ_nat ok (fun a => a.2.1) (fun a => a.1) (aback as) (fun _ _ => Iff.rfl) (fun a ha => by obtain ⟨x, y, e1, e2, _⟩ := oka a ha; omega) y)
    have hD4' := s6 _ _ (s5 _ _ hD4)
    walk_at "go"
    refine cf_r (k := n') (fun i => decide ((i : Int) ∉ f4) || decide ((i : Int) ∉ f6)) (fun i => V.int (i : Nat)) (by omega) ?_ ?_ ?_
    · intro R r
      walk_at "go"
      exact r _ (Same.refl _)
    · intro i H7 hi s7
      refine ⟨fun R r => ?_, fun _ H8 s8 R r => ?_⟩
      · have r' := r H7 (Same.refl _)
        walk_at "go"
        refine a_ninZ (.inl (SqL.of (s7 _ _ hD4'))) ?_
        walk_at "go"
        refine a_nite (fun d1 => ?_) (fun d1 => ?_)
        · rw [decide_eq_true d1, Bool.true_or] at r'
          exact r'
        · rw [decide_eq_false (fun z => z d1), Bool.false_or] at r'
          walk_at "go"
          refine a_ninZ (.inl (SqL.of (s7 _ _ hD6))) ?_
          walk_at "go"
          simpa using r'
      · walk_at "go"
        exact r _ (Same.refl _)
    intro D7 H7 nD7 s7 hD7
    have ev7 : ((List.range n').filter fun (i : Nat) => decide ((i : Int) ∉ f4) || decide ((i : Int) ∉ f6)).map (fun i => V.int (i : Nat)) = vi ((List.range n').filter fun (i : Nat) => decide ((i : Int) ∉ f4) || decide ((i : Int) ∉ f6)) := rfl
    rw [ev7] at hD7
    have hh : ((List.range n').filter fun (i : Nat) => decide ((i : Int) ∉ f4) || decide ((i : Int) ∉ f6)).head? = loose1 n' as s' e' := by
      rw [List.head?_filter]
      unfold loose1
      congr 1
      funext y
      rw [Bool.eq_iff_iff]
      simp only [Bool.or_eq_true, decide_eq_true_eq, c4, c6]
      unfold onway
      constructor
      · intro h z
        exact h.elim (fun h => h z.1) (fun h => h z.2)
      · intro h
        by_cases z : Rch (ahead as) s' y
        · exact .inr fun z2 => h ⟨z, z2⟩
        · exact .inl z
    have out : outD (n' : Int) as (s' : Int) (e' : Int) = match loose1 n' as s' e' with
        | some x => .tuple [.str "loose", .int (x : Nat), .bool true]
        | none => .tuple [.str "done", .int (n' : Int)] := by
      unfold outD
      rw [if_neg (by omega), if_neg (by omega), if_neg (by omega), bad1_none okA, Int.toNat_natCast, Int.toNat_natCast, Int.toNat_natCast]
      all_goals rfl
    rw [out] at k
    have s17 : Same H H7 := s1.trans (s2.trans (s3.trans (s4.trans (s5.trans (s6.trans s7)))))
    walk_at "go"
    refine a_newL (by show 0 ≤ 100000; decide) fun l8 H8 nl8 s8 h8 => ?_
    generalize ((List.range n').filter fun (i : Nat) => decide ((i : Int) ∉ f4) || decide ((i : Int) ∉ f6)) = fl at hD7 hh
    cases fl with
    | nil =>
      have ec : loose1 n' as s' e' = none := hh.symm
      rw [ec] at k
      refine a_eqQ (n := 2) (.lst (SqL.of (s8 _ _ hD7)) .nil) (.lst (SqL.of h8) .nil) ?_
      walk_at "go"
      refine a_T rfl ?_
      walk_at "go"
      exact a_newT (by show 2 ≤ 100000; decide) fun t H9 nt s9 h9 => k t H9 (s17.trans (s8.trans s9)) (dq2 h9 (by decide +kernel) (.int _))
    | cons y fl =>
      have ec : loose1 n' as s' e' = some y := hh.symm
      rw [ec] at k
      refine a_eqZ (a := ni (y :: fl)) (b := []) (by rw [zi_ni]; exact SqL.of (s8 _ _ hD7)) (SqL.of h8) ?_
      walk_at "go"
      refine a_F rfl ?_
      walk_at "go"
      refine a_ixL (SqL.of (s8 _ _ hD7)) (atI_of (j := 0) rfl rfl) ?_
      walk_at "go"
      exact a_newT (by show 3 ≤ 100000; decide) fun t H9 nt s9 h9 => k t H9 (s17.trans (s8.trans s9)) (dq3 h9 (by decide +kernel) (.int _) (.bl _))
end

def arD (a : Ar) : PyData := .tuple [.int a.1, .int a.2.1, .str a.2.2]
theorem strOk_of {z : Str} (h : ∀ c ∈ z.cps.toList, c < 0x110000) : PyData.strOk z = true := by
  unfold PyData.strOk
  rw [← Array.all_toList, List.all_eq_true]
  intro c hc
  exact decide_eq_true (h c hc)
theorem dqAr {K : PySem.W.Frag} {H : Hp} {n : Nat} : ∀ {ws : List V} {as : List Ar}, Par (ArT K H) ws as → (∀ a ∈ as, PyData.strOk a.2.2 = true) → DqA K H (n + 2) ws (as.map arD)
  | [], [], _, _ => .nil
  | [], a :: as, h, _ => by have := h.1; simp at this
  | w :: ws, [], h, _ => by have := h.1; simp at this
  | w :: ws, a :: as, h, hs => by
    obtain ⟨q, rfl, hq⟩ := h.2 0 w a rfl rfl
    exact .cons (.tup hq (.cons (.int _) (.cons (.int _) (.cons (.str _ (hs a (List.mem_cons_self ..))) .nil)))) (dqAr ⟨by have := h.1; simpa using this, fun k v x e1 e2 => h.2 (k + 1) v x e1 e2⟩ fun b hb => hs b (List.mem_cons_of_mem _ hb))
theorem par_set {α β : Type} {R : α → β → Prop} {ys : List α} {xs : List β} (h : Par R ys xs) {k : Nat} {y : α} {x : β} (r : R y x) : Par R (ys.set k y) (xs.set k x) := ⟨by rw [List.length_set, List.length_set]; exact h.1, fun i v z e1 e2 => by
  by_cases ei : i = k
  · subst ei
    have h1 := (List.getElem?_eq_some_iff.mp e1).1
    have h2 := (List.getElem?_eq_some_iff.mp e2).1
    rw [List.length_set] at h1 h2
    rw [List.getElem?_set_self h1] at e1
    rw [List.getElem?_set_self h2] at e2
    cases e1
    cases e2
    exact r
  · rw [List.getElem?_set_ne (by omega)] at e1 e2
    exact h.2 i v z e1 e2⟩
theorem par_erase {α β : Type} {R : α → β → Prop} : ∀ {ys : List α} {xs : List β}, Par R ys xs → ∀ k, Par R (ys.eraseIdx k) (xs.eraseIdx k) := by
  intro ys xs h k
  rw [List.eraseIdx_eq_take_drop_succ, List.eraseIdx_eq_take_drop_succ]
  exact (h.take k).append (h.drop (k + 1))
/-- what a spoiled chart is made of -/
structure Spo (n s e : Int) (as : List Ar) : Prop where
  n0 : 0 ≤ n
  few : as.length ≤ 300
  nms : ∀ a ∈ as, a.2.2.cps.size ≤ 1000 ∧ ∀ c ∈ a.2.2.cps.toList, c < 0x110000
def spSpoiled (K : PySem.W.Frag) : Sp := fun vs H Q _ => ∃ (p q : Addr) (n s e : Nat) (as : List Ar) (m : Nat), vs = [.ref p, .ref q] ∧ DrAt K H q n s e as ∧ Drawn n s e as ∧ Pen H p (m + 20) ∧
  ∀ t x n' s' e' as' ws H', But p H H' → Pen H' p m → SqT K H' t [.int n', .ref x, .int s', .int e'] → H' x = some (.lst ws) → Par (ArT K H') ws as' → Spo n' s' e' as' → Q (.ref t) H'
theorem par_take1 {α β : Type} {R : α → β → Prop} {ys : List α} {xs : List β} (h : Par R ys xs) (k : Nat) : Par R ((List.replicate k (ys.take 1)).flatten) ((List.replicate k (xs.take 1)).flatten) := (h.take 1).rep k
theorem cut1 (xs : List V) : cutV xs none (some 1) = xs.take 1 := by
  unfold cutV
  have e1 : HT.sIx xs.length 0 none = 0 := rfl
  rw [e1]
  have e2 : HT.sIx xs.length xs.length (some 1) = min 1 xs.length := HT.sIx_nat xs.length xs.length 1
  rw [e2, List.drop_zero, Nat.sub_zero]
  cases xs with
  | nil => rfl
  | cons x l => simp
theorem cut2 (xs : List V) : cutV xs none (some 2) = xs.take 2 := by
  unfold cutV
  have e1 : HT.sIx xs.length 0 none = 0 := rfl
  rw [e1]
  have e2 : HT.sIx xs.length xs.length (some 2) = min 2 xs.length := HT.sIx_nat xs.length xs.length 2
  rw [e2, List.drop_zero, Nat.sub_zero]
  match xs with
  | [] => rfl
  | [x] => rfl
  | x :: y :: l => simp
section
variable {P : Program} {w : World} {K : PySem.W.Frag} {mg : Str → Option Value} {base : Heap} {f : Addr} {fd : FuncData}
theorem sc__law_spoiled : FnScope ["_law_state_here", "_law_drawn", "_law_count", "_law_arrows", "_law_start", "_law_end", "_law_turn", "_law_kind", "_law_at", "_law_name", "_law_place", "_law_bent"] ["_law_state_here", "_law_drawn"] (defScope s__law_spoiled) := ⟨rfl, rfl, rfl, by decide +kernel, rfl, by decide +kernel, by decide +kernel⟩
theorem ok_spoiled (F : FX K "_law_spoiled" "_law_spoiled" s__law_spoiled [] [] f fd) (T : Txt K mg) (c__law_draw : Cal P w K mg base "_law_draw" 2 spDraw) (c__law_pick : Cal P w K mg base "_law_pick" 4 spPick) : FnOk P w K mg base (L2.CX P w) 6 f fd ["_law_state_here", "_law_drawn"] (spSpoiled K) := by
  refine F.ok sc__law_spoiled (fun vs H Q E h => ?_) (fun cdv A outer s H vs Q E hr h => ?_)
  · obtain ⟨p, q, n, s, e, as, m, rfl, _⟩ := h
    rfl
  · obtain ⟨p, q, n, s, e, as, m, rfl, hd, dr, hp, k⟩ := h
    refine ⟨_, PSs.nox ((pss_cons (ps_asg (pe_tup (pa_cons (pe_ix (k_ix (K := K) rfl) (pv 1) pe_int (fun _ _ => rfl)) (pa_cons (pe_callTy (k_list (K := K) rfl) (by rfl) T.b_list (by decide +kernel) (pa_cons (pe_ix (k_ix (K := K) rfl) (pv 1) pe_int (fun _ _ => rfl)) pa_nil)) (pa_cons (pe_ix (k_ix (K := K) rfl) (pv 1) pe_int (fun _ _ => rfl)) (pa_cons (pe_ix (k_ix (K := K) rfl) (pv 1) pe_int (fun _ _ => rfl)) pa_nil))))) (k_gtup (K := K) (n := 4) rfl (by rfl) (pgs_cons (pg_name (i := 2) sc__law_spoiled.nd rfl (Or.inl rfl)) (pgs_cons (pg_name (i := 3) sc__law_spoiled.nd rfl (Or.inl rfl)) (pgs_cons (pg_name (i := 4) sc__law_spoiled.nd rfl (Or.inl rfl)) (pgs_cons (pg_name (i := 5) sc__law_spoiled.nd rfl (Or.inl rfl)) pgs_nil)))))) 
      (pss_cons (ps_for PassesOwn.never rfl (pi_range1 (by rfl) T.b_range (pa_cons (pe_op (k_add (K := K) rfl) pe_int (pe_f c__law_draw hr (by decide) rfl passL (pa_cons (pv 0) (pa_cons pe_int pa_nil)))) pa_nil)) (pg_name (i := 6) sc__law_spoiled.nd rfl (Or.inl rfl)) (pss_cons (ps_set (i := 7) sc__law_spoiled.nd rfl (Or.inl rfl) (pe_f c__law_draw hr (by decide) rfl passL (pa_cons (pv 0) (pa_cons pe_int pa_nil)))) (pss_one (ps_if (pt_cmpR (k_eq (K := K) rfl hr.units) (pv 7) pe_int (nomark _)) (pss_one (ps_set (i := 2) sc__law_spoiled.nd rfl (Or.inl rfl) (pe_op (k_add (K := K) rfl) (pv 2) (pe_ix (k_ix (K := K) rfl) (pe_lst (pa_cons pe_int (pa_cons pe_int (pa_cons (pe_un un_neg (pv 2)) (pa_cons pe_int pa_nil))))) (pe_f c__law_draw hr (by decide) rfl passL (pa_cons (pv 0) (pa_cons pe_int pa_nil))) (fun _ _ => rfl))))) (pss_one (ps_if (pt_cmpR (k_eq (K := K) rfl hr.units) (pv 7) pe_int (nomark _)) (pss_one (ps_set (i := 4) sc__law_spoiled.nd rfl (Or.inl rfl) (pe_ix (k_ix (K := K) rfl) (pe_lst (pa_cons (pe_un un_neg pe_int) (pa_cons (pv 2) (pa_cons (pe_op (k_add (K := K) rfl) (pv 4) pe_int) pa_nil)))) (pe_f c__law_draw hr (by decide) rfl passL (pa_cons (pv 0) (pa_cons pe_int pa_nil))) (fun _ _ => rfl)))) (pss_one (ps_if (pt_cmpR (k_eq (K := K) rfl hr.units) (pv 7) pe_int (nomark _)) (pss_one (ps_set (i := 5) sc__law_spoiled.nd rfl (Or.inl rfl) (pe_ix (k_ix (K := K) rfl) (pe_lst (pa_cons (pe_un un_neg pe_int) (pa_cons (pv 2) (pa_cons pe_int pa_nil)))) (pe_f c__law_draw hr (by decide) rfl passL (pa_cons (pv 0) (pa_cons pe_int pa_nil))) (fun _ _ => rfl)))) (pss_one (ps_if (PW.pt (pw_and (pt_cmpR (k_eq (K := K) rfl hr.units) (pv 7) pe_int (nomark _)) (pw_and1 (pt_cmpR (k_ne (K := K) rfl hr.units) (pv 3) (pe_lst pa_nil) (nomark _))))) (pss_one (ps_set (i := 3) sc__law_spoiled.nd rfl (Or.inl rfl) (pe_op (k_add (K := K) rfl) (pv 3) (pe_op (k_mul (K := K) rfl) (pe_slice (k_sl (K := K) rfl) (pv 3) po_none (po_some pe_int)) (pe_op op_sub (pe_op op_sub pe_int (pe_callB (k_len (K := K) rfl) (by rfl) T.b_len PySem.boot_len (pa_cons (pv 3) pa_nil))) (pe_f c__law_draw hr (by decide) rfl passL (pa_cons (pv 0) (pa_cons pe_int pa_nil)))))))) (pss_one (ps_if (PW.pt (pw_and (pt_cmpR (k_eq (K := K) rfl hr.units) (pv 7) pe_int (nomark _)) (pw_and1 (pt_cmpR (k_ne (K := K) rfl hr.units) (pv 3) (pe_lst pa_nil) (nomark _))))) (pss_one (ps_expr (k_bm (K := K) rfl PySem.F.plainAttrs_list PySem.F.slot_list_pop PySem.F.type_list_pop mt_popAt (pv 3) (pa_cons (pe_f c__law_draw hr (by decide) rfl passL (pa_cons (pv 0) (pa_cons (pe_callB (k_len (K := K) rfl) (by rfl) T.b_len PySem.boot_len (pa_cons (pv 3) pa_nil)) pa_nil))) pa_nil)))) (pss_one (ps_if (pt_cmpR (k_ne (K := K) rfl hr.units) (pv 3) (pe_lst pa_nil) (nomark _)) (pss_cons (ps_set (i := 8) sc__law_spoiled.nd rfl (Or.inl rfl) (pe_f c__law_draw hr (by decide) rfl passL (pa_cons (pv 0) (pa_cons (pe_callB (k_len (K := K) rfl) (by rfl) T.b_len PySem.boot_len (pa_cons (pv 3) pa_nil)) pa_nil)))) 
      (pss_cons (ps_set (i := 9) sc__law_spoiled.nd rfl (Or.inl rfl) (pe_f c__law_pick hr (by decide) rfl passL (pa_cons (pv 0) (pa_cons (pe_lst (pa_cons pe_str (pa_cons pe_str (pa_cons pe_str (pa_cons pe_str (pa_cons pe_str (pa_cons pe_str (pa_cons pe_str pa_nil)))))))) pa_nil)))) 
      (pss_cons (ps_set (i := 10) sc__law_spoiled.nd rfl (Or.inl rfl) (pe_ifExp (pt_cmpR op_gt (pv 2) (pe_un un_neg pe_int) (nomark _)) (pe_op op_sub (pe_f c__law_draw hr (by decide) rfl passL (pa_cons (pv 0) (pa_cons (pe_op (k_add (K := K) rfl) (pv 2) pe_int) pa_nil))) pe_int) pe_int)) 
      (pss_cons (ps_set (i := 11) sc__law_spoiled.nd rfl (Or.inl rfl) (pe_lst (pa_cons (pe_tup (pa_cons (pv 10) (pa_cons (pe_ix (k_ix (K := K) rfl) (pe_ix (k_ix (K := K) rfl) (pv 3) (pv 8) (fun _ _ => rfl)) pe_int (fun _ _ => rfl)) (pa_cons pe_str pa_nil)))) (pa_cons (pe_tup (pa_cons (pe_ix (k_ix (K := K) rfl) (pe_ix (k_ix (K := K) rfl) (pv 3) (pv 8) (fun _ _ => rfl)) pe_int (fun _ _ => rfl)) (pa_cons (pv 10) (pa_cons pe_str pa_nil)))) (pa_cons (pe_op (k_add (K := K) rfl) (pe_slice (k_sl (K := K) rfl) (pe_ix (k_ix (K := K) rfl) (pv 3) (pv 8) (fun _ _ => rfl)) po_none (po_some pe_int)) (pe_tup (pa_cons (pv 9) pa_nil))) pa_nil))))) (pss_one (ps_asg (pe_ix (k_ix (K := K) rfl) (pv 11) (pe_f c__law_draw hr (by decide) rfl passL (pa_cons (pv 0) (pa_cons pe_int pa_nil))) (fun _ _ => rfl)) (pg_sub (pv 3) (pv 8) set_list))))))) pss_nil)))))))))))))) (pss_one (ps_ret (pe_tup (pa_cons (pv 2) (pa_cons (pv 3) (pa_cons (pv 4) (pa_cons (pv 5) pa_nil)))))))))), ?_⟩
    try dsimp only [cxOf]
    obtain ⟨t, vs, h1, h2, h3⟩ := id hd
    have n1 := dr.n1
    have few := dr.few
    walk_at "go"
    refine a_ixT h1 (atI_of (j := 0) rfl rfl) ?_
    walk_at "go"
    refine a_ixT h1 (atI_of (j := 1) rfl rfl) ?_
    walk_at "go"
    refine a_list (.inr h2) fun l0 H1 nl0 s1 hl0 => ?_
    walk_at "go"
    refine a_ixT (same_t s1 h1) (atI_of (j := 2) rfl rfl) ?_
    walk_at "go"
    refine a_ixT (same_t s1 h1) (atI_of (j := 3) rfl rfl) ?_
    walk_at "go"
    refine a_newT (by show 4 ≤ 100000; decide) fun t2 H2 nt2 s2 h2' => ?_
    walk_at "go"
    have pw2 : Par (ArT K H2) vs as := h3.mono fun v a h => h.same (s1.trans s2)
    have hl2 := s2 _ _ hl0
    have nl0p : l0 ≠ p := Ne.symm (hp.ne nl0)
    refine ⟨p, 2, m + 19, rfl, (hp.same (s1.trans s2)).le (by omega), by omega, by omega, fun r1 H3 q0 q1 b3 hp3 => ?_⟩
    obtain ⟨c, rfl⟩ : ∃ c : Nat, r1 = (c : Int) := ⟨r1.toNat, by omega⟩
    obtain ⟨px2, hpx2⟩ := (hp.same (s1.trans s2)).at_
    walk_at "go"
    refine ⟨(1 + c : Int), rfl, by omega, by omega, ?_⟩
    have spo0 : Spo n s e as := ⟨by omega, by omega, fun a ha => by
      obtain ⟨x, y, _, _, _, _, hz⟩ := dr.ok.at_ a ha
      refine ⟨by have := fits_size hz; omega, fun c hc => ?_⟩
      have := fits_strOk hz
      unfold PyData.strOk at this
      rw [← Array.all_toList, List.all_eq_true] at this
      exact of_decide_eq_true (this c hc)⟩
    have tn : (1 + (c : Int)).toNat ≤ 2 := by omega
    refine for_range (n := (1 + (c : Int)).toNat) (fun i σ H' => ∃ (n' s' e' : Int) (x : Addr) (as' : List Ar) (ws : List V) (v6 v7 v8 v9 v10 v11 : Option V), σ = [some (.ref p), some (.ref q), some (.int n'), some (.ref x), some (.int s'), some (.int e'), v6, v7, v8, v9, v10, v11] ∧ But p H H' ∧ Pen H' p (m + 19 - 8 * i) ∧ H x = none ∧ x ≠ p ∧ H' x = some (.lst ws) ∧ Par (ArT K H') ws as' ∧ Spo n' s' e' as' ∧ n' ≤ 100 * (i + 1) ∧ as'.length ≤ 100 * (i + 1))
      ⟨n, s, e, l0, as, vs, none, none, none, none, none, none, rfl, (But.of (s1.trans s2)).trans b3, hp3.le (by omega), nl0, nl0p, b3 _ _ nl0p hl2, pw2.mono fun v a h => h.but b3 hpx2 (by intro xs z; cases z) (by intro o xs z; cases z), spo0, by omega, by omega⟩ ?_ ?_
    · clear pw2 hl2 nl0p hp3 b3 hpx2 px2 spo0 hl0 nl0 s1 s2 h2' nt2
      rintro i σ H3 hi ⟨n', s', e', x, as', ws, v6, v7, v8, v9, v10, v11, rfl, b3, hp3, nx, nxp, hx, pw, spo, nb, ab⟩
      have hi2 : i < 2 := by omega
      obtain ⟨px3, hpx3⟩ := hp3.at_
      walk_at "go"
      refine ⟨p, 7, m + 18 - 8 * i, rfl, hp3.le (by omega), by omega, by omega, fun kd H4 q2 q3 b4 hp4 => ?_⟩
      have pw4 : Par (ArT K H4) ws as' := pw.mono fun v a h => h.but b4 hpx3 (by intro xs z; cases z) (by intro o xs z; cases z)
      have hx4 := b4 _ _ nxp hx
      have b04 : But p H H4 := b3.trans b4
      have n0 := spo.n0
      have wl : ws.length = as'.length := pw.1
      walk_at "go"
      refine a_ite (fun c0 => ?_) (fun c0 => ?_)
      · -- another number of places
        walk_at "go"
        refine a_newL (by show 4 ≤ 100000; decide) fun l5 H5 nl5 s5 h5 => ?_
        walk_at "go"
        refine ⟨p, 4, m + 17 - 8 * i, rfl, (hp4.same s5).le (by omega), by omega, by omega, fun r5 H6 q4 q5 b6 hp6 => ?_⟩
        obtain ⟨j, rfl⟩ : ∃ c : Nat, r5 = (c : Int) := ⟨r5.toNat, by omega⟩
        obtain ⟨px5, hpx5⟩ := (hp4.same s5).at_
        have hl6 := b6 _ _ (Ne.symm (hp4.ne nl5)) h5
        obtain ⟨y, ej, hy0, hy1⟩ : ∃ y : Int, ([.int 1, .int 36, .int (-n'), .int 2] : List V)[j]? = some (.int y) ∧ -n' ≤ y ∧ y ≤ 36 := by
          match j, q5 with
          | 0, _ => exact ⟨1, rfl, by omega, by omega⟩
          | 1, _ => exact ⟨36, rfl, by omega, by omega⟩
          | 2, _ => exact ⟨-n', rfl, by omega, by omega⟩
          | 3, _ => exact ⟨2, rfl, by omega, by omega⟩
          | (j + 4), h => exact absurd h (by omega)
        walk_at "go"
        refine a_ixL (SqL.of hl6) (atI_of rfl ej) ?_
        walk_at "go"
        exact ⟨n' + y, s', e', x, as', ws, _, _, _, _, _, _, rfl, (b04.trans (But.of s5)).trans b6, hp6.le (by omega), nx, nxp, b6 _ _ nxp (s5 _ _ hx4), pw4.mono fun v a h => (h.same s5).but b6 hpx5 (by intro xs z; cases z) (by intro o xs z; cases z), ⟨by omega, spo.few, spo.nms⟩, by omega, by omega⟩
      walk_at "go"
      refine a_ite (fun c1 => ?_) (fun c1 => ?_)
      · walk_at "go"
        refine a_newL (by show 3 ≤ 100000; decide) fun l5 H5 nl5 s5 h5 => ?_
        walk_at "go"
        refine ⟨p, 3, m + 17 - 8 * i, rfl, (hp4.same s5).le (by omega), by omega, by omega, fun r5 H6 q4 q5 b6 hp6 => ?_⟩
        obtain ⟨j, rfl⟩ : ∃ c : Nat, r5 = (c : Int) := ⟨r5.toNat, by omega⟩
        obtain ⟨px5, hpx5⟩ := (hp4.same s5).at_
        have hl6 := b6 _ _ (Ne.symm (hp4.ne nl5)) h5
        obtain ⟨y, ej⟩ : ∃ y : Int, ([.int (-1), .int n', .int (s' + 1)] : List V)[j]? = some (.int y) := by
          match j, q5 with
          | 0, _ => exact ⟨_, rfl⟩
          | 1, _ => exact ⟨_, rfl⟩
          | 2, _ => exact ⟨_, rfl⟩
          | (j + 3), h => exact absurd h (by omega)
        walk_at "go"
        refine a_ixL (SqL.of hl6) (atI_of rfl ej) ?_
        exact ⟨n', y, e', x, as', ws, _, _, _, _, _, _, rfl, (b04.trans (But.of s5)).trans b6, hp6.le (by omega), nx, nxp, b6 _ _ nxp (s5 _ _ hx4), pw4.mono fun v a h => (h.same s5).but b6 hpx5 (by intro xs z; cases z) (by intro o xs z; cases z), ⟨spo.n0, spo.few, spo.nms⟩, by omega, by omega⟩
      walk_at "go"
      refine a_ite (fun c2 => ?_) (fun c2 => ?_)
      · walk_at "go"
        refine a_newL (by show 3 ≤ 100000; decide) fun l5 H5 nl5 s5 h5 => ?_
        walk_at "go"
        refine ⟨p, 3, m + 17 - 8 * i, rfl, (hp4.same s5).le (by omega), by omega, by omega, fun r5 H6 q4 q5 b6 hp6 => ?_⟩
        obtain ⟨j, rfl⟩ : ∃ c : Nat, r5 = (c : Int) := ⟨r5.toNat, by omega⟩
        obtain ⟨px5, hpx5⟩ := (hp4.same s5).at_
        have hl6 := b6 _ _ (Ne.symm (hp4.ne nl5)) h5
        obtain ⟨y, ej⟩ : ∃ y : Int, ([.int (-1), .int n', .int 0] : List V)[j]? = some (.int y) := by
          match j, q5 with
          | 0, _ => exact ⟨_, rfl⟩
          | 1, _ => exact ⟨_, rfl⟩
          | 2, _ => exact ⟨_, rfl⟩
          | (j + 3), h => exact absurd h (by omega)
        walk_at "go"
        refine a_ixL (SqL.of hl6) (atI_of rfl ej) ?_
        exact ⟨n', s', y, x, as', ws, _, _, _, _, _, _, rfl, (b04.trans (But.of s5)).trans b6, hp6.le (by omega), nx, nxp, b6 _ _ nxp (s5 _ _ hx4), pw4.mono fun v a h => (h.same s5).but b6 hpx5 (by intro xs z; cases z) (by intro o xs z; cases z), ⟨spo.n0, spo.few, spo.nms⟩, by omega, by omega⟩
      have dqw : ∀ H5, Same H4 H5 → Dq K H5 4 (.ref x) (.list (as'.map arD)) := fun H5 s5 => .lst (SqL.of (s5 _ _ hx4)) (dqAr (pw4.mono fun v a h => h.same s5) fun a ha => strOk_of (spo.nms a ha).2)
      have eqn : PyData.eqv (.list (as'.map arD)) (.list []) = decide (as' = []) := by
        rw [PyData.eqv, eqvAll_nil]
        simp
      have nn : as' ≠ [] → ∀ {Q : VK} (l : Addr) (H5 : Hp), Same H4 H5 → H5 l = some (.lst []) → Q (.bl true) H5 → rNeU K (.ref x) (.ref l) H5 Q := fun z Q l H5 s5 hl q => a_neW (dqw H5 s5) (.lst (SqL.of hl) .nil) (by rw [eqn, decide_eq_false z]; exact q)
      have ny : as' = [] → ∀ {Q : VK} (l : Addr) (H5 : Hp), Same H4 H5 → H5 l = some (.lst []) → Q (.bl false) H5 → rNeU K (.ref x) (.ref l) H5 Q := fun z Q l H5 s5 hl q => a_neW (dqw H5 s5) (.lst (SqL.of hl) .nil) (by rw [eqn, decide_eq_true z]; exact q)
      have stay : ∀ H5, Same H4 H5 → But p H H5 ∧ Pen H5 p (m + 19 - 8 * (i + 1)) ∧ H x = none ∧ x ≠ p ∧ H5 x = some (.lst ws) ∧ Par (ArT K H5) ws as' ∧ Spo n' s' e' as' ∧ n' ≤ 100 * (((i + 1 : Nat) : Int) + 1) ∧ as'.length ≤ 100 * (i + 1 + 1) := fun H5 s5 => ⟨b04.trans (But.of s5), (hp4.same s5).le (by omega), nx, nxp, s5 _ _ hx4, pw4.mono fun v a h => h.same s5, ⟨spo.n0, spo.few, spo.nms⟩, by omega, by omega⟩
      by_cases emp : as' = []
      · walk_at "go"
        refine a_ite (fun c3 => ?_) (fun c3 => ?_)
        · walk_at "go"
          refine a_newL (by show 0 ≤ 100000; decide) fun l5 H5 nl5 s5 h5 => ?_
          refine ny emp l5 H5 s5 h5 ?_
          walk_at "go"
          refine a_F rfl ?_
          walk_at "go"
          refine a_no (fun z => by have := V.int.inj z; have := V.int.inj c3; omega) ?_
          refine a_F rfl ?_
          walk_at "go"
          refine a_newL (by show 0 ≤ 100000; decide) fun l6 H6 nl6 s6 h6 => ?_
          refine ny emp l6 H6 (s5.trans s6) h6 ?_
          walk_at "go"
          refine a_F rfl ?_
          walk_at "go"
          exact ⟨_, _, _, _, _, _, _, _, _, _, _, _, rfl, stay H6 (s5.trans s6)⟩
        · refine a_F rfl ?_
          walk_at "go"
          refine a_ite (fun c4 => ?_) (fun c4 => ?_)
          · walk_at "go"
            refine a_newL (by show 0 ≤ 100000; decide) fun l5 H5 nl5 s5 h5 => ?_
            refine ny emp l5 H5 s5 h5 ?_
            walk_at "go"
            refine a_F rfl ?_
            walk_at "go"
            refine a_newL (by show 0 ≤ 100000; decide) fun l6 H6 nl6 s6 h6 => ?_
            refine ny emp l6 H6 (s5.trans s6) h6 ?_
            walk_at "go"
            refine a_F rfl ?_
            walk_at "go"
            exact ⟨_, _, _, _, _, _, _, _, _, _, _, _, rfl, stay H6 (s5.trans s6)⟩
          · refine a_F rfl ?_
            walk_at "go"
            refine a_newL (by show 0 ≤ 100000; decide) fun l6 H6 nl6 s6 h6 => ?_
            refine ny emp l6 H6 s6 h6 ?_
            walk_at "go"
            refine a_F rfl ?_
            walk_at "go"
            exact ⟨_, _, _, _, _, _, _, _, _, _, _, _, rfl, stay H6 s6⟩
      have a0 : 0 < as'.length := by
        cases as' with
        | nil => exact absurd rfl emp
        | cons y l => simp
      walk_at "go"
      refine a_ite (fun c3 => ?_) (fun c3 => ?_)
      · walk_at "go"
        refine a_newL (by show 0 ≤ 100000; decide) fun l5 H5 nl5 s5 h5 => ?_
        refine nn emp l5 H5 s5 h5 ?_
        walk_at "go"
        refine a_T rfl ?_
        walk_at "go"
        refine a_slL (SqL.of (s5 _ _ hx4)) fun l6 H6 nl6 s6 h6 => ?_
        rw [cut1] at h6
        walk_at "go"
        refine a_lenL (SqL.of (s6 _ _ (s5 _ _ hx4))) ?_
        walk_at "go"
        rw [wl]
        have s46 := s5.trans s6
        refine ⟨p, 2, m + 17 - 8 * i, rfl, (hp4.same s46).le (by omega), by omega, by omega, fun r7 H7 q4 q5 b7 hp7 => ?_⟩
        obtain ⟨px6, hpx6⟩ := (hp4.same s46).at_
        have nl6p : l6 ≠ p := Ne.symm ((hp4.same s5).ne nl6)
        walk_at "go"
        refine .inr ⟨l6, _, _, rfl, rfl, b7 _ _ nl6p h6, by omega, by omega, ?_, fun l8 nl8 => ?_⟩
        · have : (ws.take 1).length ≤ 1 := by rw [List.length_take]; omega
          refine Nat.le_trans (Nat.mul_le_mul this (show (81 - (as'.length : Int) - r7).toNat ≤ 81 by omega)) (by decide)
        have hx7 := b7 _ _ nxp (s46 _ _ hx4)
        have s8 := same_new (o := (.lst (List.replicate (81 - (as'.length : Int) - r7).toNat (ws.take 1)).flatten : HO)) nl8
        have flen : ((List.replicate (81 - (as'.length : Int) - r7).toNat (as'.take 1)).flatten).length ≤ 81 := by
          rw [List.length_flatten, List.map_replicate, List.sum_replicate_nat, List.length_take]
          have : min 1 as'.length = 1 := by omega
          rw [this]
          omega
        have par7 : Par (ArT K H7) ws as' := pw4.mono fun v a h => (h.same s46).but b7 hpx6 (by intro xs z; cases z) (by intro o xs z; cases z)
        have fl : ((List.replicate (81 - (as'.length : Int) - r7).toNat (ws.take 1)).flatten).length = ((List.replicate (81 - (as'.length : Int) - r7).toNat (as'.take 1)).flatten).length := (par_take1 par7 _).1
        refine a_cat (s8 _ _ hx7) upd_same (by omega) fun l9 H9 nl9 s9 h9 => ?_
        have b09 : But p H H9 := ((b04.trans (But.of s46)).trans b7).trans (But.of (Same.trans s8 s9))
        refine ⟨n', s', e', l9, as' ++ (List.replicate (81 - (as'.length : Int) - r7).toNat (as'.take 1)).flatten, _, _, _, _, _, _, _, rfl, b09, ((hp7.same s8).same s9).le (by omega), ?_, ?_, h9, ?_, ⟨spo.n0, ?_, ?_⟩, by omega, ?_⟩
        · exact (hp7.same s8).free (((b04.trans (But.of s46)).trans b7).trans (But.of s8)) nl9
        · exact Ne.symm ((hp7.same s8).ne nl9)
        · exact (par7.append (par_take1 par7 _)).mono fun v a h => (h.same s8).same s9
        · rw [List.length_append]
          omega
        · intro a ha
          rcases List.mem_append.mp ha with ha | ha
          · exact spo.nms a ha
          · obtain ⟨l, hl, hal⟩ := List.mem_flatten.mp ha
            rw [List.eq_of_mem_replicate hl] at hal
            exact spo.nms a (List.mem_of_mem_take hal)
        · rw [List.length_append]
          omega
      refine a_F rfl ?_
      walk_at "go"
      refine a_ite (fun c4 => ?_) (fun c4 => ?_)
      · walk_at "go"
        refine a_newL (by show 0 ≤ 100000; decide) fun l5 H5 nl5 s5 h5 => ?_
        refine nn emp l5 H5 s5 h5 ?_
        walk_at "go"
        refine a_T rfl ?_
        walk_at "go"
        have hx5 := s5 _ _ hx4
        refine a_ty hx5 ?_
        walk_at "go"
        rw [wl]
        refine ⟨p, _, m + 17 - 8 * i, rfl, (hp4.same s5).le (by omega), by omega, by omega, fun r7 H7 q4 q5 b7 hp7 => ?_⟩
        obtain ⟨j, rfl⟩ : ∃ c : Nat, r7 = (c : Int) := ⟨r7.toNat, by omega⟩
        obtain ⟨px5, hpx5⟩ := (hp4.same s5).at_
        have hj : j < ws.length := by omega
        have hx7 := b7 _ _ nxp hx5
        walk_at "go"
        refine a_pop (k := j) hx7 rfl (List.getElem?_eq_getElem hj) (by omega) fun H8 b8 h8 => ?_
        refine ⟨n', s', e', x, as'.eraseIdx j, _, _, _, _, _, _, _, rfl, fun a o na ee => b8 a o (ne_of_none ee nx) (b7 a o na (s5 a o (b04 a o na ee))), (hp7.but b8 (Ne.symm nxp)).le (by omega), nx, nxp, h8, ?_, ⟨spo.n0, ?_, ?_⟩, by omega, ?_⟩
        · exact (par_erase (pw4.mono fun v a h => ((h.same s5).but b7 hpx5 (by intro xs z; cases z) (by intro o xs z; cases z)).but b8 hx7 (by intro xs z; cases z) (by intro o xs z; cases z)) j)
        · rw [List.length_eraseIdx]
          split <;> omega
        · exact fun a ha => spo.nms a (List.mem_of_mem_eraseIdx ha)
        · rw [List.length_eraseIdx]
          split <;> omega
      refine a_F rfl ?_
      walk_at "go"
      refine a_newL (by show 0 ≤ 100000; decide) fun l5 H5 nl5 s5 h5 => ?_
      refine nn emp l5 H5 s5 h5 ?_
      walk_at "go"
      refine a_T rfl ?_
      walk_at "go"
      refine a_lenL (SqL.of (s5 _ _ hx4)) ?_
      walk_at "go"
      rw [wl]
      refine ⟨p, _, m + 17 - 8 * i, rfl, (hp4.same s5).le (by omega), by omega, by omega, fun r6 H6 q4 q5 b6 hp6 => ?_⟩
      obtain ⟨j, rfl⟩ : ∃ c : Nat, r6 = (c : Int) := ⟨r6.toNat, by omega⟩
      have hj : j < as'.length := by omega
      obtain ⟨px5, hpx5⟩ := (hp4.same s5).at_
      have b06 : But p H H6 := (b04.trans (But.of s5)).trans b6
      have hx6 := b6 _ _ nxp (s5 _ _ hx4)
      have pw6 : Par (ArT K H6) ws as' := pw4.mono fun v a h => (h.same s5).but b6 hpx5 (by intro xs z; cases z) (by intro o xs z; cases z)
      walk_at "go"
      refine a_newL (by show 7 ≤ 100000; decide) fun l7 H7 nl7 s7 h7 => ?_
      have nl7p : l7 ≠ p := Ne.symm (hp6.ne nl7)
      walk_at "go"
      refine ⟨p, l7, _, m + 16 - 8 * i, rfl, (hp6.same s7).le (by omega), h7, nl7p, by show 0 < 7; omega, by show 7 ≤ _; omega, fun v H8 hv b8 hp8 => ?_⟩
      obtain ⟨nm, rfl, fnm⟩ : ∃ nm : Str, v = V.str nm ∧ (nm.cps.size ≤ 1000 ∧ ∀ c ∈ nm.cps.toList, c < 0x110000) := by
        have hv : v = V.str "" ∨ v = V.str "A" ∨ v = V.str "abcd" ∨ v = V.str "a b" ∨ v = V.str "a1" ∨ v = V.str "abc" ∨ v = V.str "zz" := by simpa using hv
        rcases hv with rfl | rfl | rfl | rfl | rfl | rfl | rfl
        all_goals exact ⟨_, rfl, by decide +kernel⟩
      obtain ⟨px7, hpx7⟩ := (hp6.same s7).at_
      have b08 : But p H H8 := (b06.trans (But.of s7)).trans b8
      have hx8 := b8 _ _ nxp (s7 _ _ hx6)
      have pw8 : Par (ArT K H8) ws as' := pw6.mono fun v a h => (h.same s7).but b8 hpx7 (by intro xs z; cases z) (by intro o xs z; cases z)
      walk_at "go"
      refine a_yes (by omega) ?_
      walk_at "go"
      refine ⟨p, _, m + 15 - 8 * i, rfl, hp8.le (by omega), by omega, by omega, fun pl H9 q6 q7 b9 hp9 => ?_⟩
      obtain ⟨px8, hpx8⟩ := hp8.at_
      have b09 : But p H H9 := b08.trans b9
      have hx9 := b9 _ _ nxp hx8
      have pw9 : Par (ArT K H9) ws as' := pw8.mono fun v a h => h.but b9 hpx8 (by intro xs z; cases z) (by intro o xs z; cases z)
      obtain ⟨va, eva, a1, rfl, ha1⟩ := pw9.get hj
      walk_at "go"
      refine a_ixL (SqL.of hx9) (atI_of (j := j) rfl eva) ?_
      walk_at "go"
      refine a_ixT ha1 (atI_of (j := 1) rfl rfl) ?_
      walk_at "go"
      refine a_newT (by show 3 ≤ 100000; decide) fun t10 H10 nt10 s10 h10 => ?_
      walk_at "go"
      refine a_ixL (SqL.of (s10 _ _ hx9)) (atI_of (j := j) rfl eva) ?_
      walk_at "go"
      refine a_ixT (same_t s10 ha1) (atI_of (j := 0) rfl rfl) ?_
      walk_at "go"
      refine a_newT (by show 3 ≤ 100000; decide) fun t11 H11 nt11 s11 h11 => ?_
      have s911 := s10.trans s11
      walk_at "go"
      refine a_ixL (SqL.of (s911 _ _ hx9)) (atI_of (j := j) rfl eva) ?_
      walk_at "go"
      refine .inr ⟨a1, _, rfl, same_t s911 ha1, fun z => ?_, fun _ t12 nt12 => ?_⟩
      · exact absurd z.2 (by show ¬ HT.sIx 3 3 (some 2) = 3; decide)
      have s12 := same_new (o := (.tup (cutV (ArV as'[j]) none (some 2)) : HO)) nt12
      have h12 : upd H11 t12 (.tup (cutV (ArV as'[j]) none (some 2))) t12 = some (.tup [.int as'[j].1, .int as'[j].2.1]) := by
        rw [upd_same, cut2]
        rfl
      generalize upd H11 t12 (.tup (cutV (ArV as'[j]) none (some 2))) = H12 at s12 h12
      walk_at "go"
      refine a_newT (by show 1 ≤ 100000; decide) fun t13 H13 nt13 s13 h13 => ?_
      refine a_catA (SqT.of (s13 _ _ h12)) (SqT.of h13) (by show 2 + 1 ≤ 100000; decide) (by simp) (by simp) fun t14 H14 nt14 s14 h14 => ?_
      walk_at "go"
      refine a_newL (by show 3 ≤ 100000; decide) fun l15 H15 nl15 s15 h15 => ?_
      have s915 := s911.trans (Same.trans s12 (s13.trans (s14.trans s15)))
      have nl15p : l15 ≠ p := Ne.symm ((hp9.same (s911.trans (Same.trans s12 (s13.trans s14)))).ne nl15)
      walk_at "go"
      refine ⟨p, 3, m + 14 - 8 * i, rfl, (hp9.same s915).le (by omega), by omega, by omega, fun r16 H16 q8 q9 b16 hp16 => ?_⟩
      obtain ⟨jj, rfl⟩ : ∃ c : Nat, r16 = (c : Int) := ⟨r16.toNat, by omega⟩
      obtain ⟨px15, hpx15⟩ := (hp9.same s915).at_
      have t10' := b16 t10 _ (ne_of (s15 _ _ (s14 _ _ (s13 _ _ (s12 _ _ (s11 _ _ h10))))) hpx15 (by intro z; cases z)) (s15 _ _ (s14 _ _ (s13 _ _ (s12 _ _ (s11 _ _ h10)))))
      have t11' := b16 t11 _ (ne_of (s15 _ _ (s14 _ _ (s13 _ _ (s12 _ _ h11)))) hpx15 (by intro z; cases z)) (s15 _ _ (s14 _ _ (s13 _ _ (s12 _ _ h11))))
      have t14' := b16 t14 _ (ne_of (s15 _ _ h14) hpx15 (by intro z; cases z)) (s15 _ _ h14)
      have bok : ("b" : Str).cps.size ≤ 1000 ∧ ∀ c ∈ ("b" : Str).cps.toList, c < 0x110000 := by decide +kernel
      obtain ⟨tv, an, ej, htv, fan⟩ : ∃ (tv : Addr) (an : Ar), ([.ref t10, .ref t11, .ref t14] : List V)[jj]? = some (.ref tv) ∧ H16 tv = some (.tup (ArV an)) ∧ (an.2.2.cps.size ≤ 1000 ∧ ∀ c ∈ an.2.2.cps.toList, c < 0x110000) := by
        match jj, q9 with
        | 0, _ => exact ⟨t10, (_, _, "b"), rfl, t10', bok⟩
        | 1, _ => exact ⟨t11, (_, _, "b"), rfl, t11', bok⟩
        | 2, _ => exact ⟨t14, (as'[j].1, as'[j].2.1, nm), rfl, t14', fnm⟩
        | (jj + 3), h => exact absurd h (by omega)
      walk_at "go"
      refine a_ixL (SqL.of (b16 _ _ nl15p h15)) (atI_of rfl ej) ?_
      walk_at "go"
      have hx16 := b16 _ _ nxp (s915 _ _ hx9)
      refine a_setB (j := j) hx16 (by unfold ixN; rw [if_pos (by omega), if_pos (by omega)]; rfl) fun H17 b17 h17 => ?_
      refine ⟨n', s', e', x, as'.set j an, _, _, _, _, _, _, _, rfl, fun a o na ee => b17 a o (ne_of_none ee nx) (b16 a o na (s915 a o (b09 a o na ee))), (hp16.but b17 (Ne.symm nxp)).le (by omega), nx, nxp, h17, ?_, ⟨spo.n0, by rw [List.length_set]; exact spo.few, ?_⟩, by omega, by rw [List.length_set]; omega⟩
      · have pw16 : Par (ArT K H16) ws as' := pw9.mono fun v a h => (h.same s915).but b16 hpx15 (by intro xs z; cases z) (by intro o xs z; cases z)
        exact (par_set pw16 (show ArT K H16 (.ref tv) an from ⟨tv, rfl, SqT.of htv⟩)).mono fun v a h => h.but b17 hx16 (by intro xs z; cases z) (by intro o xs z; cases z)
      · intro a ha
        rcases List.mem_or_eq_of_mem_set ha with ha | rfl
        · exact spo.nms a ha
        · exact fan
    · rintro σ H3 ⟨n', s', e', x, as', ws, v6, v7, v8, v9, v10, v11, rfl, b3, hp3, nx, nxp, hx, pw, spo, nb, ab⟩
      walk_at "go"
      refine a_newT (by show 4 ≤ 100000; decide) fun t4 H4 nt4 s4 h4 => ?_
      exact k t4 x n' s' e' as' ws H4 (b3.trans (But.of s4)) ((hp3.same s4).le (by omega)) (SqT.of h4) (s4 _ _ hx) (pw.mono fun v a h => h.same s4) spo
end

def spParts (K : PySem.W.Frag) : Sp := fun vs H Q _ => ∃ (p : Addr) (n s e : Int) (as : List Ar), vs = [.ref p] ∧ ChAt K H p n as s e ∧ ∀ t ta ws H', Same H H' → H' t = some (.tup [.int n, .ref ta, .int s, .int e]) → SqT K H' ta ws → Par (ArT K H') ws as → Q (.ref t) H'
def chD (n s e : Int) (as : List Ar) : PyData := .tuple [.int n, .tuple (as.map arD), .int s, .int e]
def spChEq (K : PySem.W.Frag) : Sp := fun vs H Q _ => ∃ (p q : Addr) (n s e : Int) (as : List Ar), vs = [.ref p, .ref q] ∧ ChAt K H p n as s e ∧ (∀ a ∈ as, PyData.strOk a.2.2 = true) ∧ ((∃ n' s' e' as', ChAt K H q n' as' s' e' ∧ (∀ a ∈ as', PyData.strOk a.2.2 = true) ∧ ∀ H', Same H H' → Q (.bl (PyData.eqv (chD n s e as) (chD n' s' e' as'))) H') ∨ ((∃ xs, SqT K H q xs) ∧ Q (.bl false) H))
theorem lk_parts (n s e : Int) (t : Addr) : (chF n s e t).lookup ("parts" : Str) = none := by
  have h1 : (("parts" : Str) == ("count" : Str)) = false := by decide +kernel
  have h2 : (("parts" : Str) == ("start" : Str)) = false := by decide +kernel
  have h3 : (("parts" : Str) == ("end" : Str)) = false := by decide +kernel
  have h4 : (("parts" : Str) == ("arrows" : Str)) = false := by decide +kernel
  simp [chF, List.lookup, h1, h2, h3, h4]
theorem chDq {K : PySem.W.Frag} {H : Hp} {t ta : Addr} {n s e : Int} {as : List Ar} {ws : List V} (h : SqT K H t [.int n, .ref ta, .int s, .int e]) (h2 : SqT K H ta ws) (h3 : Par (ArT K H) ws as) (ok : ∀ a ∈ as, PyData.strOk a.2.2 = true) : Dq K H 5 (.ref t) (chD n s e as) :=
  .tup h (.cons (.int _) (.cons (.tup h2 (dqAr h3 ok)) (.cons (.int _) (.cons (.int _) .nil))))
theorem eqvAll_len : ∀ (ds es : List PyData), PyData.eqvAll ds es = true → ds.length = es.length
  | [], [], _ => rfl
  | [], e :: es, h => by simp [PyData.eqvAll] at h
  | d :: ds, [], h => by simp [PyData.eqvAll] at h
  | d :: ds, e :: es, h => by
    simp only [PyData.eqvAll, Bool.and_eq_true] at h
    rw [List.length_cons, List.length_cons, eqvAll_len ds es h.2]
theorem chD_ne {n s e : Int} {as : List Ar} (a : Ar) : PyData.eqv (chD n s e as) (chD n s e (as ++ [a])) = false := by
  cases h : PyData.eqv (chD n s e as) (chD n s e (as ++ [a])) with
  | false => rfl
  | true =>
    unfold chD at h
    rw [PyData.eqv] at h
    simp only [PyData.eqvAll, Bool.and_eq_true] at h
    have h2 := h.2.1
    rw [PyData.eqv] at h2
    have := eqvAll_len _ _ h2
    simp at this
def spLaw (K : PySem.W.Frag) : Sp := fun vs H Q _ => ∃ (a : Addr) (ns : List Int), vs = [.ref a] ∧ SqL K H a (ns.map V.int) ∧ ns.length ≤ 63 ∧ ∀ H', Q (.bl true) H'
section
variable {P : Program} {w : World} {K : PySem.W.Frag} {mg : Str → Option Value} {base : Heap} {f : Addr} {fd : FuncData}
theorem sc_Chart_parts : FnScope ["self"] ["self"] (defScope s_Chart_parts) := ⟨rfl, rfl, rfl, by decide +kernel, rfl, by decide +kernel, by decide +kernel⟩
theorem ok_parts (F : FX K "parts" "Chart.parts" s_Chart_parts [] [] f fd) (T : Txt K mg) : FnOk P w K mg base (L2.CX P w) 1 f fd ["self"] (spParts K) := by
  refine F.ok sc_Chart_parts (fun vs H Q E h => ?_) (fun cdv A outer s H vs Q E hr h => ?_)
  · obtain ⟨p, n, s, e, as, rfl, _⟩ := h
    rfl
  · obtain ⟨p, n, s, e, as, rfl, ⟨dx, t, vs, h1, h2, h3⟩, k⟩ := h
    refine ⟨_, PSs.nox ((pss_one (ps_ret (pe_tup (pa_cons (k_fld (K := K) rfl (pv 0)) (pa_cons (k_fld (K := K) rfl (pv 0)) (pa_cons (k_fld (K := K) rfl (pv 0)) (pa_cons (k_fld (K := K) rfl (pv 0)) pa_nil)))))))), ?_⟩
    try dsimp only [cxOf]
    walk_at "go"
    refine a_fld h1 T.o_Chart.cl T.n_Chart_count (lk_count ..) ?_
    walk_at "go"
    refine a_fld h1 T.o_Chart.cl T.n_Chart_arrows (lk_arrows ..) ?_
    walk_at "go"
    refine a_fld h1 T.o_Chart.cl T.n_Chart_start (lk_start ..) ?_
    walk_at "go"
    refine a_fld h1 T.o_Chart.cl T.n_Chart_end (lk_end ..) ?_
    walk_at "go"
    refine a_newT (by show 4 ≤ 100000; decide) fun u H2 nu s2 hu => ?_
    exact k u t vs H2 s2 hu (same_t s2 h2) (h3.mono fun v a h => h.same s2)
theorem sc_Chart_eq : FnScope ["self", "other"] ["self", "other"] (defScope s_Chart_eq) := ⟨rfl, rfl, rfl, by decide +kernel, rfl, by decide +kernel, by decide +kernel⟩
theorem ok_chEq (F : FX K "__eq__" "Chart.__eq__" s_Chart_eq [] [] f fd) (T : Txt K mg) (c_Chart_parts : Met P w K mg base (He.ga K "Chart") "parts" 1 (spParts K)) : FnOk P w K mg base (L2.CX P w) 3 f fd ["self", "other"] (spChEq K) := by
  refine F.ok sc_Chart_eq (fun vs H Q E h => ?_) (fun cdv A outer s H vs Q E hr h => ?_)
  · obtain ⟨p, q, n, s, e, as, rfl, _⟩ := h
    rfl
  · obtain ⟨p, q, n, s, e, as, rfl, hc, ok, k⟩ := h
    refine ⟨_, PSs.nox ((pss_one (ps_ret (pe_and (pe_callB (k_isi (K := K) rfl) (by rfl) T.b_isinstance (by decide +kernel) (pa_cons (pv 1) (pa_cons (pe_gv (v := .ref (He.ga K "Chart")) rfl ⟨_, T.g_Chart, rfl⟩) pa_nil))) (pe_one (pe_cmpR (k_eq (K := K) rfl hr.units) (pe_m0 c_Chart_parts hr (by decide) passL (pv 0)) (pe_m0 c_Chart_parts hr (by decide) passL (pv 1)) (nomark _))))))), ?_⟩
    try dsimp only [cxOf]
    walk_at "go"
    rcases k with ⟨n', s', e', as', hc', ok', k⟩ | ⟨⟨xs, g⟩, k⟩
    · obtain ⟨dx, t, vs, h1, h2, h3⟩ := id hc
      obtain ⟨dy, u, us, g1, g2, g3⟩ := id hc'
      refine a_isi (.own _) (T.o_Chart.ty g1) T.i_Chart ?_
      refine ⟨true, rfl, ?_⟩
      refine a_T rfl ?_
      walk_at "go"
      refine ⟨p, dx, _, rfl, h1, lk_parts .., ?_⟩
      walk_at "go"
      refine ⟨p, n, s, e, as, rfl, hc, fun t1 ta1 ws1 H1 s1 ht1 hta1 pw1 => ?_⟩
      walk_at "go"
      refine ⟨q, dy, _, rfl, s1 _ _ g1, lk_parts .., ?_⟩
      walk_at "go"
      refine ⟨q, n', s', e', as', rfl, hc'.same s1, fun t2 ta2 ws2 H2 s2 ht2 hta2 pw2 => ?_⟩
      walk_at "go"
      exact a_eqW ((chDq (SqT.of ht1) hta1 pw1 ok).same s2) (chDq (SqT.of ht2) hta2 pw2 ok') (k H2 (s1.trans s2))
    · refine a_isi (.own _) (ty_t g) T.it_Chart ?_
      refine ⟨false, rfl, ?_⟩
      exact a_F rfl k
end
theorem a_eqCh {K : PySem.W.Frag} {mg : Str → Option Value} {H : Hp} {o1 o2 : Addr} {n s e n' s' e' : Int} {as as' : List Ar} {Q : VK} {E : XK} (T : Txt K mg) (h1 : ChAt K H o1 n as s e) (ok : ∀ a ∈ as, PyData.strOk a.2.2 = true) (h2 : ChAt K H o2 n' as' s' e') (ok' : ∀ a ∈ as', PyData.strOk a.2.2 = true) (q : ∀ H', Same H H' → Q (.bl (PyData.eqv (chD n s e as) (chD n' s' e' as'))) H') :
    rOwnC K (He.ga K "Chart") (spChEq K) E (.ref o1) (.ref o2) H Q := by
  obtain ⟨dx, t, vs, g1, g2, g3⟩ := id h1
  obtain ⟨dy, u, us, g4, g5, g6⟩ := id h2
  exact ⟨o1, dx, _, _, rfl, g1, T.o_Chart.ty g4, T.nf_Chart, o1, o2, n, s, e, as, rfl, h1, ok, .inl ⟨n', s', e', as', h2, ok', q⟩⟩
theorem a_eqCht {K : PySem.W.Frag} {mg : Str → Option Value} {H : Hp} {o1 o2 : Addr} {n s e : Int} {as : List Ar} {xs : List V} {Q : VK} {E : XK} (T : Txt K mg) (h1 : ChAt K H o1 n as s e) (ok : ∀ a ∈ as, PyData.strOk a.2.2 = true) (h2 : SqT K H o2 xs) (q : Q (.bl false) H) :
    rOwnC K (He.ga K "Chart") (spChEq K) E (.ref o1) (.ref o2) H Q := by
  obtain ⟨dx, t, vs, g1, g2, g3⟩ := id h1
  exact ⟨o1, dx, _, _, rfl, g1, ty_t h2, T.nft_Chart, o1, o2, n, s, e, as, rfl, h1, ok, .inr ⟨⟨xs, h2⟩, q⟩⟩
theorem a_catAny {K : PySem.W.Frag} {H : Hp} {Q : VK} {a b : Addr} {xs ys : List V} (h1 : SqT K H a xs) (h2 : SqT K H b ys) (hl : xs.length + ys.length ≤ 100000) (n2 : ys ≠ []) (q : ∀ p H2, Same H H2 → SqT K H2 p (xs ++ ys) → Q (.ref p) H2) : rAddU K (.ref a) (.ref b) H Q :=
  .inr (.inr ⟨a, b, xs, ys, rfl, rfl, h1, h2, Nat.le_trans hl (by decide), fun z => q b H (Same.refl _) (by rw [z]; exact h2), fun _ z => absurd z n2, fun _ _ p hp => q p _ (same_new hp) (SqT.of upd_same)⟩)
theorem Rch.mono {w1 w2 : Nat → Nat → Prop} (h : ∀ x y, w1 x y → w2 x y) {b x : Nat} (r : Rch w1 b x) : Rch w2 b x := by
  induction r with
  | base => exact .base
  | step _ hw ih => exact .step ih (h _ _ hw)
theorem a_mkCh2 {K : PySem.W.Frag} {H : Hp} {x : Addr} {n s e : Nat} {as : List Ar} {ws : List V} {Q : VK} {E : XK} (h : Seq K H x ws) (pw : Par (ArS K H) ws as) (hn : n ≤ 40) (hf : as.length ≤ 80) (hs : s < n) (he : e < n) (ok : arsOk n as) (way : ∀ x, x < n → onway as s e x) (q : ∀ r H', H r = none → Same H H' → ChAt K H' r n as s e → Q (.ref r) H') :
    rMk (He.ga K "Chart") (spChInit K) E [.int (n : Nat), .ref x, .int (s : Nat), .int (e : Nat)] H Q := by
  intro r dx hr hd ne
  have s1 : Same H (upd (upd H dx (.own r)) r (.ins (He.ga K "Chart") dx [])) := same_mut (same_new hd) hr
  refine ⟨r, x, dx, n, s, e, as, ws, rfl, upd_same, h.same s1, pw.mono fun v a h => h.same s1, by omega, fun a ha => ?_, fun z => by omega, fun _ _ => ⟨fun z => by omega, fun _ _ z => by omega, fun _ _ _ _ => ⟨fun i hi hb => ?_, fun _ => ⟨fun x hx no => ?_, fun _ H' b hc => ⟨rfl, q r H' hr (fun c o e => b c o (ne_of_none e hr) (s1 c o e)) hc⟩⟩⟩⟩⟩
  · obtain ⟨x, y, _, _, _, _, hz⟩ := ok.at_ a ha
    have := fits_size hz
    omega
  · have := ok _ (List.getElem_mem hi)
    rw [this] at hb
    cases hb
  · rw [Int.toNat_natCast, Int.toNat_natCast] at no
    exact absurd (way x (by omega)) no
theorem ChAt.but {K : PySem.W.Frag} {H H1 : Hp} {q p : Addr} {n s e : Int} {as : List Ar} {xs : List V} (h : ChAt K H q n as s e) (b : But p H H1) (hp : H p = some (.lst xs)) : ChAt K H1 q n as s e := by
  obtain ⟨dx, t, vs, h1, h2, h3⟩ := h
  exact ⟨dx, t, vs, b _ _ (ne_of h1 hp (by intro z; cases z)) h1, sqt_but hp b h2, h3.mono fun v a h => h.but b hp (by intro xs z; cases z) (by intro o xs z; cases z)⟩
section
variable {P : Program} {w : World} {K : PySem.W.Frag} {mg : Str → Option Value} {base : Heap} {f : Addr} {fd : FuncData}
theorem sc_law : FnScope ["_law_script", "_law_at", "_law_state_here", "_law_drawn", "_law_count", "_law_arrows", "_law_start", "_law_end", "_law_handed", "_law_arrow", "_law_chart_here", "_law_turn", "_law_places", "_law_bent", "_law_begun", "_law_goal"] ["_law_script"] (defScope s_law) := ⟨rfl, rfl, rfl, by decide +kernel, rfl, by decide +kernel, by decide +kernel⟩
theorem ok_law (F : FX K "law" "law" s_law [] [] f fd) (T : Txt K mg) (c__law_state : Cal P w K mg base "_law_state" 2 spState) (c__law_cell : Cal P w K mg base "_law_cell" 2 (spCell K)) (c__law_draw : Cal P w K mg base "_law_draw" 2 spDraw) (c__law_chart : Cal P w K mg base "_law_chart" 6 (spChart K)) (c__law_caught : Cal P w K mg base "_law_caught" 9 (spCaught K)) (c__law_due : Cal P w K mg base "_law_due" 4 (spDue K)) (c__law_spoiled : Cal P w K mg base "_law_spoiled" 6 (spSpoiled K))
    (c_Chart_init : Mak P w K mg base "Chart" (He.ga K "Chart") 7 (spChInit K)) (c_Chart_eq : Met P w K mg base (He.ga K "Chart") "__eq__" 3 (spChEq K)) : FnOk P w K mg base (L2.CX P w) 11 f fd ["_law_script"] (spLaw K) := by
  refine F.ok sc_law (fun vs H Q E h => ?_) (fun cdv A outer s H vs Q E hr h => ?_)
  · obtain ⟨a, ns, rfl, _⟩ := h
    rfl
  · obtain ⟨sa, zs, rfl, hs, hlen, k⟩ := h
    refine ⟨_, PSs.nox ((pss_cons (ps_for PassesOwn.never rfl (pi_range1 (by rfl) T.b_range (pa_cons (pe_callB (call_max2U rfl) (by rfl) T.b_max (by decide +kernel) (pa_cons pe_int (pa_cons (pe_callB (call_min2U rfl) (by rfl) T.b_min (by decide +kernel) (pa_cons pe_int (pa_cons (pe_callB (k_len (K := K) rfl) (by rfl) T.b_len PySem.boot_len (pa_cons (pv 0) pa_nil)) pa_nil))) pa_nil))) pa_nil)) (pg_name (i := 1) sc_law.nd rfl (Or.inl rfl)) (pss_cons (ps_set (i := 2) sc_law.nd rfl (Or.inl rfl) (pe_f c__law_state hr (by decide) rfl passL (pa_cons (pe_f c__law_cell hr (by decide) rfl passL (pa_cons (pv 0) (pa_cons (pv 1) pa_nil))) pa_nil))) 
      (pss_cons (ps_set (i := 3) sc_law.nd rfl (Or.inl rfl) (pe_f c__law_chart hr (by decide) rfl passL (pa_cons (pv 2) (pa_cons (pe_cmpR (k_eq (K := K) rfl hr.units) (pe_f c__law_draw hr (by decide) rfl passL (pa_cons (pv 2) (pa_cons pe_int pa_nil))) pe_int (nomark _)) pa_nil)))) 
      (pss_cons (ps_asg (pv 3) (k_gtup (K := K) (n := 4) rfl (by rfl) (pgs_cons (pg_name (i := 4) sc_law.nd rfl (Or.inl rfl)) (pgs_cons (pg_name (i := 5) sc_law.nd rfl (Or.inl rfl)) (pgs_cons (pg_name (i := 6) sc_law.nd rfl (Or.inl rfl)) (pgs_cons (pg_name (i := 7) sc_law.nd rfl (Or.inl rfl)) pgs_nil)))))) 
      (pss_cons (ps_setLc (i := 8) (own := [("_law_arrow", 9)]) rfl sc_law.nd rfl rfl (sw_true rfl rfl rfl (by decide +kernel)) (pi_seq (K := K) rfl (pv 5)) (blkOk_by (own := [("_law_arrow", 9)]) (N := ["_law_script", "_law_at", "_law_state_here", "_law_drawn", "_law_count", "_law_arrows", "_law_start", "_law_end", "_law_handed", "_law_arrow", "_law_chart_here", "_law_turn", "_law_places", "_law_bent", "_law_begun", "_law_goal"]) (sc := defScope s_law) (by decide +kernel)) (fun _ _ _ _ _ => by exact (pg_name (i := 9) sc_law.nd rfl (Or.inl rfl))) (fun _ _ _ _ _ => by exact pts_nil) (fun _ _ _ _ _ => by exact (pe_callTy (k_list (K := K) rfl) (by rfl) T.b_list (by decide +kernel) (pa_cons (pv 9) pa_nil)))) 
      (pss_cons (ps_set (i := 10) sc_law.nd rfl (Or.inl rfl) (pe_k c_Chart_init hr (by decide) rfl passL (pa_cons (pv 4) (pa_cons (pv 8) (pa_cons (pv 6) (pa_cons (pv 7) pa_nil)))))) 
      (pss_cons (ps_expr (k_bm (K := K) rfl PySem.F.plainAttrs_list PySem.F.slot_list_append PySem.F.type_list_append mt_append (pv 8) (pa_cons (pe_lst (pa_cons pe_int (pa_cons pe_int (pa_cons pe_str pa_nil)))) pa_nil))) 
      (pss_cons (ps_if (pt_cmpR (k_ne (K := K) rfl hr.units) (pe_tup (pa_cons (k_fld (K := K) rfl (pv 10)) (pa_cons (k_fld (K := K) rfl (pv 10)) (pa_cons (k_fld (K := K) rfl (pv 10)) (pa_cons (k_fld (K := K) rfl (pv 10)) pa_nil))))) (pe_tup (pa_cons (pv 4) (pa_cons (pv 5) (pa_cons (pv 6) (pa_cons (pv 7) pa_nil))))) (nomark _)) (pss_one (ps_ret pe_bl)) pss_nil) 
      (pss_cons (ps_if (PW.pt (pw_or (pt_not (pt_cmpR (op_eqO c_Chart_eq hr (by decide) passL) (pv 10) (pe_k c_Chart_init hr (by decide) rfl passL (pa_cons (pv 4) (pa_cons (pv 5) (pa_cons (pv 6) (pa_cons (pv 7) pa_nil))))) (nomark _))) (pw_or1 (pt_cmpR (op_eqO c_Chart_eq hr (by decide) passL) (pv 10) (pv 3) (nomark _))))) (pss_one (ps_ret pe_bl)) pss_nil) 
      (pss_cons (ps_if (pt_cmpR (op_eqO c_Chart_eq hr (by decide) passL) (pv 10) (pe_k c_Chart_init hr (by decide) rfl passL (pa_cons (pv 4) (pa_cons (pe_op (k_add (K := K) rfl) (pv 5) (pe_tup (pa_cons (pe_tup (pa_cons (pv 6) (pa_cons (pv 7) (pa_cons pe_str pa_nil)))) pa_nil))) (pa_cons (pv 6) (pa_cons (pv 7) pa_nil))))) (nomark _)) (pss_one (ps_ret pe_bl)) pss_nil) (pss_one (ps_for PassesOwn.never rfl (pi_range1 (by rfl) T.b_range (pa_cons pe_int pa_nil)) (pg_name (i := 11) sc_law.nd rfl (Or.inl rfl)) (pss_cons (ps_asg (pe_f c__law_spoiled hr (by decide) rfl passL (pa_cons (pv 2) (pa_cons (pv 3) pa_nil))) (k_gtup (K := K) (n := 4) rfl (by rfl) (pgs_cons (pg_name (i := 12) sc_law.nd rfl (Or.inl rfl)) (pgs_cons (pg_name (i := 13) sc_law.nd rfl (Or.inl rfl)) (pgs_cons (pg_name (i := 14) sc_law.nd rfl (Or.inl rfl)) (pgs_cons (pg_name (i := 15) sc_law.nd rfl (Or.inl rfl)) pgs_nil)))))) (pss_one (ps_if (pt_cmpR (k_ne (K := K) rfl hr.units) (pe_f c__law_caught hr (by decide) rfl passL (pa_cons (pv 12) (pa_cons (pv 13) (pa_cons (pv 14) (pa_cons (pv 15) pa_nil))))) (pe_f c__law_due hr (by decide) rfl passL (pa_cons (pv 12) (pa_cons (pv 13) (pa_cons (pv 14) (pa_cons (pv 15) pa_nil))))) (nomark _)) (pss_one (ps_ret pe_bl)) pss_nil))))))))))))))) (pss_one (ps_ret pe_bl)))), ?_⟩
    try dsimp only [cxOf]
    walk_at "go"
    refine a_lenL hs ?_
    walk_at "go"
    rw [List.length_map]
    obtain ⟨N, eN, N6⟩ : ∃ N : Nat, max (1 : Int) (min 4 (zs.length : Int)) = (N : Int) ∧ N ≤ 6 := ⟨(max (1 : Int) (min 4 (zs.length : Int))).toNat, by omega, by omega⟩
    rw [eN]
    refine ⟨(N : Int), rfl, by omega, by omega, ?_⟩
    refine for_range (n := N) (fun i σ H' => ∃ v1 v2 v3 v4 v5 v6 v7 v8 v9 v10 v11 v12 v13 v14 v15 : Option V, σ = [some (.ref sa), v1, v2, v3, v4, v5, v6, v7, v8, v9, v10, v11, v12, v13, v14, v15] ∧ SqL K H' sa (zs.map V.int))
      ⟨none, none, none, none, none, none, none, none, none, none, none, none, none, none, none, rfl, hs⟩ ?_ ?_
    · rintro i σ H1 hi ⟨v1, v2, v3, v4, v5, v6, v7, v8, v9, v10, v11, v12, v13, v14, v15, rfl, hs1⟩
      have e00 : (0 : Int) + (i : Nat) = (i : Nat) := by omega
      walk_at "go"
      rw [e00]
      refine ⟨sa, zs, i, rfl, hs1, fun c => ?_⟩
      walk_at "go"
      refine ⟨c, rfl, fun p H2 np s2 hp => ?_⟩
      walk_at "go"
      refine ⟨p, 2, 10000, rfl, hp.le (by omega), by omega, by omega, fun r1 H3 q0 q1 b3 hp3 => ?_⟩
      walk_at "go"
      refine ⟨p, _, 9000, rfl, hp3.le (by omega), fun q n s e as H4 nq b4 hp4 hd dr => ?_⟩
      obtain ⟨t, vs, h1, h2, h3⟩ := id hd
      have hf := dr.few
      have hn := dr.n1
      have sok : ∀ a ∈ as, PyData.strOk a.2.2 = true := fun a ha => by
        obtain ⟨x, y, _, _, _, _, hz⟩ := dr.ok.at_ a ha
        exact fits_strOk hz
      have s14 : Same H1 H4 := fun a o ee => b4 a o (ne_of_none ee np) (b3 a o (ne_of_none ee np) (s2 a o ee))
      walk_at "go"
      refine g_gtup h1 rfl ?_
      walk_at "go"
      refine c_sp (K := K) (xs := vs) (P := fun D i v H' => ∀ a, as[i]? = some a → ∃ q', v = V.ref q' ∧ q' ≠ D ∧ H' q' = some (.lst (ArV a))) ⟨?_, ?_⟩ (by rw [h3.1]; omega) ?_ ?_ ?_
      · intro D i v H H' sm h a ea
        obtain ⟨q', e1, e2, e3⟩ := h a ea
        exact ⟨q', e1, e2, sm _ _ e3⟩
      · intro D i v H H' ys hD bt h a ea
        obtain ⟨q', e1, e2, e3⟩ := h a ea
        exact ⟨q', e1, e2, bt _ _ e2 e3⟩
      · intro R r
        walk_at "go"
        exact r _ _ (Same.refl _) (.inr h2)
      · intro D acc j y H' nD hy s' hacc R r
        have hj : j < as.length := by
          rw [← h3.1]
          exact (List.getElem?_eq_some_iff.mp hy).1
        obtain ⟨v, ev, a1, rfl, ha1⟩ := h3.get hj
        rw [hy] at ev
        cases ev
        walk_at "go"
        refine a_list (.inr (same_t s' ha1)) fun l6 H6 nl6 s6 h6 => ?_
        refine r _ _ s6 fun a ea => ?_
        rw [List.getElem?_eq_getElem hj] at ea
        cases ea
        exact ⟨l6, rfl, Ne.symm (ne_of_none hacc nl6), h6⟩
      intro D8 acc H5 nD8 s5 hD8 alen aal
      have pw5 : Par (ArS K H5) acc as := ⟨alen.trans h3.1, fun j v a e1 e2 => by
        obtain ⟨q', rfl, _, hq⟩ := aal j v e1 a e2
        exact ⟨q', rfl, .inl (SqL.of hq)⟩⟩
      walk_at "go"
      refine a_mkCh (.inl (SqL.of hD8)) pw5 dr fun ch H6 nch s6 hch => ?_
      walk_at "go"
      have hD86 := s6 _ _ hD8
      refine a_ty hD86 ?_
      walk_at "go"
      refine a_newL (by show 3 ≤ 100000; decide) fun l7 H7 nl7 s7 h7 => ?_
      walk_at "go"
      refine a_app (s7 _ _ hD86) (by have := h3.1; exact szl (by omega)) fun H8 b8 h8 => ?_
      have hch8 : ChAt K H8 ch n as s e := (hch.same s7).but b8 (s7 _ _ hD86)
      have s48 : Same H4 H8 := fun a o ee => b8 a o (ne_of_none ee nD8) (s7 a o (s6 a o (s5 a o ee)))
      have hd8 := hd.same s48
      obtain ⟨dx8, t8, vs8, g1, g2, g3⟩ := id hch8
      walk_at "go"
      refine a_fld g1 T.o_Chart.cl T.n_Chart_count (lk_count ..) ?_
      walk_at "go"
      refine a_fld g1 T.o_Chart.cl T.n_Chart_arrows (lk_arrows ..) ?_
      walk_at "go"
      refine a_fld g1 T.o_Chart.cl T.n_Chart_start (lk_start ..) ?_
      walk_at "go"
      refine a_fld g1 T.o_Chart.cl T.n_Chart_end (lk_end ..) ?_
      walk_at "go"
      refine a_newT (by show 4 ≤ 100000; decide) fun t9 H9 nt9 s9 h9 => ?_
      walk_at "go"
      refine a_newT (by show 4 ≤ 100000; decide) fun t10 H10 nt10 s10 h10 => ?_
      have s810 := s9.trans s10
      have s410 := s48.trans s810
      have d9 : Dq K H10 5 (.ref t9) (chD n s e as) := chDq (SqT.of (s10 _ _ h9)) (same_t s810 g2) (g3.mono fun v a h => h.same s810) sok
      have d10 : Dq K H10 5 (.ref t10) (chD n s e as) := chDq (SqT.of h10) (same_t s410 h2) (h3.mono fun v a h => h.same s410) sok
      refine a_neQ d9 d10 ?_
      walk_at "go"
      refine a_F rfl ?_
      walk_at "go"
      refine a_mkCh (.inr (same_t s410 h2)) (h3.mono fun v a h => (h.same s410).s) dr fun c2 H11 nc2 s11 hc2 => ?_
      have hch11 := hch8.same (s810.trans s11)
      refine a_eqCh T hch11 sok hc2 sok fun H12 s12 => ?_
      rw [SeqAt.eqv_refl _ d9.sm.lay]
      walk_at "go"
      refine a_F rfl ?_
      have s412 := s410.trans (s11.trans s12)
      have hch12 := hch11.same s12
      walk_at "go"
      refine a_eqCht T hch12 sok (same_t s412 h1) ?_
      walk_at "go"
      refine a_F rfl ?_
      walk_at "go"
      refine a_newT (by show 3 ≤ 100000; decide) fun t13 H13 nt13 s13 h13 => ?_
      walk_at "go"
      refine a_newT (by show 1 ≤ 100000; decide) fun t14 H14 nt14 s14' h14 => ?_
      have s1214 := s13.trans s14'
      refine a_catAny (same_t (s412.trans s1214) h2) (SqT.of h14) (by have := h3.1; simp; omega) (by simp) fun t15 H15 s15 h15 => ?_
      have s415 := s412.trans (s1214.trans s15)
      have an : ArT K H15 (.ref t13) ((s : Int), (e : Int), ("q" : Str)) := ⟨t13, rfl, SqT.of (s15 _ _ (s14' _ _ h13))⟩
      have ok2 : arsOk n (as ++ [((s : Int), (e : Int), ("q" : Str))]) := fun a ha => by
        rcases List.mem_append.mp ha with ha | ha
        · exact dr.ok a ha
        · rw [List.mem_singleton.mp ha]
          have hfq : fitsN "q" = true := by decide +kernel
          have h1 := dr.sl
          have h2 := dr.el
          unfold badAr
          simp only [hfq, Bool.not_true, Bool.or_false, Bool.or_eq_false_iff, decide_eq_false_iff_not]
          omega
      have way2 : ∀ x, x < n → onway (as ++ [((s : Int), (e : Int), ("q" : Str))]) s e x := fun x hx => ⟨(dr.way x hx).1.mono fun a b ⟨c, hc, z⟩ => ⟨c, List.mem_append_left _ hc, z⟩, (dr.way x hx).2.mono fun a b ⟨c, hc, z⟩ => ⟨c, List.mem_append_left _ hc, z⟩⟩
      walk_at "go"
      refine a_mkCh2 (as := as ++ [((s : Int), (e : Int), ("q" : Str))]) (.inr h15) (((h3.mono fun v a h => h.same s415).snoc an).mono fun v a h => h.s) (by omega) (by simp; omega) dr.sl dr.el ok2 way2 fun c3 H16 nc3 s16 hc3 => ?_
      have hch16 := hch12.same (s1214.trans (s15.trans s16))
      refine a_eqCh T hch16 sok hc3 (fun a ha => ?_) fun H17 s17 => ?_
      · rcases List.mem_append.mp ha with ha | ha
        · exact sok a ha
        · rw [List.mem_singleton.mp ha]
          show PyData.strOk ("q" : Str) = true
          decide +kernel
      rw [chD_ne]
      walk_at "go"
      refine a_F rfl ?_
      have s417 := s415.trans (s16.trans s17)
      walk_at "go"
      refine ⟨4, rfl, by decide, by decide, ?_⟩
      refine for_range (n := 4) (fun j σ H' => ∃ v9 v11 v12 v13 v14 v15 : Option V, σ = [some (.ref sa), some (.int (i : Nat)), some (.ref p), some (.ref q), some (.int (n : Nat)), some (.ref t), some (.int (s : Nat)), some (.int (e : Nat)), some (.ref D8), v9, some (.ref ch), v11, v12, v13, v14, v15] ∧ Same H1 H' ∧ Pen H' p (9000 - 100 * j) ∧ DrAt K H' q n s e as)
        ⟨v9, v11, v12, v13, v14, v15, rfl, s14.trans s417, (hp4.same s417).le (by omega), hd.same s417⟩ ?_ ?_
      · rintro j σ H18 hj ⟨v9, v11, v12, v13, v14, v15, rfl, s18, hp18, hd18⟩
        walk_at "go"
        refine ⟨p, q, n, s, e, as, 8970 - 100 * j, rfl, hd18, dr, hp18.le (by omega), fun ts x n' s' e' as' ws H19 b19 hp19 hts hx pw19 spo => ?_⟩
        obtain ⟨px18, hpx18⟩ := hp18.at_
        have hd19 := hd18.but b19 hpx18
        have s19 : Same H1 H19 := fun a o ee => b19 a o (ne_of_none ee np) (s18 a o ee)
        have few' := spo.few
        walk_at "go"
        refine g_gtup hts rfl ?_
        walk_at "go"
        refine ⟨n', s', e', x, as', ws, rfl, .inl (SqL.of hx), pw19.mono fun v a h => h.s, by omega, fun a ha => (spo.nms a ha).1, fun t20 H20 s20 d20 => ?_⟩
        walk_at "go"
        refine ⟨n', s', e', x, as', ws, rfl, SqL.of (s20 _ _ hx), pw19.mono fun v a h => h.same s20, by omega, spo.nms, fun t21 H21 s21 d21 => ?_⟩
        refine a_neQ (d20.same s21) d21 ?_
        walk_at "go"
        refine a_F rfl ?_
        walk_at "go"
        have s1921 := s20.trans s21
        exact ⟨_, _, _, _, _, _, rfl, s19.trans s1921, (hp19.same s1921).le (by omega), hd19.same s1921⟩
      · rintro σ H18 ⟨v9, v11, v12, v13, v14, v15, rfl, s18, hp18, hd18⟩
        exact ⟨_, _, _, _, _, _, _, _, _, _, _, _, _, _, _, rfl, same_l s18 hs1⟩
    · rintro σ H1 ⟨v1, v2, v3, v4, v5, v6, v7, v8, v9, v10, v11, v12, v13, v14, v15, rfl, hs1⟩
      walk_at "go"
      exact k _
end

def dfs : List DX := [
  ⟨fun K => He.ma K (He.ga K "NoPlace") "__init__", "__init__", "NoPlace.__init__", s_NoPlace_init, [], []⟩,
  ⟨fun K => He.ma K (He.ga K "BadArrow") "__init__", "__init__", "BadArrow.__init__", s_BadArrow_init, [], []⟩,
  ⟨fun K => He.ma K (He.ga K "LoosePlace") "__init__", "__init__", "LoosePlace.__init__", s_LoosePlace_init, [], []⟩,
  ⟨fun K => He.ga K "fits_name", "fits_name", "fits_name", s_fits_name, [], []⟩,
  ⟨fun K => He.ga K "spread", "spread", "spread", s_spread, [], []⟩,
  ⟨fun K => He.ga K "distinct", "distinct", "distinct", s_distinct, [], []⟩,
  ⟨fun K => He.ma K (He.ga K "Chart") "check_arrows", "check_arrows", "Chart.check_arrows", s_Chart_check_arrows, [], []⟩,
  ⟨fun K => He.ma K (He.ga K "Chart") "check_places", "check_places", "Chart.check_places", s_Chart_check_places, [], []⟩,
  ⟨fun K => He.ma K (He.ga K "Chart") "__init__", "__init__", "Chart.__init__", s_Chart_init, [], []⟩,
  ⟨fun K => He.ma K (He.ga K "Chart") "parts", "parts", "Chart.parts", s_Chart_parts, [], []⟩,
  ⟨fun K => He.ma K (He.ga K "Chart") "__eq__", "__eq__", "Chart.__eq__", s_Chart_eq, [], []⟩,
  ⟨fun K => He.ga K "_law_state", "_law_state", "_law_state", s__law_state, [], []⟩,
  ⟨fun K => He.ga K "_law_draw", "_law_draw", "_law_draw", s__law_draw, [], []⟩,
  ⟨fun K => He.ga K "_law_pick", "_law_pick", "_law_pick", s__law_pick, [], []⟩,
  ⟨fun K => He.ga K "_law_cell", "_law_cell", "_law_cell", s__law_cell, [], []⟩,
  ⟨fun K => He.ga K "_law_mixed", "_law_mixed", "_law_mixed", s__law_mixed, [], []⟩,
  ⟨fun K => He.ga K "_law_chart", "_law_chart", "_law_chart", s__law_chart, [], []⟩,
  ⟨fun K => He.ga K "_law_caught", "_law_caught", "_law_caught", s__law_caught, [], []⟩,
  ⟨fun K => He.ga K "_law_named", "_law_named", "_law_named", s__law_named, [], []⟩,
  ⟨fun K => He.ga K "_law_reached", "_law_reached", "_law_reached", s__law_reached, [], []⟩,
  ⟨fun K => He.ga K "_law_due", "_law_due", "_law_due", s__law_due, [], []⟩,
  ⟨fun K => He.ga K "_law_spoiled", "_law_spoiled", "_law_spoiled", s__law_spoiled, [], []⟩,
  ⟨fun K => He.ga K "law", "law", "law", s_law, [], []⟩]
def others : List Str := (["_wall", "TriedError", "NoPlace", "BadArrow", "LoosePlace", "TooGreat", "LETTERS", "fits_name", "MOST_PLACES", "MOST_ARROWS", "spread", "distinct", "Chart", "_law_state", "_law_draw", "_law_pick", "_law_cell", "_law_mixed", "_law_chart", "_law_onward", "_law_walk", "_law_caught", "_law_named", "_law_reached", "_law_due", "_law_spoiled"] : List Str)
abbrev R : PySem.W.OpenRow := PySem.W.OpenLaw.row PySem.Challenge.rw_triedtells_k61_charts_kept_and_refused
abbrev hk : PySem.W.Hook := hookX 5 fbs dfs
def ob (s : PySem.W.SharedT) : SeenX := seenG 5 fbs dfs (HandSHeadRun.getT s)
theorem ob_eq (s : PySem.W.SharedT) : ob s = hk.obs s.abs := seenG_eq (HandSHeadRun.getT_eq s)
set_option maxHeartbeats 0 in
theorem run (w : World) : HandSHeadRun.RunEq R (PySem.W.view R.prog [30]) hk ob 6000 others w := by
  intro os
  kernel_rfl
theorem whole {P : Program} {w : World} {K : PySem.W.Frag} {h : Heap} {mg : Str → Option Value} {f : Addr} (X : K.In h) (G : h.Ns mainGlobals mg) (hfa : mg ("law" : Str) = some (.ref f)) (c : Tells fbs dfs K) :
    ∃ fd : FuncData, (∀ (s : Shared) (v : Value), BindsTo s fd ⟨[v], []⟩ [("_law_script", v)]) ∧ ∀ base : Heap, K.In base → base.Ns mainGlobals mg → FnOk P w K mg base CX0 11 f fd ["_law_script"] (spLaw K) := by
  have T : Txt K mg := txt_of X G ⟨c.fb⟩
  obtain ⟨d0, F0⟩ := c.fx 0 rfl
  obtain ⟨d1, F1⟩ := c.fx 1 rfl
  obtain ⟨d2, F2⟩ := c.fx 2 rfl
  obtain ⟨d3, F3⟩ := c.fx 3 rfl
  obtain ⟨d4, F4⟩ := c.fx 4 rfl
  obtain ⟨d5, F5⟩ := c.fx 5 rfl
  obtain ⟨d6, F6⟩ := c.fx 6 rfl
  obtain ⟨d7, F7⟩ := c.fx 7 rfl
  obtain ⟨d8, F8⟩ := c.fx 8 rfl
  obtain ⟨d9, F9⟩ := c.fx 9 rfl
  obtain ⟨d10, F10⟩ := c.fx 10 rfl
  obtain ⟨d11, F11⟩ := c.fx 11 rfl
  obtain ⟨d12, F12⟩ := c.fx 12 rfl
  obtain ⟨d13, F13⟩ := c.fx 13 rfl
  obtain ⟨d14, F14⟩ := c.fx 14 rfl
  obtain ⟨d15, F15⟩ := c.fx 15 rfl
  obtain ⟨d16, F16⟩ := c.fx 16 rfl
  obtain ⟨d17, F17⟩ := c.fx 17 rfl
  obtain ⟨d18, F18⟩ := c.fx 18 rfl
  obtain ⟨d19, F19⟩ := c.fx 19 rfl
  obtain ⟨d20, F20⟩ := c.fx 20 rfl
  obtain ⟨d21, F21⟩ := c.fx 21 rfl
  obtain ⟨d22, F22⟩ := c.fx 22 rfl
  have e := hfa.symm.trans T.g_law
  cases e
  refine ⟨d22, fun s v => FunD.bindsA (ps := ["_law_script"]) F22 (fun _ _ _ _ _ _ us hl => match us, hl with | [_], _ => rfl) s [v] rfl, fun base _ _ => cx0_of ?_ fun vs H Q E z => z⟩
  have c_NoPlace := rai_of (P := P) (w := w) (base := base) F0 T.g_NoPlace T.x_NoPlace T.xi_NoPlace T.xt_NoPlace (ok_NoPlace F0 T) (fun _ _ _ _ _ _ us hl => match us, hl with | [_, _], _ => rfl)
  have c_BadArrow := rai_of (P := P) (w := w) (base := base) F1 T.g_BadArrow T.x_BadArrow T.xi_BadArrow T.xt_BadArrow (ok_BadArrow F1 T) (fun _ _ _ _ _ _ us hl => match us, hl with | [_, _], _ => rfl)
  have c_LoosePlace := rai_of (P := P) (w := w) (base := base) F2 T.g_LoosePlace T.x_LoosePlace T.xi_LoosePlace T.xt_LoosePlace (ok_LoosePlace F2 T) (fun _ _ _ _ _ _ us hl => match us, hl with | [_, _], _ => rfl)
  have c_fits_name := cal_of (P := P) (w := w) (base := base) F3 T.g_fits_name (ok_fits F3 T) (fun _ _ _ _ _ _ us hl => match us, hl with | [_], _ => rfl)
  have c_spread := cal_of (P := P) (w := w) (base := base) F4 T.g_spread (ok_spread F4 T) (fun _ _ _ _ _ _ us hl => match us, hl with | [_, _], _ => rfl)
  have c_distinct := cal_of (P := P) (w := w) (base := base) F5 T.g_distinct (ok_dist F5 T) (fun _ _ _ _ _ _ us hl => match us, hl with | [_], _ => rfl)
  have c_Chart_check_arrows := met_of (P := P) (w := w) (base := base) F6 T.o_Chart.cl T.m_Chart_check_arrows (ok_chkA F6 T c_fits_name c_BadArrow) (fun _ _ _ _ _ _ us hl => match us, hl with | [_], _ => rfl)
  have c_Chart_check_places := met_of (P := P) (w := w) (base := base) F7 T.o_Chart.cl T.m_Chart_check_places (ok_chkP F7 T c_distinct c_spread c_LoosePlace) (fun _ _ _ _ _ _ us hl => match us, hl with | [_], _ => rfl)
  have c_Chart_init := mak_of (P := P) (w := w) (base := base) F8 T.g_Chart T.mk_Chart (ok_chI F8 T c_NoPlace c_Chart_check_arrows c_Chart_check_places) (fun _ _ _ _ _ _ us hl => match us, hl with | [_, _, _, _, _], _ => rfl)
  have c_Chart_parts := met_of (P := P) (w := w) (base := base) F9 T.o_Chart.cl T.m_Chart_parts (ok_parts F9 T) (fun _ _ _ _ _ _ us hl => match us, hl with | [_], _ => rfl)
  have c_Chart_eq := met_of (P := P) (w := w) (base := base) F10 T.o_Chart.cl T.m_Chart_eq (ok_chEq F10 T c_Chart_parts) (fun _ _ _ _ _ _ us hl => match us, hl with | [_, _], _ => rfl)
  have c__law_state := cal_of (P := P) (w := w) (base := base) F11 T.g__law_state (ok_state F11 T) (fun _ _ _ _ _ _ us hl => match us, hl with | [_], _ => rfl)
  have c__law_draw := cal_of (P := P) (w := w) (base := base) F12 T.g__law_draw (ok_draw F12 T) (fun _ _ _ _ _ _ us hl => match us, hl with | [_, _], _ => rfl)
  have c__law_pick := cal_of (P := P) (w := w) (base := base) F13 T.g__law_pick (ok_pick F13 T c__law_draw) (fun _ _ _ _ _ _ us hl => match us, hl with | [_, _], _ => rfl)
  have c__law_cell := cal_of (P := P) (w := w) (base := base) F14 T.g__law_cell (ok_cell F14 T) (fun _ _ _ _ _ _ us hl => match us, hl with | [_, _], _ => rfl)
  have c__law_mixed := cal_of (P := P) (w := w) (base := base) F15 T.g__law_mixed (ok_mixed F15 T c__law_draw) (fun _ _ _ _ _ _ us hl => match us, hl with | [_, _], _ => rfl)
  have c__law_chart := cal_of (P := P) (w := w) (base := base) F16 T.g__law_chart (ok_chart F16 T c__law_draw c__law_pick c__law_mixed) (fun _ _ _ _ _ _ us hl => match us, hl with | [_, _], _ => rfl)
  have c__law_caught := cal_of (P := P) (w := w) (base := base) F17 T.g__law_caught (ok_caught F17 T c_Chart_init) (fun _ _ _ _ _ _ us hl => match us, hl with | [_, _, _, _], _ => rfl)
  have c__law_named := cal_of (P := P) (w := w) (base := base) F18 T.g__law_named (ok_named F18 T) (fun _ _ _ _ _ _ us hl => match us, hl with | [_], _ => rfl)
  have c__law_reached := cal_of (P := P) (w := w) (base := base) F19 T.g__law_reached (ok_reached F19 T) (fun _ _ _ _ _ _ us hl => match us, hl with | [_, _], _ => rfl)
  have c__law_due := cal_of (P := P) (w := w) (base := base) F20 T.g__law_due (ok_due F20 T c__law_named c__law_reached) (fun _ _ _ _ _ _ us hl => match us, hl with | [_, _, _, _], _ => rfl)
  have c__law_spoiled := cal_of (P := P) (w := w) (base := base) F21 T.g__law_spoiled (ok_spoiled F21 T c__law_draw c__law_pick) (fun _ _ _ _ _ _ us hl => match us, hl with | [_, _], _ => rfl)
  exact ok_law F22 T c__law_state c__law_cell c__law_draw c__law_chart c__law_caught c__law_due c__law_spoiled c_Chart_init c_Chart_eq

end TT
open PySem PySem.W PySem.Calls PyProof.Rows
set_option maxRecDepth 100000 in
set_option maxHeartbeats 0 in
theorem PySem.Challenge.cw_triedtells_k61_charts_kept_and_refused_holds : PySem.Challenge.rw_triedtells_k61_charts_kept_and_refused.Holds := by
  w_on; o_law
  refine HandSHeadRun.head_any (r := OpenLaw.row PySem.Challenge.rw_triedtells_k61_charts_kept_and_refused) (q := view (OpenLaw.row PySem.Challenge.rw_triedtells_k61_charts_kept_and_refused).prog [30])
    (H := TT.hk) (ob := TT.ob) (M := 6000) (loose := TT.others) (d := HandSHeadRun.topDef (OpenLaw.row PySem.Challenge.rw_triedtells_k61_charts_kept_and_refused).prog 30) (kwd := []) TT.ob_eq
    (by kernel_rfl) (fun s => by kernel_rfl) TT.run (by kernel_rfl) (by kernel_rfl) (by kernel_rfl) (by rfl) (by first | assumption | decide +kernel) (by decide +kernel) ⟨rfl, rfl, rfl, rfl, rfl, by decide +kernel⟩ ?hw ?hc
  case hw => w_witness2
  case hc =>
    refine L2.walk_ofE (l := PySem.Challenge.rw_triedtells_k61_charts_kept_and_refused) (n := 63) (k := 11) (x := "_law_script") (CX := L2.CX0) rfl (by decide) (by kernel_rfl) ⟨rfl, by decide, by decide⟩ ?F (fun _ _ _ _ z => z)
    intro w mg fa h Y G hmg0
    obtain ⟨K, KX, c⟩ := Y
    have hmg : mg ("law" : PySem.Str) = some (.ref fa) := by
      have e : (HandSHeadRun.topDef (OpenLaw.row PySem.Challenge.rw_triedtells_k61_charts_kept_and_refused).prog 30).name = ("law" : PySem.Str) := by kernel_rfl
      rw [← e]
      exact hmg0
    obtain ⟨fd, hb, hF⟩ := TT.whole (P := (PySem.Challenge.rw_triedtells_k61_charts_kept_and_refused).prog) (w := w) KX G hmg c
    exact ⟨K, fd, TT.spLaw K, KX, hb, fun H a ns hl _ hS => ⟨a, ns, rfl, hS, hl, fun _ => rfl⟩, hF⟩
