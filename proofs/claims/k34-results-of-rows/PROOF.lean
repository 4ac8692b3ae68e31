import PyProof.Rows.All
import Wide.All
import OpenK.AllK
import Wide.FinOn
import KE.KStateDown
import KE.KOpsOwn
import KE.GoesMore
import KE.GoesEnum
import HandS.ForMost
import HandS.ForExc
import HandS.ForSpec
import HandS.More
import HandS.Conv
import HandS.Zip
import HandS.Walk
import HandS.IsInst
import HandS.Flow
import HandS.Style
import HandS.Defaults
import HandS.ExcInit
import HandS.ExcField
import HandS.ExcIs
import HandS.TryMany
import HandS.Codes
import HandS.Star
import HandS.ClsMeth
import HandS.OwnEq
import HandS.SlotsOwn
import HandS.Wide
import HandS.Sort
import HandS.SortKw
import HandS.SortInts
import HandS.Deep
import HandS.DictComp
import HandS.ListItems
import HandS.TupLe
import HandS.TupAny
import HandS.TupMul
import HandS.DictTup
import HandS.CallSlots
import HandS.EndBits
import HandS.Head0
import HandS.Head1
import HandS.Head2
import HandS.HeadEnd
import HandS.HeadHook1
import HandS.HeadHook2
import HandS.HeadNt
import KE.KExcIs
import PySem.Challenge.RW_triedtells_k34_whole_results_of_rows
set_option Elab.async false
set_option linter.all false
set_option maxRecDepth 100000
set_option maxHeartbeats 4000000
namespace TT
open PySem PySem.Spec PyProof.Rows L2

/-! ### the head: defs by addresses, facts by one Bool -/
structure DX where
  ad : PySem.W.Frag → Addr
  name : Str
  qual : Str
  st : Stmt
  dfl : List He.Dv := []
  kwd : List (Str × He.Dv) := []

def fnAt (K : PySem.W.Frag) (f : Addr) : He.FnW :=
  match K.lookup f with
  | some ⟨_, _, .func fd, _⟩ => some (fd.name, fd.qualname, fd.params, fd.body, fd.scope, fd.globals, fd.closure, fd.builtins)
  | _ => none

def fnGood (K : PySem.W.Frag) (f : Addr) (q : Str) (ds : List V) (ks : List (Str × V)) : Bool :=
  PySem.W.keepIn K (.ref f) &&
  match K.lookup f with
  | some ⟨_, _, .func fd, _⟩ => PySem.W.codeIn K fd.code q && He.dflB K fd.defaults ds && He.kwdB K fd.kwdefaults ks
  | _ => false

def DX.dvs (K : PySem.W.Frag) (d : DX) : List V := d.dfl.map fun z => z.v K
def DX.kws (K : PySem.W.Frag) (d : DX) : List (Str × V) := d.kwd.map fun z => (z.1, z.2.v K)
def DX.good (K : PySem.W.Frag) (d : DX) : Bool := fnGood K (d.ad K) d.qual (d.dvs K) (d.kws K)
def DX.want (d : DX) : He.FnW :=
  some (d.name, d.qual, defArgs d.st, .stmts (defBody d.st), defScope d.st, mainGlobals, [], builtinsNs)

abbrev FX (K : PySem.W.Frag) (x q : Str) (st : Stmt) (ds : List V) (ks : List (Str × V)) (f : Addr) (fd : FuncData) : Prop :=
  FunD K x q (defArgs st) (defBody st) (defScope st) ds ks f fd

theorem fx_of {K : PySem.W.Frag} {f : Addr} {x q : Str} {st : Stmt} {ds : List V} {ks : List (Str × V)}
    (e : fnAt K f = some (x, q, defArgs st, .stmts (defBody st), defScope st, mainGlobals, [], builtinsNs))
    (g : fnGood K f q ds ks = true) : ∃ fd, FX K x q st ds ks f fd := by
  unfold fnGood at g
  rw [Bool.and_eq_true] at g
  obtain ⟨kp, g⟩ := g
  unfold fnAt at e
  rcases hk : K.lookup f with _ | ⟨oc, od, dt, sl⟩
  · simp [hk] at g
  · rw [hk] at e g
    cases dt <;> try (simp at g; done)
    rename_i fd
    simp only [Bool.and_eq_true] at g
    obtain ⟨⟨g1, g2⟩, g3⟩ := g
    have e' := Option.some.inj e
    obtain ⟨a1, a2, a3, a4, a5, a6, a7, a8, a9, a10, a11, a12, a13, a14, a15⟩ := fd
    simp only [Prod.mk.injEq] at e'
    obtain ⟨h1, h2, h3, h4, h5, h6, h7, h8⟩ := e'
    subst h1 h2 h3 h4 h5 h6 h7 h8
    exact ⟨_, ⟨oc, od, a8, a9, a10, a11, a12, a13, a14, sl, rfl, hk, g1, He.dflB_ok g2, He.kwdB_ok g3⟩, kp⟩

abbrev SeenX : Type := Bool × List He.FnW
def seenX (fb : PySem.W.Frag → Bool) (fn : List DX) (K : PySem.W.Frag) : SeenX :=
  (fb K && fn.all (fun d => d.good K), fn.map fun d => fnAt K (d.ad K))
def wantX (fn : List DX) : SeenX := (true, fn.map DX.want)
def seenG (n : Nat) (fb : PySem.W.Frag → Bool) (fn : List DX) (g : Addr → Option Obj) : SeenX := seenX fb fn (He.frG g (cStatics :: He.asD g n))
/-- what the head's run tells of the written part -/
def Tells (fb : PySem.W.Frag → Bool) (fn : List DX) (K : PySem.W.Frag) : Prop := seenX fb fn K = wantX fn
def hookX (n : Nat) (fb : PySem.W.Frag → Bool) (fn : List DX) : PySem.W.Hook where
  α := SeenX
  obs := fun s => seenG n fb fn s.heap.get?
  val := fun _ => wantX fn
  says := fun _ h => ∃ K : PySem.W.Frag, K.In h ∧ Tells fb fn K
  of := fun _ _ e => ⟨_, He.frG_in, e⟩
  keeps := fun _ _ _ ⟨K, hK, c⟩ k => ⟨K, hK.keeps k, c⟩
theorem seenG_eq {n : Nat} {fb : PySem.W.Frag → Bool} {fn : List DX} {g : Addr → Option Obj} {s : Shared} (h : ∀ a, g a = s.heap.get? a) :
    seenG n fb fn g = (hookX n fb fn).obs s := by
  have e : g = s.heap.get? := funext h
  subst e
  rfl
theorem Tells.fb {fb : PySem.W.Frag → Bool} {fn : List DX} {K : PySem.W.Frag} (c : Tells fb fn K) : fb K = true := by
  have z : (fb K && fn.all (fun d => d.good K)) = true := congrArg Prod.fst c
  rw [Bool.and_eq_true] at z
  exact z.1
theorem Tells.fx {fb : PySem.W.Frag → Bool} {fn : List DX} {K : PySem.W.Frag} (c : Tells fb fn K) (i : Nat) {d : DX} (h : fn[i]? = some d) :
    ∃ fd, FX K d.name d.qual d.st (d.dvs K) (d.kws K) (d.ad K) fd := by
  have z : (fb K && fn.all (fun d => d.good K)) = true := congrArg Prod.fst c
  rw [Bool.and_eq_true] at z
  have y : fn.map (fun d => fnAt K (d.ad K)) = fn.map DX.want := congrArg Prod.snd c
  have y2 : (fn.map (fun d => fnAt K (d.ad K)))[i]? = (fn.map DX.want)[i]? := by rw [y]
  rw [List.getElem?_map, List.getElem?_map, h] at y2
  exact fx_of (Option.some.inj y2) (List.all_eq_true.mp z.2 d (List.mem_of_getElem? h))
end TT

set_option Elab.async false
set_option linter.all false
set_option maxRecDepth 100000
set_option maxHeartbeats 4000000
namespace TT
open PySem PySem.Spec PyProof.Rows L2

/-! ### heaps that grow -/
theorem same_new {H : Hp} {p : Addr} {o : HO} (h : H p = none) : Same H (upd H p o) := fun a u e => by
  rw [upd_ne (ne_of_none e h)]
  exact e
/-- an object that was not there may change -/
theorem same_mut {H H1 : Hp} {p : Addr} {o : HO} (s : Same H H1) (h : H p = none) : Same H (upd H1 p o) := fun a u e => by
  rw [upd_ne (ne_of_none e h)]
  exact s a u e
theorem same_t {K : PySem.W.Frag} {H H1 : Hp} {a : Addr} {xs : List V} (s : Same H H1) (h : SqT K H a xs) : SqT K H1 a xs := h.ext s
theorem same_l {K : PySem.W.Frag} {H H1 : Hp} {a : Addr} {xs : List V} (s : Same H H1) (h : SqL K H a xs) : SqL K H1 a xs := h.ext s
mutual
theorem same_d {K : PySem.W.Frag} {H H1 : Hp} (s : Same H H1) : ∀ {v : V} (d : PyData), Dp K H v d → Dp K H1 v d
  | _, .none, h => by cases h; exact .non
  | _, .bool b, h => by cases h; exact .bl b
  | _, .int i, h => by cases h; exact .int i
  | _, .str x, h => by cases h; exact .str x
  | _, .list ds, h => by
    cases h with
    | lst a b => exact .lst (same_l s a) (same_ds s ds b)
  | _, .tuple ds, h => by
    cases h with
    | tup a b => exact .tup (same_t s a) (same_ds s ds b)
  | _, .dict _, h => by cases h
theorem same_ds {K : PySem.W.Frag} {H H1 : Hp} (s : Same H H1) : ∀ {vs : List V} (ds : List PyData), DpAll K H vs ds → DpAll K H1 vs ds
  | _, [], h => by cases h; exact .nil
  | _, d :: ds, h => by
    cases h with
    | cons a b => exact .cons (same_d s d a) (same_ds s ds b)
end
/-- all but p stands -/
def But (p : Addr) (H H1 : Hp) : Prop := ∀ a o, a ≠ p → H a = some o → H1 a = some o
theorem But.refl (p : Addr) (H : Hp) : But p H H := fun _ _ _ h => h
theorem But.trans {p : Addr} {H H1 H2 : Hp} (x : But p H H1) (y : But p H1 H2) : But p H H2 := fun a o n h => y a o n (x a o n h)
theorem But.of {p : Addr} {H H1 : Hp} (s : Same H H1) : But p H H1 := fun a o _ h => s a o h
theorem But.upd {p : Addr} {H : Hp} {o : HO} : But p H (upd H p o) := fun a u n h => by rw [upd_ne n]; exact h
/-- the part without p -/
def off (H : Hp) (p : Addr) : Hp := fun a => if a = p then none else H a
theorem off_ne {H : Hp} {p a : Addr} (h : a ≠ p) : off H p a = H a := if_neg h
theorem off_at {H : Hp} {p : Addr} : off H p p = none := if_pos rfl
theorem off_sub {H : Hp} {p : Addr} : Same (off H p) H := fun a o h => by
  by_cases e : a = p
  · rw [e, off_at] at h; cases h
  · rw [off_ne e] at h; exact h
theorem But.off {p : Addr} {H H1 : Hp} (x : But p H H1) : Same (off H p) (off H1 p) := fun a o h => by
  by_cases e : a = p
  · rw [e, off_at] at h; cases h
  · rw [off_ne e] at h ⊢
    exact x a o e h
theorem off_of {p a : Addr} {H : Hp} {o : HO} (n : a ≠ p) (h : H a = some o) : TT.off H p a = some o := by rw [off_ne n]; exact h

/-! ### defs by their names, methods, makers -/
structure Cal (P : Program) (w : World) (K : PySem.W.Frag) (mg : Str → Option Value) (base : Heap) (x : Str) (k : Nat) (sp : Sp) : Prop where
  ex : ∃ f : Addr, mg x = some (.ref f) ∧ PySem.W.keepIn K (.ref f) = true ∧ FnR P w K mg base (L2.CX P w) k f sp
structure Met (P : Program) (w : World) (K : PySem.W.Frag) (mg : Str → Option Value) (base : Heap) (C : Addr) (m : Str) (k : Nat) (sp : Sp) : Prop where
  cl : Cls K C
  ex : ∃ f : Addr, Meth K C m f ∧ FnR P w K mg base (L2.CX P w) k f sp
structure Mak (P : Program) (w : World) (K : PySem.W.Frag) (mg : Str → Option Value) (base : Heap) (x : Str) (C : Addr) (k : Nat) (sp : Sp) : Prop where
  at_ : mg x = some (.ref C)
  ex : ∃ f : Addr, Mk K C f ∧ FnR P w K mg base (L2.CX P w) k f sp
/-- a static method of the class named x -/
structure Sta (P : Program) (w : World) (K : PySem.W.Frag) (mg : Str → Option Value) (base : Heap) (C : Addr) (m : Str) (k : Nat) (sp : Sp) : Prop where
  rd : PySem.W.readsIn K C (.type "type") = true
  ga : PySem.W.specialIn K (.ref C) "__getattribute__" = some (some (.builtin "type.__getattribute__"))
  ex : ∃ p f : Addr, PySem.W.findCls K (.ref C) (.type "type") m = some (.get (.builtin "staticmethod.__get__") (.ref p) .none (.ref C)) ∧
    (∃ rest, PySem.W.recIn K p "staticmethod" = some (.ref f :: rest)) ∧ PySem.W.keepIn K (.ref f) = true ∧ FnR P w K mg base (L2.CX P w) k f sp

def tF (sp : Sp) (E : XK) (t : TA) : TE := fun σ H Q => t σ H fun vs H1 => sp vs H1 Q E
def tS (C : Addr) (sp : Sp) (E : XK) (to : TE) (t : TA) : TE := fun σ H Q => to σ H fun x H1 => x = .ref C ∧ t σ H1 fun vs H2 => sp vs H2 Q E
section
variable {X : Cx} {x m : Str} {C : Addr} {k j : Nat} {sp : Sp} {E : XK} {e o : Expr} {es : List Expr} {to : TE} {t : TA} {p pos apos : Pos} {pl : Sem Bool}
theorem pe_f (c : Cal X.prog X.w X.K X.mg X.base x k sp) (hr : Room j X.A) (hk : k ≤ j) (hg : Gl X x) (hx : Passes (L2.CX X.prog X.w) X E) (ha : PA X (e :: es) t)
    (hd : (x == ("__debug__" : Str)) = false := by decide) (h1 : starEach (e :: es) X.env = (false, eval e X.env) :: starEach es X.env := by rfl)
    (h2 : (backTo pos (starEach es X.env)).any (·.1) = false := by rfl) : PE X (.Call (.Name x p) (e :: es) [] pos) (tF sp E t) := ⟨fun pins s σ H Q I h => by
  obtain ⟨f, hm, kp, F⟩ := c.ex
  exact wpAny_Call_Name_kw (ld_glob I hg hm (PySem.W.callWith_K (h₀ := X.base) I.ok.mod.kin kp
    (thn (ha.run pos pins s σ H _ I h) fun us s1 ⟨vs, H1, I1, r, q⟩ => ⟨I1.kIn, wpAny_call (run_fnR F (hr.mono hk) hx I1 r q)⟩) h1 h2) hd)⟩
theorem pe_f0 (c : Cal X.prog X.w X.K X.mg X.base x k sp) (hr : Room j X.A) (hk : k ≤ j) (hg : Gl X x) (hx : Passes (L2.CX X.prog X.w) X E)
    (hd : (x == ("__debug__" : Str)) = false := by decide) : PE X (.Call (.Name x p) [] [] pos) (tF sp E tNil) := ⟨fun pins s σ H Q I h => by
  obtain ⟨f, hm, kp, F⟩ := c.ex
  exact wpAny_Call_Name_kw (ld_glob I hg hm (PySem.W.callWith_K0 I.kIn kp (wpAny_call (run_fnR (us := []) (vs := []) F (hr.mono hk) hx I .nil h))) hd)⟩
theorem pe_m (c : Met X.prog X.w X.K X.mg X.base C m k sp) (hr : Room j X.A) (hk : k ≤ j) (hx : Passes (L2.CX X.prog X.w) X E) (ho : PE X o to) (ha : PA X (e :: es) t)
    (h1 : starEach (e :: es) X.env = (false, eval e X.env) :: starEach es X.env := by rfl) (h2 : (backTo pos (starEach es X.env)).any (·.1) = false := by rfl)
    (h3 : eval (.Call (.Attribute o m apos) (e :: es) [] pos) X.env = (eval o X.env >>= fun ov => standAt apos.atName >>= fun _ => holding [ov] (getMethod ov m pl) >>= fun fr =>
      callWith pos fr.1 fr.2 (backTo pos (starEach (e :: es) X.env)) (backToKw pos (keywordEach [] X.env))) := by rfl) :
    PE X (.Call (.Attribute o m apos) (e :: es) [] pos) (tMethR C m sp E to t) := by
  obtain ⟨f, hm, F⟩ := c.ex
  exact pe_methR (pl := pl) ho c.cl hm F (hr.mono hk) hx ha h1 h2 h3
theorem pe_m0 (c : Met X.prog X.w X.K X.mg X.base C m k sp) (hr : Room j X.A) (hk : k ≤ j) (hx : Passes (L2.CX X.prog X.w) X E) (ho : PE X o to)
    (h3 : eval (.Call (.Attribute o m apos) [] [] pos) X.env = (eval o X.env >>= fun ov => standAt apos.atName >>= fun _ => holding [ov] (getMethod ov m pl) >>= fun fr =>
      callWith pos fr.1 fr.2 (backTo pos (starEach [] X.env)) (backToKw pos (keywordEach [] X.env))) := by rfl) :
    PE X (.Call (.Attribute o m apos) [] [] pos) (tMethR C m sp E to tNil) := ⟨fun pins s σ H Q I h => by
  obtain ⟨f, hm, F⟩ := c.ex
  refine PySem.W.methodCall_KW (pl := pl) (thn (ho.run pins s σ H _ I h) fun u s1 hh => ?_) h3
  obtain ⟨v, H1, I1, rv, a, dx, fs, ev, ea, l, q⟩ := hh
  subst ev
  cases (show u = Value.ref a from rv)
  exact getmeth_ok I1 ea c.cl hm l (PySem.W.callWith_K0 (first := [.ref a]) I1.kIn hm.kp (wpAny_call (run_fnR (us := [.ref a]) (vs := [.ref a]) F (hr.mono hk) hx I1 (.cons rfl .nil) q)))⟩
theorem pe_k (c : Mak X.prog X.w X.K X.mg X.base x C k sp) (hr : Room j X.A) (hk : k + 1 ≤ j) (hg : Gl X x) (hx : Passes (L2.CX X.prog X.w) X E) (ha : PA X (e :: es) t)
    (hd : (x == ("__debug__" : Str)) = false := by decide) (h1 : starEach (e :: es) X.env = (false, eval e X.env) :: starEach es X.env := by rfl)
    (h2 : (backTo pos (starEach es X.env)).any (·.1) = false := by rfl) : PE X (.Call (.Name x p) (e :: es) [] pos) (StX.tMakeR C sp E t) := by
  obtain ⟨f, M, F⟩ := c.ex
  exact StX.pe_makeR M F (hr.mono hk) hg c.at_ hx ha hd h1 h2
theorem pe_k0 (c : Mak X.prog X.w X.K X.mg X.base x C k sp) (hr : Room j X.A) (hk : k + 1 ≤ j) (hg : Gl X x) (hx : Passes (L2.CX X.prog X.w) X E)
    (hd : (x == ("__debug__" : Str)) = false := by decide) : PE X (.Call (.Name x p) [] [] pos) (StX.tMakeR C sp E tNil) := ⟨fun pins s σ H Q I h => by
  obtain ⟨f, M, F⟩ := c.ex
  exact wpAny_Call_Name_kw (ld_glob I hg c.at_ (PySem.W.callWith_K0 I.kIn M.kp (StX.run_makeR (us := []) M F (hr.mono hk) hx I .nil h)) hd)⟩
theorem pe_s (c : Sta X.prog X.w X.K X.mg X.base C m k sp) (hr : Room j X.A) (hk : k ≤ j) (hx : Passes (L2.CX X.prog X.w) X E) (ho : PE X o to) (ha : PA X (e :: es) t)
    (h1 : starEach (e :: es) X.env = (false, eval e X.env) :: starEach es X.env := by rfl) (h2 : (backTo pos (starEach es X.env)).any (·.1) = false := by rfl)
    (h3 : eval (.Call (.Attribute o m apos) (e :: es) [] pos) X.env = (eval o X.env >>= fun ov => standAt apos.atName >>= fun _ => holding [ov] (getMethod ov m pl) >>= fun fr =>
      callWith pos fr.1 fr.2 (backTo pos (starEach (e :: es) X.env)) (backToKw pos (keywordEach [] X.env))) := by rfl) :
    PE X (.Call (.Attribute o m apos) (e :: es) [] pos) (tS C sp E to t) := ⟨fun pins s σ H Q I h => by
  obtain ⟨p, f, hf, ⟨rest, hrec⟩, kp, F⟩ := c.ex
  refine PySem.W.methodCall_KW (pl := pl) (thn (ho.run pins s σ H _ I h) fun u s1 hh => ?_) h3
  obtain ⟨v, H1, I1, rv, ev, q⟩ := hh
  subst ev
  cases (show u = Value.ref C from rv)
  refine PySem.W.method_cls I1.kIn c.ga (PySem.W.cls_bind I1.kIn c.rd hf (wpAny_call ?_))
  refine PySem.W.sm_get (s := { s1 with toks := s1.toks + 1 }) I1.kIn hrec (PySem.W.handed_on rfl ?_)
  exact PySem.W.callWith_K (first := []) (h₀ := X.base) I.ok.mod.kin kp (thn (ha.run pos pins _ σ H1 _ (I1.tok _) q) fun us s2 ⟨vs, H2, I2, r, q2⟩ =>
    ⟨I2.kIn, wpAny_call (run_fnR F (hr.mono hk) hx I2 r q2)⟩) h1 h2⟩
end

/-! ### operators of own classes -/
/-- what isinstance and the operators ask of a class -/
structure Own (K : PySem.W.Frag) (C : Addr) : Prop where
  cl : Cls K C
  ca : PySem.W.findIn K (.ref C) "__class__" = some (some (.builtin "object.__class__"))
  cn : PySem.W.specialIn K (.builtin "object.__class__") "__get__" = some (some (.builtin "getset_descriptor.__get__"))
  ct : PySem.W.takesIn K (.builtin "object.__class__") = some true
  cm : PySem.W.mroIn K C (.type "object") = some true
  sf : PySem.W.selfFirst K C = true
theorem Own.ty {K : PySem.W.Frag} {H : Hp} {a C dx : Addr} {fs : List (Str × V)} (c : Own K C) (h : H a = some (.ins C dx fs)) : TyX K H (.ref a) (.ref C) :=
  .base (.ins h c.cl c.ca c.cn c.ct c.cm)
theorem ty_t {K : PySem.W.Frag} {H : Hp} {a : Addr} {xs : List V} (h : SqT K H a xs) : TyX K H (.ref a) (.type "tuple") := by
  rcases h with (h | ⟨o, h⟩) | ⟨o, its, n, h, c, _⟩
  · exact .base (.tup h)
  · exact .fTuple h
  · exact .kTuple h c
section
variable {X : Cx} {C : Addr} {k j : Nat} {sp : Sp} {E : XK} {f : Addr}
/-- x op y by the class's own def, y of a type t that does not go first -/
def rOwnC (K : PySem.W.Frag) (C : Addr) (sp : Sp) (E : XK) : R2 := fun x y H Q => ∃ a dx fs t, x = .ref a ∧ H a = some (.ins C dx fs) ∧ TyX K H y t ∧ PySem.W.notFirst K C t = true ∧ sp [x, y] H Q E
theorem op_eqO (c : Met X.prog X.w X.K X.mg X.base C "__eq__" k sp) (hr : Room j X.A) (hk : k ≤ j) (hx : Passes (L2.CX X.prog X.w) X E) : OpR X (compareOp .Eq) (rOwnC X.K C sp E) := by
  intro pins s σ H x y v u Q I rx ry h
  obtain ⟨a, dx, fs, t, rfl, ha, ty, nf, q⟩ := h
  obtain ⟨f, hm, F⟩ := c.ex
  cases (show v = Value.ref a from rx)
  obtain ⟨mA, O, _⟩ := ins_get I.hok ha
  obtain ⟨od, J, _⟩ := O.look
  obtain ⟨P, Z, hp, _⟩ := kit_of I ry ty
  obtain ⟨m, hF⟩ := I.fr
  show wpAny _ _ (richCompare .Eq (.ref a) u) _ _ s
  refine PySem.W.cmp_K (op := .Eq) (tb := t) hr.units0 hF I.ok.mod.kin J (Z.ty _ _ I.kIn hp) nf hm.at_ hm.fn ?_
  refine wpAny_mono (wpAny_call (run_fnR (us := [.ref a, u]) (vs := [.ref a, y]) F (hr.mono hk) hx I (.cons rfl (.cons ry .nil)) q)) (fun w s' z => ?_) fun _ _ z => z
  obtain ⟨z', H', I', rz, qz⟩ := z
  exact SlX.cmpback rz ⟨z', H', I', rz, qz⟩
/-- x op y, two of one class -/
def rOwnB (C : Addr) (sp : Sp) (E : XK) : R2 := fun x y H Q => ∃ a dx fs b dy gs, x = .ref a ∧ y = .ref b ∧ H a = some (.ins C dx fs) ∧ H b = some (.ins C dy gs) ∧ sp [x, y] H Q E
theorem op_mulO (ow : Own X.K C) (c : Met X.prog X.w X.K X.mg X.base C "__mul__" k sp) (hr : Room j X.A) (hk : k ≤ j) (hx : Passes (L2.CX X.prog X.w) X E) : OpR X (binaryOp .Mult) (rOwnB C sp E) := by
  intro pins s σ H x y v u Q I rx ry h
  obtain ⟨a, dx, fs, b, dy, gs, rfl, rfl, ha, hb, q⟩ := h
  obtain ⟨f, hm, F⟩ := c.ex
  cases (show v = Value.ref a from rx)
  cases (show u = Value.ref b from ry)
  obtain ⟨mA, O, _⟩ := ins_get I.hok ha
  obtain ⟨od, J, _⟩ := O.look
  obtain ⟨mB, O', _⟩ := ins_get I.hok hb
  obtain ⟨od', J', _⟩ := O'.look
  obtain ⟨m, hF⟩ := I.fr
  refine PySem.W.binop_K (op := .Mult) hF I.ok.mod.kin J J'.type ow.sf hm.at_ hm.fn ?_
  refine wpAny_mono (wpAny_call (run_fnR (us := [.ref a, .ref b]) (vs := [.ref a, .ref b]) F (hr.mono hk) hx I (.cons rfl (.cons rfl .nil)) q)) (fun w s' z => ?_) fun _ _ z => z
  obtain ⟨z', H', I', rz, qz⟩ := z
  exact SlX.cmpback rz ⟨z', H', I', rz, qz⟩
def rOwnU (C : Addr) (sp : Sp) (E : XK) : V → Hp → VK → Prop := fun x H Q => ∃ a dx fs, x = .ref a ∧ H a = some (.ins C dx fs) ∧ sp [x] H Q E
theorem un_invO (c : Met X.prog X.w X.K X.mg X.base C "__invert__" k sp) (hr : Room j X.A) (hk : k ≤ j) (hx : Passes (L2.CX X.prog X.w) X E) : UnR X (unaryOp .Invert) (rOwnU C sp E) := by
  intro pins s σ H x v Q I rx h
  obtain ⟨a, dx, fs, rfl, ha, q⟩ := h
  obtain ⟨f, hm, F⟩ := c.ex
  cases (show v = Value.ref a from rx)
  obtain ⟨mA, O, _⟩ := ins_get I.hok ha
  obtain ⟨od, J, _⟩ := O.look
  obtain ⟨m, hF⟩ := I.fr
  exact PySem.W.ksp_inv hF I.ok.mod.kin J hm.at_ hm.fn (wpAny_call (run_fnR (us := [.ref a]) (vs := [.ref a]) F (hr.mono hk) hx I (.cons rfl .nil) q))
/-- len(x) by the class's own def -/
def rOwnL (C : Addr) (sp : Sp) (E : XK) : List V → Hp → VK → Prop := fun xs H Q => ∃ a dx fs, xs = [.ref a] ∧ H a = some (.ins C dx fs) ∧ sp [.ref a] H (fun v H' => ∃ n : Int, v = .int n ∧ 0 ≤ n ∧ n < 2 ^ 63 ∧ Q v H') E
theorem call_lenO (c : Met X.prog X.w X.K X.mg X.base C "__len__" k sp) (hr : Room j X.A) (hk : k + 1 ≤ j) (hx : Passes (L2.CX X.prog X.w) X E) : CallR X (.builtin "len") (rOwnL C sp E) := by
  intro pins s σ H xs us Q I r h
  obtain ⟨a, dx, fs, rfl, ha, q⟩ := h
  obtain ⟨f, hm, F⟩ := c.ex
  obtain ⟨u, rfl, ru⟩ := r.one
  cases (show u = Value.ref a from ru)
  obtain ⟨mA, O, _⟩ := ins_get I.hok ha
  obtain ⟨od, J, _⟩ := O.look
  obtain ⟨m, hF⟩ := I.fr
  have hr2 : Room k X.A.in1 := (show Room (k + 1) X.A from hr.mono hk).in1
  refine PySem.W.len_K hF I.ok.mod.kin J hm.at_ hm.fn (wpAny_mono (wpAny_call (SlX.run_at (us := [.ref a]) (ws := [.ref a]) F hr2 I.env0.in1 hx I (.cons rfl .nil) q)) (fun w s' z => ?_) fun _ _ z => z)
  obtain ⟨z', H', I', rz, n, en, n0, n1, qz⟩ := z
  subst en
  obtain ⟨t, e⟩ := (show ∃ t, w = Value.int n t from rz)
  subst e
  exact ⟨⟨n0, n1⟩, .int n, H', I'.tok _, ⟨_, rfl⟩, qz⟩
theorem CallR_or {g : Value} {r r' : List V → Hp → VK → Prop} (h : CallR X g r) (h' : CallR X g r') : CallR X g (fun xs H Q => r xs H Q ∨ r' xs H Q) := h.or h'
theorem OpR_or {g : Value → Value → Sem Value} {r r' : R2} (h : OpR X g r) (h' : OpR X g r') : OpR X g (fun x y H Q => r x y H Q ∨ r' x y H Q) := by
  intro pins s σ H x y v u Q I rx ry q
  rcases q with q | q
  · exact h pins s σ H x y v u Q I rx ry q
  · exact h' pins s σ H x y v u Q I rx ry q
theorem UnR_or {g : Value → Sem Value} {r r' : V → Hp → VK → Prop} (h : UnR X g r) (h' : UnR X g r') : UnR X g (fun x H Q => r x H Q ∨ r' x H Q) := by
  intro pins s σ H x v Q I rx q
  rcases q with q | q
  · exact h pins s σ H x v Q I rx q
  · exact h' pins s σ H x v Q I rx q
end
end TT

set_option Elab.async false
set_option linter.all false
set_option maxRecDepth 100000
set_option maxHeartbeats 4000000
namespace PySem
open Sem (wp)
open AutoSeq1 (wpAny_loadPart')
set_option maxHeartbeats 1000000 in
/-- enumerate(t), t a tuple: the two new cells -/
theorem tt_enum_new (t : Addr) (items : Array Value) :
    Meets (Builtin.«enumerate.__new__» ⟨[.type "enumerate", .ref t], []⟩) (fun _ R s => s.heap.IsTuple t items ∧
      R (.ok (.ret (.ref (s.heap.push { cls := .type "tuple_iterator", data := .fields #[.ref t, .int 0 0] }).objs.size)))
        { s with heap := ((s.heap.push { cls := .type "tuple_iterator", data := .fields #[.ref t, .int 0 0] }).push ({ cls := .type "enumerate", data := .fields #[.none, .bool false, .ref s.heap.objs.size, rawInt 0, .none, .none] } : Obj)) }) :=
  .of_wp fun prog w A R s h => by
    obtain ⟨hp, g, d, tk, os⟩ := s
    obtain ⟨hl, h⟩ := h
    have hsub := sub_enumerate
    have hT : Heap.IsTuple (Shared.heap ⟨hp, g, d, tk, os⟩) t items := hl
    wp_walk
    refine wpAny_stack_any fun st => wpAny_pure ?_
    split
    · rename_i c _ _ _ _ _
      cases (c == Value.type "enumerate") <;>
        (wp_walk using wpAny_pyIter_tuple hT; exact ⟨_, rfl, h⟩)
    · wp_walk using wpAny_pyIter_tuple hT
      exact ⟨_, rfl, h⟩
theorem tt_enum_tuple {prog : Program} {w : World} {A : Around} {E : Value → Shared → Prop} {s : Shared} {t : Addr} {items : Array Value} {Q : Value → Shared → Prop} (ht : s.heap.IsTuple t items)
    (h : ∀ h', IsEnum h' (s.heap.objs.size + 1) s.heap.objs.size 0 .none → h'.IsTupleIter s.heap.objs.size t 0 →
      (∀ b o, s.heap.get? b = some o → h'.get? b = some o) → Q (.ref (s.heap.objs.size + 1)) { s with heap := h' }) :
    wpAny (model prog w) A (call (.type "enumerate") [.ref t]) Q E s := by
  refine callType_new F.called_enumerate (by decide) (F.typeCall_enumerate_1 _) (F.newCall_enumerate_1 _) (fun obj => F.args_object_init_2 obj _) F.entry_enumerate_new (tt_enum_new t items) ⟨ht, ?_⟩
  generalize ho : ({ cls := .type "tuple_iterator", data := .fields #[.ref t, .int 0 0] } : Obj) = o
  have hz : (s.heap.push o).objs.size = s.heap.objs.size + 1 := Heap.size_push ..
  have fr : o.isFreed = false := by subst ho; rfl
  show _ ∧ _
  rw [hz]
  generalize hn : ({ cls := .type "enumerate", data := .fields #[.none, .bool false, .ref s.heap.objs.size, rawInt 0, .none, .none] } : Obj) = en
  have fe : en.isFreed = false := by subst hn; rfl
  have z := Heap.get?_push_size (s.heap.push o) fe
  rw [hz] at z
  have he : IsEnum ((s.heap.push o).push en) (s.heap.objs.size + 1) s.heap.objs.size 0 .none := by
    subst hn
    exact z
  refine ⟨⟨_, he, rfl⟩, h _ he ⟨o, Heap.get?_push_of_some _ (Heap.get?_push_size _ fr), by subst ho; rfl, by subst ho; rfl⟩ fun b ob x => ?_⟩
  exact Heap.get?_push_of_some _ (Heap.get?_push_of_some _ x)
end PySem
namespace TT
open PySem PySem.Spec PyProof.Rows L2

/-! ### enumerate of a tuple -/
def Iet (K : PySem.W.Frag) (a : Addr) : It where
  go := fun i H => ∃ (xs : List V) (x : V), SqT K H a xs ∧ xs[i]? = some x
  yld := fun i H v H' => ∃ q x, v = .ref q ∧ H q = none ∧ H' = upd H q (.tup [.int (i : Nat), x]) ∧ ∀ xs, SqT K H a xs → xs[i]? = some x
  stop := fun i H => ∃ xs : List V, SqT K H a xs ∧ xs.length ≤ i
theorem turn_et {P : Program} {w : World} {K : PySem.W.Frag} {elts : List Expr} {kk : Nat} {tpos : Pos} (a e it : Addr) (hai : a ≠ it) :
    Turn P w K (.Tuple elts kk tpos) (Iet K a) [e, it] e (fun i h => (∃ old, IsEnum h e it ((i : Nat) : Int) old) ∧ h.IsTupleIter it a i ∧ e ≠ it ∧ e ≠ a) where
  mem := by simp
  obj := fun i h st b hb => by
    obtain ⟨⟨old, he⟩, ⟨o, ho, hc, hd⟩, _⟩ := st
    rcases (show b = e ∨ b = it by simpa using hb) with rfl | rfl
    · exact ⟨_, he, fun v q => nomatch q⟩
    · exact ⟨o, ho, fun v q => by rw [hd] at q; cases q⟩
  keep := fun i h h' st k => by
    obtain ⟨⟨old, he⟩, hi, hne⟩ := st
    exact ⟨⟨old, k e (by simp) _ he⟩, hi.at fun o q => k it (by simp) o q, hne⟩
  item := by
    intro X hP hw hK hc i pins s σ H E I hf st hg
    subst hP hw hK
    obtain ⟨⟨old, he⟩, hit, hne, hea⟩ := st
    obtain ⟨xs, x, hq, hx⟩ := hg
    obtain ⟨its, rv, p, hz⟩ := I.tuple hq
    obtain ⟨u, hu, ru⟩ := rv.get hx
    have le : e < s.heap.objs.size := Heap.lt_size he
    have li : it < s.heap.objs.size := by obtain ⟨_, q, _⟩ := hit; exact Heap.lt_size q
    have hlt : i < its.toArray.size := by
      have := (List.getElem?_eq_some_iff.mp hu).1
      simpa using this
    have D := Draws.tuple (prog := X.prog) (w := X.w) (A := X.A.in1) (I.ok.hd hc) it a hai its.toArray
    refine wpAny_pyNext_enum_itemD D he ⟨hit, p⟩ hlt hne (by simp [hne, hea]) fun y h' tk hy ho st' hT hsz hk => ?_
    have ey : y = u := by
      have z : its.toArray[i]? = some u := by simpa using hu
      rw [z] at hy
      exact (Option.some.inj hy).symm
    subst ey
    refine ⟨_, rfl, wpAny_letOwnedTupleGo_enum (s := { s with heap := h', toks := tk + 1 }) ho fun h2 he' sb => ?_⟩
    have hT2 := (sb.2 _ (Nat.ne_of_gt le)).trans hT
    have new : ObjOk X.prog X.w (upd H s.heap.objs.size (.tup [.int (i : Nat), x])) h2 s.heap.objs.size (.tup [.int (i : Nat), x]) :=
      ⟨by show 2 ≤ sizeLine; decide, [.int i tk, y], .cons ⟨_, rfl⟩ (.cons ru .nil), ⟨_, hT2, rfl, _, rfl⟩⟩
    have I1 := I.turnedNew (t' := tk + 1) (ch := [e, it]) (h' := h2) (fun b ob hb q => (sb.2 b (fun z => hb (by simp [z]))).trans
      (hk b ob (fun z => hb (by simp [z])) (fun z => hb (by simp [z])) q)) hf (Nat.le_refl _) new
    refine ⟨.ref s.heap.objs.size, _, I1, rfl, ⟨_, x, rfl, I.hok.fresh (Nat.le_refl _), rfl, fun ys hy' => by rw [I.tuple_inj hy' hq]; exact hx⟩,
      ⟨⟨y, ?_⟩, st'.1.at fun o q => (sb.2 it (Ne.symm hne)).trans q, hne, hea⟩, fun b hb => ?_⟩
    · have e1 : ((i + 1 : Nat) : Int) = (i : Int) + 1 := by omega
      rw [e1]
      exact he'
    · have hb' : b < s.heap.objs.size := by
        rcases (show b = e ∨ b = it by simpa using hb) with rfl | rfl
        · exact le
        · exact li
      rw [upd_ne (Nat.ne_of_lt hb')]
      exact (hf b hb).1
  done := by
    intro X hP hw hK hc i pins s σ H E I hf st hg
    subst hP hw hK
    obtain ⟨⟨old, he⟩, hit, hne, hea⟩ := st
    obtain ⟨xs, hq, hx⟩ := hg
    obtain ⟨its, rv, p, hz⟩ := I.tuple hq
    obtain ⟨f0, f1, f2, f3, f4, f5⟩ := hf it (by simp)
    have hl := rv.length
    refine wpAny_bind (wpAny_attempt (wpAny_callSpecial?_slot (name := Str.ofString "__next__") ⟨_, he, rfl⟩ F.slot_enumerate_next
      (wpAny_call_entry F.slot_enumerate_next ⟨_, he, rfl⟩ F.entry_enumerate_next ?_ (F.args_enumerate_next_1 _))))
    show wpAny _ _ (field (.ref e) 2 >>= _) _ _ _
    refine wpAny_bind (wpAny_field he rfl (x := .ref it) rfl ?_)
    refine wpAny_bind (wpAny_nextOf_tuple_end (A := X.A.in1) (I.ok.hd hc) hit p (by simp; omega) fun h' x he' hx' => ?_)
    obtain ⟨o, ho, hcl⟩ := hx'
    refine wpAny_bind (wpAny_isInstance (T := "StopIteration") (b := true) ⟨o, ho, hcl⟩ isSubtype_stop ?_)
    exact wpAny_pure ⟨rfl, I.turned (t' := s.toks) (fun b o hb q => he' b o hb q) f0 f1 f3 f4 f5⟩
  self := fun A i s Q E st h => let ⟨⟨_, he⟩, _⟩ := st; wpAny_pyIter_enum he h
def iEt (K : PySem.W.Frag) (ta : TA) : TI := fun σ H R => ta σ H fun vs H1 => ∃ a xs, vs = [.ref a] ∧ SqT K H1 a xs ∧ R (Iet K a) H1
theorem pi_enumT {X : Cx} {e : Expr} {ta : TA} {p pos tpos : Pos} {elts : List Expr} {kk : Nat} (hg : Gl X "enumerate") (hm : X.mg "enumerate" = none) (ha : PA X [e] ta) (hs : starEach [e] X.env = [(false, eval e X.env)] := by rfl) :
    PI X (.Tuple elts kk tpos) (.Call (.Name "enumerate" p) [e] [] pos) (iEt X.K ta) := by
  refine ⟨fun pins s σ H R I h => Call_ (ld_blt I hg hm boot_enumerate (PyProof.Rows.callWith_type1 (thn (ha.run pos pins s σ H _ I h) fun us s1 hh => ?_) hs rfl))⟩
  obtain ⟨vs, H1, I1, r1, a, xs, ex, hq, q⟩ := hh
  subst ex
  cases r1 with
  | cons r rr =>
    cases rr
    cases r
    obtain ⟨its, rv, p', hz⟩ := I1.tuple hq
    have la : a < s1.heap.objs.size := by obtain ⟨_, z, _⟩ := p'; exact Heap.lt_size z
    refine tt_enum_tuple p' fun h' he hit hk => wpAny_pyIter_enum he ?_
    have I2 : Inv X pins σ H1 { s1 with heap := h' } := I1.kept (t' := s1.toks) hk
    refine ⟨s1.heap.objs.size + 1, [s1.heap.objs.size + 1, s1.heap.objs.size], _, _, H1, rfl, I2, turn_et a (s1.heap.objs.size + 1) s1.heap.objs.size (Nat.ne_of_lt la),
      ⟨⟨.none, he⟩, hit, Nat.succ_ne_self _, (Nat.ne_of_gt (Nat.lt_succ_of_lt la))⟩, fun b hb => ?_, q⟩
    have hle : s1.heap.objs.size ≤ b := by
      rcases (show b = s1.heap.objs.size + 1 ∨ b = s1.heap.objs.size by simpa using hb) with rfl | rfl
      · exact Nat.le_add_right _ _
      · exact Nat.le_refl _
    exact I1.fpOk hle (I1.hok.fresh hle)
theorem walk_et {K : PySem.W.Frag} {a : Addr} {xs : List V} : Walk (Iet K a) xs.length (fun H => SqT K H a xs) (YPair (fun i => some (.int (i : Nat))) (fun i => xs[i]?)) where
  goes := fun i H hi hq => ⟨xs, xs[i], hq, by simp [hi]⟩
  stops := fun H hq => ⟨xs, hq, Nat.le_refl _⟩
  yields := fun i H v H' hi hq ⟨q, x, e1, e2, e3, e4⟩ => ⟨q, _, x, e1, e2, e3, rfl, e4 xs hq⟩

/-! ### unions -/
def rAddU (K : PySem.W.Frag) : R2 := fun x y H Q => (rI0 fun i j => .int (i + j)) x y H Q ∨ rCat x y H Q ∨ rCatA K x y H Q
def rMulU (K : PySem.W.Frag) : R2 := fun x y H Q => rI CMul (fun i j => .int (i * j)) x y H Q ∨ rRep x y H Q
def rEqU (K : PySem.W.Frag) : R2 := fun x y H Q => rEq x y H Q ∨ rEqD K x y H Q
def rNeU (K : PySem.W.Frag) : R2 := fun x y H Q => rNe x y H Q ∨ rNeD K x y H Q
def rLenU (K : PySem.W.Frag) : List V → Hp → VK → Prop := fun xs H Q => ∃ p ys, xs = [.ref p] ∧ (SqL K H p ys ∨ SqT K H p ys) ∧ Q (.int ys.length) H
def rSlU (K : PySem.W.Frag) : V → Option Int → Option Int → Hp → VK → Prop := fun x lo hi H Q => rSlL K x lo hi H Q ∨ rSlA K x lo hi H Q
section
variable {X : Cx}
theorem op_addU : OpR X (binaryOp .Add) (rAddU X.K) := OpR_or op_add (OpR_or op_cat op_catA)
theorem op_mulU : OpR X (binaryOp .Mult) (rMulU X.K) := OpR_or op_mul op_rep
theorem op_eqU (hu : X.A.units + 64 < cLine) : OpR X (compareOp .Eq) (rEqU X.K) := OpR_or op_eq (op_eqD hu)
theorem op_neU (hu : X.A.units + 64 < cLine) : OpR X (compareOp .NotEq) (rNeU X.K) := OpR_or op_ne (op_neD hu)
theorem call_lenU : CallR X (.builtin "len") (rLenU X.K) := call_len_seq
theorem sl_U : SlR X (rSlU X.K) := sl_list.or sl_tupA
variable {K : PySem.W.Frag}
theorem opK {g : Value → Value → Sem Value} {r : PySem.W.Frag → R2} (h : OpR X g (r X.K)) (hK : X.K = K) : OpR X g (r K) := by subst hK; exact h
theorem k_add (hK : X.K = K) : OpR X (binaryOp .Add) (rAddU K) := opK (r := rAddU) op_addU hK
theorem k_mul (hK : X.K = K) : OpR X (binaryOp .Mult) (rMulU K) := opK (r := rMulU) op_mulU hK
theorem k_eq (hK : X.K = K) (hu : X.A.units + 64 < cLine) : OpR X (compareOp .Eq) (rEqU K) := opK (r := rEqU) (op_eqU hu) hK
theorem k_ne (hK : X.K = K) (hu : X.A.units + 64 < cLine) : OpR X (compareOp .NotEq) (rNeU K) := opK (r := rNeU) (op_neU hu) hK
theorem k_in (hK : X.K = K) : OpR X (compareOp .In) (rIn K false) := opK (r := fun K => rIn K false) op_in_seq hK
theorem k_notin (hK : X.K = K) : OpR X (compareOp .NotIn) (rIn K true) := opK (r := fun K => rIn K true) op_notIn_seq hK
theorem k_len (hK : X.K = K) : CallR X (.builtin "len") (rLenU K) := by subst hK; exact call_lenU
theorem k_isi (hK : X.K = K) : CallR X (.builtin "isinstance") (rIsi K) := by subst hK; exact call_isi
theorem k_sum (hK : X.K = K) (hc : X.calm = true) : CallR X (.builtin "sum") (rSum K) := by subst hK; exact cr_sum hc
theorem k_all (hK : X.K = K) (hc : X.calm = true) : CallR X (.builtin "all") (rAll K) := by subst hK; exact cr_all hc
theorem k_any (hK : X.K = K) (hc : X.calm = true) : CallR X (.builtin "any") (rAny K) := by subst hK; exact cr_any hc
theorem k_ix (hK : X.K = K) : IxR X (rIx K) := by subst hK; exact ix_seq
theorem k_sl (hK : X.K = K) : SlR X (rSlU K) := by subst hK; exact sl_U
theorem k_index (hK : X.K = K) : MtR X "list.index" (rIndex K) := by subst hK; exact mt_index
section
variable {e : Expr} {te : TE} {f : Str} {pos pos' : Pos} {o value : Expr} {ta tv : TE} {tg l : Expr} {ts : TA} {es : List Expr}
theorem k_fld (hK : X.K = K) (he : PE X e te) (hb : attributeBase e f X.env (eval e X.env) = eval e X.env := by rfl) : PE X (.Attribute e f pos) (tFld K te f) := by subst hK; exact pe_fld he hb
theorem k_put (hK : X.K = K) (ha : PE X o ta) (hv : PE X value tv) (hs : swapsWith value (some (.Attribute o f pos')) pos.line X.env = pure false := by rfl) : PS X (.Assign [.Attribute o f pos'] value pos) (sFld K ta tv f) := by subst hK; exact ps_fld ha hv hs
def tTr (K : PySem.W.Frag) (ta : TE) : TT := fun σ H Q => ta σ H fun x H' => ∃ k, TruV K x H' k ∧ Q k H'
theorem k_tr (hK : X.K = K) (ha : PE X e te) (he : ∀ whole, isTrue e X.env whole = (do let v ← whole; standAt e.pos; holding [v] (truthy v)) := by intro _; rfl) : PT X e (tTr K te) := by subst hK; exact pt_truth ha he
theorem k_not (hK : X.K = K) (ha : PE X e te) : PE X (.UnaryOp .Not e pos) (tNotT K te) := by subst hK; exact pe_notT ha
theorem k_iL (hK : X.K = K) (hl : PE X l te) : PI X tg l (iList K te) := by subst hK; exact pi_list hl
theorem k_iT (hK : X.K = K) (hl : PE X l te) : PI X tg l (iTup K te) := by subst hK; exact pi_tup hl
theorem k_iE {elts : List Expr} {kk : Nat} {p tpos : Pos} (hK : X.K = K) (hg : Gl X "enumerate") (hm : X.mg "enumerate" = none) (ha : PA X [e] ts) (hs : starEach [e] X.env = [(false, eval e X.env)] := by rfl) : PI X (.Tuple elts kk tpos) (.Call (.Name "enumerate" p) [e] [] pos) (iEnum K ts) := by subst hK; exact pi_enum hg hm ha hs
theorem k_iEt {elts : List Expr} {kk : Nat} {p tpos : Pos} (hK : X.K = K) (hg : Gl X "enumerate") (hm : X.mg "enumerate" = none) (ha : PA X [e] ts) (hs : starEach [e] X.env = [(false, eval e X.env)] := by rfl) : PI X (.Tuple elts kk tpos) (.Call (.Name "enumerate" p) [e] [] pos) (iEt K ts) := by subst hK; exact pi_enumT hg hm ha hs
theorem k_gtup {k : Nat} {t : TGs} {n : Nat} (hK : X.K = K) (hc : X.calm = true) (h : PGs X es t) (hn : (assignEach es X.env).length = n := by rfl) (hst : (assignEach es X.env).findIdx? (·.1) = none := by rfl) : PG X (.Tuple es k pos) (gTup K n t) := by subst hK; exact pg_tup hc h hn hst
theorem k_bm0 {T : String} {name : Str} {id : String} {r : V → List V → Hp → VK → Prop} {apos cpos : Pos} (hK : X.K = K) (pa : PlainAttrs T) (slot : Slot T name id) (hty : typeOf (.builtin id) = pure (.type "method_descriptor")) (hm : MtR X id r) (ho : PE X o te)
    (h1 : attributeBase o name X.env (eval o X.env) = eval o X.env := by rfl) (h2 : (apos.endLine == cpos.line) = true := by rfl) : PE X (.Call (.Attribute o name apos) [] [] cpos) (tBM0 K T r te) := by
  subst hK
  exact pe_bm0 pa slot hty hm ho h1 h2
theorem k_bm {T : String} {name : Str} {id : String} {r : V → List V → Hp → VK → Prop} {apos cpos : Pos} {e1 : Expr} (hK : X.K = K) (pa : PlainAttrs T) (slot : Slot T name id) (hty : typeOf (.builtin id) = pure (.type "method_descriptor")) (hm : MtR X id r) (ho : PE X o te) (ha : PA X (e1 :: es) ts)
    (h1 : attributeBase o name X.env (eval o X.env) = eval o X.env := by rfl) (h2 : ((backTo cpos (starEach (e1 :: es) X.env)).all (fun x => !x.1) && (backToKw cpos (keywordEach [] X.env)).all (fun x => x.1.isSome) && decide ((e1 :: es).length + ([] : List Keyword).length + (if ([] : List Keyword).isEmpty then 0 else 1) < 30)) = true := by rfl)
    (h3 : (apos.endLine == cpos.line) = true := by rfl) (h4 : starEach (e1 :: es) X.env = (false, eval e1 X.env) :: starEach es X.env := by rfl) (h5 : (backTo cpos (starEach es X.env)).any (·.1) = false := by rfl) : PE X (.Call (.Attribute o name apos) (e1 :: es) [] cpos) (tBM K T r te ts) := by
  subst hK
  exact pe_bm pa slot hty hm ho ha h1 h2 h3 h4 h5
end
theorem pe_gv {x : Str} {pos : Pos} {v : V} (hg : Gl X x) (h : ∃ u, X.mg x = some u ∧ RelV v u) (hd : (x == ("__debug__" : Str)) = false := by decide) : PE X (.Name x pos) (tC v) := by
  obtain ⟨u, h1, h2⟩ := h
  exact pe_glob hg h1 h2 hd
end
end TT

set_option Elab.async false
set_option linter.all false
set_option maxRecDepth 100000
set_option maxHeartbeats 4000000
namespace TT
open PySem PySem.Spec PyProof.Rows L2
/-! ### readings, step by step -/
def rNewL (xs : List V) (H : Hp) (Q : VK) : Prop := xs.length ≤ sizeLine ∧ ∀ p, H p = none → Q (.ref p) (upd H p (.lst xs))
def rNewT (xs : List V) (H : Hp) (Q : VK) : Prop := xs.length ≤ sizeLine ∧ ∀ p, H p = none → Q (.ref p) (upd H p (.tup xs))
def rFld (K : PySem.W.Frag) (f : Str) (x : V) (H : Hp) (Q : VK) : Prop := ∃ a C dx fs v, x = .ref a ∧ H a = some (.ins C dx fs) ∧ Cls K C ∧ NoAttr K C f ∧ fs.lookup f = some v ∧ Q v H
def rPut (K : PySem.W.Frag) (f : Str) (x y : V) (H : Hp) (R : Hp → Prop) : Prop := ∃ a C dx fs, x = .ref a ∧ H a = some (.ins C dx fs) ∧ Cls K C ∧ NoAttr K C f ∧ fs.length < 1000 ∧ R (upd H a (.ins C dx (putF f y fs)))
def rInt1 : List V → Hp → VK → Prop := fun xs H Q => (∃ i, xs = [.int i] ∧ Q (.int i) H) ∨ ∃ k, xs = [.bl k] ∧ Q (.int (if k then 1 else 0)) H
theorem call_int1U {X : Cx} : CallR X (.type "int") rInt1 := call_int1
def rListU (K : PySem.W.Frag) : List V → Hp → VK → Prop := fun xs H Q => ∃ p ys, xs = [.ref p] ∧ (SqL K H p ys ∨ SqT K H p ys) ∧ ∀ l, H l = none → Q (.ref l) (upd H l (.lst ys))
theorem k_list {X : Cx} {K : PySem.W.Frag} (hK : X.K = K) : CallR X (.type "list") (rListU K) := by subst hK; exact call_list_of
def rTupU (K : PySem.W.Frag) : List V → Hp → VK → Prop := fun xs H Q => ∃ p ys, xs = [.ref p] ∧ ((SqL K H p ys ∧ ∀ l, H l = none → Q (.ref l) (upd H l (.tup ys))) ∨ (SqT K H p ys ∧ Q (.ref p) H))
theorem k_tuple {X : Cx} {K : PySem.W.Frag} (hK : X.K = K) : CallR X (.type "tuple") (rTupU K) := by subst hK; exact call_tuple_of
section
variable {K : PySem.W.Frag} {σ : L2.St} {H H1 : Hp} {Q : VK} {QA : List V → Hp → Prop} {QB : Bool → Hp → Prop} {D : Ends} {t u : TS} {ta tb tc te : TE} {ts : TA} {tt : TT} {i : Nat} {v x y : V} {a p b : Addr} {xs ys : List V} {m n : Int}
theorem g_seq (h : t { D with nx := u D } σ H) : tSeq t u D σ H := h
theorem g_next (h : D.nx σ H) : tNext D σ H := h
theorem g_set (h : te σ H fun z H1 => D.nx (σ.set i (some z)) H1) : tAsg te (gName i) D σ H := h
theorem g_asg {g : TG} (h : te σ H fun z H1 => g z σ H1 D.nx) : tAsg te g D σ H := h
theorem g_sub {to ti : TE} {r : TSet} {R : L2.St → Hp → Prop} (h : to σ H fun o H1 => ti σ H1 fun j H2 => r o j v H2 fun H3 => R σ H3) : gSub to ti r v σ H R := h
theorem g_aug {ti : TIp} (h : σ[i]? = some (some x)) (q : te σ H fun y H1 => ti x y H1 fun z H2 => D.nx (σ.set i (some z)) H2) : tAug i te ti D σ H := ⟨x, h, q⟩
theorem g_par {j : Nat} (h : ts σ H fun vs H1 => ∃ v w, vs = [v, w] ∧ D.nx ((σ.set i (some v)).set j (some w)) H1) : tPar i j ts D σ H := h
theorem a_two {w : V} {R : V → V → Prop} (h : R v w) : ∃ v' w', [v, w] = [v', w'] ∧ R v' w' := ⟨v, w, rfl, h⟩
theorem g_drop (h : te σ H fun _ H1 => D.nx σ H1) : tDrop te D σ H := h
theorem g_ret (h : te σ H D.rt) : tRet te D σ H := h
theorem g_var (h : σ[i]? = some (some v)) (q : Q v H) : tVar i σ H Q := ⟨v, h, q⟩
theorem g_c (q : Q v H) : tC v σ H Q := q
theorem g_op {r : R2} (h : ta σ H fun x H1 => tb σ H1 fun y H2 => r x y H2 Q) : tOp r ta tb σ H Q := h
theorem g_un {r : V → Hp → VK → Prop} (h : ta σ H fun x H1 => r x H1 Q) : tUn r ta σ H Q := h
theorem g_nil (q : QA [] H) : tNil σ H QA := q
theorem g_cons (h : ta σ H fun x H1 => ts σ H1 fun xs H2 => QA (x :: xs) H2) : tCons ta ts σ H QA := h
theorem g_cb {r : List V → Hp → VK → Prop} (h : ts σ H fun vs H1 => r vs H1 Q) : tCB r ts σ H Q := h
theorem g_if {c : TT} (h : c σ H fun b H1 => if b = true then t D σ H1 else u D σ H1) : tIfS c t u D σ H := h
theorem g_ife {c : TT} (h : c σ H fun b H1 => if b = true then ta σ H1 Q else tb σ H1 Q) : tIf c ta tb σ H Q := h
theorem g_test (h : te σ H fun x H' => ∃ k, x = .bl k ∧ QB k H') : tTest te σ H QB := h
theorem a_bl {c : Bool} {R : Bool → Prop} (h : R c) : ∃ k, V.bl c = .bl k ∧ R k := ⟨c, rfl, h⟩
theorem g_tr (h : ta σ H fun x H1 => ∃ k, TruV K x H1 k ∧ QB k H1) : tTr K ta σ H QB := h
theorem g_not {c : TT} (h : c σ H fun b H1 => QB (!b) H1) : tNot c σ H QB := h
theorem g_or {c d : TT} (h : c σ H fun b H1 => if b = true then QB true H1 else d σ H1 QB) : tOr c d σ H QB := h
theorem g_and {c d : TT} (h : c σ H fun b H1 => if b = true then d σ H1 QB else QB false H1) : tAnd c d σ H QB := h
theorem g_F {sp : Sp} {E : XK} (h : ts σ H fun vs H1 => sp vs H1 Q E) : tF sp E ts σ H Q := h
theorem g_S {C : Addr} {sp : Sp} {E : XK} (h : te σ H fun x H1 => x = .ref C ∧ ts σ H1 fun vs H2 => sp vs H2 Q E) : tS C sp E te ts σ H Q := h
theorem g_lst (h : ts σ H fun xs H1 => rNewL xs H1 Q) : tLst ts σ H Q := h
theorem g_tup (h : ts σ H fun xs H1 => rNewT xs H1 Q) : tTup ts σ H Q := h
theorem g_fld {f : Str} (h : ta σ H fun x H1 => rFld K f x H1 Q) : tFld K ta f σ H Q := h
theorem g_sfld {f : Str} (h : tb σ H fun y H1 => ta σ H1 fun x H2 => rPut K f x y H2 fun H3 => D.nx σ H3) : sFld K ta tb f D σ H := h
theorem g_methR {C : Addr} {f : Str} {sp : Sp} {E : XK} (h : ta σ H fun x H1 => ∃ a dx fs, x = .ref a ∧ H1 a = some (.ins C dx fs) ∧ fs.lookup f = none ∧ ts σ H1 fun vs H2 => sp (x :: vs) H2 Q E) : tMethR C f sp E ta ts σ H Q := h
theorem g_andV (h : ta σ H fun x H1 => ∃ c, x = .bl c ∧ if c = true then tb σ H1 Q else Q (.bl false) H1) : tAndV ta tb σ H Q := h
theorem g_orV (h : ta σ H fun x H1 => ∃ c, x = .bl c ∧ if c = true then Q (.bl true) H1 else tb σ H1 Q) : tOrV ta tb σ H Q := h
theorem g_notT (h : ta σ H fun x H1 => ∃ k, TruV K x H1 k ∧ Q (.bl (!k)) H1) : tNotT K ta σ H Q := h
theorem g_chain {r r' : R2} (h : ta σ H fun x H1 => tb σ H1 fun y H2 => r x y H2 fun z H3 => ∃ k, z = .bl k ∧ (if k = true then tc σ H3 fun w' H4 => r' y w' H4 Q else Q (.bl false) H3)) : tChain r r' ta tb tc σ H Q := h
theorem g_bm {T : String} {r : V → List V → Hp → VK → Prop} (h : ta σ H fun x H1 => tyV K T x H1 ∧ ts σ H1 fun xs H2 => r x xs H2 Q) : tBM K T r ta ts σ H Q := h
theorem g_bm0 {T : String} {r : V → List V → Hp → VK → Prop} (h : ta σ H fun x H1 => tyV K T x H1 ∧ r x [] H1 Q) : tBM0 K T r ta σ H Q := h
theorem g_sl {r : V → Option Int → Option Int → Hp → VK → Prop} {tl th : TO} (h : te σ H fun x H1 => tl σ H1 fun l H2 => th σ H2 fun u H3 => r x l u H3 Q) : tSl r te tl th σ H Q := h
theorem g_nop {R : Option Int → Hp → Prop} (q : R none H) : tNoPart σ H R := q
theorem g_part {R : Option Int → Hp → Prop} (h : te σ H fun x H1 => ∃ i, x = .int i ∧ R (some i) H1) : tPart te σ H R := h
theorem a_int {R : Int → Prop} (h : R n) : ∃ i, V.int n = .int i ∧ R i := ⟨n, rfl, h⟩
/-! values that have come -/
theorem a_addI (q : Q (.int (m + n)) H) : rAddU K (.int m) (.int n) H Q := .inl ⟨_, _, rfl, rfl, q⟩
theorem a_mulI (hc : CMul m n) (q : Q (.int (m * n)) H) : rMulU K (.int m) (.int n) H Q := .inl ⟨_, _, rfl, rfl, hc, q⟩
theorem a_I0 {g : Int → Int → V} (q : Q (g m n) H) : rI0 g (.int m) (.int n) H Q := ⟨_, _, rfl, rfl, q⟩
theorem a_I {C : Int → Int → Prop} {g : Int → Int → V} (hc : C m n) (q : Q (g m n) H) : rI C g (.int m) (.int n) H Q := ⟨_, _, rfl, rfl, hc, q⟩
theorem a_U {g : Int → V} (q : Q (g m) H) : rU g (.int m) H Q := ⟨_, rfl, q⟩
theorem a_ipI {f : Int → Int → Int} (q : Q (.int (f m n)) H) : ipI f (.int m) (.int n) H Q := ⟨_, _, rfl, rfl, q⟩
theorem a_eq (h : scal x y = true) (q : Q (.bl (decide (x = y))) H) : rEqU K x y H Q := .inl ⟨h, q⟩
theorem a_ne (h : scal x y = true) (q : Q (.bl (!decide (x = y))) H) : rNeU K x y H Q := .inl ⟨h, q⟩
theorem a_eqD {d e : PyData} (hd : Dp K H x d) (he : Dp K H y e) (sd : SeqAt.shaped d = true) (se : SeqAt.shaped e = true) (q : Q (.bl (PyData.eqv d e)) H) : rEqU K x y H Q := .inr ⟨d, e, hd, he, sd, se, q⟩
theorem a_neD {d e : PyData} (hd : Dp K H x d) (he : Dp K H y e) (sd : SeqAt.shaped d = true) (se : SeqAt.shaped e = true) (q : Q (.bl (!PyData.eqv d e)) H) : rNeU K x y H Q := .inr ⟨d, e, hd, he, sd, se, q⟩
theorem a_lenL (h : SqL K H p ys) (q : Q (.int ys.length) H) : rLenU K [.ref p] H Q := ⟨p, ys, rfl, .inl h, q⟩
theorem a_lenT (h : SqT K H p ys) (q : Q (.int ys.length) H) : rLenU K [.ref p] H Q := ⟨p, ys, rfl, .inr h, q⟩
theorem a_ixL (h : SqL K H p xs) (ha : atI xs n = some v) (q : Q v H) : rIx K (.ref p) (.int n) H Q := .inl ⟨p, xs, n, v, rfl, rfl, h, ha, q⟩
theorem a_ixT (h : SqT K H p xs) (ha : atI xs n = some v) (q : Q v H) : rIx K (.ref p) (.int n) H Q := .inr (.inl ⟨p, xs, n, v, rfl, rfl, h, ha, q⟩)
theorem a_setL {R : Hp → Prop} {j : Nat} (h : H p = some (.lst xs)) (ha : ixN xs.length n = some j) (q : R (upd H p (.lst (xs.set j v)))) : rSetL (.ref p) (.int n) v H R := ⟨p, xs, n, j, rfl, rfl, h, ha, q⟩
theorem a_newL (hl : xs.length ≤ 100000) (h : ∀ p H2, H p = none → Same H H2 → H2 p = some (.lst xs) → Q (.ref p) H2) : rNewL xs H Q := ⟨Nat.le_trans hl (by decide), fun p hp => h p _ hp (same_new hp) upd_same⟩
theorem a_newT (hl : xs.length ≤ 100000) (h : ∀ p H2, H p = none → Same H H2 → H2 p = some (.tup xs) → Q (.ref p) H2) : rNewT xs H Q := ⟨Nat.le_trans hl (by decide), fun p hp => h p _ hp (same_new hp) upd_same⟩
theorem a_fld {f : Str} {C dx : Addr} {fs : List (Str × V)} (h : H a = some (.ins C dx fs)) (c : Cls K C) (n : NoAttr K C f) (l : fs.lookup f = some v) (q : Q v H) : rFld K f (.ref a) H Q := ⟨a, C, dx, fs, v, rfl, h, c, n, l, q⟩
theorem a_put {f : Str} {C dx : Addr} {fs : List (Str × V)} {R : Hp → Prop} (h : H a = some (.ins C dx fs)) (c : Cls K C) (n : NoAttr K C f) (l : fs.length < 1000) (q : ∀ H2, But a H H2 → H2 a = some (.ins C dx (putF f y fs)) → R H2) : rPut K f (.ref a) y H R := ⟨a, C, dx, fs, rfl, h, c, n, l, q _ But.upd upd_same⟩
theorem a_isi {c : V} {t u : Value} {b : Bool} (k : ClsV c u) (ty : TyX K H x t) (e : PySem.W.kitOne K t u = some b) (q : Q (.bl b) H) : rIsi K [x, c] H Q := ⟨x, c, t, u, b, rfl, k, ty, e, q⟩
theorem a_ite {c A B : Prop} [Decidable c] (h1 : c → A) (h2 : ¬ c → B) : if decide c = true then A else B := by
  by_cases h : c
  · rw [if_pos (decide_eq_true h)]; exact h1 h
  · rw [if_neg (by rw [decide_eq_false h]; exact Bool.false_ne_true)]; exact h2 h
theorem a_itn {c A B : Prop} [Decidable c] (h1 : ¬ c → A) (h2 : c → B) : if (!decide c) = true then A else B := by
  by_cases h : c
  · rw [if_neg (by rw [decide_eq_true h]; exact Bool.false_ne_true)]; exact h2 h
  · rw [if_pos (by rw [decide_eq_false h]; rfl)]; exact h1 h
theorem a_yes {c A B : Prop} [Decidable c] (hc : c) (h : A) : if decide c = true then A else B := by rw [if_pos (decide_eq_true hc)]; exact h
theorem a_no {c A B : Prop} [Decidable c] (hc : ¬ c) (h : B) : if decide c = true then A else B := by
  rw [if_neg (by rw [decide_eq_false hc]; exact Bool.false_ne_true)]; exact h
theorem a_T {A B : Prop} {c : Bool} (hc : c = true) (h : A) : if c = true then A else B := by rw [if_pos hc]; exact h
theorem a_F {A B : Prop} {c : Bool} (hc : c = false) (h : B) : if c = true then A else B := by rw [hc]; rw [if_neg Bool.false_ne_true]; exact h
theorem a_setB {R : Hp → Prop} {j : Nat} (h : H p = some (.lst xs)) (ha : ixN xs.length n = some j) (q : ∀ H2, But p H H2 → H2 p = some (.lst (xs.set j v)) → R H2) : rSetL (.ref p) (.int n) v H R := a_setL h ha (q _ But.upd upd_same)
theorem a_int1 (q : Q (.int n) H) : rInt1 [.int n] H Q := .inl ⟨n, rfl, q⟩
theorem a_list {L : List V} (h : SqL K H p L ∨ SqT K H p L) (q : ∀ l H2, H l = none → Same H H2 → H2 l = some (.lst L) → Q (.ref l) H2) : rListU K [.ref p] H Q := ⟨p, L, rfl, h, fun l hl => q l _ hl (same_new hl) upd_same⟩
theorem a_tupL {L : List V} (h : SqL K H p L) (q : ∀ l H2, H l = none → Same H H2 → H2 l = some (.tup L) → Q (.ref l) H2) : rTupU K [.ref p] H Q := ⟨p, L, rfl, .inl ⟨h, fun l hl => q l _ hl (same_new hl) upd_same⟩⟩
theorem a_tupT {L : List V} (h : SqT K H p L) (q : Q (.ref p) H) : rTupU K [.ref p] H Q := ⟨p, L, rfl, .inr ⟨h, q⟩⟩
/-- tuple(x), x a list or a tuple: some tuple of the same items -/
theorem a_tup {L : List V} (h : SqL K H p L ∨ SqT K H p L) (q : ∀ l H2, Same H H2 → SqT K H2 l L → Q (.ref l) H2) : rTupU K [.ref p] H Q := by
  rcases h with h | h
  · exact a_tupL h fun l H2 _ s e => q l H2 s (SqT.of e)
  · exact a_tupT h (q p H (Same.refl H) h)
theorem a_app {L : List V} {z : V} (h : H p = some (.lst L)) (hl : L.length < sizeLine) (q : ∀ H2, But p H H2 → H2 p = some (.lst (L ++ [z])) → Q .non H2) : rAppend (.ref p) [z] H Q := ⟨p, L, z, rfl, rfl, h, hl, q _ But.upd upd_same⟩
theorem a_ty {L : List V} {R : Prop} (h : H p = some (.lst L)) (q : R) : tyV K "list" (.ref p) H ∧ R := ⟨Or.inl ⟨rfl, _, SqL.of h⟩, q⟩
theorem atI_of {α : Type} {l : List α} {j : Nat} {z : α} {k : Int} (e : k = (j : Int)) (h : l[j]? = some z) : atI l k = some z := by rw [e]; exact atI_nat h
theorem sz {k : Nat} (h : k ≤ 100000) : k ≤ sizeLine := Nat.le_trans h (by decide)
theorem szl {k : Nat} (h : k < 100000) : k < sizeLine := Nat.lt_of_lt_of_le h (by decide)
end
end TT
open TT L2 in
local macro_rules | `(tactic| walk_at "tt") => `(tactic| first
  | with_reducible refine g_seq ?_
  | with_reducible refine g_set ?_
  | with_reducible refine g_c ?_)

set_option Elab.async false
set_option linter.all false
set_option maxRecDepth 100000
set_option maxHeartbeats 4000000
namespace TT
open PySem PySem.Spec PyProof.Rows L2
/-! ### facts of classes as Bools -/
def ownB (K : PySem.W.Frag) (C : Addr) : Bool :=
  PySem.W.plainGet K C Str.empty && PySem.W.hasDictIn K C && PySem.W.plainOver K C && He.eqO (PySem.W.findIn K (.ref C) "__setattr__") (some (some (.builtin "object.__setattr__"))) &&
  He.eqO (PySem.W.findIn K (.ref C) "__class__") (some (some (.builtin "object.__class__"))) &&
  He.eqO (PySem.W.specialIn K (.builtin "object.__class__") "__get__") (some (some (.builtin "getset_descriptor.__get__"))) &&
  decide (PySem.W.takesIn K (.builtin "object.__class__") = some true) && decide (PySem.W.mroIn K C (.type "object") = some true) && PySem.W.selfFirst K C
theorem ownB_ok {K : PySem.W.Frag} {C : Addr} (h : ownB K C = true) : Own K C := by
  unfold ownB at h
  simp only [Bool.and_eq_true] at h
  obtain ⟨⟨⟨⟨⟨⟨⟨⟨h1, h2⟩, h3⟩, h4⟩, h5⟩, h6⟩, h7⟩, h8⟩, h9⟩ := h
  exact ⟨⟨h1, h2, h3, He.eqO_ok h4⟩, He.eqO_ok h5, He.eqO_ok h6, of_decide_eq_true h7, of_decide_eq_true h8, h9⟩
structure StaF (K : PySem.W.Frag) (C : Addr) (m : Str) (f : Addr) : Prop where
  rd : PySem.W.readsIn K C (.type "type") = true
  ga : PySem.W.specialIn K (.ref C) "__getattribute__" = some (some (.builtin "type.__getattribute__"))
  at_ : ∃ p, PySem.W.findCls K (.ref C) (.type "type") m = some (.get (.builtin "staticmethod.__get__") (.ref p) .none (.ref C)) ∧ ∃ rest, PySem.W.recIn K p "staticmethod" = some (.ref f :: rest)
def staB (K : PySem.W.Frag) (C : Addr) (m : Str) : Bool :=
  PySem.W.readsIn K C (.type "type") && He.eqO (PySem.W.specialIn K (.ref C) "__getattribute__") (some (some (.builtin "type.__getattribute__"))) && He5.wrapB K C "staticmethod" "staticmethod.__get__" m
theorem staB_ok {K : PySem.W.Frag} {C : Addr} {m : Str} (h : staB K C m = true) : StaF K C m (He5.wf K C "staticmethod" m) := by
  unfold staB at h
  simp only [Bool.and_eq_true] at h
  obtain ⟨⟨h1, h2⟩, h3⟩ := h
  obtain ⟨h4, h5⟩ := He5.wrapB_ok h3
  exact ⟨h1, He.eqO_ok h2, _, h4, h5⟩
/-- nothing leaves it -/
theorem cx0_of {P : Program} {w : World} {K : PySem.W.Frag} {mg : Str → Option Value} {base : Heap} {f : Addr} {fd : FuncData} {ps : List Str} {k : Nat} {sp : Sp} (G : FnOk P w K mg base (L2.CX P w) k f fd ps sp) (h : ∀ vs H Q E, sp vs H Q E → sp vs H Q E0) : FnOk P w K mg base CX0 k f fd ps sp :=
  ⟨G.len, fun A outer s H args us vs Q E hr e0 hb hv hs => codeAny_mono (G.run A outer s H args us vs Q E0 hr e0 hb hv (h _ _ _ _ hs)) fun r s' q => by
    cases r with
    | ok fl => cases fl <;> exact q
    | error e =>
      obtain ⟨_, _, _, _, _, _, _, _, _, _, _, _, z⟩ := q
      exact z.elim⟩
/-! ### from a def's promise to its contract -/
section
variable {P : Program} {w : World} {K : PySem.W.Frag} {mg : Str → Option Value} {base : Heap} {x q m : Str} {st : Stmt} {f C : Addr} {fd : FuncData} {ps : List Str} {k : Nat} {sp : Sp} {ks : List (Str × V)}
theorem fnr_of (F : FX K x q st [] ks f fd) (G : FnOk P w K mg base (L2.CX P w) k f fd ps sp)
    (b : ∀ (kV doc pm : Value) (an : Option Addr) (cdv ct : Value) (us : List Value), us.length = ps.length → bindArgs (PySem.W.fnOf x q (defArgs st) (defBody st) (defScope st) .none kV doc pm an cdv ct) ⟨us, []⟩ = pure (ps.zip us)) :
    FnR P w K mg base (L2.CX P w) k f sp := (G.raw (F.bindsN b) .nil).imp fun vs H Q E h => by
  show sp (vs ++ []) H Q E
  rw [List.append_nil]
  exact h
theorem cal_of (F : FX K x q st [] ks f fd) (hm : mg x = some (.ref f)) (G : FnOk P w K mg base (L2.CX P w) k f fd ps sp)
    (b : ∀ (kV doc pm : Value) (an : Option Addr) (cdv ct : Value) (us : List Value), us.length = ps.length → bindArgs (PySem.W.fnOf x q (defArgs st) (defBody st) (defScope st) .none kV doc pm an cdv ct) ⟨us, []⟩ = pure (ps.zip us)) :
    Cal P w K mg base x k sp := ⟨f, hm, F.kp, fnr_of F G b⟩
theorem met_of (F : FX K x q st [] ks f fd) (cl : Cls K C) (hm : Meth K C m f) (G : FnOk P w K mg base (L2.CX P w) k f fd ps sp)
    (b : ∀ (kV doc pm : Value) (an : Option Addr) (cdv ct : Value) (us : List Value), us.length = ps.length → bindArgs (PySem.W.fnOf x q (defArgs st) (defBody st) (defScope st) .none kV doc pm an cdv ct) ⟨us, []⟩ = pure (ps.zip us)) :
    Met P w K mg base C m k sp := ⟨cl, f, hm, fnr_of F G b⟩
theorem mak_of {y : Str} (F : FX K x q st [] ks f fd) (hm : mg y = some (.ref C)) (M : Mk K C f) (G : FnOk P w K mg base (L2.CX P w) k f fd ps sp)
    (b : ∀ (kV doc pm : Value) (an : Option Addr) (cdv ct : Value) (us : List Value), us.length = ps.length → bindArgs (PySem.W.fnOf x q (defArgs st) (defBody st) (defScope st) .none kV doc pm an cdv ct) ⟨us, []⟩ = pure (ps.zip us)) :
    Mak P w K mg base y C k sp := ⟨hm, f, M, fnr_of F G b⟩
theorem sta_of (F : FX K x q st [] ks f fd) (S : StaF K C m f) (G : FnOk P w K mg base (L2.CX P w) k f fd ps sp)
    (b : ∀ (kV doc pm : Value) (an : Option Addr) (cdv ct : Value) (us : List Value), us.length = ps.length → bindArgs (PySem.W.fnOf x q (defArgs st) (defBody st) (defScope st) .none kV doc pm an cdv ct) ⟨us, []⟩ = pure (ps.zip us)) :
    Sta P w K mg base C m k sp := by
  obtain ⟨p, h1, h2⟩ := S.at_
  exact ⟨S.rd, S.ga, p, f, h1, h2, F.kp, fnr_of F G b⟩
end
end TT

set_option Elab.async false
set_option linter.all false
set_option maxRecDepth 100000
set_option maxHeartbeats 4000000
namespace TT
open PySem PySem.Spec PyProof.Rows L2
def rMk (C : Addr) (sp : Sp) (E : XK) (vs : List V) (H : Hp) (Q : VK) : Prop := ∀ x dx, H x = none → H dx = none → dx ≠ x → sp (V.ref x :: vs) (upd (upd H dx (.own x)) x (.ins C dx [])) (fun v H2 => v = .non ∧ Q (.ref x) H2) E
def rLrg (a b : Int) (H : Hp) (Q : VK) : Prop := RgOk a b ∧ ∀ q, H q = none → Q (.ref q) (upd H q (.lst (rgV a b)))
/-- what is made stands on what stood -/
theorem a_mk {C : Addr} {sp : Sp} {E : XK} {vs : List V} {H : Hp} {Q : VK} (h : ∀ x dx H1, H x = none → Same H H1 → H1 x = some (.ins C dx []) → sp (V.ref x :: vs) H1 (fun v H2 => v = .non ∧ Q (.ref x) H2) E) : rMk C sp E vs H Q :=
  fun x dx hx hd _ => h x dx _ hx (same_mut (same_new hd) hx) upd_same
/-! ### comprehensions whose parts only make objects -/
section
variable {K : PySem.W.Frag} {J : It} {n j : Nat} {G : Hp → Prop} {Y : Nat → Hp → V → Hp → Prop} {σ : L2.St} {H H1 : Hp} {te : TE} {tt : TT} {Q : VK}
theorem set_none (σ : L2.St) (j : Nat) (x : Option V) : ((σ.set j none).set j x).set j none = σ.set j none := by
  rw [List.set_set, List.set_set]
theorem filt_succ {α : Type} (b : Nat → Bool) (f : Nat → α) (i : Nat) : ((List.range (i + 1)).filter b).map f = ((List.range i).filter b).map f ++ (if b i = true then [f i] else []) := by
  rw [List.range_succ, List.filter_append, List.map_append]
  cases h : b i <;> simp [h]
theorem filt_len (b : Nat → Bool) (f : Nat → V) (i : Nat) : (((List.range i).filter b).map f).length ≤ i := by
  rw [List.length_map]
  exact Nat.le_trans (List.length_filter_le _ _) (by rw [List.length_range]; exact Nat.le_refl i)
theorem lc_f (w : Walk J n G Y) (b : Nat → Bool) (f : Nat → V) (hn : n ≤ 100000) (hG : ∀ H', Same H1 H' → G H')
    (hs : ∀ i x H' H2, i < n → Same H1 H' → Y i H' x H2 → Same H' H2 ∧ (∀ R : Bool → Hp → Prop, (∀ H3, Same H2 H3 → R (b i) H3) → tt ((σ.set j none).set j (some x)) H2 R) ∧
      (b i = true → ∀ H3, Same H2 H3 → ∀ R : VK, (∀ H4, Same H3 H4 → R (f i) H4) → te ((σ.set j none).set j (some x)) H3 R))
    (hd : ∀ D H', H1 D = none → Same H1 H' → H' D = some (.lst (((List.range n).filter b).map f)) → Q (.ref D) H') :
    ∀ D, H1 D = none → ∃ W : Nat → Nat → Hp → Prop, (∃ m, W 0 m (upd H1 D (.lst []))) ∧ ∀ i m H, W i m H →
      (J.stop i H ∧ Q (.ref D) H) ∨ (J.go i H ∧ ∃ Nx : Hp → Prop, (∀ H', Nx H' → ∃ m', m' < m ∧ W (i + 1) m' H') ∧ ∀ x H', J.yld i H x H' → gName j x (wipe σ [j]) H' fun σ2 H2 => wipe σ2 [j] = wipe σ [j] ∧ tt σ2 H2 fun b H3 =>
        if b = true then te σ2 H3 fun y H4 => ∃ acc, H4 D = some (.lst acc) ∧ acc.length < sizeLine ∧ Nx (upd H4 D (.lst (acc ++ [y]))) else Nx H3) := by
  intro D hD
  refine lc_it w (fun i H' => Same H1 H' ∧ H' D = some (.lst (((List.range i).filter b).map f))) ⟨same_new hD, upd_same⟩ (fun i H' _ q => hG H' q.1) ?_ fun H' q => hd D H' hD q.1 q.2
  rintro i x H' H2 hi ⟨q1, q2⟩ hy
  obtain ⟨s2, htt, hte⟩ := hs i x H' H2 hi q1 hy
  refine ⟨set_none σ j (some x), htt _ fun H3 s3 => ?_⟩
  have e3 := s3 _ _ (s2 _ _ q2)
  cases hb : b i with
  | false =>
    rw [if_neg Bool.false_ne_true]
    refine ⟨(q1.trans s2).trans s3, ?_⟩
    rw [e3, filt_succ, hb]
    simp
  | true =>
    rw [if_pos rfl]
    refine hte hb H3 s3 _ fun H4 s4 => ⟨_, s4 _ _ e3, szl (Nat.lt_of_le_of_lt (filt_len b f i) (by omega)), ?_⟩
    refine ⟨same_mut (((q1.trans s2).trans s3).trans s4) hD, ?_⟩
    rw [upd_same, filt_succ, hb]
    rfl
theorem lc_1 (w : Walk J n G Y) (f : Nat → V) (hn : n ≤ 100000) (hG : ∀ H', Same H1 H' → G H')
    (hs : ∀ i x H' H2, i < n → Same H1 H' → Y i H' x H2 → Same H' H2 ∧ ∀ R : VK, (∀ H4, Same H2 H4 → R (f i) H4) → te ((σ.set j none).set j (some x)) H2 R)
    (hd : ∀ D H', H1 D = none → Same H1 H' → H' D = some (.lst ((List.range n).map f)) → Q (.ref D) H') :
    ∀ D, H1 D = none → ∃ W : Nat → Nat → Hp → Prop, (∃ m, W 0 m (upd H1 D (.lst []))) ∧ ∀ i m H, W i m H →
      (J.stop i H ∧ Q (.ref D) H) ∨ (J.go i H ∧ ∃ Nx : Hp → Prop, (∀ H', Nx H' → ∃ m', m' < m ∧ W (i + 1) m' H') ∧ ∀ x H', J.yld i H x H' → gName j x (wipe σ [j]) H' fun σ2 H2 => wipe σ2 [j] = wipe σ [j] ∧ tYes σ2 H2 fun b H3 =>
        if b = true then te σ2 H3 fun y H4 => ∃ acc, H4 D = some (.lst acc) ∧ acc.length < sizeLine ∧ Nx (upd H4 D (.lst (acc ++ [y]))) else Nx H3) := by
  intro D hD
  refine lc_it w (fun i H' => Same H1 H' ∧ H' D = some (.lst ((List.range i).map f))) ⟨same_new hD, upd_same⟩ (fun i H' _ q => hG H' q.1) ?_ fun H' q => hd D H' hD q.1 q.2
  rintro i x H' H2 hi ⟨q1, q2⟩ hy
  obtain ⟨s2, hte⟩ := hs i x H' H2 hi q1 hy
  refine ⟨set_none σ j (some x), ?_⟩
  unfold tYes
  dsimp only
  rw [if_pos rfl]
  refine hte _ fun H4 s4 => ⟨_, s4 _ _ (s2 _ _ q2), szl (by rw [List.length_map, List.length_range]; omega), same_mut ((q1.trans s2).trans s4) hD, ?_⟩
  rw [upd_same, List.range_succ, List.map_append]
  rfl
/-- over a list, a tuple, a range: the i-th value of the target -/
theorem c_l {tl : TE} {xs : List V} (f : Nat → V) (hn : xs.length ≤ 100000) (hl : ∀ R : VK, (∀ a H1, Same H H1 → SqL K H1 a xs → R (.ref a) H1) → tl σ H R)
    (hs : ∀ i x H', xs[i]? = some x → Same H H' → ∀ R : VK, (∀ H4, Same H' H4 → R (f i) H4) → te ((σ.set j none).set j (some x)) H' R)
    (hd : ∀ D H', H D = none → Same H H' → H' D = some (.lst ((List.range xs.length).map f)) → Q (.ref D) H') : tLc (iList K tl) (gName j) tYes te [j] σ H Q := by
  refine hl _ fun a H1 s1 h => ⟨a, rfl, ⟨xs, h⟩, lc_1 walk_list f hn (fun H' s => same_l s h) (fun i x H' H2 hi s y => ?_) fun D H' n s e => hd D H' (s1.free n) (s1.trans s) e⟩
  obtain ⟨rfl, e⟩ := y
  exact ⟨Same.refl _, hs i x _ e (s1.trans s)⟩
theorem c_t {tl : TE} {xs : List V} (f : Nat → V) (hn : xs.length ≤ 100000) (hl : ∀ R : VK, (∀ a H1, Same H H1 → SqT K H1 a xs → R (.ref a) H1) → tl σ H R)
    (hs : ∀ i x H', xs[i]? = some x → Same H H' → ∀ R : VK, (∀ H4, Same H' H4 → R (f i) H4) → te ((σ.set j none).set j (some x)) H' R)
    (hd : ∀ D H', H D = none → Same H H' → H' D = some (.lst ((List.range xs.length).map f)) → Q (.ref D) H') : tLc (iTup K tl) (gName j) tYes te [j] σ H Q := by
  refine hl _ fun a H1 s1 h => ⟨a, rfl, ⟨xs, h⟩, lc_1 walk_tup f hn (fun H' s => same_t s h) (fun i x H' H2 hi s y => ?_) fun D H' n s e => hd D H' (s1.free n) (s1.trans s) e⟩
  obtain ⟨rfl, e⟩ := y
  exact ⟨Same.refl _, hs i x _ e (s1.trans s)⟩
theorem c_r {ta : TA} {k : Nat} (f : Nat → V) (hn : k ≤ 100000) (hl : ∀ R : List V → Hp → Prop, (∀ H1, Same H H1 → R [.int (k : Nat)] H1) → ta σ H R)
    (hs : ∀ (i : Nat) H', i < k → Same H H' → ∀ R : VK, (∀ H4, Same H' H4 → R (f i) H4) → te ((σ.set j none).set j (some (.int (i : Nat)))) H' R)
    (hd : ∀ D H', H D = none → Same H H' → H' D = some (.lst ((List.range k).map f)) → Q (.ref D) H') : tLc (iRng1 ta) (gName j) tYes te [j] σ H Q := by
  refine hl _ fun H1 s1 => ⟨(k : Int), rfl, by omega, by omega, lc_1 walk_range f (by omega) (fun _ _ => True.intro) (fun i x H' H2 hi s y => ?_) fun D H' n s e => hd D H' (s1.free n) (s1.trans s) e⟩
  obtain ⟨rfl, e⟩ := y
  subst e
  refine ⟨Same.refl _, ?_⟩
  have e0 : (0 : Int) + (i : Int) = i := by omega
  show ∀ R : VK, _ → te ((σ.set j none).set j (some (.int (0 + (i : Int))))) H2 R
  rw [e0]
  exact hs i _ (by omega) (s1.trans s)
/-! .. with a test -/
theorem cf_l {tl : TE} {xs : List V} (b : Nat → Bool) (f : Nat → V) (hn : xs.length ≤ 100000) (hl : ∀ R : VK, (∀ a H1, Same H H1 → SqL K H1 a xs → R (.ref a) H1) → tl σ H R)
    (hs : ∀ i x H', xs[i]? = some x → Same H H' → (∀ R : Bool → Hp → Prop, (∀ H3, Same H' H3 → R (b i) H3) → tt ((σ.set j none).set j (some x)) H' R) ∧
      (b i = true → ∀ H3, Same H' H3 → ∀ R : VK, (∀ H4, Same H3 H4 → R (f i) H4) → te ((σ.set j none).set j (some x)) H3 R))
    (hd : ∀ D H', H D = none → Same H H' → H' D = some (.lst (((List.range xs.length).filter b).map f)) → Q (.ref D) H') : tLc (iList K tl) (gName j) tt te [j] σ H Q := by
  refine hl _ fun a H1 s1 h => ⟨a, rfl, ⟨xs, h⟩, lc_f walk_list b f hn (fun H' s => same_l s h) (fun i x H' H2 hi s y => ?_) fun D H' n s e => hd D H' (s1.free n) (s1.trans s) e⟩
  obtain ⟨rfl, e⟩ := y
  exact ⟨Same.refl _, hs i x _ e (s1.trans s)⟩
theorem cf_t {tl : TE} {xs : List V} (b : Nat → Bool) (f : Nat → V) (hn : xs.length ≤ 100000) (hl : ∀ R : VK, (∀ a H1, Same H H1 → SqT K H1 a xs → R (.ref a) H1) → tl σ H R)
    (hs : ∀ i x H', xs[i]? = some x → Same H H' → (∀ R : Bool → Hp → Prop, (∀ H3, Same H' H3 → R (b i) H3) → tt ((σ.set j none).set j (some x)) H' R) ∧
      (b i = true → ∀ H3, Same H' H3 → ∀ R : VK, (∀ H4, Same H3 H4 → R (f i) H4) → te ((σ.set j none).set j (some x)) H3 R))
    (hd : ∀ D H', H D = none → Same H H' → H' D = some (.lst (((List.range xs.length).filter b).map f)) → Q (.ref D) H') : tLc (iTup K tl) (gName j) tt te [j] σ H Q := by
  refine hl _ fun a H1 s1 h => ⟨a, rfl, ⟨xs, h⟩, lc_f walk_tup b f hn (fun H' s => same_t s h) (fun i x H' H2 hi s y => ?_) fun D H' n s e => hd D H' (s1.free n) (s1.trans s) e⟩
  obtain ⟨rfl, e⟩ := y
  exact ⟨Same.refl _, hs i x _ e (s1.trans s)⟩
theorem cf_r {ta : TA} {k : Nat} (b : Nat → Bool) (f : Nat → V) (hn : k ≤ 100000) (hl : ∀ R : List V → Hp → Prop, (∀ H1, Same H H1 → R [.int (k : Nat)] H1) → ta σ H R)
    (hs : ∀ (i : Nat) H', i < k → Same H H' → (∀ R : Bool → Hp → Prop, (∀ H3, Same H' H3 → R (b i) H3) → tt ((σ.set j none).set j (some (.int (i : Nat)))) H' R) ∧
      (b i = true → ∀ H3, Same H' H3 → ∀ R : VK, (∀ H4, Same H3 H4 → R (f i) H4) → te ((σ.set j none).set j (some (.int (i : Nat)))) H3 R))
    (hd : ∀ D H', H D = none → Same H H' → H' D = some (.lst (((List.range k).filter b).map f)) → Q (.ref D) H') : tLc (iRng1 ta) (gName j) tt te [j] σ H Q := by
  refine hl _ fun H1 s1 => ⟨(k : Int), rfl, by omega, by omega, lc_f walk_range b f (by omega) (fun _ _ => True.intro) (fun i x H' H2 hi s y => ?_) fun D H' n s e => hd D H' (s1.free n) (s1.trans s) e⟩
  obtain ⟨rfl, e⟩ := y
  subst e
  refine ⟨Same.refl _, ?_⟩
  have e0 : (0 : Int) + (i : Int) = i := by omega
  dsimp only
  rw [e0]
  exact hs i _ (by omega) (s1.trans s)
theorem g_lcT {wi : TI} {g : TG} {vs : List Nat} (h : wi σ H fun J H1 => ∀ D, H1 D = none → ∃ W : Nat → Nat → Hp → Prop, (∃ m, W 0 m (upd H1 D (.lst []))) ∧ ∀ i m H, W i m H →
      (J.stop i H ∧ Q (.ref D) H) ∨ (J.go i H ∧ ∃ Nx : Hp → Prop, (∀ H', Nx H' → ∃ m', m' < m ∧ W (i + 1) m' H') ∧ ∀ x H', J.yld i H x H' → g x (wipe σ vs) H' fun σ2 H2 => wipe σ2 vs = wipe σ vs ∧ tt σ2 H2 fun b H3 =>
        if b = true then te σ2 H3 fun y H4 => ∃ acc, H4 D = some (.lst acc) ∧ acc.length < sizeLine ∧ Nx (upd H4 D (.lst (acc ++ [y]))) else Nx H3)) : tLc wi g tt te vs σ H Q := h
theorem g_iTup {tl : TE} {R : It → Hp → Prop} (h : tl σ H fun x H1 => ∃ a, x = .ref a ∧ (∃ xs, SqT K H1 a xs) ∧ R (Itt K a) H1) : iTup K tl σ H R := h
theorem g_iList {tl : TE} {R : It → Hp → Prop} (h : tl σ H fun x H1 => ∃ a, x = .ref a ∧ (∃ xs, SqL K H1 a xs) ∧ R (Itl K a) H1) : iList K tl σ H R := h
theorem g_iRng {ta : TA} {R : It → Hp → Prop} (h : ta σ H fun vs H1 => ∃ j : Int, vs = [.int j] ∧ -(2 ^ 62) ≤ j ∧ j < 2 ^ 62 ∧ R (Itr 0 j.toNat) H1) : iRng1 ta σ H R := h
theorem g_iEt {ta : TA} {R : It → Hp → Prop} (h : ta σ H fun vs H1 => ∃ a xs, vs = [.ref a] ∧ SqT K H1 a xs ∧ R (Iet K a) H1) : iEt K ta σ H R := h
theorem g_iEn {ta : TA} {R : It → Hp → Prop} (h : ta σ H fun vs H1 => ∃ a xs, vs = [.ref a] ∧ SqL K H1 a xs ∧ R (Ite K a) H1) : iEnum K ta σ H R := h
theorem g_for {wi : TI} {g : TG} {tb : TS} {D : Ends} (h : wi σ H fun J H1 => ∃ W : Nat → Nat → L2.St → Hp → Prop, (∃ m, W 0 m σ H1) ∧ ∀ i m σ H, W i m σ H →
      (J.stop i H ∧ D.nx σ H) ∨ (J.go i H ∧ ∃ N : L2.St → Hp → Prop, (∀ σ' H', N σ' H' → ∃ m', m' < m ∧ W (i + 1) m' σ' H') ∧ ∀ x H', J.yld i H x H' → g x σ H' fun σ2 H2 => tb { D with nx := N, ct := N, bk := D.nx } σ2 H2)) : tFor wi g tb D σ H := h
theorem g_mk {C : Addr} {sp : Sp} {E : XK} {ts : TA} (h : ts σ H fun vs H1 => rMk C sp E vs H1 Q) : StX.tMakeR C sp E ts σ H Q := h
theorem g_lrg {tr : L2.St → Hp → (Int → Int → Hp → Prop) → Prop} (h : tr σ H fun a b H1 => rLrg a b H1 Q) : tLstRg tr σ H Q := h
theorem g_rg1 {ta : TE} {R : Int → Int → Hp → Prop} (h : ta σ H fun x H1 => ∃ n, x = .int n ∧ R 0 n H1) : tRg1 ta σ H R := h
theorem g_yes {R : Bool → Hp → Prop} (h : R true H) : tYes σ H R := h
theorem g_gtup {t : TGs} {k : Nat} {a : Addr} {xs : List V} {R : L2.St → Hp → Prop} (h : SqT K H a xs) (hn : xs.length = k) (q : t xs σ H R) : gTup K k t (.ref a) σ H R := ⟨a, xs, rfl, h, hn, q⟩
theorem g_gcons {t : TG} {u : TGs} {v : V} {r : List V} {R : L2.St → Hp → Prop} (q : t v σ H fun σ' H' => u r σ' H' R) : gCons t u (v :: r) σ H R := ⟨v, r, rfl, q⟩
theorem g_gnil {R : L2.St → Hp → Prop} (q : R σ H) : gNil [] σ H R := ⟨rfl, q⟩
theorem g_gname {i : Nat} {v : V} {R : L2.St → Hp → Prop} (q : R (σ.set i (some v)) H) : gName i v σ H R := q
/-- x(e, ..), x an instance of C -/
def tCO (C : Addr) (sp : Sp) (E : XK) (tf : TE) (t : TA) : TE := fun σ H Q => tf σ H fun y H1 => ∃ a, y = V.ref a ∧ t σ H1 fun vs H2 => (∃ dx fs, H2 a = some (.ins C dx fs)) ∧ sp (V.ref a :: vs) H2 Q E
theorem pe_co {X : Cx} {C : Addr} {sp : Sp} {E : XK} {k i : Nat} {fe e : Expr} {es : List Expr} {tf : TE} {t : TA} {pos : Pos} (c : Met X.prog X.w X.K X.mg X.base C "__call__" k sp) (fi : ∀ g, Meth X.K C "__call__" g → PySem.W.fnIn X.K g = true) (hr : Room i X.A) (hk : k ≤ i) (hx : Passes (L2.CX X.prog X.w) X E) (hf : PE X fe tf) (ha : PA X (e :: es) t)
    (h1 : eval (.Call fe (e :: es) [] pos) X.env = (eval fe X.env >>= fun z => callWith pos z [] (backTo pos (starEach (e :: es) X.env)) (backToKw pos (keywordEach [] X.env))) := by rfl)
    (h2 : starEach (e :: es) X.env = (false, eval e X.env) :: starEach es X.env := by rfl) (h3 : (backTo pos (starEach es X.env)).any (·.1) = false := by rfl) : PE X (.Call fe (e :: es) [] pos) (tCO C sp E tf t) := ⟨fun pins s σ H Q I h => by
  obtain ⟨g, hm, F⟩ := c.ex
  refine Call_ (thn (hf.run pins s σ H _ I h) fun u s1 hh => ?_) h1
  obtain ⟨y, H1, I1, ry, a, ey, q⟩ := hh
  subst ey
  cases (show u = Value.ref a from ry)
  refine StX.callO_with (thn (ha.run pos pins s1 σ H1 _ I1 q) fun us s2 hh2 => ?_) h2 h3
  obtain ⟨vs, H2, I2, r, ⟨dx, fs, hi⟩, q2⟩ := hh2
  obtain ⟨ox, od, J, hd⟩ := StX.insC_at (C := C) I2 (.inr ⟨dx, fs, hi⟩)
  exact ⟨⟨C, ox, od, J, hd⟩, StX.run_callO ⟨hm.at_, hm.fn, fi g hm⟩ F (hr.mono hk) hx I2 (.inr ⟨dx, fs, hi⟩) r q2⟩⟩
theorem g_co {C : Addr} {sp : Sp} {E : XK} {tf : TE} {t : TA} (h : tf σ H fun y H1 => ∃ a, y = V.ref a ∧ t σ H1 fun vs H2 => (∃ dx fs, H2 a = some (.ins C dx fs)) ∧ sp (V.ref a :: vs) H2 Q E) : tCO C sp E tf t σ H Q := h
theorem a_ref {a : Addr} {R : Addr → Prop} (h : R a) : ∃ b, V.ref a = .ref b ∧ R b := ⟨a, rfl, h⟩
theorem a_pop {p : Addr} {L : List V} {m : Int} {k : Nat} {y : V} (h : H p = some (.lst L)) (e : m = (k : Int)) (hk : L[k]? = some y) (hl : L.length ≤ 100000) (q : ∀ H2, But p H H2 → H2 p = some (.lst (L.eraseIdx k)) → Q y H2) : rPopAt (.ref p) [.int m] H Q := by
  have hlt := (List.getElem?_eq_some_iff.mp hk).1
  refine ⟨p, L, m, k, y, rfl, rfl, h, by omega, by omega, ?_, hk, q _ But.upd upd_same⟩
  subst e
  exact (L2.ixN_seq (by unfold ixN; rw [if_pos (by omega), if_pos (by omega)]; rfl)).1
theorem a_truB {b : Bool} {R : Bool → Prop} (h : R b) : ∃ k, TruV K (.bl b) H k ∧ R k := ⟨b, rfl, h⟩
theorem a_truI {m : Int} {R : Bool → Prop} (h : R (m != 0)) : ∃ k, TruV K (.int m) H k ∧ R k := ⟨_, rfl, h⟩
theorem a_truL {p : Addr} {xs : List V} {R : Bool → Prop} (e : SqL K H p xs) (h : R (!xs.isEmpty)) : ∃ k, TruV K (.ref p) H k ∧ R k := ⟨_, .inl ⟨xs, e, rfl⟩, h⟩
theorem a_truT {p : Addr} {xs : List V} {R : Bool → Prop} (e : SqT K H p xs) (h : R (!xs.isEmpty)) : ∃ k, TruV K (.ref p) H k ∧ R k := ⟨_, .inr (.inl ⟨xs, e, rfl⟩), h⟩
theorem a_nyes {c A B : Prop} [Decidable c] (hc : c) (h : B) : if (!decide c) = true then A else B := iteNS hc h
theorem a_nno {c A B : Prop} [Decidable c] (hc : ¬ c) (h : A) : if (!decide c) = true then A else B := by
  rw [if_pos (by rw [decide_eq_false hc]; rfl)]; exact h
theorem a_lrg {n : Int} (h0 : 0 ≤ n) (hn : n ≤ 100000) (q : ∀ p H2, H p = none → Same H H2 → H2 p = some (.lst ((List.range n.toNat).map fun i => V.int (i : Nat))) → Q (.ref p) H2) :
    rLrg 0 n H Q := by
  refine ⟨⟨by omega, by omega, by omega, by omega, by omega⟩, fun p hp => q p _ hp (same_new hp) ?_⟩
  rw [upd_same]
  have e : rgV 0 n = (List.range n.toNat).map fun i => V.int (i : Nat) := by
    unfold rgV
    rw [Int.sub_zero]
    apply List.map_congr_left
    intro i _
    rw [Int.zero_add]
  rw [e]
end
end TT

set_option Elab.async false
set_option linter.all false
set_option maxRecDepth 100000
set_option maxHeartbeats 4000000
namespace TT
open PySem PySem.Spec PyProof.Rows L2
/-! ### plain lists -/
theorem sub_len {α : Type} [DecidableEq α] : ∀ {l m : List α}, l.Nodup → (∀ x ∈ l, x ∈ m) → l.length ≤ m.length
  | [], _, _, _ => Nat.zero_le _
  | a :: l, m, nd, h => by
    have na := List.nodup_cons.mp nd
    have ha : a ∈ m := h a (List.mem_cons_self ..)
    have ih := sub_len (l := l) (m := m.erase a) na.2 fun x hx => (List.mem_erase_of_ne (fun e => na.1 (by rw [← e]; exact hx))).mpr (h x (List.mem_cons_of_mem _ hx))
    have e := List.length_erase_of_mem ha
    have p : 0 < m.length := List.length_pos_of_mem ha
    show l.length + 1 ≤ m.length
    omega
/-- an image of a permutation -/
structure OkImg (a : List Nat) : Prop where
  nd : a.Nodup
  lt : ∀ x ∈ a, x < a.length
theorem OkImg.has {a : List Nat} (h : OkImg a) {j : Nat} (hj : j < a.length) : j ∈ a := by
  by_cases hm : j ∈ a
  · exact hm
  · have := sub_len (l := j :: a) (m := List.range a.length) (List.nodup_cons.mpr ⟨hm, h.nd⟩) fun x hx => by
      rw [List.mem_range]
      rcases List.mem_cons.mp hx with rfl | hx
      · exact hj
      · exact h.lt x hx
    rw [List.length_range, List.length_cons] at this
    omega
theorem nd_inj {a : List Nat} (nd : a.Nodup) {i j : Nat} (hi : i < a.length) (hj : j < a.length) (e : a[i] = a[j]) : i = j :=
  L2.nd_ix nd (List.getElem?_eq_getElem hi) (by rw [List.getElem?_eq_getElem hj, e])
theorem idx_at {a : List Nat} {j : Nat} (h : j ∈ a) : ∃ hl : a.idxOf j < a.length, a[a.idxOf j] = j := by
  have hl := List.idxOf_lt_length_of_mem h
  exact ⟨hl, List.getElem_idxOf hl⟩
theorem idx_uniq {a : List Nat} (nd : a.Nodup) {i j : Nat} (hi : i < a.length) (e : a[i] = j) : a.idxOf j = i := by
  have hm : j ∈ a := e ▸ List.getElem_mem hi
  obtain ⟨hl, hx⟩ := idx_at hm
  exact nd_inj nd hl hi (by rw [hx, e])
def comp (a b : List Nat) : List Nat := a.map fun i => b.getD i 0
def inv (a : List Nat) : List Nat := (List.range a.length).map fun j => a.idxOf j
theorem comp_len (a b : List Nat) : (comp a b).length = a.length := List.length_map _
theorem inv_len (a : List Nat) : (inv a).length = a.length := by unfold inv; rw [List.length_map, List.length_range]
theorem getD_lt {b : List Nat} {i : Nat} (h : i < b.length) : b.getD i 0 = b[i] := by
  rw [List.getD_eq_getElem?_getD, List.getElem?_eq_getElem h]
  rfl
theorem comp_get {a b : List Nat} {i : Nat} (h : i < a.length) (h' : i < (comp a b).length := by rw [comp_len]; assumption) : (comp a b)[i] = b.getD a[i] 0 := by
  simp [comp]
theorem inv_get {a : List Nat} {i : Nat} (h : i < (inv a).length) : (inv a)[i] = a.idxOf i := by
  simp [inv]
theorem OkImg.of_inj {a : List Nat} (h : ∀ i j (hi : i < a.length) (hj : j < a.length), a[i] = a[j] → i = j) (l : ∀ i (hi : i < a.length), a[i] < a.length) : OkImg a := by
  refine ⟨?_, fun x hx => ?_⟩
  · rw [List.nodup_iff_pairwise_ne]
    rw [List.pairwise_iff_getElem]
    intro i j hi hj hij e
    exact absurd (h i j hi hj e) (Nat.ne_of_lt hij)
  · obtain ⟨i, hi, e⟩ := List.getElem_of_mem hx
    rw [← e]
    exact l i hi
theorem OkImg.comp {a b : List Nat} (ha : OkImg a) (hb : OkImg b) (e : a.length = b.length) : OkImg (TT.comp a b) := by
  have hl : ∀ i (hi : i < a.length), a[i] < b.length := fun i hi => e ▸ ha.lt _ (List.getElem_mem hi)
  refine .of_inj (fun i j hi hj q => ?_) fun i hi => ?_
  · rw [comp_len] at hi hj
    rw [comp_get hi, comp_get hj, getD_lt (hl i hi), getD_lt (hl j hj)] at q
    exact nd_inj ha.nd hi hj (nd_inj hb.nd (hl i hi) (hl j hj) q)
  · rw [comp_len] at hi ⊢
    rw [comp_get hi, getD_lt (hl i hi), e]
    exact hb.lt _ (List.getElem_mem _)
theorem OkImg.inv {a : List Nat} (ha : OkImg a) : OkImg (TT.inv a) := by
  refine .of_inj (fun i j hi hj q => ?_) fun i hi => ?_
  · rw [inv_get, inv_get] at q
    rw [inv_len] at hi hj
    obtain ⟨h1, h2⟩ := idx_at (ha.has hi)
    obtain ⟨h3, h4⟩ := idx_at (ha.has hj)
    rw [← h2, ← h4]
    exact getElem_congr_idx q
  · rw [inv_get]
    rw [inv_len] at hi ⊢
    exact (idx_at (ha.has hi)).1
theorem OkImg.range (n : Nat) : OkImg (List.range n) := ⟨List.nodup_range, fun x hx => by rw [List.length_range]; exact List.mem_range.mp hx⟩
theorem comp_inv {a : List Nat} (ha : OkImg a) : comp a (inv a) = List.range a.length := by
  refine List.ext_getElem (by rw [comp_len, List.length_range]) fun i h1 h2 => ?_
  rw [comp_len] at h1
  rw [comp_get h1, List.getElem_range, getD_lt (by rw [inv_len]; exact ha.lt _ (List.getElem_mem _)), inv_get]
  exact idx_uniq ha.nd h1 rfl
theorem inv_comp {a b : List Nat} (ha : OkImg a) (hb : OkImg b) (e : a.length = b.length) : inv (comp a b) = comp (inv b) (inv a) := by
  refine List.ext_getElem (by rw [inv_len, comp_len, comp_len, inv_len, e]) fun j h1 h2 => ?_
  rw [inv_get]
  rw [inv_len, comp_len] at h1
  have hj : j < b.length := e ▸ h1
  obtain ⟨p1, p2⟩ := idx_at (hb.has hj)
  have hk : b.idxOf j < a.length := by rw [e]; exact p1
  obtain ⟨p3, p4⟩ := idx_at (ha.has hk)
  have hj' : j < (inv b).length := by rw [inv_len]; exact hj
  rw [comp_get hj', inv_get, getD_lt (by rw [inv_len]; exact hk), inv_get]
  refine idx_uniq (ha.comp hb e).nd (by rw [comp_len]; exact p3) ?_
  rw [comp_get p3, p4, getD_lt p1, p2]
/-! ### values -/
def vi (a : List Nat) : List V := a.map fun n => V.int (n : Nat)
def di (a : List Nat) : List PyData := a.map fun n => PyData.int (n : Nat)
theorem vi_len (a : List Nat) : (vi a).length = a.length := List.length_map _
theorem vi_get {a : List Nat} {i : Nat} {x : V} (h : (vi a)[i]? = some x) : ∃ hi : i < a.length, x = V.int (a[i] : Nat) := by
  obtain ⟨h1, h2⟩ := List.getElem?_eq_some_iff.mp h
  rw [vi_len] at h1
  refine ⟨h1, ?_⟩
  rw [← h2]
  simp [vi]
theorem vi_at {a : List Nat} {i : Nat} (h : i < a.length) : (vi a)[i]? = some (V.int (a[i] : Nat)) := by
  unfold vi
  rw [List.getElem?_map, List.getElem?_eq_getElem h]
  rfl
theorem dp_vi {K : PySem.W.Frag} {H : Hp} : ∀ a : List Nat, DpAll K H (vi a) (di a)
  | [] => .nil
  | n :: a => .cons (.int _) (dp_vi a)
theorem lay_di : ∀ a : List Nat, PyData.canLayAll0 (di a) = true
  | [] => by simp [di, PyData.canLayAll0]
  | n :: a => by
    have ih := lay_di a
    simp [di, PyData.canLayAll0, PyData.canLay0] at ih ⊢
    exact ih
theorem dep_di : ∀ a : List Nat, PyData.depthAll (di a) ≤ 1
  | [] => by simp [di, PyData.depthAll]
  | n :: a => by
    have ih := dep_di a
    simp [di, PyData.depthAll, PyData.depth] at ih ⊢
    omega
theorem sh_t (a : List Nat) : SeqAt.shaped (.tuple (di a)) = true := by
  unfold SeqAt.shaped
  have h1 := lay_di a
  have h2 := dep_di a
  simp [PyData.canLay0, PyData.depth, h1]
  omega
theorem sh_l (a : List Nat) : SeqAt.shaped (.list (di a)) = true := by
  unfold SeqAt.shaped
  have h1 := lay_di a
  have h2 := dep_di a
  simp [PyData.canLay0, PyData.depth, h1]
  omega
theorem eqv_di : ∀ a b : List Nat, PyData.eqvAll (di a) (di b) = decide (a = b)
  | [], [] => by simp [di, PyData.eqvAll]
  | [], _ :: _ => by simp [di, PyData.eqvAll]
  | _ :: _, [] => by simp [di, PyData.eqvAll]
  | n :: a, m :: b => by
    have ih := eqv_di a b
    simp only [di, List.map_cons, PyData.eqvAll, PyData.eqv] at ih ⊢
    rw [ih]
    by_cases h : n = m
    · subst h
      simp
    · have h' : ((n : Int) == (m : Int)) = false := by
        rw [beq_eq_false_iff_ne]
        omega
      rw [h']
      simp [h]
theorem eqv_tt (a b : List Nat) : PyData.eqv (.tuple (di a)) (.tuple (di b)) = decide (a = b) := by
  simp only [PyData.eqv]
  exact eqv_di a b
theorem eqv_ll (a b : List Nat) : PyData.eqv (.list (di a)) (.list (di b)) = decide (a = b) := by
  simp only [PyData.eqv]
  exact eqv_di a b
end TT

set_option Elab.async false
set_option linter.all false
set_option maxRecDepth 100000
set_option maxHeartbeats 4000000
namespace TT
open PySem PySem.Spec PyProof.Rows L2
/-! ### errors of the program: classes below ValueError by way of a class of the program -/
structure Err (K : PySem.W.Frag) (C : Addr) : Prop where
  ox : OexC K C
  xf : XfC K C
  ca : PySem.W.findIn K (.ref C) "__class__" = some (some (.builtin "object.__class__"))
  cn : PySem.W.specialIn K (.builtin "object.__class__") "__get__" = some (some (.builtin "getset_descriptor.__get__"))
  ct : PySem.W.takesIn K (.builtin "object.__class__") = some true
  cm : PySem.W.mroIn K C (.type "object") = some true
  ic : (PySem.W.clsIn K C).isSome = true
  em : PySem.W.exmOne K (.ref C) (.ref C) = some true
def oexB (K : PySem.W.Frag) (C : Addr) : Bool := match K.lookup C with
  | some ⟨.type "type", _, .cls cd, sl⟩ => (match cd.mro, sl.toList with
    | .ref D :: bm, [_, _, _, _, some (.builtin n), _] => D == C && n == "ValueError.__new__" && !cd.hasDel && cd.hasDict && PySem.HandSPX.refsVE bm
    | _, _ => false)
  | _ => false
theorem oexB_ok {K : PySem.W.Frag} {C : Addr} (q : oexB K C = true) :
    ∃ nm q N bs bm sn sub ab col dd k0 k1 k2 k3 k5, K.lookup C = some (excClassObj nm q C N bs bm true sn sub ab col dd k0 k1 k2 k3 k5 "ValueError.__new__") ∧ PySem.HandSPX.refsVE bm = true := by
  unfold oexB at q
  split at q
  · rename_i dd cd sl ho
    split at q
    · rename_i D bm a0 a1 a2 a3 n a5 hm hs
      simp only [Bool.and_eq_true, beq_iff_eq, Bool.not_eq_true'] at q
      obtain ⟨⟨⟨⟨rfl, rfl⟩, q1⟩, q2⟩, q3⟩ := q
      obtain ⟨nm, bs, mro, ns, qn, hd, sn, sub, ab, col, dl⟩ := cd
      dsimp only at hm q1 q2
      subst hm q1 q2
      have es : sl = #[a0, a1, a2, a3, some (.builtin "ValueError.__new__"), a5] := by
        cases sl
        simp only at hs
        rw [hs]
      subst es
      exact ⟨nm, qn, ns, bs, bm, sn, sub, ab, col, dd, a0, a1, a2, a3, a5, ho, q3⟩
    · cases q
  · cases q
def errB (K : PySem.W.Frag) (C : Addr) : Bool :=
  oexB K C && He.eqO (PySem.W.findIn K (.ref C) "__setattr__") (some (some (.builtin "object.__setattr__"))) && decide (PySem.W.subIn K (.ref C) (.type "BaseException") = some true) &&
  (PySem.W.typeIn K (.ref C) == some (.type "type")) && PySem.W.keepIn K (.ref C) && xfB K C &&
  He.eqO (PySem.W.findIn K (.ref C) "__class__") (some (some (.builtin "object.__class__"))) && He.eqO (PySem.W.specialIn K (.builtin "object.__class__") "__get__") (some (some (.builtin "getset_descriptor.__get__"))) &&
  decide (PySem.W.takesIn K (.builtin "object.__class__") = some true) && decide (PySem.W.mroIn K C (.type "object") = some true) && (PySem.W.clsIn K C).isSome && decide (PySem.W.exmOne K (.ref C) (.ref C) = some true)
theorem errB_ok {K : PySem.W.Frag} {C : Addr} (h : errB K C = true) : Err K C := by
  unfold errB at h
  simp only [Bool.and_eq_true] at h
  obtain ⟨⟨⟨⟨⟨⟨⟨⟨⟨⟨⟨h1, h2⟩, h3⟩, h4⟩, h5⟩, h6⟩, h7⟩, h8⟩, h9⟩, h10⟩, h11⟩, h12⟩ := h
  exact ⟨⟨oexB_ok h1, He.eqO_ok h2, of_decide_eq_true h3, eq_of_beq h4, h5⟩, xfB_ok h6, He.eqO_ok h7, He.eqO_ok h8, of_decide_eq_true h9, of_decide_eq_true h10, h11, of_decide_eq_true h12⟩
/-- isinstance(e, c) where a suite holds e -/
def rIsX (K : PySem.W.Frag) (cls : Value) (d : Option Addr) (a : Addr) : List V → Hp → VK → Prop := fun xs H Q => ∃ (D : Addr) (c : V) (cv : Value) (b : Bool), cls = .ref D ∧ Err K D ∧ xs = [.ref a, c] ∧ (∀ dd, d = some dd → ∃ fs, H dd = some (.xd fs)) ∧
  (∀ u, RelV c u → u = cv) ∧ PySem.W.kitOne K (.ref D) cv = some b ∧ Q (.bl b) H
theorem call_isX {X : Cx} {a : Addr} {cls : Value} {d : Option Addr} {oe : Obj} {pn : List (Addr × Obj)} (hz : Zc cls d oe) (hf : ∃ vs, oe.data = .fields vs) : CallR (X.suite a ((a, oe) :: pn)) (.builtin "isinstance") (rIsX X.K cls d a) := by
  intro pins s σ H xs us Q I r h
  obtain ⟨D, c, cv, b, rfl, E, rfl, hdd, hcv, e, q⟩ := h
  cases r with
  | cons rx rr =>
    cases rr with
    | cons rt rr =>
      cases rr
      cases rx
      have ec := hcv _ rt
      subst ec
      obtain ⟨hget, _⟩ := I.pin (a, oe) (List.mem_append.mpr (.inl List.mem_cons_self))
      obtain ⟨vs, hv⟩ := hf
      have J : ∃ od, PySem.W.InstAt s.heap a oe D od := by
        obtain ⟨oc, od, oda, osl⟩ := oe
        obtain ⟨h1, h2⟩ := hz
        dsimp only at h1 h2 hv
        subst h1 h2 hv
        cases od with
        | none => exact ⟨none, hget, rfl, rfl, trivial⟩
        | some dd =>
          obtain ⟨fs, ed⟩ := hdd dd rfl
          have hx : ObjOk X.prog X.w H s.heap dd (.xd fs) := I.hok dd _ ed
          obtain ⟨mA, ⟨o, es, ep, ho, _⟩, _⟩ := hx
          exact ⟨some o, hget, rfl, rfl, ho⟩
      obtain ⟨od, J⟩ := J
      exact PySem.W.kia_one (PySem.W.kitx_exc E.ic E.xf.ga E.xf.gg E.xf.exC E.ca E.cn E.ct E.cm) I.kIn J e (fun z => nomatch z) fun tk => ⟨.bl b, H, I.kept (t' := tk) fun _ _ z => z, rfl, q⟩
/-! ### making an error -/
def rOex (C : Addr) (sp : Sp) (vs : List V) (H1 : Hp) (Q : XK) : Prop := vs.length ≤ 1000 ∧ ∀ a, H1 a = none → sp (.ref a :: (vs ++ [])) (upd H1 a (exo a C none))
  (fun v H2 => v = .non ∧ ∃ (d : Addr) (fs : List (Str × V)), H2 a = some (exo a C (some d)) ∧ H2 d = some (exd d fs) ∧ H1 d = none ∧ Q (.ref C) (some d) (upd (del H2 a) d (.xd fs))) (fun _ _ _ => False)
def tOex (C : Addr) (sp : Sp) (ta : TA) : L2.St → Hp → XK → Prop := fun σ H Q => ta σ H fun vs H1 => rOex C sp vs H1 Q
/-- __init__ of one field -/
def spI1 (C : Addr) (f : Str) : Sp := fun vs H Q _ => ∃ a v, vs = [.ref a, v] ∧ H a = some (exo a C none) ∧ ∀ dx, H dx = none → dx ≠ a → Q .non (upd (upd H dx (exd dx [(f, v)])) a (exo a C (some dx)))
def spI2 (C : Addr) (f g : Str) : Sp := fun vs H Q _ => ∃ a v w, vs = [.ref a, v, w] ∧ H a = some (exo a C none) ∧ ∀ dx, H dx = none → dx ≠ a → Q .non (upd (upd (upd H dx (exd dx [(f, v)])) a (exo a C (some dx))) dx (exd dx [(g, w), (f, v)]))
theorem a_oex1 {C : Addr} {f : Str} {v : V} {H : Hp} {Q : XK} (q : ∀ d H', H d = none → Same H H' → H' d = some (.xd [(f, v)]) → Q (.ref C) (some d) H') : rOex C (spI1 C f) [v] H Q := by
  refine ⟨by show 1 ≤ 1000; decide, fun a ha => ⟨a, v, rfl, upd_same, fun dx hd ne => ⟨rfl, dx, [(f, v)], upd_same, by rw [upd_ne ne, upd_same], ?_, ?_⟩⟩⟩
  · rw [upd_ne ne] at hd
    exact hd
  · rw [upd_ne ne] at hd
    refine q dx _ hd (fun c o e => ?_) upd_same
    rw [upd_ne (ne_of_none e hd), del_ne (ne_of_none e ha), upd_ne (ne_of_none e ha), upd_ne (ne_of_none e hd), upd_ne (ne_of_none e ha)]
    exact e
theorem a_oex2 {C : Addr} {f g : Str} {v w : V} {H : Hp} {Q : XK} (q : ∀ d H', H d = none → Same H H' → H' d = some (.xd [(g, w), (f, v)]) → Q (.ref C) (some d) H') : rOex C (spI2 C f g) [v, w] H Q := by
  refine ⟨by show 2 ≤ 1000; decide, fun a ha => ⟨a, v, w, rfl, upd_same, fun dx hd ne => ⟨rfl, dx, [(g, w), (f, v)], by rw [upd_ne (Ne.symm ne), upd_same], upd_same, ?_, ?_⟩⟩⟩
  · rw [upd_ne ne] at hd
    exact hd
  · rw [upd_ne ne] at hd
    refine q dx _ hd (fun c o e => ?_) upd_same
    rw [upd_ne (ne_of_none e hd), del_ne (ne_of_none e ha), upd_ne (ne_of_none e hd), upd_ne (ne_of_none e ha), upd_ne (ne_of_none e hd), upd_ne (ne_of_none e ha)]
    exact e
/-- a class whose __init__ keeps sp -/
structure Rai (P : Program) (w : World) (K : PySem.W.Frag) (mg : Str → Option Value) (base : Heap) (x : Str) (C : Addr) (k : Nat) (sp : Sp) : Prop where
  at_ : mg x = some (.ref C)
  er : Err K C
  ex : ∃ (f : Addr) (fd : FuncData) (ps : List Str), PySem.W.findIn K (.ref C) "__init__" = some (some (.ref f)) ∧ PySem.W.typeIn K (.ref f) = some (.type "function") ∧ FnOk P w K mg base (L2.CX P w) k f fd ps sp ∧ Binds K fd ps []
section
variable {X : Cx} {x : Str} {C : Addr} {k j : Nat} {sp : Sp} {e : Expr} {es : List Expr} {ta : TA} {p pos : Pos}
theorem passF {X : Cx} : Passes (L2.CX X.prog X.w) X (fun _ _ _ => False) := fun _ _ _ _ _ _ _ h => by
  obtain ⟨_, _, _, _, _, _, _, _, _, _, _, _, z⟩ := h
  exact z.elim
theorem pmk_r (c : Rai X.prog X.w X.K X.mg X.base x C k sp) (hr : Room j X.A) (hk : k + 1 ≤ j) (hg : Gl X x) (ha : PA X (e :: es) ta) (hd : (x == ("__debug__" : Str)) = false := by decide)
    (h1 : starEach (e :: es) X.env = (false, eval e X.env) :: starEach es X.env := by rfl) (h2 : (backTo pos (starEach es X.env)).any (·.1) = false := by rfl) : PMk X (.Call (.Name x p) (e :: es) [] pos) (tOex C sp ta) := by
  obtain ⟨f, fd, ps, h3, h4, F, b⟩ := c.ex
  exact pmk_oex c.er.ox h3 h4 F (hr.mono hk) b .nil passF hg c.at_ ha hd h1 h2
/-- C(): no __init__ of its own -/
structure Rai0 (K : PySem.W.Frag) (mg : Str → Option Value) (x : Str) (C : Addr) : Prop where
  at_ : mg x = some (.ref C)
  er : Err K C
  ei : PySem.W.excIn K C [.type "ValueError", .type "Exception", .type "BaseException", .type "object"] "ValueError.__new__" = true
theorem pmk_r0 (c : Rai0 X.K X.mg x C) (hg : Gl X x) (hd : (x == ("__debug__" : Str)) = false := by decide) : PMk X (.Call (.Name x p) [] [] pos) (fun _ H Q => Q (.ref C) none H) := by
  intro pins s σ H Q I h
  obtain ⟨hp, g, dr, tk, os⟩ := s
  refine wpAny_Call_Name_kw (ld_glob I hg c.at_ (PySem.W.callWith_K0 (first := []) I.kIn c.er.ox.kC ?_) hd)
  obtain ⟨bm, N, nm, qn, bs, hdct, sn, sub, ab, col, dd, a0, a1, a2, a3, a5, mN, hC, hN, hni, T⟩ := exc_obj I.kIn c.ei
  refine wpAny_call_exc_subT PySem.F.excBase_ValueError T hC hN hni (fun h' e hm => ?_) (by rw [sizeLine_eq]; exact Nat.zero_le _)
  exact mk_of I hm (raises_own c.er.ox.exC c.er.ox.tyC) h (I.hok.gone hm.new)
end
end TT

set_option Elab.async false
set_option linter.all false
set_option maxRecDepth 100000
set_option maxHeartbeats 4000000
namespace TT
open PySem PySem.Spec PyProof.Rows L2
open L2 (St)
/-! ### calls whose errors are wished for at the caller's slots -/
abbrev PassS (X : Cx) (E : L2.St → XK) : Prop := ∀ σ, PassesAt (L2.CX X.prog X.w) X σ (E σ)
theorem passS {X : Cx} {W : WX} (tk : Takes X W) : PassS X (WE W) := fun σ => passAt tk σ
section
variable {X : Cx} {x m : Str} {C f : Addr} {k j : Nat} {sp : Sp} {E : L2.St → XK} {e o a b : Expr} {es : List Expr} {to ta tb : TE} {t : TA} {p pos apos : Pos} {pl : Sem Bool}
theorem run_s {pins : List (Addr × Obj)} {σ : L2.St} {H : Hp} {s : Shared} {E : XK} {Q : VK} {us : List Value} {vs : List V} (F : FnR X.prog X.w X.K X.mg X.base (L2.CX X.prog X.w) k f sp) (hr : Room k X.A) (hx : PassesAt (L2.CX X.prog X.w) X σ E) (I : Inv X pins σ H s) (r : Vals vs us) (h : sp vs H Q E) :
    codeAny (model X.prog X.w) X.A (.call (.ref f) ⟨us, []⟩) (fun r s' => match r with | .ok (.ret v) => EP X pins σ Q v s' | .ok _ => False | .error e => X.xe e s') s :=
  codeAny_mono (F X.A X.stack s H us vs Q E hr I.env0 r h) fun r s' q => by
    rcases r with z | fl
    · exact hx pins H s z s' I q
    · cases fl with
      | ret u => exact I.after q
      | next => exact q.elim
      | brk => exact q.elim
      | cont => exact q.elim
def tFS (sp : Sp) (E : L2.St → XK) (t : TA) : TE := fun σ H Q => t σ H fun vs H1 => sp vs H1 Q (E σ)
theorem pe_fS (c : Cal X.prog X.w X.K X.mg X.base x k sp) (hr : Room j X.A) (hk : k ≤ j) (hg : Gl X x) (hx : PassS X E) (ha : PA X (e :: es) t)
    (hd : (x == ("__debug__" : Str)) = false := by decide) (h1 : starEach (e :: es) X.env = (false, eval e X.env) :: starEach es X.env := by rfl)
    (h2 : (backTo pos (starEach es X.env)).any (·.1) = false := by rfl) : PE X (.Call (.Name x p) (e :: es) [] pos) (tFS sp E t) := ⟨fun pins s σ H Q I h => by
  obtain ⟨f, hm, kp, F⟩ := c.ex
  exact wpAny_Call_Name_kw (ld_glob I hg hm (PySem.W.callWith_K (h₀ := X.base) I.ok.mod.kin kp
    (thn (ha.run pos pins s σ H _ I h) fun us s1 ⟨vs, H1, I1, r, q⟩ => ⟨I1.kIn, wpAny_call (run_s F (hr.mono hk) (hx σ) I1 r q)⟩) h1 h2) hd)⟩
theorem pe_fS0 (c : Cal X.prog X.w X.K X.mg X.base x k sp) (hr : Room j X.A) (hk : k ≤ j) (hg : Gl X x) (hx : PassS X E)
    (hd : (x == ("__debug__" : Str)) = false := by decide) : PE X (.Call (.Name x p) [] [] pos) (tFS sp E tNil) := ⟨fun pins s σ H Q I h => by
  obtain ⟨f, hm, kp, F⟩ := c.ex
  exact wpAny_Call_Name_kw (ld_glob I hg hm (PySem.W.callWith_K0 I.kIn kp (wpAny_call (run_s (us := []) (vs := []) F (hr.mono hk) (hx σ) I .nil h))) hd)⟩
def tMS (C : Addr) (m : Str) (sp : Sp) (E : L2.St → XK) (to : TE) (t : TA) : TE := fun σ H Q => to σ H fun x H1 => ∃ a dx fs, x = .ref a ∧ H1 a = some (.ins C dx fs) ∧ fs.lookup m = none ∧ t σ H1 fun vs H2 => sp (x :: vs) H2 Q (E σ)
theorem pe_mS0 (c : Met X.prog X.w X.K X.mg X.base C m k sp) (hr : Room j X.A) (hk : k ≤ j) (hx : PassS X E) (ho : PE X o to)
    (h3 : eval (.Call (.Attribute o m apos) [] [] pos) X.env = (eval o X.env >>= fun ov => standAt apos.atName >>= fun _ => holding [ov] (getMethod ov m pl) >>= fun fr =>
      callWith pos fr.1 fr.2 (backTo pos (starEach [] X.env)) (backToKw pos (keywordEach [] X.env))) := by rfl) :
    PE X (.Call (.Attribute o m apos) [] [] pos) (tMS C m sp E to tNil) := ⟨fun pins s σ H Q I h => by
  obtain ⟨f, hm, F⟩ := c.ex
  refine PySem.W.methodCall_KW (pl := pl) (thn (ho.run pins s σ H _ I h) fun u s1 hh => ?_) h3
  obtain ⟨v, H1, I1, rv, a, dx, fs, ev, ea, l, q⟩ := hh
  subst ev
  cases (show u = Value.ref a from rv)
  exact getmeth_ok I1 ea c.cl hm l (PySem.W.callWith_K0 (first := [.ref a]) I1.kIn hm.kp (wpAny_call (run_s (us := [.ref a]) (vs := [.ref a]) F (hr.mono hk) (hx σ) I1 (.cons rfl .nil) q)))⟩
theorem pe_mS (c : Met X.prog X.w X.K X.mg X.base C m k sp) (hr : Room j X.A) (hk : k ≤ j) (hx : PassS X E) (ho : PE X o to) (ha : PA X (e :: es) t)
    (h1 : starEach (e :: es) X.env = (false, eval e X.env) :: starEach es X.env := by rfl) (h2 : (backTo pos (starEach es X.env)).any (·.1) = false := by rfl)
    (h3 : eval (.Call (.Attribute o m apos) (e :: es) [] pos) X.env = (eval o X.env >>= fun ov => standAt apos.atName >>= fun _ => holding [ov] (getMethod ov m pl) >>= fun fr =>
      callWith pos fr.1 fr.2 (backTo pos (starEach (e :: es) X.env)) (backToKw pos (keywordEach [] X.env))) := by rfl) :
    PE X (.Call (.Attribute o m apos) (e :: es) [] pos) (tMS C m sp E to t) := ⟨fun pins s σ H Q I h => by
  obtain ⟨f, hm, F⟩ := c.ex
  refine PySem.W.methodCall_KW (pl := pl) (thn (ho.run pins s σ H _ I h) fun u s1 hh => ?_) h3
  obtain ⟨v, H1, I1, rv, a, dx, fs, ev, ea, l, q⟩ := hh
  subst ev
  cases (show u = Value.ref a from rv)
  exact getmeth_ok I1 ea c.cl hm l (PySem.W.callWith_K (first := [.ref a]) (h₀ := X.base) I1.ok.mod.kin hm.kp (thn (ha.run pos pins _ σ H1 _ (I1.tok _) q) fun us s2 ⟨vs, H2, I2, r, q2⟩ =>
    ⟨I2.kIn, wpAny_call (run_s (us := .ref a :: us) (vs := .ref a :: vs) F (hr.mono hk) (hx σ) I2 (.cons rfl r) q2)⟩) h1 h2)⟩
def tKS (C : Addr) (sp : Sp) (E : L2.St → XK) (t : TA) : TE := fun σ H Q => t σ H fun vs H1 => rMk C sp (E σ) vs H1 Q
theorem pe_kS (c : Mak X.prog X.w X.K X.mg X.base x C k sp) (hr : Room j X.A) (hk : k + 1 ≤ j) (hg : Gl X x) (hx : PassS X E) (ha : PA X (e :: es) t)
    (hd : (x == ("__debug__" : Str)) = false := by decide) (h1 : starEach (e :: es) X.env = (false, eval e X.env) :: starEach es X.env := by rfl)
    (h2 : (backTo pos (starEach es X.env)).any (·.1) = false := by rfl) : PE X (.Call (.Name x p) (e :: es) [] pos) (tKS C sp E t) := ⟨fun pins s σ H Q I h => by
  obtain ⟨f, M, F⟩ := c.ex
  refine wpAny_Call_Name_kw (ld_glob I hg c.at_ (PySem.W.callWith_K (h₀ := X.base) I.ok.mod.kin M.kp (thn (ha.run pos pins s σ H _ I h) fun us s1 ⟨vs, H1, I1, r, q⟩ => ⟨I1.kIn, ?_⟩) h1 h2) hd)
  have q0 := q (s1.heap.objs.size + 1) s1.heap.objs.size (I1.hok.fresh (Nat.le_succ _)) (I1.hok.fresh (Nat.le_refl _)) (Nat.ne_of_lt (Nat.lt_succ_self _))
  have I2 := Inv.made (C := C) I1
  refine wpAny_call (make_map (f := f) I1.kIn M.makes M.init (beq_iff_eq.mp M.fn) (codeAny_mono (F _ X.stack _ _ (Value.ref (s1.heap.objs.size + 1) :: us) (V.ref (s1.heap.objs.size + 1) :: vs) _ (E σ) ((hr.mono hk).make C us []) (I2.env0.make C us []) (.cons rfl r) q0) fun z s' q' => ?_))
  rcases z with z | fl
  · exact hx σ pins _ _ z s' I2 q'
  · cases fl with
    | ret u =>
      obtain ⟨v, H', I3, rv, ev, q3⟩ := I2.after q'
      subst ev
      exact ⟨rv, V.ref (s1.heap.objs.size + 1), H', I3, rfl, q3⟩
    | next => exact q'.elim
    | brk => exact q'.elim
    | cont => exact q'.elim⟩
def tSS (C : Addr) (sp : Sp) (E : L2.St → XK) (to : TE) (t : TA) : TE := fun σ H Q => to σ H fun x H1 => x = .ref C ∧ t σ H1 fun vs H2 => sp vs H2 Q (E σ)
theorem pe_sS (c : Sta X.prog X.w X.K X.mg X.base C m k sp) (hr : Room j X.A) (hk : k ≤ j) (hx : PassS X E) (ho : PE X o to) (ha : PA X (e :: es) t)
    (h1 : starEach (e :: es) X.env = (false, eval e X.env) :: starEach es X.env := by rfl) (h2 : (backTo pos (starEach es X.env)).any (·.1) = false := by rfl)
    (h3 : eval (.Call (.Attribute o m apos) (e :: es) [] pos) X.env = (eval o X.env >>= fun ov => standAt apos.atName >>= fun _ => holding [ov] (getMethod ov m pl) >>= fun fr =>
      callWith pos fr.1 fr.2 (backTo pos (starEach (e :: es) X.env)) (backToKw pos (keywordEach [] X.env))) := by rfl) :
    PE X (.Call (.Attribute o m apos) (e :: es) [] pos) (tSS C sp E to t) := ⟨fun pins s σ H Q I h => by
  obtain ⟨p, f, hf, ⟨rest, hrec⟩, kp, F⟩ := c.ex
  refine PySem.W.methodCall_KW (pl := pl) (thn (ho.run pins s σ H _ I h) fun u s1 hh => ?_) h3
  obtain ⟨v, H1, I1, rv, ev, q⟩ := hh
  subst ev
  cases (show u = Value.ref C from rv)
  refine PySem.W.method_cls I1.kIn c.ga (PySem.W.cls_bind I1.kIn c.rd hf (wpAny_call ?_))
  refine PySem.W.sm_get (s := { s1 with toks := s1.toks + 1 }) I1.kIn hrec (PySem.W.handed_on rfl ?_)
  exact PySem.W.callWith_K (first := []) (h₀ := X.base) I.ok.mod.kin kp (thn (ha.run pos pins _ σ H1 _ (I1.tok _) q) fun us s2 ⟨vs, H2, I2, r, q2⟩ =>
    ⟨I2.kIn, wpAny_call (run_s F (hr.mono hk) (hx σ) I2 r q2)⟩) h1 h2⟩
/-- a * b by the class's own def -/
def tBS (C : Addr) (sp : Sp) (E : L2.St → XK) (ta tb : TE) : TE := fun σ H Q => ta σ H fun x H1 => tb σ H1 fun y H2 => rOwnB C sp (E σ) x y H2 Q
theorem pe_mulS (ow : Own X.K C) (c : Met X.prog X.w X.K X.mg X.base C "__mul__" k sp) (hr : Room j X.A) (hk : k ≤ j) (hx : PassS X E) (ha : PE X a ta) (hb : PE X b tb) : PE X (.BinOp a .Mult b pos) (tBS C sp E ta tb) := ⟨fun pins s σ H Q I h =>
  wpAny_BinOp (binT ha hb I h fun v u s2 x y H2 I2 rx ry q => by
    obtain ⟨o1, dx, fs, o2, dy, gs, rfl, rfl, h1, h2, q⟩ := q
    obtain ⟨f, hm, F⟩ := c.ex
    cases (show v = Value.ref o1 from rx)
    cases (show u = Value.ref o2 from ry)
    obtain ⟨mA, O, _⟩ := ins_get I2.hok h1
    obtain ⟨od, J, _⟩ := O.look
    obtain ⟨mB, O', _⟩ := ins_get I2.hok h2
    obtain ⟨od', J', _⟩ := O'.look
    obtain ⟨m, hF⟩ := I2.fr
    refine PySem.W.binop_K (op := .Mult) hF I2.ok.mod.kin J J'.type ow.sf hm.at_ hm.fn ?_
    refine wpAny_mono (wpAny_call (run_s (us := [.ref o1, .ref o2]) (vs := [.ref o1, .ref o2]) F (hr.mono hk) (hx σ) I2 (.cons rfl (.cons rfl .nil)) q)) (fun w s' z => ?_) fun _ _ z => z
    obtain ⟨z', H', I', rz, qz⟩ := z
    exact SlX.cmpback rz ⟨z', H', I', rz, qz⟩)⟩
end
/-! ### try with any number of clauses «except x as n» -/
/-- what stands behind a suite: its name is gone -/
def gone (D : Ends) (i : Nat) : Ends := { nx := fun σ H => D.nx (σ.set i none) H, rt := D.rt, bk := fun σ H => D.bk (σ.set i none) H, ct := fun σ H => D.ct (σ.set i none) H }
def wN (K : PySem.W.Frag) (Wout : WX) (D : Ends) : List (Value × Nat × (Addr → Value → Option Addr → TS)) → WX
  | [] => Wout
  | (c, i, ts) :: r => fun cls d σ H => ∃ b, PySem.W.exmOne K cls c = some b ∧ (b = true → ∀ a, H a = none → ts a cls d (gone D i) (σ.set i (some (.ref a))) H) ∧ (b = false → wN K Wout D r cls d σ H)
inductive HdsN (X : Cx) : List ExceptHandler → List (Value × Nat × (Addr → Value → Option Addr → TS)) → Prop
  | nil : HdsN X [] []
  | cons {x n : Str} {c : Value} {i : Nat} {ts : Addr → Value → Option Addr → TS} {b₀ : Stmt} {suite : List Stmt} {np pos' : Pos} {hds : List ExceptHandler} {l : List (Value × Nat × (Addr → Value → Option Addr → TS))} (hi : X.N[i]? = some n) (hln : X.env.kindOf n = some .local) (hc : Names X x c)
      (hsu : ∀ (a : Addr) (oe : Obj) (cls : Value) (d : Option Addr) (pn : List (Addr × Obj)), Zc cls d oe → (∃ vs, oe.data = .fields vs) → PSs (X.suite a ((a, oe) :: pn)) (b₀ :: suite) (ts a cls d)) (r : HdsN X hds l) :
      HdsN X (.ExceptHandler (some (.Name x np)) (some n) (b₀ :: suite) pos' :: hds) ((c, i, ts) :: l)
section
variable {X : Cx} {body : List Stmt} {h₀ : ExceptHandler} {hds : List ExceptHandler} {l : List (Value × Nat × (Addr → Value → Option Addr → TS))} {pos : Pos} {tb : WX → TS} {Wout : WX}
theorem ps_tryN (hs : X.stack = X.env :: X.outer) (hf : X.env.frame = some X.env.locals) (hN : X.N.Nodup) (tk : Takes X Wout)
    (hb : ∀ (W : WX) (pn : List (Addr × Obj)) (xe : Value → Shared → Prop), Takes (X.tr pn xe) W → PassesOwn (model X.prog X.w) X.A X.env xe → PSs (X.tr pn xe) body (tb W))
    (hh : HdsN X (h₀ :: hds) l) : PS X (.Try body (h₀ :: hds) [] [] pos) (fun D σ H => tb (wN X.K Wout D l) D σ H) := ⟨fun pins s σ H D I h => by
  have ok := I.ok
  have fr0 : X.A.frames = some (X.env :: X.outer) := ok.frames.trans (by rw [hs])
  refine wpAny_Try_except (wpAny_mono ((hb (wN X.K Wout D l) (X.pn ++ pins) (fun z t1 => wpAny (model X.prog X.w) X.A (noteFrame z X.env) (fun _ t2 => wpAny (model X.prog X.w) X.A (setFlight z none) (fun _ t3 =>
    wpAny (model X.prog X.w) X.A (handleBy z X.env (h₀ :: hds)) (SP X pins D) X.xe t3) X.xe t2) X.xe t1) (fun u s' xx => ?_) PassesOwn.looking).run [] s σ H D (I.toTry _) h) (fun fl s1 hsp => ?_) fun _ _ z => z)
  · obtain ⟨a, B, sI, pins', σ', H', cls, d, rfl, J0, nb, up, sk0, na, os, ag, wi⟩ := xx
    have J : Inv X pins σ' H' sI := J0.ofTry ok
    have sk : Sky B (X.env :: X.outer) a (Zc cls d) X.env.locals s'.heap := hs ▸ sk0
    refine Sky.land Zc.steady fr0 hf sk fun h3 fl3 up3 => ?_
    have J3 : Inv X pins σ' H' { s' with heap := h3 } := J.landed nb fl3.1 (up.trans up3) os ag
    obtain ⟨oe3, vs3, he3, hz3, hd3⟩ := fl3.there
    have nfr : a ∉ frs (X.env :: X.outer) := fun hm => by
      obtain ⟨_, o', e', hnf⟩ := fl3.2.2.1.mem hm
      rw [he3] at e'
      cases e'
      exact hnf _ hd3
    have nL : a ≠ X.env.locals := fun z => nfr (List.mem_filterMap.mpr ⟨X.env, List.mem_cons_self, hf.trans (by rw [z])⟩)
    have nF : a ∉ X.fs := fun hm => by
      obtain ⟨en, he, q⟩ := List.mem_filterMap.mp hm
      exact nfr (List.mem_filterMap.mpr ⟨en, List.mem_cons_of_mem _ he, q⟩)
    have S3 := J3.suite he3 hd3 na nL nF
    have go : ∀ {g : List ExceptHandler} {l' : List (Value × Nat × (Addr → Value → Option Addr → TS))}, HdsN X g l' → wN X.K Wout D l' cls d σ' H' →
        wpAny (model X.prog X.w) X.A (handleBy (.ref a) X.env g) (SP X pins D) X.xe { s' with heap := h3 } := by
      intro g l' hk
      induction hk with
      | nil =>
        intro wi
        refine wpAny_handleBy_nil ?_
        obtain ⟨_, _, _, oe, vs, T, oT, ts', he, hz, hd, h1, _⟩ := id fl3
        unfold PySem.passOn
        refine wpAny_bind (wpAny_field he hd h1 ?_)
        rw [if_neg (by simp : ¬ ((Value.ref T == Value.none) = true))]
        have out : wpAny (model X.prog X.w) X.A (setFlight (.ref a) X.env.frame) (fun _ t4 => wpAny (model X.prog X.w) X.A (throw (.ref a) : Sem Flow) (SP X pins D) X.xe t4) X.xe { s' with heap := h3 } := by
          rw [hf]
          exact HandSPX.setFlight_upZ fl3 fun h4 hh4 up4 => wpAny_throw (tk _ _ ⟨a, B, sI, pins, σ', H', cls, d, rfl, J, nb, (up.trans up3).trans up4, .inr (.inr (by rw [hs]; exact hh4)), na, os, ag, wi⟩)
        first
          | exact wpAny_bind (wpAny_pure (wpAny_bind out))
          | exact wpAny_bind out
      | @cons x n c i ts b₀ suite np pos' g2 l2 hi hln hc hsu r ih =>
        intro wi
        obtain ⟨b, hb1, yes, no⟩ := wi
        refine wpAny_handleBy_cons (codeAny_handlers_test ?_) (fun q => by cases q)
        have LT : PySem.W.Looks (model X.prog X.w) h3 (typeOf (.ref a)) cls := fun A Q E t k q => wpAny_typeOf_ref (k _ _ he3) (hz3.1 ▸ q)
        have LM := PySem.W.exm_one (M := model X.prog X.w) (J3.kIn) LT hb1
        have test : ∀ {Q : Value → Shared → Prop} {E : Value → Shared → Prop}, Q c { s' with heap := h3 } → wpAny (model X.prog X.w) (X.A.mark (some (.ref a))) (eval (.Name x np) X.env) Q E { s' with heap := h3 } := fun {Q E} q => by
          obtain ⟨c1, c2, c3 | ⟨c3, c4, c5⟩⟩ := hc
          · exact ld_glob (X := X.suite a ((a, oe3) :: (X.pn ++ pins))) S3 c1 c3 q c2
          · exact ld_blt (X := X.suite a ((a, oe3) :: (X.pn ++ pins))) S3 c1 c3 c4 q c5 c2
        refine test (LM.here ?_)
        cases b with
        | true =>
          refine codeAny_handlers_suite_as (HandSPX.lands_againZ fl3 fun h4 fl4 up4 => ?_)
          have J4 : Inv X pins σ' H' { s' with heap := h4 } := J.landed nb fl4.1 ((up.trans up3).trans up4) os ag
          obtain ⟨oe4, vs4, he4, hz4, hd4⟩ := fl4.there
          have S4 := J4.suite he4 hd4 na nL nF
          refine store_ok (X := X.suite a ((a, oe4) :: (X.pn ++ pins))) (v := .ref a) S4 hN hi (.inl hln) rfl (fun s5 S5 => ?_) (.inr hln)
          refine wpAny_mono ((hsu a oe4 cls d (X.pn ++ pins) hz4 ⟨_, hd4⟩).run [] s5 _ H' _ S5 (yes rfl a na)) (fun fl t6 hsp => ?_) (fun _ _ z => z.elim)
          have fin : ∀ {σ6 : L2.St} {H6 : Hp} {Q : Shared → Prop}, Inv (X.suite a ((a, oe4) :: (X.pn ++ pins))) [] σ6 H6 t6 → (∀ t7, Inv X pins (σ6.set i none) H6 t7 → Q t7) →
              wpAny (model X.prog X.w) X.A (do bindName X.env n .none; unbindBehindTheSuite X.env n pos') (fun _ t7 => Q t7) X.xe t6 := fun {σ6 H6 Q} S6 hq => gone_ok (S6.unsuite ok) hN hi hln hq
          cases fl with
          | next =>
            obtain ⟨_, _, S6, q6⟩ := hsp
            exact fin S6 fun t7 J7 => ⟨_, _, J7, q6⟩
          | brk =>
            obtain ⟨_, _, S6, q6⟩ := hsp
            exact fin S6 fun t7 J7 => ⟨_, _, J7, q6⟩
          | cont =>
            obtain ⟨_, _, S6, q6⟩ := hsp
            exact fin S6 fun t7 J7 => ⟨_, _, J7, q6⟩
          | ret u =>
            obtain ⟨_, _, _, S6, r6, q6⟩ := hsp
            exact fin S6 fun t7 J7 => ⟨_, _, _, J7, r6, q6⟩
        | false => exact ih (no rfl)
    exact go hh wi
  · cases fl with
    | next =>
      obtain ⟨_, _, J1, q⟩ := hsp
      exact wpAny_execs_nil ⟨_, _, J1.ofTry ok, q⟩
    | brk =>
      obtain ⟨_, _, J1, q⟩ := hsp
      exact ⟨_, _, J1.ofTry ok, q⟩
    | cont =>
      obtain ⟨_, _, J1, q⟩ := hsp
      exact ⟨_, _, J1.ofTry ok, q⟩
    | ret u =>
      obtain ⟨_, _, _, J1, r, q⟩ := hsp
      exact ⟨_, _, _, J1.ofTry ok, r, q⟩⟩
end
end TT

set_option Elab.async false
set_option linter.all false
set_option maxRecDepth 100000
set_option maxHeartbeats 4000000
namespace TT
open PySem PySem.Spec PyProof.Rows L2
/-! ### raise and try, named -/
def tRaise (W : WX) (t : L2.St → Hp → XK → Prop) : TS := fun _ σ H => t σ H fun cls d H' => W cls d σ H'
theorem ps_rs {X : Cx} {W : WX} {e : Expr} {t : L2.St → Hp → XK → Prop} {pos : Pos} (hc : X.calm = true) (tk : Takes X W) (he : PMk X e t) : PS X (.Raise (some e) none pos) (tRaise W t) := ps_raise hc tk he
def tR0 (C : Addr) : L2.St → Hp → XK → Prop := fun _ H Q => Q (.ref C) none H
theorem pmk_n {X : Cx} {x : Str} {C : Addr} {p pos : Pos} (c : Rai0 X.K X.mg x C) (hg : Gl X x) (hd : (x == ("__debug__" : Str)) = false := by decide) : PMk X (.Call (.Name x p) [] [] pos) (tR0 C) := pmk_r0 c hg hd
def tTry (K : PySem.W.Frag) (Wout : WX) (l : List (Value × Nat × (Addr → Value → Option Addr → TS))) (tb : WX → TS) : TS := fun D σ H => tb (wN K Wout D l) D σ H
theorem ps_tr {X : Cx} {K : PySem.W.Frag} {body : List Stmt} {h₀ : ExceptHandler} {hds : List ExceptHandler} {l : List (Value × Nat × (Addr → Value → Option Addr → TS))} {pos : Pos} {tb : WX → TS} {Wout : WX} (hK : X.K = K) (hs : X.stack = X.env :: X.outer) (hf : X.env.frame = some X.env.locals) (hN : X.N.Nodup) (tk : Takes X Wout)
    (hb : ∀ (W : WX) (pn : List (Addr × Obj)) (xe : Value → Shared → Prop), Takes (X.tr pn xe) W → PassesOwn (model X.prog X.w) X.A X.env xe → PSs (X.tr pn xe) body (tb W))
    (hh : HdsN X (h₀ :: hds) l) : PS X (.Try body (h₀ :: hds) [] [] pos) (tTry K Wout l tb) := by subst hK; exact ps_tryN hs hf hN tk hb hh
theorem k_isX {X : Cx} {K : PySem.W.Frag} {a : Addr} {cls : Value} {d : Option Addr} {oe : Obj} {pn : List (Addr × Obj)} (hK : X.K = K) (hz : Zc cls d oe) (hf : ∃ vs, oe.data = .fields vs) : CallR (X.suite a ((a, oe) :: pn)) (.builtin "isinstance") (rIsX K cls d a) := by subst hK; exact call_isX hz hf
theorem k_xf {X : Cx} {K : PySem.W.Frag} {a C : Addr} {oe : Obj} {cls : Value} {d : Option Addr} {pn : List (Addr × Obj)} {e : Expr} {te : TE} {pos : Pos} {n : Str} (hK : X.K = K) (T : XfC K C) (hno : PySem.W.findIn K (.ref C) n = some none)
    (hz : Zc cls d oe) (hf : ∃ vs, oe.data = .fields vs) (he : PE (X.suite a ((a, oe) :: pn)) e te) (hb : attributeBase e n X.env (eval e X.env) = eval e X.env := by rfl) :
    PE (X.suite a ((a, oe) :: pn)) (.Attribute e n pos) (tXf a cls d C n te) := by subst hK; exact pe_xf T hno hz hf he hb
def tCOS (C : Addr) (sp : Sp) (E : L2.St → XK) (tf : TE) (t : TA) : TE := fun σ H Q => tf σ H fun y H1 => ∃ a, y = V.ref a ∧ t σ H1 fun vs H2 => (∃ dx fs, H2 a = some (.ins C dx fs)) ∧ sp (V.ref a :: vs) H2 Q (E σ)
theorem pe_coS {X : Cx} {C : Addr} {sp : Sp} {E : L2.St → XK} {k i : Nat} {fe e : Expr} {es : List Expr} {tf : TE} {t : TA} {pos : Pos} (c : Met X.prog X.w X.K X.mg X.base C "__call__" k sp) (fi : ∀ g, Meth X.K C "__call__" g → PySem.W.fnIn X.K g = true) (hr : Room i X.A) (hk : k ≤ i) (hx : PassS X E) (hf : PE X fe tf) (ha : PA X (e :: es) t)
    (h1 : eval (.Call fe (e :: es) [] pos) X.env = (eval fe X.env >>= fun z => callWith pos z [] (backTo pos (starEach (e :: es) X.env)) (backToKw pos (keywordEach [] X.env))) := by rfl)
    (h2 : starEach (e :: es) X.env = (false, eval e X.env) :: starEach es X.env := by rfl) (h3 : (backTo pos (starEach es X.env)).any (·.1) = false := by rfl) : PE X (.Call fe (e :: es) [] pos) (tCOS C sp E tf t) := ⟨fun pins s σ H Q I h => by
  obtain ⟨g, hm, F⟩ := c.ex
  refine Call_ (thn (hf.run pins s σ H _ I h) fun u s1 hh => ?_) h1
  obtain ⟨y, H1, I1, ry, a, ey, q⟩ := hh
  subst ey
  cases (show u = Value.ref a from ry)
  refine StX.callO_with (thn (ha.run pos pins s1 σ H1 _ I1 q) fun us s2 hh2 => ?_) h2 h3
  obtain ⟨vs, H2, I2, r, ⟨dx, fs, hi⟩, q2⟩ := hh2
  obtain ⟨ox, od, J, hd⟩ := StX.insC_at (C := C) I2 (.inr ⟨dx, fs, hi⟩)
  exact ⟨⟨C, ox, od, J, hd⟩, wpAny_call (PySem.W.kco_code I2.kIn J hd hm.at_ hm.fn (fi g hm) (run_s (us := .ref a :: us) (vs := .ref a :: vs) F (hr.mono hk) (hx σ) I2 (.cons rfl r) q2))⟩⟩
theorem g_cos {σ : L2.St} {H : Hp} {Q : VK} {C : Addr} {sp : Sp} {E : L2.St → XK} {tf : TE} {t : TA} (h : tf σ H fun y H1 => ∃ a, y = V.ref a ∧ t σ H1 fun vs H2 => (∃ dx fs, H2 a = some (.ins C dx fs)) ∧ sp (V.ref a :: vs) H2 Q (E σ)) : tCOS C sp E tf t σ H Q := h
section
variable {K : PySem.W.Frag} {σ : L2.St} {H H1 : Hp} {Q : VK} {QX : XK} {D : Ends} {t u : TS} {ta tb te : TE} {ts : TA} {i : Nat} {v x y : V} {a p b C : Addr} {sp : Sp} {E : L2.St → XK} {W Wout : WX} {cls : Value} {d : Option Addr}
theorem g_raise {t : L2.St → Hp → XK → Prop} (h : t σ H fun cls d H' => W cls d σ H') : tRaise W t D σ H := h
theorem g_r0 (h : QX (.ref C) none H) : tR0 C σ H QX := h
theorem g_oex (h : ts σ H fun vs H1 => rOex C sp vs H1 QX) : tOex C sp ts σ H QX := h
theorem g_try {l : List (Value × Nat × (Addr → Value → Option Addr → TS))} {tb : WX → TS} (h : tb (wN K Wout D l) D σ H) : tTry K Wout l tb D σ H := h
theorem g_FS (h : ts σ H fun vs H1 => sp vs H1 Q (E σ)) : tFS sp E ts σ H Q := h
theorem g_MS {m : Str} (h : ta σ H fun x H1 => ∃ a dx fs, x = .ref a ∧ H1 a = some (.ins C dx fs) ∧ fs.lookup m = none ∧ ts σ H1 fun vs H2 => sp (x :: vs) H2 Q (E σ)) : tMS C m sp E ta ts σ H Q := h
theorem g_KS (h : ts σ H fun vs H1 => rMk C sp (E σ) vs H1 Q) : tKS C sp E ts σ H Q := h
theorem g_SS (h : ta σ H fun x H1 => x = .ref C ∧ ts σ H1 fun vs H2 => sp vs H2 Q (E σ)) : tSS C sp E ta ts σ H Q := h
theorem g_BS (h : ta σ H fun x H1 => tb σ H1 fun y H2 => rOwnB C sp (E σ) x y H2 Q) : tBS C sp E ta tb σ H Q := h
/-- e.f, its class and its dict known -/
theorem g_xf {f : Str} {dd : Addr} {fs : List (Str × V)} (h : te σ H fun x H1 => x = .ref a ∧ ∃ fs v, H1 dd = some (.xd fs) ∧ fs.lookup f = some v ∧ Q v H1) (mono : ∀ R R' : VK, (∀ x H, R x H → R' x H) → te σ H R → te σ H R') : tXf a (.ref C) (some dd) C f te σ H Q :=
  mono _ _ (fun x H1 ⟨e, fs, v, h1, h2, q⟩ => ⟨e, rfl, dd, fs, v, rfl, h1, h2, q⟩) h
theorem g_xfv {f : Str} {dd : Addr} {fs : List (Str × V)} {i : Nat} (h1 : σ[i]? = some (some (.ref a))) (h2 : H dd = some (.xd fs)) (h3 : fs.lookup f = some v) (q : Q v H) : tXf a (.ref C) (some dd) C f (tVar i) σ H Q :=
  ⟨_, h1, rfl, rfl, dd, fs, v, rfl, h2, h3, q⟩
theorem g_xf1 {f : Str} {dd : Addr} {i : Nat} (h1 : σ[i]? = some (some (.ref a))) (h2 : H dd = some (.xd [(f, v)])) (q : Q v H) : tXf a (.ref C) (some dd) C f (tVar i) σ H Q :=
  g_xfv h1 h2 (by simp [List.lookup]) q
theorem g_gone {i : Nat} (h : D.nx (σ.set i none) H) : (gone D i).nx σ H := h
theorem a_isX {c : V} {u : Value} {b : Bool} (er : Err K C) (hd : ∀ dd, d = some dd → ∃ fs, H dd = some (.xd fs)) (k : ∀ z, RelV c z → z = u) (e : PySem.W.kitOne K (.ref C) u = some b) (q : Q (.bl b) H) : rIsX K (.ref C) d a [.ref a, c] H Q := ⟨C, c, u, b, rfl, er, rfl, hd, k, e, q⟩
theorem a_isX0 {D : Addr} {b : Bool} (er : Err K C) (e : PySem.W.kitOne K (.ref C) (.ref D) = some b) (q : Q (.bl b) H) : rIsX K (.ref C) none a [.ref a, .ref D] H Q := a_isX er (fun _ z => by cases z) (fun _ z => z) e q
theorem a_isX1 {D dd : Addr} {fs : List (Str × V)} {b : Bool} (er : Err K C) (h : H dd = some (.xd fs)) (e : PySem.W.kitOne K (.ref C) (.ref D) = some b) (q : Q (.bl b) H) : rIsX K (.ref C) (some dd) a [.ref a, .ref D] H Q :=
  a_isX er (fun _ z => by cases z; exact ⟨_, h⟩) (fun _ z => z) e q
theorem a_catch {c : Value} {i : Nat} {f : Addr → Value → Option Addr → TS} {r : List (Value × Nat × (Addr → Value → Option Addr → TS))} (e : PySem.W.exmOne K cls c = some true) (h : ∀ a, H a = none → f a cls d (gone D i) (σ.set i (some (.ref a))) H) : wN K Wout D ((c, i, f) :: r) cls d σ H :=
  ⟨true, e, fun _ => h, fun z => Bool.noConfusion z⟩
theorem a_skip {c : Value} {i : Nat} {f : Addr → Value → Option Addr → TS} {r : List (Value × Nat × (Addr → Value → Option Addr → TS))} (e : PySem.W.exmOne K cls c = some false) (h : wN K Wout D r cls d σ H) : wN K Wout D ((c, i, f) :: r) cls d σ H :=
  ⟨false, e, fun z => Bool.noConfusion z, fun _ => h⟩
theorem a_nite {c A B : Prop} [Decidable c] (h1 : ¬ c → A) (h2 : c → B) : if (!decide c) = true then A else B := by
  by_cases h : c
  · rw [decide_eq_true h]
    exact h2 h
  · rw [decide_eq_false h]
    exact h1 h
end
/-! ### weaker promises -/
section
variable {P : Program} {w : World} {K : PySem.W.Frag} {mg : Str → Option Value} {base : Heap} {x m : Str} {C : Addr} {k : Nat} {sp sp' : Sp}
theorem Cal.imp (c : Cal P w K mg base x k sp) (h : ∀ vs H Q E, sp' vs H Q E → sp vs H Q E) : Cal P w K mg base x k sp' := let ⟨f, a, b, F⟩ := c.ex; ⟨f, a, b, F.imp h⟩
theorem Met.imp (c : Met P w K mg base C m k sp) (h : ∀ vs H Q E, sp' vs H Q E → sp vs H Q E) : Met P w K mg base C m k sp' := let ⟨f, a, F⟩ := c.ex; ⟨c.cl, f, a, F.imp h⟩
theorem Mak.imp (c : Mak P w K mg base x C k sp) (h : ∀ vs H Q E, sp' vs H Q E → sp vs H Q E) : Mak P w K mg base x C k sp' := let ⟨f, a, F⟩ := c.ex; ⟨c.at_, f, a, F.imp h⟩
theorem Sta.imp (c : Sta P w K mg base C m k sp) (h : ∀ vs H Q E, sp' vs H Q E → sp vs H Q E) : Sta P w K mg base C m k sp' := let ⟨p, f, a, b, d, F⟩ := c.ex; ⟨c.rd, c.ga, p, f, a, b, d, F.imp h⟩
theorem rai_of {q : Str} {st : Stmt} {f : Addr} {fd : FuncData} {ps : List Str} {ks : List (Str × V)} (F : FX K "__init__" q st [] ks f fd) (hm : mg x = some (.ref C)) (er : Err K C) (i1 : PySem.W.findIn K (.ref C) "__init__" = some (some (.ref f))) (i2 : PySem.W.typeIn K (.ref f) = some (.type "function"))
    (G : FnOk P w K mg base (L2.CX P w) k f fd ps sp)
    (b : ∀ (kV doc pm : Value) (an : Option Addr) (cdv ct : Value) (us : List Value), us.length = ps.length → bindArgs (PySem.W.fnOf "__init__" q (defArgs st) (defBody st) (defScope st) .none kV doc pm an cdv ct) ⟨us, []⟩ = pure (ps.zip us)) :
    Rai P w K mg base x C k sp := ⟨hm, er, f, fd, ps, i1, i2, G, F.bindsN b⟩
end
end TT

set_option Elab.async false
set_option linter.all false
set_option maxRecDepth 100000
set_option maxHeartbeats 4000000
namespace TT
open PySem PySem.Spec PyProof.Rows L2
/-! ### data of small depth, that can be compared -/
structure Sm (n : Nat) (d : PyData) : Prop where
  lay : d.canLay0 = true
  dep : d.depth ≤ n
def SmA (n : Nat) (ds : List PyData) : Prop := PyData.canLayAll0 ds = true ∧ PyData.depthAll ds ≤ n
theorem Sm.le {n m : Nat} {d : PyData} (h : Sm n d) (l : n ≤ m) : Sm m d := ⟨h.lay, Nat.le_trans h.dep l⟩
theorem Sm.sh {n : Nat} {d : PyData} (h : Sm n d) (l : n ≤ 64 := by decide) : SeqAt.shaped d = true := by
  unfold SeqAt.shaped
  rw [h.lay, decide_eq_true (Nat.le_trans h.dep l)]
  rfl
theorem SmA.nil {n : Nat} : SmA n [] := ⟨by simp [PyData.canLayAll0], by simp [PyData.depthAll]⟩
theorem SmA.cons {n : Nat} {d : PyData} {ds : List PyData} (h : Sm n d) (t : SmA n ds) : SmA n (d :: ds) := ⟨by simp [PyData.canLayAll0, h.lay, t.1], by
  have h1 := h.dep
  have h2 := t.2
  simp only [PyData.depthAll]
  omega⟩
theorem SmA.of {n : Nat} : ∀ {ds : List PyData}, (∀ d ∈ ds, Sm n d) → SmA n ds
  | [], _ => .nil
  | d :: ds, h => .cons (h d (List.mem_cons_self ..)) (SmA.of fun e he => h e (List.mem_cons_of_mem _ he))
theorem Sm.int {n : Nat} (i : Int) : Sm (n + 1) (.int i) := ⟨by simp [PyData.canLay0], by simp [PyData.depth]⟩
theorem Sm.bl {n : Nat} (b : Bool) : Sm (n + 1) (.bool b) := ⟨by simp [PyData.canLay0], by simp [PyData.depth]⟩
theorem Sm.non {n : Nat} : Sm (n + 1) .none := ⟨by simp [PyData.canLay0], by simp [PyData.depth]⟩
theorem Sm.str {n : Nat} (x : Str) (h : PyData.strOk x = true) : Sm (n + 1) (.str x) := ⟨by simp [PyData.canLay0, h], by simp [PyData.depth]⟩
theorem Sm.tup {n : Nat} {ds : List PyData} (h : SmA n ds) : Sm (n + 1) (.tuple ds) := ⟨by simp [PyData.canLay0, h.1], by
  have h2 := h.2
  simp only [PyData.depth]
  omega⟩
theorem Sm.lst {n : Nat} {ds : List PyData} (h : SmA n ds) : Sm (n + 1) (.list ds) := ⟨by simp [PyData.canLay0, h.1], by
  have h2 := h.2
  simp only [PyData.depth]
  omega⟩
/-- a value that reads as small data -/
structure Dq (K : PySem.W.Frag) (H : Hp) (n : Nat) (v : V) (d : PyData) : Prop where
  dp : Dp K H v d
  sm : Sm n d
structure DqA (K : PySem.W.Frag) (H : Hp) (n : Nat) (vs : List V) (ds : List PyData) : Prop where
  dp : DpAll K H vs ds
  sm : SmA n ds
section
variable {K : PySem.W.Frag} {H H1 : Hp} {n : Nat} {v x y : V} {vs : List V} {d e : PyData} {ds : List PyData} {a : Addr} {Q : VK}
theorem DqA.nil : DqA K H n [] [] := ⟨.nil, .nil⟩
theorem DqA.cons (h : Dq K H n v d) (t : DqA K H n vs ds) : DqA K H n (v :: vs) (d :: ds) := ⟨.cons h.dp t.dp, .cons h.sm t.sm⟩
theorem Dq.int (i : Int) : Dq K H (n + 1) (.int i) (.int i) := ⟨.int i, .int i⟩
theorem Dq.bl (b : Bool) : Dq K H (n + 1) (.bl b) (.bool b) := ⟨.bl b, .bl b⟩
theorem Dq.non : Dq K H (n + 1) .non .none := ⟨.non, .non⟩
theorem Dq.str (x : Str) (h : PyData.strOk x = true) : Dq K H (n + 1) (.str x) (.str x) := ⟨.str x, .str x h⟩
theorem Dq.tup (h : SqT K H a vs) (t : DqA K H n vs ds) : Dq K H (n + 1) (.ref a) (.tuple ds) := ⟨.tup h t.dp, .tup t.sm⟩
theorem Dq.lst (h : SqL K H a vs) (t : DqA K H n vs ds) : Dq K H (n + 1) (.ref a) (.list ds) := ⟨.lst h t.dp, .lst t.sm⟩
theorem Dq.same (h : Dq K H n v d) (s : Same H H1) : Dq K H1 n v d := ⟨same_d s d h.dp, h.sm⟩
/-- == and != of what is the same -/
theorem a_eqQ (hx : Dq K H n x d) (hy : Dq K H n y d) (q : Q (.bl true) H) (l : n ≤ 64 := by decide) : rEqU K x y H Q := by
  refine a_eqD hx.dp hy.dp (hx.sm.sh l) (hy.sm.sh l) ?_
  rw [SeqAt.eqv_refl d hx.sm.lay]
  exact q
theorem a_neQ (hx : Dq K H n x d) (hy : Dq K H n y d) (q : Q (.bl false) H) (l : n ≤ 64 := by decide) : rNeU K x y H Q := by
  refine a_neD hx.dp hy.dp (hx.sm.sh l) (hy.sm.sh l) ?_
  rw [SeqAt.eqv_refl d hx.sm.lay]
  exact q
end
def zd (zs : List Int) : List PyData := zs.map .int
def zi (zs : List Int) : List V := zs.map V.int
theorem dqz {K : PySem.W.Frag} {H : Hp} {n : Nat} : ∀ zs : List Int, DqA K H (n + 1) (zi zs) (zd zs)
  | [] => .nil
  | z :: zs => .cons (.int z) (dqz zs)
theorem zi_len (zs : List Int) : (zi zs).length = zs.length := List.length_map ..
theorem zi_get {zs : List Int} {i : Nat} {y : V} (h : (zi zs)[i]? = some y) : ∃ hi : i < zs.length, y = .int zs[i] := by
  unfold zi at h
  rw [List.getElem?_map] at h
  by_cases hi : i < zs.length
  · rw [List.getElem?_eq_getElem hi] at h
    exact ⟨hi, (Option.some.inj h).symm⟩
  · rw [List.getElem?_eq_none (by omega)] at h
    cases h
theorem zi_at {zs : List Int} {i : Nat} (h : i < zs.length) : (zi zs)[i]? = some (.int zs[i]) := by
  unfold zi
  rw [List.getElem?_map, List.getElem?_eq_getElem h]
  rfl
def ni (a : List Nat) : List Int := a.map fun n : Nat => (n : Int)
theorem zi_ni (a : List Nat) : zi (ni a) = vi a := by
  unfold zi ni vi
  rw [List.map_map]
  rfl
theorem ni_inj {a b : List Nat} (h : ni a = ni b) : a = b := by
  have := congrArg (List.map Int.toNat) h
  simpa [ni, List.map_map, Function.comp_def] using this
theorem ni_len (a : List Nat) : (ni a).length = a.length := List.length_map ..
end TT

set_option Elab.async false
set_option linter.all false
set_option maxRecDepth 100000
set_option maxHeartbeats 4000000
namespace TT
open PySem PySem.Spec PyProof.Rows L2
theorem k_sortI {X : Cx} {K : PySem.W.Frag} (hK : X.K = K) : CallR X (.builtin "sorted") (rSortedI K) := by subst hK; exact cr_sortedI
section
variable {K : PySem.W.Frag} {H : Hp} {Q : VK} {p : Addr} {zs : List Int}
theorem a_sortI (h : SqL K H p (zi zs)) (q : ∀ ws l H2, List.Perm ws zs → ws.Pairwise (· ≤ ·) → H l = none → Same H H2 → H2 l = some (.lst (zi ws)) → Q (.ref l) H2) : rSortedI K [.ref p] H Q :=
  ⟨p, zs, rfl, h, fun ws l pm so hl => q ws l _ pm so hl (same_new hl) upd_same⟩
theorem a_rep {xs : List V} {k : Int} (h : H p = some (.lst xs)) (k0 : 0 ≤ k) (k1 : (xs.length : Int) * k ≤ 100000) (k2 : k ≤ 100000) (q : ∀ l H2, H l = none → Same H H2 → H2 l = some (.lst (List.replicate k.toNat xs).flatten) → Q (.ref l) H2) : rMulU K (.ref p) (.int k) H Q :=
  .inr ⟨p, k, xs, rfl, rfl, h, by omega, by omega, by
    rw [sizeLine_eq]
    have : ((xs.length * k.toNat : Nat) : Int) ≤ 100000 := by
      rw [Int.natCast_mul, Int.toNat_of_nonneg k0]
      exact k1
    omega, fun l hl => q l _ hl (same_new hl) upd_same⟩
end
/-- two ways that meet again -/
theorem a_meet {α : Type} {c A B : Prop} [Decidable c] {R J : α → Hp → Prop} (h1 : c → (∀ v H, J v H → R v H) → A) (h2 : ¬ c → (∀ v H, J v H → R v H) → B) (fin : ∀ v H, J v H → R v H) : if decide c = true then A else B := a_ite (fun h => h1 h fin) fun h => h2 h fin
theorem a_nmeet {α : Type} {c A B : Prop} [Decidable c] {R J : α → Hp → Prop} (h1 : ¬ c → (∀ v H, J v H → R v H) → A) (h2 : c → (∀ v H, J v H → R v H) → B) (fin : ∀ v H, J v H → R v H) : if (!decide c) = true then A else B := a_nite (fun h => h1 h fin) fun h => h2 h fin
theorem eqv_zd : ∀ a b : List Int, PyData.eqvAll (zd a) (zd b) = decide (a = b)
  | [], [] => by simp [zd, PyData.eqvAll]
  | [], _ :: _ => by simp [zd, PyData.eqvAll]
  | _ :: _, [] => by simp [zd, PyData.eqvAll]
  | n :: a, m :: b => by
    have ih := eqv_zd a b
    simp only [zd, List.map_cons, PyData.eqvAll, PyData.eqv] at ih ⊢
    rw [ih]
    by_cases h : n = m
    · subst h
      simp
    · have h' : (n == m) = false := by
        rw [beq_eq_false_iff_ne]
        exact h
      rw [h']
      simp [h]
section
variable {K : PySem.W.Frag} {H : Hp} {n : Nat} {x y : V} {Q : VK} {a b : List Int}
theorem a_eqZ {p q : Addr} (hx : SqL K H p (zi a)) (hy : SqL K H q (zi b)) (k : Q (.bl (decide (a = b))) H) : rEqU K (.ref p) (.ref q) H Q := by
  have d1 : Dq K H 2 (.ref p) (.list (zd a)) := .lst hx (dqz a)
  have d2 : Dq K H 2 (.ref q) (.list (zd b)) := .lst hy (dqz b)
  refine a_eqD d1.dp d2.dp d1.sm.sh d2.sm.sh ?_
  have e : PyData.eqv (.list (zd a)) (.list (zd b)) = decide (a = b) := by
    simp only [PyData.eqv]
    exact eqv_zd a b
  rw [e]
  exact k
theorem a_neZ {p q : Addr} (hx : SqL K H p (zi a)) (hy : SqL K H q (zi b)) (k : Q (.bl (!decide (a = b))) H) : rNeU K (.ref p) (.ref q) H Q := by
  have d1 : Dq K H 2 (.ref p) (.list (zd a)) := .lst hx (dqz a)
  have d2 : Dq K H 2 (.ref q) (.list (zd b)) := .lst hy (dqz b)
  refine a_neD d1.dp d2.dp d1.sm.sh d2.sm.sh ?_
  have e : PyData.eqv (.list (zd a)) (.list (zd b)) = decide (a = b) := by
    simp only [PyData.eqv]
    exact eqv_zd a b
  rw [e]
  exact k
end
theorem sorted_uniq : ∀ {a b : List Int}, List.Perm a b → a.Pairwise (· ≤ ·) → b.Pairwise (· ≤ ·) → a = b
  | [], b, h, _, _ => by rw [List.nil_perm.mp h]
  | x :: a, [], h, _, _ => by cases List.perm_nil.mp h
  | x :: a, y :: b, h, ha, hb => by
    obtain ⟨hx, ha'⟩ := List.pairwise_cons.mp ha
    obtain ⟨hy, hb'⟩ := List.pairwise_cons.mp hb
    have e : x = y := by
      have h1 : x ∈ y :: b := h.mem_iff.mp (List.mem_cons_self ..)
      have h2 : y ∈ x :: a := h.mem_iff.mpr (List.mem_cons_self ..)
      have l1 : y ≤ x := by
        rcases List.mem_cons.mp h1 with e | m
        · omega
        · exact hy _ m
      have l2 : x ≤ y := by
        rcases List.mem_cons.mp h2 with e | m
        · omega
        · exact hx _ m
      omega
    subst e
    rw [sorted_uniq (List.Perm.cons_inv h) ha' hb']
theorem range_sorted (n : Nat) : (ni (List.range n)).Pairwise (· ≤ ·) := by
  unfold ni
  rw [List.pairwise_map]
  exact List.Pairwise.imp (fun h => by omega) (List.pairwise_lt_range (n := n))
end TT

set_option Elab.async false
set_option linter.all false
set_option maxRecDepth 100000
set_option maxHeartbeats 4000000
namespace TT
open PySem PySem.Spec PyProof.Rows L2
/-! ### a list or a tuple -/
def Seq (K : PySem.W.Frag) (H : Hp) (a : Addr) (xs : List V) : Prop := SqL K H a xs ∨ SqT K H a xs
theorem Seq.same {K : PySem.W.Frag} {H H1 : Hp} {a : Addr} {xs : List V} (h : Seq K H a xs) (s : Same H H1) : Seq K H1 a xs := h.elim (fun h => .inl (same_l s h)) fun h => .inr (same_t s h)
theorem a_lenS {K : PySem.W.Frag} {H : Hp} {p : Addr} {ys : List V} {Q : VK} (h : Seq K H p ys) (q : Q (.int ys.length) H) : rLenU K [.ref p] H Q := ⟨p, ys, rfl, h, q⟩
def rIter (K : PySem.W.Frag) (x : V) (H1 : Hp) (R : It → Hp → Prop) : Prop := ∃ a, x = .ref a ∧ (((∃ xs, SqL K H1 a xs) ∧ R (Itl K a) H1) ∨ ((∃ xs, SqT K H1 a xs) ∧ R (Itt K a) H1))
def iSeq (K : PySem.W.Frag) (tl : TE) : TI := fun σ H R => tl σ H fun x H1 => rIter K x H1 R
theorem pi_seq {X : Cx} {tg l : Expr} {tl : TE} {K : PySem.W.Frag} (hK : X.K = K) (hl : PE X l tl) : PI X tg l (iSeq K tl) := ⟨fun pins s σ H R I h => by
  subst hK
  refine thn (hl.run pins s σ H _ I h) fun v s1 hh => ?_
  obtain ⟨x, H1, J, r, a, ex, w⟩ := hh
  subst ex
  cases (show v = Value.ref a from r)
  have fp : ∀ b ∈ [s1.heap.objs.size], FpOk X pins H1 b := fun b hb => by
    obtain rfl : b = s1.heap.objs.size := List.mem_singleton.mp hb
    exact J.fpOk (Nat.le_refl _) (J.hok.fresh (Nat.le_refl _))
  rcases w with ⟨⟨xs, hq⟩, q⟩ | ⟨⟨xs, hq⟩, q⟩
  · obtain ⟨its, _, pl, _⟩ := J.list hq
    exact wpAny_pyIter_list pl.isList ⟨_, [s1.heap.objs.size], _, _, H1, rfl, J.kept (t' := s1.toks) fun b o z => Heap.get?_push_of_some _ z, turn_list a _, ⟨_, Heap.get?_push_size _ rfl, rfl, rfl⟩, fp, q⟩
  · obtain ⟨its, _, pl, _⟩ := J.tuple hq
    exact wpAny_pyIter_tuple (show s1.heap.IsTuple a its.toArray from pl) ⟨_, [s1.heap.objs.size], _, _, H1, rfl, J.kept (t' := s1.toks) fun b o z => Heap.get?_push_of_some _ z, turn_tuple a _, ⟨_, Heap.get?_push_size _ rfl, rfl, rfl⟩, fp, q⟩⟩
section
variable {K : PySem.W.Frag} {σ : L2.St} {H : Hp} {Q : VK} {a : Addr} {xs : List V} {j : Nat} {te : TE}
theorem g_iSeq {tl : TE} {R : It → Hp → Prop} (h : tl σ H fun x H1 => rIter K x H1 R) : iSeq K tl σ H R := h
theorem a_iter {R : It → Hp → Prop} (h : Seq K H a xs) (q : ∀ J, Walk J xs.length (fun H' => Same H H') (YAt xs) → R J H) : rIter K (.ref a) H R := by
  refine ⟨a, rfl, ?_⟩
  rcases h with h | h
  · exact .inl ⟨⟨xs, h⟩, q _ (walk_list.mono (fun H' s => same_l s h) fun _ _ _ _ _ _ y => y)⟩
  · exact .inr ⟨⟨xs, h⟩, q _ (walk_tup.mono (fun H' s => same_t s h) fun _ _ _ _ _ _ y => y)⟩
end
theorem sqt_but {K : PySem.W.Frag} {H H1 : Hp} {D t : Addr} {xs ys : List V} (hD : H D = some (.lst ys)) (b : But D H H1) (h : SqT K H t xs) : SqT K H1 t xs := by
  rcases h with (h | ⟨o, h⟩) | h
  · exact .inl (.inl (b _ _ (ne_of h hD (by intro z; cases z)) h))
  · exact .inl (.inr ⟨o, b _ _ (ne_of h hD (by intro z; cases z)) h⟩)
  · exact .inr h
theorem sqt_butI {K : PySem.W.Frag} {H H1 : Hp} {D C dx t : Addr} {fs : List (Str × V)} {xs : List V} (hD : H D = some (.ins C dx fs)) (b : But D H H1) (h : SqT K H t xs) : SqT K H1 t xs := by
  rcases h with (h | ⟨o, h⟩) | h
  · exact .inl (.inl (b _ _ (ne_of h hD (by intro z; cases z)) h))
  · exact .inl (.inr ⟨o, b _ _ (ne_of h hD (by intro z; cases z)) h⟩)
  · exact .inr h
theorem sql_but {K : PySem.W.Frag} {H H1 : Hp} {D C dx t : Addr} {fs : List (Str × V)} {xs : List V} (hD : H D = some (.ins C dx fs)) (b : But D H H1) (h : SqL K H t xs) : SqL K H1 t xs := by
  rcases h with (h | ⟨o, h⟩) | h
  · exact .inl (.inl (b _ _ (ne_of h hD (by intro z; cases z)) h))
  · exact .inl (.inr ⟨o, b _ _ (ne_of h hD (by intro z; cases z)) h⟩)
  · exact .inr h
/-! ### comprehensions whose items are new objects: P D k v H, the k-th item v, D the list that grows -/
section
variable {K : PySem.W.Frag} {J : It} {n j : Nat} {G : Hp → Prop} {Y : Nat → Hp → V → Hp → Prop} {σ : L2.St} {H H1 : Hp} {te : TE} {Q : VK} {P : Addr → Nat → V → Hp → Prop} {xs : List V}
structure Stb (P : Addr → Nat → V → Hp → Prop) : Prop where
  same : ∀ {D k v H H'}, Same H H' → P D k v H → P D k v H'
  but : ∀ {D k v H H' ys}, H D = some (.lst ys) → But D H H' → P D k v H → P D k v H'
theorem lc_p (w : Walk J n G Y) (st : Stb P) (hn : n ≤ 100000) (hG : ∀ H', Same H1 H' → G H')
    (hs : ∀ D acc i x H' H2, i < n → H1 D = none → Same H1 H' → H' D = some (.lst acc) → Y i H' x H2 → Same H' H2 ∧ ∀ R : VK, (∀ v H4, Same H2 H4 → P D i v H4 → R v H4) → te ((σ.set j none).set j (some x)) H2 R)
    (hd : ∀ D acc H', H1 D = none → Same H1 H' → H' D = some (.lst acc) → acc.length = n → (∀ k v, acc[k]? = some v → P D k v H') → Q (.ref D) H') :
    ∀ D, H1 D = none → ∃ W : Nat → Nat → Hp → Prop, (∃ m, W 0 m (upd H1 D (.lst []))) ∧ ∀ i m H, W i m H →
      (J.stop i H ∧ Q (.ref D) H) ∨ (J.go i H ∧ ∃ Nx : Hp → Prop, (∀ H', Nx H' → ∃ m', m' < m ∧ W (i + 1) m' H') ∧ ∀ x H', J.yld i H x H' → gName j x (wipe σ [j]) H' fun σ2 H2 => wipe σ2 [j] = wipe σ [j] ∧ tYes σ2 H2 fun b H3 =>
        if b = true then te σ2 H3 fun y H4 => ∃ acc, H4 D = some (.lst acc) ∧ acc.length < sizeLine ∧ Nx (upd H4 D (.lst (acc ++ [y]))) else Nx H3) := by
  intro D hD
  refine lc_it w (fun i H' => ∃ acc, Same H1 H' ∧ H' D = some (.lst acc) ∧ acc.length = i ∧ ∀ k v, acc[k]? = some v → P D k v H') ⟨[], same_new hD, upd_same, rfl, fun k v z => by simp at z⟩ (fun i H' _ ⟨_, q, _⟩ => hG H' q) ?_ fun H' ⟨acc, q1, q2, q3, q4⟩ => hd D acc H' hD q1 q2 q3 q4
  rintro i x H' H2 hi ⟨acc, q1, q2, q3, q4⟩ hy
  obtain ⟨s2, hte⟩ := hs D acc i x H' H2 hi hD q1 q2 hy
  refine ⟨set_none σ j (some x), ?_⟩
  unfold tYes
  dsimp only
  rw [if_pos rfl]
  refine hte _ fun v H4 s4 hP => ?_
  have e4 := s4 _ _ (s2 _ _ q2)
  refine ⟨acc, e4, szl (by omega), acc ++ [v], same_mut ((q1.trans s2).trans s4) hD, upd_same, by rw [List.length_append, q3]; rfl, fun k u hk => ?_⟩
  by_cases hl : k < acc.length
  · rw [List.getElem?_append_left hl] at hk
    exact st.but e4 But.upd (st.same (s2.trans s4) (q4 k u hk))
  · rw [List.getElem?_append_right (by omega)] at hk
    have e0 : k - acc.length = 0 := by
      have := (List.getElem?_eq_some_iff.mp hk).1
      simp at this
      omega
    rw [e0] at hk
    cases Option.some.inj hk
    have ek : k = i := by omega
    subst ek
    exact st.but e4 But.upd hP
theorem c_sp {tl : TE} (st : Stb P) (hn : xs.length ≤ 100000) (hl : ∀ R : VK, (∀ a H1, Same H H1 → Seq K H1 a xs → R (.ref a) H1) → tl σ H R)
    (hs : ∀ D acc i x H', H D = none → xs[i]? = some x → Same H H' → H' D = some (.lst acc) → ∀ R : VK, (∀ v H4, Same H' H4 → P D i v H4 → R v H4) → te ((σ.set j none).set j (some x)) H' R)
    (hd : ∀ D acc H', H D = none → Same H H' → H' D = some (.lst acc) → acc.length = xs.length → (∀ k v, acc[k]? = some v → P D k v H') → Q (.ref D) H') : tLc (iSeq K tl) (gName j) tYes te [j] σ H Q := by
  refine hl _ fun a H1 s1 h => a_iter h fun J w => lc_p w st hn (fun H' s => s) (fun D acc i x H' H2 hi hD s hacc y => ?_) fun D acc H' nD s e1 e2 e3 => hd D acc H' (s1.free nD) (s1.trans s) e1 e2 e3
  obtain ⟨rfl, e⟩ := y
  exact ⟨Same.refl _, hs D acc i x _ (s1.free hD) e (s1.trans s) hacc⟩
theorem c_lp {tl : TE} (st : Stb P) (hn : xs.length ≤ 100000) (hl : ∀ R : VK, (∀ a H1, Same H H1 → SqL K H1 a xs → R (.ref a) H1) → tl σ H R)
    (hs : ∀ D acc i x H', H D = none → xs[i]? = some x → Same H H' → H' D = some (.lst acc) → ∀ R : VK, (∀ v H4, Same H' H4 → P D i v H4 → R v H4) → te ((σ.set j none).set j (some x)) H' R)
    (hd : ∀ D acc H', H D = none → Same H H' → H' D = some (.lst acc) → acc.length = xs.length → (∀ k v, acc[k]? = some v → P D k v H') → Q (.ref D) H') : tLc (iList K tl) (gName j) tYes te [j] σ H Q := by
  refine hl _ fun a H1 s1 h => ⟨a, rfl, ⟨xs, h⟩, lc_p walk_list st hn (fun H' s => same_l s h) (fun D acc i x H' H2 hi hD s hacc y => ?_) fun D acc H' nD s e1 e2 e3 => hd D acc H' (s1.free nD) (s1.trans s) e1 e2 e3⟩
  obtain ⟨rfl, e⟩ := y
  exact ⟨Same.refl _, hs D acc i x _ (s1.free hD) e (s1.trans s) hacc⟩
end
/-! ### pairs of ints, rows of pairs, lists of rows -/
abbrev Pr := Int × Int
def PairAt (K : PySem.W.Frag) (H : Hp) (v : V) (x : Pr) : Prop := ∃ q, v = .ref q ∧ SqT K H q [.int x.1, .int x.2]
def PairsIn (K : PySem.W.Frag) (H : Hp) (ys : List V) (ps : List Pr) : Prop := ys.length = ps.length ∧ ∀ (k : Nat) v x, ys[k]? = some v → ps[k]? = some x → PairAt K H v x
def PairsAt (K : PySem.W.Frag) (H : Hp) (v : V) (ps : List Pr) : Prop := ∃ q ys, v = .ref q ∧ Seq K H q ys ∧ PairsIn K H ys ps
def LinesIn (K : PySem.W.Frag) (H : Hp) (ys : List V) (ls : List (List Pr)) : Prop := ys.length = ls.length ∧ ∀ (k : Nat) v x, ys[k]? = some v → ls[k]? = some x → PairsAt K H v x
section
variable {K : PySem.W.Frag} {H H1 : Hp} {v : V} {x : Pr} {ys : List V} {ps : List Pr} {ls : List (List Pr)}
theorem PairAt.same (h : PairAt K H v x) (s : Same H H1) : PairAt K H1 v x := let ⟨q, e, h⟩ := h; ⟨q, e, same_t s h⟩
theorem PairAt.but {D : Addr} {zs : List V} (hD : H D = some (.lst zs)) (b : But D H H1) (h : PairAt K H v x) : PairAt K H1 v x := let ⟨q, e, h⟩ := h; ⟨q, e, sqt_but hD b h⟩
theorem PairsIn.same (h : PairsIn K H ys ps) (s : Same H H1) : PairsIn K H1 ys ps := ⟨h.1, fun k v x a b => (h.2 k v x a b).same s⟩
theorem PairsIn.but {D : Addr} {zs : List V} (h : PairsIn K H ys ps) (hD : H D = some (.lst zs)) (b : But D H H1) : PairsIn K H1 ys ps := ⟨h.1, fun k v x e f => (h.2 k v x e f).but hD b⟩
theorem PairsAt.same (h : PairsAt K H v ps) (s : Same H H1) : PairsAt K H1 v ps := let ⟨q, ys, e, h1, h2⟩ := h; ⟨q, ys, e, h1.same s, h2.same s⟩
theorem LinesIn.same (h : LinesIn K H ys ls) (s : Same H H1) : LinesIn K H1 ys ls := ⟨h.1, fun k v x a b => (h.2 k v x a b).same s⟩
theorem PairAt.butI {D C dx : Addr} {fs : List (Str × V)} (hD : H D = some (.ins C dx fs)) (b : But D H H1) (h : PairAt K H v x) : PairAt K H1 v x := let ⟨q, e, h⟩ := h; ⟨q, e, sqt_butI hD b h⟩
theorem PairsIn.butI {D C dx : Addr} {fs : List (Str × V)} (h : PairsIn K H ys ps) (hD : H D = some (.ins C dx fs)) (b : But D H H1) : PairsIn K H1 ys ps := ⟨h.1, fun k v x e f => (h.2 k v x e f).butI hD b⟩
theorem LinesIn.but {D C dx : Addr} {fs : List (Str × V)} (h : LinesIn K H ys ls) (hD : H D = some (.ins C dx fs)) (b : But D H H1) : LinesIn K H1 ys ls := ⟨h.1, fun k v x e f => by
  obtain ⟨q, zs, e1, h1, h2⟩ := h.2 k v x e f
  exact ⟨q, zs, e1, h1.elim (fun h => .inl (sql_but hD b h)) (fun h => .inr (sqt_butI hD b h)), h2.butI hD b⟩⟩
def prD (x : Pr) : PyData := .tuple [.int x.1, .int x.2]
def psD (ps : List Pr) : List PyData := ps.map prD
def lsD (ls : List (List Pr)) : List PyData := ls.map fun ps => .tuple (psD ps)
theorem PairAt.dq {n : Nat} (h : PairAt K H v x) : Dq K H (n + 2) v (prD x) := by
  obtain ⟨q, rfl, h⟩ := h
  exact .tup h (.cons (.int _) (.cons (.int _) .nil))
/-- all items, one by one -/
theorem dqa {α : Type} {n : Nat} (f : α → PyData) : ∀ {ys : List V} {xs : List α}, ys.length = xs.length → (∀ (k : Nat) v x, ys[k]? = some v → xs[k]? = some x → Dq K H n v (f x)) → DqA K H n ys (xs.map f)
  | [], [], _, _ => .nil
  | [], _ :: _, e, _ => by cases e
  | _ :: _, [], e, _ => by cases e
  | y :: ys, x :: xs, e, h => .cons (h 0 y x rfl rfl) (dqa f (Nat.succ.inj e) fun k v z a b => h (k + 1) v z a b)
theorem PairsIn.dq {n : Nat} (h : PairsIn K H ys ps) : DqA K H (n + 2) ys (psD ps) := dqa prD h.1 fun k v x a b => (h.2 k v x a b).dq
end
end TT

set_option Elab.async false
set_option linter.all false
set_option maxRecDepth 100000
set_option maxHeartbeats 4000000
namespace TT
open PySem PySem.Spec PyProof.Rows L2
/-! ### two lists, item by item -/
def Par {α β : Type} (R : α → β → Prop) (ys : List α) (xs : List β) : Prop := ys.length = xs.length ∧ ∀ (k : Nat) v x, ys[k]? = some v → xs[k]? = some x → R v x
section
variable {α β : Type} {R R' : α → β → Prop} {ys zs : List α} {xs ws : List β}
theorem Par.mono (h : Par R ys xs) (m : ∀ v x, R v x → R' v x) : Par R' ys xs := ⟨h.1, fun k v x a b => m v x (h.2 k v x a b)⟩
theorem Par.nil : Par R [] [] := ⟨rfl, fun k v x a => by simp at a⟩
theorem Par.one {y : α} {x : β} (h : R y x) : Par R [y] [x] := ⟨rfl, fun k v z a b => by
  have hk : k = 0 := by
    have := (List.getElem?_eq_some_iff.mp a).1
    simp at this
    omega
  subst hk
  cases Option.some.inj a
  cases Option.some.inj b
  exact h⟩
theorem Par.append (h : Par R ys xs) (h' : Par R zs ws) : Par R (ys ++ zs) (xs ++ ws) := ⟨by rw [List.length_append, List.length_append, h.1, h'.1], fun k v x a b => by
  by_cases hk : k < ys.length
  · rw [List.getElem?_append_left hk] at a
    rw [List.getElem?_append_left (by rw [← h.1]; exact hk)] at b
    exact h.2 k v x a b
  · rw [List.getElem?_append_right (by omega)] at a
    rw [List.getElem?_append_right (by rw [← h.1]; omega), ← h.1] at b
    exact h'.2 _ v x a b⟩
theorem Par.snoc {y : α} {x : β} (h : Par R ys xs) (h' : R y x) : Par R (ys ++ [y]) (xs ++ [x]) := h.append (.one h')
theorem Par.drop (h : Par R ys xs) (n : Nat) : Par R (ys.drop n) (xs.drop n) := ⟨by rw [List.length_drop, List.length_drop, h.1], fun k v x a b => by
  rw [List.getElem?_drop] at a b
  exact h.2 _ v x a b⟩
theorem Par.take (h : Par R ys xs) (n : Nat) : Par R (ys.take n) (xs.take n) := ⟨by rw [List.length_take, List.length_take, h.1], fun k v x a b => by
  rw [List.getElem?_take] at a b
  by_cases hk : k < n
  · rw [if_pos hk] at a b
    exact h.2 _ v x a b
  · rw [if_neg hk] at a
    cases a⟩
theorem Par.rep (h : Par R ys xs) : ∀ n : Nat, Par R (List.replicate n ys).flatten (List.replicate n xs).flatten
  | 0 => .nil
  | n + 1 => by
    rw [List.replicate_succ, List.replicate_succ, List.flatten_cons, List.flatten_cons]
    exact h.append (Par.rep h n)
theorem Par.get (h : Par R ys xs) {k : Nat} (hk : k < xs.length) : ∃ v, ys[k]? = some v ∧ R v xs[k] := by
  have hy : k < ys.length := by rw [h.1]; exact hk
  exact ⟨ys[k], List.getElem?_eq_getElem hy, h.2 k _ _ (List.getElem?_eq_getElem hy) (List.getElem?_eq_getElem hk)⟩
def cut (xs : List β) (lo hi : Option Int) : List β := (xs.drop (HT.sIx xs.length 0 lo)).take (HT.sIx xs.length xs.length hi - HT.sIx xs.length 0 lo)
theorem Par.cut {R : V → β → Prop} {ys : List V} (h : Par R ys xs) (lo hi : Option Int) : Par R (cutV ys lo hi) (TT.cut xs lo hi) := by
  unfold cutV TT.cut
  rw [h.1]
  exact (h.drop _).take _
theorem cut_len (xs : List β) (lo hi : Option Int) : (cut xs lo hi).length ≤ xs.length := by
  unfold cut
  rw [List.length_take, List.length_drop]
  omega
theorem cut_mem {xs : List β} {lo hi : Option Int} {x : β} (h : x ∈ cut xs lo hi) : x ∈ xs := List.mem_of_mem_drop (List.mem_of_mem_take h)
theorem sIx_nat {n d k : Nat} (h : k ≤ n) : HT.sIx n d (some (k : Int)) = k := by
  unfold HT.sIx
  simp
  have : ¬ ((k : Int) < 0) := by omega
  rw [if_neg this]
  omega
theorem cut_le {xs : List β} (k : Nat) : (cut xs none (some (k : Int))).length ≤ k := by
  unfold cut
  rw [List.length_take]
  have : HT.sIx xs.length xs.length (some (k : Int)) ≤ k := by
    unfold HT.sIx
    simp
    have : ¬ ((k : Int) < 0) := by omega
    rw [if_neg this]
    omega
  omega
theorem cut_m1 {xs : List β} : (cut xs none (some (-1))).length = xs.length - 1 := by
  have e : HT.sIx xs.length xs.length (some (-1)) = xs.length - 1 := by
    unfold HT.sIx
    simp
    omega
  have e0 : HT.sIx xs.length 0 none = 0 := rfl
  unfold cut
  rw [e, e0]
  simp
theorem cut_take {xs : List β} {k : Nat} (h : k ≤ xs.length) : cut xs none (some (k : Int)) = xs.take k := by
  have e : HT.sIx xs.length 0 none = 0 := rfl
  unfold cut
  rw [sIx_nat h, e]
  simp
theorem cut_drop {xs : List β} {k : Nat} (h : k ≤ xs.length) : cut xs (some (k : Int)) none = xs.drop k := by
  have e : HT.sIx xs.length xs.length none = xs.length := rfl
  unfold cut
  rw [sIx_nat h, e]
  exact List.take_of_length_le (by rw [List.length_drop]; omega)
end
/-! ### the heap without what may change -/
def Off (ms : List Addr) (H : Hp) : Hp := fun a => if a ∈ ms then none else H a
section
variable {ms : List Addr} {H H1 : Hp} {p a : Addr} {o : HO}
theorem Off.sub : Same (Off ms H) H := fun a o h => by
  unfold Off at h
  by_cases e : a ∈ ms
  · rw [if_pos e] at h
    cases h
  · rw [if_neg e] at h
    exact h
theorem Off.at_ (h : H a = some o) (n : a ∉ ms) : Off ms H a = some o := by
  unfold Off
  rw [if_neg n]
  exact h
theorem Off.same (s : Same H H1) : Same (Off ms H) (Off ms H1) := fun a o h => by
  unfold Off at h ⊢
  by_cases e : a ∈ ms
  · rw [if_pos e] at h
    cases h
  · rw [if_neg e] at h ⊢
    exact s a o h
theorem Off.but (m : p ∈ ms) (b : But p H H1) : Same (Off ms H) (Off ms H1) := fun a o h => by
  unfold Off at h ⊢
  by_cases e : a ∈ ms
  · rw [if_pos e] at h
    cases h
  · rw [if_neg e] at h ⊢
    exact b a o (fun z => e (z ▸ m)) h
theorem Off.mut {H0 : Hp} {q : Addr} (s : Same (Off ms H0) (Off ms H)) (n : H0 q = none) (b : But q H H1) : Same (Off ms H0) (Off ms H1) := fun a o h => by
  have h1 := s a o h
  have ne : a ≠ q := ne_of_none (Off.sub a o h) n
  unfold Off at h1 ⊢
  by_cases e : a ∈ ms
  · rw [if_pos e] at h1
    cases h1
  · rw [if_neg e] at h1 ⊢
    exact b a o ne h1
theorem Off.more {ns : List Addr} (s : ∀ a ∈ ns, a ∈ ms ∨ H a = none) : Same (Off ms H) (Off ns H) := fun a o h => by
  have e1 : a ∉ ms := fun e => by
    unfold Off at h
    rw [if_pos e] at h
    cases h
  unfold Off at h ⊢
  rw [if_neg e1] at h
  rw [if_neg fun e => (s a e).elim e1 fun z => by rw [z] at h; cases h]
  exact h
end
section
variable {K : PySem.W.Frag} {H : Hp} {Q : VK} {p b : Addr} {xs zs : List V}
theorem a_cat (h1 : H p = some (.lst xs)) (h2 : H b = some (.lst zs)) (hl : xs.length + zs.length ≤ 100000) (q : ∀ l H2, H l = none → Same H H2 → H2 l = some (.lst (xs ++ zs)) → Q (.ref l) H2) : rAddU K (.ref p) (.ref b) H Q :=
  .inr (.inl ⟨p, b, xs, zs, rfl, rfl, h1, h2, sz hl, fun l hl => q l _ hl (same_new hl) upd_same⟩)
theorem a_slL {lo hi : Option Int} (h : SqL K H p xs) (q : ∀ l H2, H l = none → Same H H2 → H2 l = some (.lst (cutV xs lo hi)) → Q (.ref l) H2) : rSlU K (.ref p) lo hi H Q := .inl ⟨p, xs, rfl, h, fun l hl => q l _ hl (same_new hl) upd_same⟩
end
def rInsert : V → List V → Hp → VK → Prop := fun x vs H Q => ∃ (l : Addr) (xs : List V) (i : Int) (y : V), x = .ref l ∧ vs = [.int i, y] ∧ H l = some (.lst xs) ∧ xs.length < sizeLine ∧ 0 ≤ i ∧ i < 2 ^ 63 ∧ Q .non (upd H l (.lst (xs.take i.toNat ++ [y] ++ xs.drop i.toNat)))
theorem mt_ins {X : Cx} : MtR X "list.insert" rInsert := mt_insert
theorem a_ins {H : Hp} {Q : VK} {p : Addr} {xs : List V} {i : Nat} {y : V} (h : H p = some (.lst xs)) (hl : xs.length < 100000) (hi : i ≤ 100000) (q : ∀ H2, But p H H2 → H2 p = some (.lst (xs.take i ++ [y] ++ xs.drop i)) → Q .non H2) : rInsert (.ref p) [.int (i : Nat), y] H Q :=
  ⟨p, xs, _, y, rfl, rfl, h, szl hl, by omega, by omega, q _ But.upd upd_same⟩
/-- the first item of a tuple of data -/
theorem Dq.fst {K : PySem.W.Frag} {H : Hp} {n : Nat} {p : Addr} {x : Str} {ds : List PyData} (h : Dq K H n (.ref p) (.tuple (.str x :: ds))) : ∃ vs, SqT K H p (.str x :: vs) := by
  cases h.dp with
  | tup h1 h2 =>
    cases h2 with
    | cons h3 h4 =>
      cases h3
      exact ⟨_, h1⟩
end TT

set_option Elab.async false
set_option linter.all false
set_option maxRecDepth 100000
set_option maxHeartbeats 4000000
namespace TT
/-! ### powers of permutations -/
def stp (a : List Nat) (x : Nat) : Nat := a.getD x 0
def itr (a : List Nat) : Nat → Nat → Nat
  | 0, x => x
  | k + 1, x => stp a (itr a k x)
section
variable {a : List Nat}
theorem stp_lt (h : OkImg a) {x : Nat} (hx : x < a.length) : stp a x < a.length := by
  unfold stp
  rw [getD_lt hx]
  exact h.lt _ (List.getElem_mem _)
theorem itr_lt (h : OkImg a) {x : Nat} (hx : x < a.length) : ∀ k, itr a k x < a.length
  | 0 => hx
  | k + 1 => stp_lt h (itr_lt h hx k)
theorem itr_add (x : Nat) (k : Nat) : ∀ j, itr a (j + k) x = itr a j (itr a k x)
  | 0 => by rw [Nat.zero_add]; rfl
  | j + 1 => by
    rw [Nat.succ_add]
    show stp a _ = stp a _
    rw [itr_add x k j]
theorem stp_inj (h : OkImg a) {x y : Nat} (hx : x < a.length) (hy : y < a.length) (e : stp a x = stp a y) : x = y := by
  unfold stp at e
  rw [getD_lt hx, getD_lt hy] at e
  exact nd_inj h.nd hx hy e
theorem itr_inj (h : OkImg a) {x y : Nat} (hx : x < a.length) (hy : y < a.length) : ∀ k, itr a k x = itr a k y → x = y
  | 0, e => e
  | k + 1, e => itr_inj h hx hy k (stp_inj h (itr_lt h hx k) (itr_lt h hy k) e)
theorem per_ex (h : OkImg a) {x : Nat} (hx : x < a.length) : ∃ L, 0 < L ∧ L ≤ a.length ∧ itr a L x = x := by
  have key : ¬ ((List.range (a.length + 1)).map fun k => itr a k x).Nodup := fun nd => by
    have := sub_len (m := List.range a.length) nd fun y hy => by
      obtain ⟨k, _, rfl⟩ := List.mem_map.mp hy
      exact List.mem_range.mpr (itr_lt h hx k)
    rw [List.length_map, List.length_range, List.length_range] at this
    omega
  rw [List.nodup_iff_pairwise_ne, List.pairwise_iff_getElem] at key
  have key2 : ∃ i j, i < j ∧ j ≤ a.length ∧ itr a i x = itr a j x := by
    refine Classical.byContradiction fun no => key fun i j hi hj hij e => no ⟨i, j, hij, ?_, ?_⟩
    · rw [List.length_map, List.length_range] at hj
      omega
    · simpa using e
  obtain ⟨i, j, hij, hj, e⟩ := key2
  refine ⟨j - i, by omega, by omega, ?_⟩
  have e2 : itr a i x = itr a i (itr a (j - i) x) := by
    rw [← itr_add, e]
    congr 1
    omega
  exact (itr_inj h hx (itr_lt h hx _) i e2).symm
def per (a : List Nat) (x : Nat) : Nat := ((List.range a.length).find? fun k => itr a (k + 1) x == x).getD 0 + 1
theorem per_is (h : OkImg a) {x : Nat} (hx : x < a.length) : itr a (per a x) x = x ∧ per a x ≤ a.length ∧ ∀ k, 0 < k → k < per a x → itr a k x ≠ x := by
  obtain ⟨L, L0, L1, eL⟩ := per_ex h hx
  unfold per
  cases hf : (List.range a.length).find? fun k => itr a (k + 1) x == x with
  | none =>
    have := List.find?_eq_none.mp hf (L - 1) (List.mem_range.mpr (by omega))
    rw [show L - 1 + 1 = L by omega, eL] at this
    simp at this
  | some i =>
    have h1 := List.find?_range_eq_some.mp hf
    obtain ⟨p1, p2, p3⟩ := h1
    rw [Option.getD_some]
    refine ⟨eq_of_beq p1, List.mem_range.mp p2, fun k k0 k1 e => ?_⟩
    have := p3 (k - 1) (by omega)
    rw [show k - 1 + 1 = k by omega, e] at this
    simp at this
theorem per_pos (a : List Nat) (x : Nat) : 0 < per a x := Nat.succ_pos _
theorem itr_mul (x : Nat) {L : Nat} (e : itr a L x = x) : ∀ q, itr a (L * q) x = x
  | 0 => rfl
  | q + 1 => by rw [Nat.mul_succ, itr_add, e, itr_mul x e q]
theorem itr_mod (h : OkImg a) {x : Nat} (hx : x < a.length) (k : Nat) : itr a k x = itr a (k % per a x) x := by
  have e : itr a k x = itr a (k % per a x + per a x * (k / per a x)) x := by rw [Nat.mod_add_div]
  rw [e, itr_add, itr_mul x (per_is h hx).1]
theorem itr_dvd (h : OkImg a) {x : Nat} (hx : x < a.length) {k : Nat} : itr a k x = x ↔ per a x ∣ k := by
  constructor
  · intro e
    rw [itr_mod h hx] at e
    have hl := Nat.mod_lt k (per_pos a x)
    by_cases h0 : k % per a x = 0
    · exact Nat.dvd_of_mod_eq_zero h0
    · exact absurd e ((per_is h hx).2.2 _ (Nat.pos_of_ne_zero h0) hl)
  · rintro ⟨q, rfl⟩
    exact itr_mul x (per_is h hx).1 q
theorem itr_uniq (h : OkImg a) {x : Nat} (hx : x < a.length) {j k : Nat} (hj : j < per a x) (hk : k < per a x) (e : itr a j x = itr a k x) : j = k := by
  have main : ∀ {j k : Nat}, j < k → k < per a x → itr a j x = itr a k x → False := fun {j k} hjk hk e => by
    have e2 : itr a j x = itr a j (itr a (k - j) x) := by
      rw [← itr_add, e]
      congr 1
      omega
    exact (per_is h hx).2.2 (k - j) (by omega) (by omega) (itr_inj h hx (itr_lt h hx _) j e2).symm
  rcases Nat.lt_trichotomy j k with l | l | l
  · exact (main l hk e).elim
  · exact l
  · exact (main l hj e.symm).elim
theorem per_itr (h : OkImg a) {x : Nat} (hx : x < a.length) (k : Nat) : per a (itr a k x) = per a x := by
  have q : ∀ m, itr a m (itr a k x) = itr a k x ↔ itr a m x = x := fun m => by
    rw [← itr_add, Nat.add_comm, itr_add]
    constructor
    · intro e
      exact itr_inj h (itr_lt h hx m) hx k e
    · intro e
      rw [e]
  unfold per
  have : (fun m => itr a (m + 1) (itr a k x) == itr a k x) = fun m => itr a (m + 1) x == x := by
    funext m
    rw [Bool.eq_iff_iff, beq_iff_eq, beq_iff_eq]
    exact q (m + 1)
  rw [this]
/-- the z-th step from x -/
def zit (a : List Nat) (z : Int) (x : Nat) : Nat := itr a (z % (per a x : Int)).toNat x
theorem emod_nat (z : Int) {L : Nat} (h : 0 < L) : 0 ≤ z % (L : Int) ∧ z % (L : Int) < L := ⟨Int.emod_nonneg _ (by omega), Int.emod_lt_of_pos _ (by omega)⟩
theorem zit_lt (h : OkImg a) {x : Nat} (hx : x < a.length) (z : Int) : zit a z x < a.length := itr_lt h hx _
theorem zit_nat (h : OkImg a) {x : Nat} (hx : x < a.length) (k : Nat) : zit a (k : Int) x = itr a k x := by
  unfold zit
  have e : ((k : Int) % (per a x : Int)).toNat = k % per a x := by
    rw [← Int.natCast_emod, Int.toNat_natCast]
  rw [e, ← itr_mod h hx]
theorem zit_add (h : OkImg a) {x : Nat} (hx : x < a.length) (z w : Int) : zit a (z + w) x = zit a w (zit a z x) := by
  have hL := per_pos a x
  have e1 : per a (zit a z x) = per a x := per_itr h hx _
  have s1 := emod_nat z hL
  have s2 := emod_nat w hL
  have s3 := emod_nat (z + w) hL
  have R : zit a w (zit a z x) = itr a ((w % (per a x : Int)).toNat + (z % (per a x : Int)).toNat) x := by
    rw [itr_add]
    show itr a (w % (per a (zit a z x) : Int)).toNat (zit a z x) = _
    rw [e1]
    rfl
  rw [R, itr_mod h hx]
  show itr a ((z + w) % (per a x : Int)).toNat x = _
  congr 1
  have : ((((w % (per a x : Int)).toNat + (z % (per a x : Int)).toNat) % per a x : Nat) : Int) = (z + w) % (per a x : Int) := by
    rw [Int.natCast_emod, Int.natCast_add, Int.toNat_of_nonneg s1.1, Int.toNat_of_nonneg s2.1, ← Int.add_emod, Int.add_comm]
  omega
theorem zit_0 (h : OkImg a) {x : Nat} (hx : x < a.length) : zit a 0 x = x := zit_nat h hx 0
theorem zit_1 (h : OkImg a) {x : Nat} (hx : x < a.length) : zit a 1 x = stp a x := zit_nat h hx 1
def pw (a : List Nat) (z : Int) : List Nat := (List.range a.length).map fun x => zit a z x
theorem pw_len (a : List Nat) (z : Int) : (pw a z).length = a.length := by unfold pw; rw [List.length_map, List.length_range]
theorem pw_get {z : Int} {x : Nat} (hx : x < (pw a z).length) : (pw a z)[x] = zit a z x := by simp [pw]
theorem pw_ok (h : OkImg a) (z : Int) : OkImg (pw a z) := by
  refine .of_inj (fun i j hi hj e => ?_) fun i hi => ?_
  · rw [pw_get, pw_get] at e
    rw [pw_len] at hi hj
    have e2 := congrArg (zit a (-z)) e
    rw [← zit_add h hi, ← zit_add h hj, Int.add_right_neg, zit_0 h hi, zit_0 h hj] at e2
    exact e2
  · rw [pw_get]
    rw [pw_len] at hi ⊢
    exact zit_lt h hi z
theorem pw_comp (h : OkImg a) (z w : Int) : comp (pw a z) (pw a w) = pw a (z + w) := by
  refine List.ext_getElem (by rw [comp_len, pw_len, pw_len]) fun i h1 h2 => ?_
  rw [comp_len] at h1
  rw [comp_get h1, pw_get, pw_get]
  rw [pw_len] at h1
  have hl := zit_lt h h1 z
  rw [getD_lt (by rw [pw_len]; exact hl), pw_get, zit_add h h1]
theorem pw_0 (h : OkImg a) : pw a 0 = List.range a.length := by
  refine List.ext_getElem (by rw [pw_len, List.length_range]) fun i h1 h2 => ?_
  rw [pw_get, List.getElem_range]
  rw [pw_len] at h1
  exact zit_0 h h1
theorem pw_1 (h : OkImg a) : pw a 1 = a := by
  refine List.ext_getElem (pw_len _ _) fun i h1 h2 => ?_
  rw [pw_get, zit_1 h h2]
  unfold stp
  rw [getD_lt h2]
theorem pw_m1 (h : OkImg a) : pw a (-1) = inv a := by
  refine List.ext_getElem (by rw [pw_len, inv_len]) fun i h1 h2 => ?_
  rw [pw_get, inv_get]
  rw [pw_len] at h1
  have hl := zit_lt h h1 (-1)
  refine (idx_uniq h.nd hl ?_).symm
  have e : zit a 1 (zit a (-1) i) = i := by
    rw [← zit_add h h1]
    exact zit_0 h h1
  rw [zit_1 h hl] at e
  unfold stp at e
  rw [getD_lt hl] at e
  exact e
theorem pw_up (h : OkImg a) (z : Int) : comp (pw a z) a = pw a (z + 1) := by
  have := pw_comp h z 1
  rw [pw_1 h] at this
  exact this
theorem pw_down (h : OkImg a) (z : Int) : comp (pw a z) (inv a) = pw a (z - 1) := by
  have := pw_comp h z (-1)
  rw [pw_m1 h] at this
  exact this
theorem zit_per (h : OkImg a) {x : Nat} (hx : x < a.length) {z w : Int} (d : (per a x : Int) ∣ z - w) : zit a z x = zit a w x := by
  unfold zit
  have : z % (per a x : Int) = w % (per a x : Int) := Int.emod_eq_emod_iff_emod_sub_eq_zero.mpr (Int.emod_eq_zero_of_dvd d)
  rw [this]
theorem pw_per (h : OkImg a) {z w : Int} (d : ∀ x, x < a.length → (per a x : Int) ∣ z - w) : pw a z = pw a w := by
  refine List.ext_getElem (by rw [pw_len, pw_len]) fun i h1 h2 => ?_
  rw [pw_get, pw_get]
  rw [pw_len] at h1
  exact zit_per h h1 (d i h1)
/-- the cycle from x -/
def cyc (a : List Nat) (x : Nat) : List Nat := (List.range (per a x)).map fun k => itr a k x
theorem cyc_len (a : List Nat) (x : Nat) : (cyc a x).length = per a x := by unfold cyc; rw [List.length_map, List.length_range]
theorem cyc_get {x k : Nat} (hk : k < (cyc a x).length) : (cyc a x)[k] = itr a k x := by simp [cyc]
theorem cyc_pw (h : OkImg a) {x : Nat} (hx : x < a.length) {k : Nat} (hk : k < per a x) (z : Int) : ∃ j : Nat, j < per a x ∧ (((k : Int) + z) % (per a x : Int)) = j ∧ (cyc a x)[j]? = some (zit a z (itr a k x)) := by
  have s := emod_nat ((k : Int) + z) (per_pos a x)
  refine ⟨(((k : Int) + z) % (per a x : Int)).toNat, by omega, by omega, ?_⟩
  rw [List.getElem?_eq_getElem (by rw [cyc_len]; omega), cyc_get]
  have e := zit_add h hx (k : Int) z
  rw [zit_nat h hx k] at e
  rw [← e]
  rfl
end
end TT

set_option Elab.async false
set_option linter.all false
set_option maxRecDepth 100000
set_option maxHeartbeats 4000000
namespace TT
open PySem PySem.Spec PyProof.Rows L2
theorem w_loop {c : TT} {tb : TS} {D : Ends} {σ : L2.St} {H : Hp} (W : Nat → L2.St → Hp → Prop) (m : Nat) (h0 : W m σ H) (hs : ∀ m σ H, W m σ H → c σ H fun b H1 => if b = true then ∃ N : L2.St → Hp → Prop, (∀ σ' H', N σ' H' → ∃ m', m' < m ∧ W m' σ' H') ∧ tb { D with nx := N, ct := N, bk := D.nx } σ H1 else D.nx σ H1) : tWhile c tb D σ H := ⟨W, ⟨m, h0⟩, hs⟩
theorem w_go {tb : TS} {D : Ends} {σ : L2.St} {H : Hp} {W : Nat → L2.St → Hp → Prop} {m : Nat} (h : tb { D with nx := fun σ' H' => ∃ m', m' < m ∧ W m' σ' H', ct := fun σ' H' => ∃ m', m' < m ∧ W m' σ' H', bk := D.nx } σ H) :
    ∃ N : L2.St → Hp → Prop, (∀ σ' H', N σ' H' → ∃ m', m' < m ∧ W m' σ' H') ∧ tb { D with nx := N, ct := N, bk := D.nx } σ H := ⟨_, fun _ _ h => h, h⟩
def seenP (ps : List Nat) (n : Nat) : List V := (List.range n).map fun j => V.bl (decide (j ∈ ps))
theorem seenP_len (ps : List Nat) (n : Nat) : (seenP ps n).length = n := by unfold seenP; rw [List.length_map, List.length_range]
theorem seenP_at (ps : List Nat) (n j : Nat) (h : j < n) : (seenP ps n)[j]? = some (.bl (decide (j ∈ ps))) := by
  unfold seenP
  rw [List.getElem?_map, List.getElem?_range h]
  rfl
theorem seenP_set (ps : List Nat) (n j : Nat) (h : j < n) : (seenP ps n).set j (.bl true) = seenP (ps ++ [j]) n := by
  refine List.ext_getElem (by rw [List.length_set, seenP_len, seenP_len]) fun i h1 h2 => ?_
  rw [List.getElem_set]
  simp only [seenP, List.getElem_map, List.getElem_range]
  by_cases e : j = i
  · subst e
    rw [if_pos rfl, decide_eq_true (List.mem_append_right _ (List.mem_singleton.mpr rfl))]
  · rw [if_neg e]
    congr 1
    rw [decide_eq_decide, List.mem_append, List.mem_singleton]
    exact ⟨.inl, fun z => z.elim id fun z => absurd z.symm e⟩
theorem a_truP {K : PySem.W.Frag} {H : Hp} {p : Addr} {xs : List V} {R : Bool → Prop} (e : SqL K H p xs) (h : R (decide (xs ≠ []))) : ∃ k, TruV K (.ref p) H k ∧ R k := a_truL e (by
  cases xs with
  | nil => exact h
  | cons x xs => exact h)
/-- the first k of the cycle from x -/
def cyk (a : List Nat) (x k : Nat) : List Nat := (List.range k).map fun k => itr a k x
theorem cyk_up (a : List Nat) (x k : Nat) : cyk a x (k + 1) = cyk a x k ++ [itr a k x] := by
  unfold cyk
  rw [List.range_succ, List.map_append]
  rfl
theorem cyk_len (a : List Nat) (x k : Nat) : (cyk a x k).length = k := by unfold cyk; rw [List.length_map, List.length_range]
theorem mem_cyk {a : List Nat} {x k y : Nat} : y ∈ cyk a x k ↔ ∃ j, j < k ∧ itr a j x = y := by
  unfold cyk
  rw [List.mem_map]
  exact ⟨fun ⟨j, h, e⟩ => ⟨j, List.mem_range.mp h, e⟩, fun ⟨j, h, e⟩ => ⟨j, List.mem_range.mpr h, e⟩⟩
/-- all points of the cycles that begin at bs -/
def cyf (a : List Nat) (bs : List Nat) : List Nat := (bs.map (cyc a)).flatten
theorem mem_cyf {a bs : List Nat} {y : Nat} : y ∈ cyf a bs ↔ ∃ b ∈ bs, y ∈ cyc a b := by
  unfold cyf
  rw [List.mem_flatten]
  constructor
  · rintro ⟨l, hl, hy⟩
    obtain ⟨b, hb, rfl⟩ := List.mem_map.mp hl
    exact ⟨b, hb, hy⟩
  · rintro ⟨b, hb, hy⟩
    exact ⟨_, List.mem_map.mpr ⟨b, hb, rfl⟩, hy⟩
theorem cyf_snoc (a bs : List Nat) (b : Nat) : cyf a (bs ++ [b]) = cyf a bs ++ cyc a b := by
  unfold cyf
  rw [List.map_append, List.flatten_append]
  simp
theorem cyc_eq (a : List Nat) (x : Nat) : cyc a x = cyk a x (per a x) := rfl
/-- a cycle that has a later point has the point -/
theorem cyf_back {a bs : List Nat} (h : OkImg a) (hb : ∀ b ∈ bs, b < a.length) {x k : Nat} (hx : x < a.length) (m : itr a k x ∈ cyf a bs) : x ∈ cyf a bs := by
  obtain ⟨b, hbm, hy⟩ := mem_cyf.mp m
  have hbl := hb b hbm
  obtain ⟨j, hj, e⟩ := mem_cyk.mp hy
  refine mem_cyf.mpr ⟨b, hbm, mem_cyk.mpr ?_⟩
  have px : per a x = per a b := by
    rw [← per_itr h hx k, ← e, per_itr h hbl]
  -- x = itr (j + (L * k - k)) b
  have e2 : itr a (per a x * k - k + k) x = x := by
    rw [show per a x * k - k + k = per a x * k from Nat.sub_add_cancel (Nat.le_mul_of_pos_left k (per_pos a x))]
    exact itr_mul x (per_is h hx).1 k
  rw [itr_add, ← e, ← itr_add] at e2
  refine ⟨(per a x * k - k + j) % per a b, Nat.mod_lt _ (per_pos a b), ?_⟩
  rw [← itr_mod h hbl]
  exact e2
end TT

set_option Elab.async false
set_option linter.all false
set_option maxRecDepth 100000
set_option maxHeartbeats 4000000
namespace TT
open PySem PySem.Spec PyProof.Rows L2
/-- an if whose ways meet again -/
theorem g_seqIf {c : TT} {t u v : TS} {D : Ends} {σ : L2.St} {H : Hp} (J : L2.St → Hp → Prop) (h : (∀ σ' H', J σ' H' → v D σ' H') → c σ H fun b H1 => if b = true then t { D with nx := v D } σ H1 else u { D with nx := v D } σ H1) (fin : ∀ σ' H', J σ' H' → v D σ' H') : tSeq (tIfS c t u) v D σ H := h fin
theorem sqt_off {K : PySem.W.Frag} {H : Hp} {ms : List Addr} {t : Addr} {xs : List V} (hm : ∀ q ∈ ms, ∃ xs, H q = some (.lst xs)) (h : SqT K H t xs) : SqT K (Off ms H) t xs := by
  have no : ∀ {o : HO}, H t = some o → (∀ ys, o ≠ .lst ys) → t ∉ ms := fun {o} e ne z => by
    obtain ⟨ys, e2⟩ := hm t z
    rw [e] at e2
    exact ne ys (Option.some.inj e2)
  rcases h with (h | ⟨o, h⟩) | h
  · exact .inl (.inl (Off.at_ h (no h fun ys z => by cases z)))
  · exact .inl (.inr ⟨o, Off.at_ h (no h fun ys z => by cases z)⟩)
  · exact .inr h
theorem PairAt.off {K : PySem.W.Frag} {H : Hp} {ms : List Addr} {v : V} {x : Pr} (h : PairAt K H v x) (hm : ∀ q ∈ ms, ∃ xs, H q = some (.lst xs)) : PairAt K (Off ms H) v x := let ⟨q, e, h⟩ := h; ⟨q, e, sqt_off hm h⟩
theorem Off.bt {ms : List Addr} {H H1 : Hp} {D : Addr} (b : But D H H1) : But D (Off ms H) (Off ms H1) := fun a o n e => by
  unfold Off at e ⊢
  by_cases z : a ∈ ms
  · rw [if_pos z] at e
    cases e
  · rw [if_neg z] at e ⊢
    exact b a o n e
section
variable {K : PySem.W.Frag} {j : Nat} {σ : L2.St} {H : Hp} {te : TE} {Q : VK} {P : Addr → Nat → V → Hp → Prop}
theorem c_rp {ta : TA} {k : Nat} (st : Stb P) (hn : k ≤ 100000) (hl : ∀ R : List V → Hp → Prop, (∀ H1, Same H H1 → R [.int (k : Nat)] H1) → ta σ H R)
    (hs : ∀ D acc (i : Nat) H', H D = none → i < k → Same H H' → H' D = some (.lst acc) → ∀ R : VK, (∀ v H4, Same H' H4 → P D i v H4 → R v H4) → te ((σ.set j none).set j (some (.int (i : Nat)))) H' R)
    (hd : ∀ D acc H', H D = none → Same H H' → H' D = some (.lst acc) → acc.length = k → (∀ k v, acc[k]? = some v → P D k v H') → Q (.ref D) H') : tLc (iRng1 ta) (gName j) tYes te [j] σ H Q := by
  refine hl _ fun H1 s1 => ⟨(k : Int), rfl, by omega, by omega, lc_p walk_range st (by omega) (fun _ _ => True.intro) (fun D acc i x H' H2 hi hD s hacc y => ?_) fun D acc H' nD s e1 e2 e3 => hd D acc H' (s1.free nD) (s1.trans s) e1 (by omega) e3⟩
  obtain ⟨rfl, e⟩ := y
  subst e
  refine ⟨Same.refl _, ?_⟩
  have e0 : (0 : Int) + (i : Int) = i := by omega
  show ∀ R : VK, _ → te ((σ.set j none).set j (some (.int (0 + (i : Int))))) H2 R
  rw [e0]
  exact hs D acc i _ (s1.free hD) (by omega) (s1.trans s) hacc
end
end TT

set_option Elab.async false
set_option linter.all false
set_option maxRecDepth 100000
set_option maxHeartbeats 4000000
namespace TT
open PySem PySem.Spec PyProof.Rows L2
/-! dicts: steps and arrivals -/
def rDGet (x y : V) (H : Hp) (Q : VK) : Prop := ∃ a v, x = .ref a ∧ DGet H a y (some v) ∧ Q v H
def rDIn (y x : V) (H : Hp) (Q : VK) : Prop := ∃ a o, x = .ref a ∧ DGet H a y o ∧ Q (.bl o.isSome) H
def rDNin (y x : V) (H : Hp) (Q : VK) : Prop := ∃ a o, x = .ref a ∧ DGet H a y o ∧ Q (.bl (!o.isSome)) H
def rDPut (x y v : V) (H : Hp) (R : Hp → Prop) : Prop := ∃ a H4, x = .ref a ∧ DPut H a y v H4 ∧ R H4
def rDNew (H : Hp) (Q : VK) : Prop := ∀ p, H p = none → Q (.ref p) (upd H p (.dK []))
def rDNewT (H : Hp) (Q : VK) : Prop := ∀ p, H p = none → Q (.ref p) (upd H p (.dT []))
section
variable {K : PySem.W.Frag} {σ : L2.St} {H : Hp} {Q : VK} {D : Ends} {td ty tv te : TE} {QB : Bool → Hp → Prop} {a : Addr} {kvs : List (Key × V)} {k : Key} {v : V}
theorem g_dget (h : td σ H fun x H1 => ty σ H1 fun y H2 => rDGet x y H2 Q) : tDGet td ty σ H Q := h
theorem g_din (h : ty σ H fun y H1 => td σ H1 fun x H2 => rDIn y x H2 Q) : tDIn ty td σ H Q := h
theorem g_dnin (h : ty σ H fun y H1 => td σ H1 fun x H2 => rDNin y x H2 Q) : tDNotIn ty td σ H Q := h
theorem g_dput (h : tv σ H fun v H1 => td σ H1 fun x H2 => ty σ H2 fun y H3 => rDPut x y v H3 fun H4 => D.nx σ H4) : sDPut td ty tv D σ H := h
theorem g_dnew (h : rDNew H Q) : tDNewK σ H Q := h
theorem g_dnewT (h : rDNewT H Q) : tDNewT σ H Q := h
theorem g_tB (h : te σ H fun x H' => ∃ k, x = .bl k ∧ QB k H') : tB te σ H QB := h
theorem a_dnew (h : ∀ p H2, H p = none → Same H H2 → H2 p = some (.dK []) → Q (.ref p) H2) : rDNew H Q := fun p hp => h p _ hp (same_new hp) upd_same
theorem a_dnewT (h : ∀ p H2, H p = none → Same H H2 → H2 p = some (.dT []) → Q (.ref p) H2) : rDNewT H Q := fun p hp => h p _ hp (same_new hp) upd_same
theorem a_dgetS {s : Str} (h : Rd H a (.dK kvs)) (e : valV kvs (.inr s) = some v) (q : Q v H) : rDGet (.ref a) (.str s) H Q := ⟨a, v, rfl, .inl ⟨kvs, .inr s, h, rfl, e.symm⟩, q⟩
theorem a_dgetI {n : Int} (h : Rd H a (.dK kvs)) (e : valV kvs (.inl n) = some v) (q : Q v H) : rDGet (.ref a) (.int n) H Q := ⟨a, v, rfl, .inl ⟨kvs, .inl n, h, rfl, e.symm⟩, q⟩
theorem a_dinS {s : Str} (h : Rd H a (.dK kvs)) (q : Q (.bl (valV kvs (.inr s)).isSome) H) : rDIn (.str s) (.ref a) H Q := ⟨a, _, rfl, .inl ⟨kvs, .inr s, h, rfl, rfl⟩, q⟩
theorem a_dninS {s : Str} (h : Rd H a (.dK kvs)) (q : Q (.bl (!(valV kvs (.inr s)).isSome)) H) : rDNin (.str s) (.ref a) H Q := ⟨a, _, rfl, .inl ⟨kvs, .inr s, h, rfl, rfl⟩, q⟩
theorem a_dinI {n : Int} (h : Rd H a (.dK kvs)) (q : Q (.bl (valV kvs (.inl n)).isSome) H) : rDIn (.int n) (.ref a) H Q := ⟨a, _, rfl, .inl ⟨kvs, .inl n, h, rfl, rfl⟩, q⟩
theorem a_dninI {n : Int} (h : Rd H a (.dK kvs)) (q : Q (.bl (!(valV kvs (.inl n)).isSome)) H) : rDNin (.int n) (.ref a) H Q := ⟨a, _, rfl, .inl ⟨kvs, .inl n, h, rfl, rfl⟩, q⟩
theorem a_dinT {kts : List (List Key × V)} {b : Addr} {ks : List Key} (h : Rd H a (.dT kts)) (hb : H b = some (.tup (ks.map kV))) (q : Q (.bl (valV kts ks).isSome) H) : rDIn (.ref b) (.ref a) H Q := ⟨a, _, rfl, .inr ⟨kts, ks, b, h, rfl, hb, rfl⟩, q⟩
theorem a_dninT {kts : List (List Key × V)} {b : Addr} {ks : List Key} (h : Rd H a (.dT kts)) (hb : H b = some (.tup (ks.map kV))) (q : Q (.bl (!(valV kts ks).isSome)) H) : rDNin (.ref b) (.ref a) H Q := ⟨a, _, rfl, .inr ⟨kts, ks, b, h, rfl, hb, rfl⟩, q⟩
theorem a_dgetT {kts : List (List Key × V)} {b : Addr} {ks : List Key} (h : Rd H a (.dT kts)) (hb : H b = some (.tup (ks.map kV))) (e : valV kts ks = some v) (q : Q v H) : rDGet (.ref a) (.ref b) H Q := ⟨a, v, rfl, .inr ⟨kts, ks, b, h, rfl, hb, e.symm⟩, q⟩
theorem a_dputS {s : Str} {R : Hp → Prop} (h : H a = some (.dK kvs)) (hl : kvs.length ≤ 100000) (q : ∀ H2, But a H H2 → H2 a = some (.dK (putK kvs (.inr s) v)) → R H2) : rDPut (.ref a) (.str s) v H R := ⟨a, _, rfl, .inl ⟨kvs, .inr s, h, rfl, Nat.lt_of_le_of_lt hl (by decide), rfl⟩, q _ But.upd upd_same⟩
theorem a_dputI {n : Int} {R : Hp → Prop} (h : H a = some (.dK kvs)) (hl : kvs.length ≤ 100000) (q : ∀ H2, But a H H2 → H2 a = some (.dK (putK kvs (.inl n) v)) → R H2) : rDPut (.ref a) (.int n) v H R := ⟨a, _, rfl, .inl ⟨kvs, .inl n, h, rfl, Nat.lt_of_le_of_lt hl (by decide), rfl⟩, q _ But.upd upd_same⟩
theorem a_dputT {kts : List (List Key × V)} {b : Addr} {ks : List Key} {R : Hp → Prop} (h : H a = some (.dT kts)) (hb : H b = some (.tup (ks.map kV))) (hl : kts.length ≤ 100000) (q : ∀ H2, But a H H2 → H2 a = some (.dT (putK kts ks v)) → R H2) : rDPut (.ref a) (.ref b) v H R := ⟨a, _, rfl, .inr ⟨kts, ks, b, h, rfl, hb, Nat.lt_of_le_of_lt hl (by decide), rfl⟩, q _ But.upd upd_same⟩
/-- a walk over a dict: it is locked meanwhile -/
theorem a_lock {d : Addr} {u : HO} {t : TS} (h : H d = some u) (m : Mut (some u)) (q : ∀ od H1, But d H H1 → H1 d = some (.frz od u) → t ⟨fun σ' H' => H' d = some (.frz od u) ∧ D.nx σ' (upd H' d u), fun v H' => H' d = some (.frz od u) ∧ D.rt v (upd H' d u), fun σ' H' => H' d = some (.frz od u) ∧ D.bk σ' (upd H' d u), fun σ' H' => H' d = some (.frz od u) ∧ D.ct σ' (upd H' d u)⟩ σ H1) : tLock t D σ H := ⟨d, u, h, m, fun od => q od _ But.upd upd_same⟩
theorem a_lockE {d : Addr} {u : HO} (h : H d = some u) (m : Mut (some u)) (q : ∀ od H1, But d H H1 → H1 d = some (.frz od u) → te σ H1 fun v H' => H' d = some (.frz od u) ∧ Q v (upd H' d u)) : tLockE te σ H Q := ⟨d, u, h, m, fun od => q od _ But.upd upd_same⟩
def rKeys (x : V) (H : Hp) (R : It → Hp → Prop) : Prop := ∃ d o, x = .ref d ∧ ((∃ kvs, H d = some (.frz o (.dK kvs)) ∧ R (Itk d o kvs) H) ∨ ∃ kvs, H d = some (.frz o (.dT kvs)) ∧ R (Itkt d o kvs) H)
theorem g_iKeys {R : It → Hp → Prop} (h : td σ H fun x H1 => rKeys x H1 R) : iKeys td σ H R := h
theorem a_keys {R : It → Hp → Prop} {od : Obj} (h : H a = some (.frz od (.dK kvs))) (q : R (Itk a od kvs) H) : rKeys (.ref a) H R := ⟨a, od, rfl, .inl ⟨kvs, h, q⟩⟩
def rStrI (x : V) (H : Hp) (R : It → Hp → Prop) : Prop := ∃ z, x = .str z ∧ R (Its z) H
theorem g_iStr {R : It → Hp → Prop} (h : td σ H fun x H1 => rStrI x H1 R) : iStr td σ H R := h
/-- list(d), dict(d) -/
def rListDU : List V → Hp → VK → Prop := fun xs H Q => ∃ (a : Addr) (kvs : List (Key × V)), xs = [.ref a] ∧ Rd H a (.dK kvs) ∧ ∀ p, H p = none → Q (.ref p) (upd H p (.lst (kvs.map fun kv => kV kv.1)))
def rDictDU : List V → Hp → VK → Prop := fun xs H Q => ∃ (a : Addr) (kvs : List (Key × V)), xs = [.ref a] ∧ Rd H a (.dK kvs) ∧ ∀ p, H p = none → Q (.ref p) (upd H p (.dK kvs))
theorem call_listDU {X : Cx} (hc : X.calm = true) : CallR X (.type "list") rListDU := call_listD hc
theorem call_dictDU {X : Cx} : CallR X (.type "dict") rDictDU := call_dictD
theorem a_listD (h : Rd H a (.dK kvs)) (q : ∀ p H2, H p = none → Same H H2 → H2 p = some (.lst (kvs.map fun kv => kV kv.1)) → Q (.ref p) H2) : rListDU [V.ref a] H Q := ⟨a, kvs, rfl, h, fun p hp => q p _ hp (same_new hp) upd_same⟩
theorem a_dictD (h : Rd H a (.dK kvs)) (q : ∀ p H2, H p = none → Same H H2 → H2 p = some (.dK kvs) → Q (.ref p) H2) : rDictDU [V.ref a] H Q := ⟨a, kvs, rfl, h, fun p hp => q p _ hp (same_new hp) upd_same⟩
def rAddS : R2 := fun x y H Q => ∃ i j, x = .str i ∧ y = .str j ∧ i.length + j.length ≤ sizeLine ∧ Q (.str (i ++ j)) H
theorem op_addSU {X : Cx} : OpR X (binaryOp .Add) rAddS := op_add_str
def rInS : R2 := fun x y H Q => ∃ (c : Nat) (z : Str), x = .str ⟨#[c]⟩ ∧ y = .str z ∧ Q (.bl (decide (c ∈ z.cps.toList))) H
theorem op_inSU {X : Cx} : OpR X (compareOp .In) rInS := op_in_sign
def rLenS : List V → Hp → VK → Prop := fun xs H Q => ∃ z, xs = [.str z] ∧ z.length ≤ sizeLine ∧ Q (.int z.length) H
theorem call_lenSU {X : Cx} : CallR X (.builtin "len") rLenS := call_len_str
def rIsN : R2 := fun x y H Q => y = .non ∧ Q (.bl (decide (x = .non))) H
theorem op_isNU {X : Cx} : OpR X (compareOp .Is) rIsN := op_isN
theorem a_isNt (q : Q (.bl true) H) : rIsN .non .non H Q := ⟨rfl, q⟩
theorem a_isNf {x : V} (h : x ≠ .non) (q : Q (.bl false) H) : rIsN x .non H Q := ⟨rfl, by rw [decide_eq_false h]; exact q⟩
end
section
variable {K : PySem.W.Frag} {J : It} {n j : Nat} {G : Hp → Prop} {Y : Nat → Hp → V → Hp → Prop} {σ : L2.St} {H H1 : Hp} {te tk tv : TE} {tt : TT} {Q : VK}
/-- over the keys of a locked dict -/
theorem c_k {td : TE} {d : Addr} {od : Obj} {kvs : List (Key × V)} (f : Nat → V) (hn : kvs.length ≤ 100000) (hl : ∀ R : VK, (∀ H1, Same H H1 → H1 d = some (.frz od (.dK kvs)) → R (.ref d) H1) → td σ H R)
    (hs : ∀ i k v H', kvs[i]? = some (k, v) → Same H H' → ∀ R : VK, (∀ H4, Same H' H4 → R (f i) H4) → te ((σ.set j none).set j (some (kV k))) H' R)
    (hd : ∀ D H', H D = none → Same H H' → H' D = some (.lst ((List.range kvs.length).map f)) → Q (.ref D) H') : tLc (iKeys td) (gName j) tYes te [j] σ H Q := by
  refine hl _ fun H1 s1 h => ⟨d, od, rfl, .inl ⟨kvs, h, lc_1 walk_keys f hn (fun H' s => s _ _ h) (fun i x H' H2 hi s y => ?_) fun D H' n s e => hd D H' (s1.free n) (s1.trans s) e⟩⟩
  obtain ⟨rfl, k, v, e, rfl⟩ := y
  exact ⟨Same.refl _, hs i k v _ e (s1.trans s)⟩
theorem cf_k {td : TE} {d : Addr} {od : Obj} {kvs : List (Key × V)} (b : Nat → Bool) (f : Nat → V) (hn : kvs.length ≤ 100000) (hl : ∀ R : VK, (∀ H1, Same H H1 → H1 d = some (.frz od (.dK kvs)) → R (.ref d) H1) → td σ H R)
    (hs : ∀ i k v H', kvs[i]? = some (k, v) → Same H H' → (∀ R : Bool → Hp → Prop, (∀ H3, Same H' H3 → R (b i) H3) → tt ((σ.set j none).set j (some (kV k))) H' R) ∧
      (b i = true → ∀ H3, Same H' H3 → ∀ R : VK, (∀ H4, Same H3 H4 → R (f i) H4) → te ((σ.set j none).set j (some (kV k))) H3 R))
    (hd : ∀ D H', H D = none → Same H H' → H' D = some (.lst (((List.range kvs.length).filter b).map f)) → Q (.ref D) H') : tLc (iKeys td) (gName j) tt te [j] σ H Q := by
  refine hl _ fun H1 s1 h => ⟨d, od, rfl, .inl ⟨kvs, h, lc_f walk_keys b f hn (fun H' s => s _ _ h) (fun i x H' H2 hi s y => ?_) fun D H' n s e => hd D H' (s1.free n) (s1.trans s) e⟩⟩
  obtain ⟨rfl, k, v, e, rfl⟩ := y
  exact ⟨Same.refl _, hs i k v _ e (s1.trans s)⟩
/-- over the signs of a text -/
theorem c_s {td : TE} {z : Str} (f : Nat → V) (hn : z.cps.size ≤ 100000) (hl : ∀ R : VK, (∀ H1, Same H H1 → R (.str z) H1) → td σ H R)
    (hs : ∀ i c H', z.cps[i]? = some c → Same H H' → ∀ R : VK, (∀ H4, Same H' H4 → R (f i) H4) → te ((σ.set j none).set j (some (.str ⟨#[c]⟩))) H' R)
    (hd : ∀ D H', H D = none → Same H H' → H' D = some (.lst ((List.range z.cps.size).map f)) → Q (.ref D) H') : tLc (iStr td) (gName j) tYes te [j] σ H Q := by
  refine hl _ fun H1 s1 => ⟨z, rfl, lc_1 walk_str f hn (fun _ _ => True.intro) (fun i x H' H2 hi s y => ?_) fun D H' n s e => hd D H' (s1.free n) (s1.trans s) e⟩
  obtain ⟨rfl, c, e, rfl⟩ := y
  exact ⟨Same.refl _, hs i c _ e (s1.trans s)⟩
/-- the first ones: what a dict of such keys holds -/
def putAll (v : V) (ks : List Key) : List (Key × V) := ks.foldl (fun acc k => putK acc k v) []
theorem putAll_snoc (v : V) (ks : List Key) (k : Key) : putAll v (ks ++ [k]) = putK (putAll v ks) k v := by
  unfold putAll
  rw [List.foldl_append]
  rfl
theorem revInd {α : Type} {P : List α → Prop} (h0 : P []) (h1 : ∀ l x, P l → P (l ++ [x])) (l : List α) : P l := by
  have : ∀ m : List α, P m.reverse := fun m => by
    induction m with
    | nil => exact h0
    | cons x m ih =>
      rw [List.reverse_cons]
      exact h1 _ _ ih
  rw [← List.reverse_reverse l]
  exact this _
theorem putAll_len (v : V) (ks : List Key) : (putAll v ks).length ≤ ks.length := by
  refine revInd (P := fun ks => (putAll v ks).length ≤ ks.length) (Nat.le_refl _) (fun ks x ih => ?_) ks
  · rw [putAll_snoc, List.length_append]
    have := length_putK (putAll v ks) x v
    simp only [List.length_singleton]
    omega
theorem valV_keys {κ : Type} [DecidableEq κ] (k : κ) : ∀ kvs : List (κ × V), (valV kvs k).isSome = true ↔ k ∈ kvs.map (·.1) := by
  intro kvs
  rw [← valV_any, List.any_eq_true]
  simp [eq_comm]
theorem putK_keys {κ : Type} [DecidableEq κ] (kvs : List (κ × V)) (k : κ) (v : V) : (putK kvs k v).map (·.1) = if k ∈ kvs.map (·.1) then kvs.map (·.1) else kvs.map (·.1) ++ [k] := by
  by_cases h : k ∈ kvs.map (·.1)
  · rw [if_pos h]
    have := (valV_keys k kvs).mpr h
    unfold putK
    rw [valV_any, if_pos this, List.map_map]
    refine List.map_congr_left fun p _ => ?_
    show (if p.1 = k then (p.1, v) else p).1 = p.1
    split <;> rfl
  · rw [if_neg h, putK_new]
    · simp
    · have : ¬ (valV kvs k).isSome = true := fun z => h ((valV_keys k kvs).mp z)
      simpa using this
theorem putK_nodup {κ : Type} [DecidableEq κ] {kvs : List (κ × V)} (k : κ) (v : V) (h : (kvs.map (·.1)).Nodup) : ((putK kvs k v).map (·.1)).Nodup := by
  rw [putK_keys]
  split
  · exact h
  · rename_i n
    rw [List.nodup_append]
    refine ⟨h, by simp, fun a ha b hb => ?_⟩
    rw [List.mem_singleton] at hb
    subst hb
    exact fun e => n (e ▸ ha)
theorem putAll_nodup (v : V) (ks : List Key) : ((putAll v ks).map (·.1)).Nodup := by
  refine revInd (P := fun ks => ((putAll v ks).map (·.1)).Nodup) List.nodup_nil (fun ks x ih => ?_) ks
  rw [putAll_snoc]
  exact putK_nodup x v ih
theorem putAll_mem (v : V) (ks : List Key) (k : Key) : k ∈ (putAll v ks).map (·.1) ↔ k ∈ ks := by
  refine revInd (P := fun ks => k ∈ (putAll v ks).map (·.1) ↔ k ∈ ks) Iff.rfl (fun ks x ih => ?_) ks
  rw [putAll_snoc, putK_keys]
  split
  · rename_i h
    rw [ih, List.mem_append, List.mem_singleton]
    refine ⟨.inl, fun z => z.elim id fun e => ?_⟩
    subst e
    exact ih.mp h
  · rw [List.mem_append, List.mem_append, ih]
/-- {k: v for ..}: over a list or a tuple -/
theorem c_d {tl : TE} {xs : List V} {ks : List Key} {v : V} (hn : xs.length ≤ 100000) (hk : xs = ks.map kV) (hl : ∀ R : VK, (∀ a H1, Same H H1 → Seq K H1 a xs → R (.ref a) H1) → tl σ H R)
    (hs : ∀ (i : Nat) (k : Key) H', ks[i]? = some k → Same H H' → ∀ R : VK, (∀ H4, Same H' H4 → R (kV k) H4) → tk ((σ.set j none).set j (some (kV k))) H' R)
    (hv : ∀ (i : Nat) (k : Key) H', ks[i]? = some k → Same H H' → ∀ R : VK, (∀ H4, Same H' H4 → R v H4) → tv ((σ.set j none).set j (some (kV k))) H' R)
    (hd : ∀ D H', H D = none → Same H H' → H' D = some (.dK (putAll v ks)) → Q (.ref D) H') : tDc (iSeq K tl) (gName j) tYes tk tv [j] σ H Q := by
  have hkl : xs.length = ks.length := by rw [hk, List.length_map]
  refine hl _ fun a H1 s1 h => a_iter h fun J w => ?_
  intro D hD
  refine ⟨fun i m H' => m = xs.length - i ∧ i ≤ xs.length ∧ Same H1 H' ∧ H' D = some (.dK (putAll v (ks.take i))), ⟨xs.length, by simp, Nat.zero_le _, same_new hD, upd_same⟩, ?_⟩
  rintro i m H' ⟨rfl, hi, s, e⟩
  by_cases hlt : i < xs.length
  · refine .inr ⟨w.goes i H' hlt s, fun H2 => Same H1 H2 ∧ H2 D = some (.dK (putAll v (ks.take (i + 1)))), fun H2 q => ⟨xs.length - (i + 1), by omega, rfl, hlt, q.1, q.2⟩, fun x H2 y => ?_⟩
    obtain ⟨rfl, ex⟩ := w.yields i H' x H2 hlt s y
    rw [hk, List.getElem?_map] at ex
    obtain ⟨k, ek, rfl⟩ := Option.map_eq_some_iff.mp ex
    refine ⟨set_none σ j _, ?_⟩
    unfold tYes
    dsimp only
    rw [if_pos rfl]
    refine hs i k _ ek (s1.trans s) _ fun H4 s4 => hv i k _ ek ((s1.trans s).trans s4) _ fun H5 s5 => ⟨_, k, rfl, s5 _ _ (s4 _ _ e), ?_, same_mut ((s.trans s4).trans s5) hD, ?_⟩
    · refine Nat.lt_of_le_of_lt (putAll_len v _) (Nat.lt_of_le_of_lt (m := 100000) ?_ (by decide))
      rw [List.length_take]
      omega
    · have hi2 : i < ks.length := by omega
      rw [upd_same, ← List.take_append_getElem hi2, putAll_snoc]
      rw [List.getElem?_eq_getElem hi2] at ek
      rw [Option.some.inj ek]
  · have e2 : i = xs.length := by omega
    subst e2
    refine .inl ⟨w.stops H' s, hd D H' (s1.free hD) (s1.trans s) ?_⟩
    rw [e, hkl, List.take_length]
end
section
variable {K : PySem.W.Frag} {σ : L2.St} {H : Hp} {Q : VK}
def rTrg (a b : Int) (H : Hp) (Q : VK) : Prop := RgOk a b ∧ ∀ q, H q = none → Q (.ref q) (upd H q (.tup (rgV a b)))
theorem g_trg {tr : L2.St → Hp → (Int → Int → Hp → Prop) → Prop} (h : tr σ H fun a b H1 => rTrg a b H1 Q) : tTupRg tr σ H Q := h
theorem a_trg {n : Int} (h0 : 0 ≤ n) (hn : n ≤ 100000) (q : ∀ p H2, H p = none → Same H H2 → H2 p = some (.tup ((List.range n.toNat).map fun i => V.int (i : Nat))) → Q (.ref p) H2) : rTrg 0 n H Q := by
  refine ⟨RgOk.of_le (by omega) (by omega) (by omega) h0, fun p hp => ?_⟩
  have e : rgV 0 n = (List.range n.toNat).map fun i => V.int (i : Nat) := by
    unfold rgV
    have : (n - 0).toNat = n.toNat := by omega
    rw [this]
    refine List.map_congr_left fun i _ => ?_
    congr 1
    omega
  rw [e]
  exact q p _ hp (same_new hp) upd_same
theorem cut_last (xs : List V) (v : V) : cutV (xs ++ [v]) none (some (-1)) = xs := by
  unfold cutV
  have e : (-1 + ((xs.length : Int) + 1)).toNat = xs.length := by omega
  simp [HT.sIx, e]
end
end TT

namespace TT
open PySem PySem.Spec PyProof.Rows L2
local macro_rules | `(tactic| walk_at "tt") => `(tactic| first
  | with_reducible refine g_seq ?_
  | with_reducible refine g_raise ?_
  | with_reducible refine g_cos ?_
  | with_reducible refine g_gone ?_
  | with_reducible refine g_r0 ?_
  | with_reducible refine g_oex ?_
  | with_reducible refine g_try ?_
  | with_reducible refine g_FS ?_
  | with_reducible refine g_MS ?_
  | with_reducible refine g_KS ?_
  | with_reducible refine g_SS ?_
  | with_reducible refine g_BS ?_
  | with_reducible refine g_set ?_
  | with_reducible refine g_c ?_
  | ((with_reducible show tVar _ _ _ _); refine g_var rfl ?_)
  | with_reducible refine g_op ?_
  | with_reducible refine g_un ?_
  | with_reducible refine g_nil ?_
  | with_reducible refine g_cons ?_
  | with_reducible refine g_cb ?_
  | with_reducible refine g_if ?_
  | with_reducible refine g_ife ?_
  | with_reducible refine g_test ?_
  | with_reducible refine a_bl ?_
  | with_reducible refine g_tr ?_
  | with_reducible refine g_not ?_
  | with_reducible refine g_or ?_
  | with_reducible refine g_and ?_
  | with_reducible refine g_F ?_
  | with_reducible refine g_S ?_
  | with_reducible refine g_lst ?_
  | with_reducible refine g_tup ?_
  | with_reducible refine g_fld ?_
  | with_reducible refine g_sfld ?_
  | with_reducible refine g_methR ?_
  | with_reducible refine g_andV ?_
  | with_reducible refine g_orV ?_
  | with_reducible refine g_notT ?_
  | with_reducible refine g_chain ?_
  | with_reducible refine g_bm ?_
  | with_reducible refine g_bm0 ?_
  | with_reducible refine g_sl ?_
  | with_reducible refine g_nop ?_
  | with_reducible refine g_part ?_
  | with_reducible refine g_ret ?_
  | with_reducible refine g_drop ?_
  | with_reducible refine g_next ?_
  | with_reducible refine g_asg ?_
  | with_reducible refine g_sub ?_
  | with_reducible refine g_par ?_
  | with_reducible refine g_for ?_
  | with_reducible refine g_iSeq ?_
  | with_reducible refine g_iTup ?_
  | with_reducible refine g_iList ?_
  | with_reducible refine g_iRng ?_
  | with_reducible refine g_iEt ?_
  | with_reducible refine g_iEn ?_
  | with_reducible refine g_mk ?_
  | with_reducible refine g_lrg ?_
  | with_reducible refine g_rg1 ?_
  | with_reducible refine a_truB ?_
  | with_reducible refine a_truI ?_
  | with_reducible refine g_gcons ?_
  | with_reducible refine g_gnil ?_
  | with_reducible refine g_gname ?_
  | ((with_reducible show gTup _ _ _ (V.ref _) _ _ _); refine g_gtup (SqT.of (by assumption)) rfl ?_)
  | with_reducible refine g_co ?_
  | with_reducible refine a_two ?_
  | with_reducible refine g_dget ?_
  | with_reducible refine g_din ?_
  | with_reducible refine g_dnin ?_
  | with_reducible refine g_dput ?_
  | with_reducible refine g_dnew ?_
  | with_reducible refine g_dnewT ?_
  | with_reducible refine g_tB ?_
  | with_reducible refine g_iKeys ?_
  | with_reducible refine g_iStr ?_
  | with_reducible refine g_trg ?_
  | with_reducible refine a_int ?_
  | with_reducible refine a_addI ?_
  | with_reducible refine a_I0 ?_
  | with_reducible refine a_U ?_
  | with_reducible refine a_ipI ?_
  | with_reducible refine a_int1 ?_
  | ((with_reducible refine a_eq ?_ ?_); (exact rfl))
  | ((with_reducible refine a_ne ?_ ?_); (exact rfl))
  | ((with_reducible show rIx _ (V.ref _) (V.int _) _ _); refine a_ixL (SqL.of (by assumption)) rfl ?_)
  | ((with_reducible show rLenU _ [V.ref _] _ _); refine a_lenL (SqL.of (by assumption)) ?_)
  | ((with_reducible show rLenU _ [V.ref _] _ _); refine a_lenT (SqT.of (by assumption)) ?_)
  | ((with_reducible refine a_mulI ?_ ?_); (dsimp only [CMul]; omega))
  | ((with_reducible refine a_I ?_ ?_); ((try dsimp only [CDiv, CPow, CMul]); omega)))
local macro_rules | `(tactic| walk_at "go") => `(tactic| (repeat walk_at "tt"))

def top (i : Nat) : Stmt := PySem.Challenge.pw_triedtells_k34_whole_results_of_rows.main.body.getD i (.Pass ⟨0, 0, 0, 0⟩)
abbrev s__wall : Stmt := top 0
abbrev s_BadTable_init : Stmt := inClass (top 3) 0
abbrev s_OtherSize_init : Stmt := inClass (top 4) 0
abbrev s_NoPoint_init : Stmt := inClass (top 5) 0
abbrev s_NoMeaning_init : Stmt := inClass (top 6) 0
abbrev s_check_size : Stmt := top 10
abbrev s_Table_init : Stmt := inClass (top 11) 0
abbrev s_Table_len : Stmt := inClass (top 11) 1
abbrev s_Table_call : Stmt := inClass (top 11) 2
abbrev s_Table_mul : Stmt := inClass (top 11) 3
abbrev s_Table_invert : Stmt := inClass (top 11) 4
abbrev s_Table_power : Stmt := inClass (top 11) 5
abbrev s_Table_eq : Stmt := inClass (top 11) 6
abbrev s_Table_order : Stmt := inClass (top 11) 7
abbrev s_Table_neutral : Stmt := inClass (top 11) 8
abbrev s_result : Stmt := top 12
abbrev s__law_start : Stmt := top 14
abbrev s__law_draw : Stmt := top 15
abbrev s__law_name : Stmt := top 16
abbrev s__law_names : Stmt := top 17
abbrev s__law_image : Stmt := top 18
abbrev s__law_row : Stmt := top 19
abbrev s__law_walked : Stmt := top 20
abbrev s__law_told : Stmt := top 21
abbrev s__law_refused : Stmt := top 22
abbrev s_law : Stmt := top 23
structure Txt (K : PySem.W.Frag) (mg : Str → Option Value) : Prop where
  b_list : mg "list" = none
  b_range : mg "range" = none
  b_tuple : mg "tuple" = none
  b_dict : mg "dict" = none
  b_len : mg "len" = none
  b_enumerate : mg "enumerate" = none
  b_isinstance : mg "isinstance" = none
  b_int : mg "int" = none
  k_MOST_POINTS : ∃ u, mg "MOST_POINTS" = some u ∧ RelV (.int 3300) u
  g_TriedError : mg "TriedError" = some (.ref (He.ga K "TriedError"))
  g_BadTable : mg "BadTable" = some (.ref (He.ga K "BadTable"))
  g_OtherSize : mg "OtherSize" = some (.ref (He.ga K "OtherSize"))
  g_NoPoint : mg "NoPoint" = some (.ref (He.ga K "NoPoint"))
  g_NoMeaning : mg "NoMeaning" = some (.ref (He.ga K "NoMeaning"))
  g_TooGreat : mg "TooGreat" = some (.ref (He.ga K "TooGreat"))
  g_Table : mg "Table" = some (.ref (He.ga K "Table"))
  o_Table : Own K (He.ga K "Table")
  mk_Table : Mk K (He.ga K "Table") (He.ma K (He.ga K "Table") "__init__")
  n_Table_image : NoAttr K (He.ga K "Table") "image"
  m_Table_len : Meth K (He.ga K "Table") "__len__" (He.ma K (He.ga K "Table") "__len__")
  m_Table_call : Meth K (He.ga K "Table") "__call__" (He.ma K (He.ga K "Table") "__call__")
  m_Table_mul : Meth K (He.ga K "Table") "__mul__" (He.ma K (He.ga K "Table") "__mul__")
  m_Table_invert : Meth K (He.ga K "Table") "__invert__" (He.ma K (He.ga K "Table") "__invert__")
  m_Table_power : Meth K (He.ga K "Table") "power" (He.ma K (He.ga K "Table") "power")
  m_Table_eq : Meth K (He.ga K "Table") "__eq__" (He.ma K (He.ga K "Table") "__eq__")
  m_Table_order : Meth K (He.ga K "Table") "order" (He.ma K (He.ga K "Table") "order")
  s_Table_neutral : StaF K (He.ga K "Table") "neutral" (He5.wf K (He.ga K "Table") "staticmethod" "neutral")
  x_OtherSize : Err K (He.ga K "OtherSize")
  nx_OtherSize_size : PySem.W.findIn K (.ref (He.ga K "OtherSize")) "size" = some none
  xi_OtherSize : PySem.W.findIn K (.ref (He.ga K "OtherSize")) "__init__" = some (some (.ref (He.ma K (He.ga K "OtherSize") "__init__")))
  xt_OtherSize : PySem.W.typeIn K (.ref (He.ma K (He.ga K "OtherSize") "__init__")) = some (.type "function")
  x_NoMeaning : Err K (He.ga K "NoMeaning")
  nx_NoMeaning_name : PySem.W.findIn K (.ref (He.ga K "NoMeaning")) "name" = some none
  xi_NoMeaning : PySem.W.findIn K (.ref (He.ga K "NoMeaning")) "__init__" = some (some (.ref (He.ma K (He.ga K "NoMeaning") "__init__")))
  xt_NoMeaning : PySem.W.typeIn K (.ref (He.ma K (He.ga K "NoMeaning") "__init__")) = some (.type "function")
  ki_OtherSize_TriedError : PySem.W.kitOne K (.ref (He.ga K "OtherSize")) (.ref (He.ga K "TriedError")) = some true
  ki_NoMeaning_TriedError : PySem.W.kitOne K (.ref (He.ga K "NoMeaning")) (.ref (He.ga K "TriedError")) = some true
  xm_OtherSize_OtherSize : PySem.W.exmOne K (.ref (He.ga K "OtherSize")) (.ref (He.ga K "OtherSize")) = some true
  xm_NoMeaning_OtherSize : PySem.W.exmOne K (.ref (He.ga K "NoMeaning")) (.ref (He.ga K "OtherSize")) = some false
  xm_NoMeaning_NoMeaning : PySem.W.exmOne K (.ref (He.ga K "NoMeaning")) (.ref (He.ga K "NoMeaning")) = some true
  g_check_size : mg "check_size" = some (.ref (He.ga K "check_size"))
  g_result : mg "result" = some (.ref (He.ga K "result"))
  g__law_start : mg "_law_start" = some (.ref (He.ga K "_law_start"))
  g__law_draw : mg "_law_draw" = some (.ref (He.ga K "_law_draw"))
  g__law_name : mg "_law_name" = some (.ref (He.ga K "_law_name"))
  g__law_names : mg "_law_names" = some (.ref (He.ga K "_law_names"))
  g__law_image : mg "_law_image" = some (.ref (He.ga K "_law_image"))
  g__law_row : mg "_law_row" = some (.ref (He.ga K "_law_row"))
  g__law_walked : mg "_law_walked" = some (.ref (He.ga K "_law_walked"))
  g__law_told : mg "_law_told" = some (.ref (He.ga K "_law_told"))
  g__law_refused : mg "_law_refused" = some (.ref (He.ga K "_law_refused"))
  g_law : mg "law" = some (.ref (He.ga K "law"))
  i_Table : PySem.W.kitOne K (.ref (He.ga K "Table")) (.ref (He.ga K "Table")) = some true
  it_Table : PySem.W.kitOne K (.type "tuple") (.ref (He.ga K "Table")) = some false
  nf_Table : PySem.W.notFirst K (He.ga K "Table") (.ref (He.ga K "Table")) = true
  fic_Table : PySem.W.fnIn K (He.ma K (He.ga K "Table") "__call__") = true
  nft_Table : PySem.W.notFirst K (He.ga K "Table") (.type "tuple") = true
def facts : List (PySem.W.Frag → Bool) := [
  fun K => (He.Fa.free "list").ok K,
  fun K => (He.Fa.free "range").ok K,
  fun K => (He.Fa.free "tuple").ok K,
  fun K => (He.Fa.free "dict").ok K,
  fun K => (He.Fa.free "len").ok K,
  fun K => (He.Fa.free "enumerate").ok K,
  fun K => (He.Fa.free "isinstance").ok K,
  fun K => (He.Fa.free "int").ok K,
  fun K => (He.Fa.int "MOST_POINTS" 3300).ok K,
  fun K => (He.Fa.glo "TriedError").ok K,
  fun K => (He.Fa.glo "BadTable").ok K,
  fun K => (He.Fa.glo "OtherSize").ok K,
  fun K => (He.Fa.glo "NoPoint").ok K,
  fun K => (He.Fa.glo "NoMeaning").ok K,
  fun K => (He.Fa.glo "TooGreat").ok K,
  fun K => (He.Fa.glo "Table").ok K,
  fun K => ownB K (He.ga K "Table"),
  fun K => (He.Fa.mkr "Table").ok K,
  fun K => (He.Fa.noat "Table" "image").ok K,
  fun K => (He.Fa.meth "Table" "__len__").ok K,
  fun K => (He.Fa.meth "Table" "__call__").ok K,
  fun K => (He.Fa.meth "Table" "__mul__").ok K,
  fun K => (He.Fa.meth "Table" "__invert__").ok K,
  fun K => (He.Fa.meth "Table" "power").ok K,
  fun K => (He.Fa.meth "Table" "__eq__").ok K,
  fun K => (He.Fa.meth "Table" "order").ok K,
  fun K => staB K (He.ga K "Table") "neutral",
  fun K => errB K (He.ga K "OtherSize"),
  fun K => He.eqO (PySem.W.findIn K (.ref (He.ga K "OtherSize")) "size") (some none),
  fun K => He.eqO (PySem.W.findIn K (.ref (He.ga K "OtherSize")) "__init__") (some (some (.ref (He.ma K (He.ga K "OtherSize") "__init__")))),
  fun K => PySem.W.typeIn K (.ref (He.ma K (He.ga K "OtherSize") "__init__")) == some (.type "function"),
  fun K => errB K (He.ga K "NoMeaning"),
  fun K => He.eqO (PySem.W.findIn K (.ref (He.ga K "NoMeaning")) "name") (some none),
  fun K => He.eqO (PySem.W.findIn K (.ref (He.ga K "NoMeaning")) "__init__") (some (some (.ref (He.ma K (He.ga K "NoMeaning") "__init__")))),
  fun K => PySem.W.typeIn K (.ref (He.ma K (He.ga K "NoMeaning") "__init__")) == some (.type "function"),
  fun K => decide (PySem.W.kitOne K (.ref (He.ga K "OtherSize")) (.ref (He.ga K "TriedError")) = some true),
  fun K => decide (PySem.W.kitOne K (.ref (He.ga K "NoMeaning")) (.ref (He.ga K "TriedError")) = some true),
  fun K => decide (PySem.W.exmOne K (.ref (He.ga K "OtherSize")) (.ref (He.ga K "OtherSize")) = some true),
  fun K => decide (PySem.W.exmOne K (.ref (He.ga K "NoMeaning")) (.ref (He.ga K "OtherSize")) = some false),
  fun K => decide (PySem.W.exmOne K (.ref (He.ga K "NoMeaning")) (.ref (He.ga K "NoMeaning")) = some true),
  fun K => (He.Fa.glo "check_size").ok K,
  fun K => (He.Fa.glo "result").ok K,
  fun K => (He.Fa.glo "_law_start").ok K,
  fun K => (He.Fa.glo "_law_draw").ok K,
  fun K => (He.Fa.glo "_law_name").ok K,
  fun K => (He.Fa.glo "_law_names").ok K,
  fun K => (He.Fa.glo "_law_image").ok K,
  fun K => (He.Fa.glo "_law_row").ok K,
  fun K => (He.Fa.glo "_law_walked").ok K,
  fun K => (He.Fa.glo "_law_told").ok K,
  fun K => (He.Fa.glo "_law_refused").ok K,
  fun K => (He.Fa.glo "law").ok K,
  fun K => decide (PySem.W.kitOne K (.ref (He.ga K "Table")) (.ref (He.ga K "Table")) = some true),
  fun K => decide (PySem.W.kitOne K (.type "tuple") (.ref (He.ga K "Table")) = some false),
  fun K => PySem.W.notFirst K (He.ga K "Table") (.ref (He.ga K "Table")),
  fun K => PySem.W.fnIn K (He.ma K (He.ga K "Table") "__call__"),
  fun K => PySem.W.notFirst K (He.ga K "Table") (.type "tuple")]
def fbs (K : PySem.W.Frag) : Bool := facts.all fun f => f K
structure FbsOk (K : PySem.W.Frag) : Prop where
  ok : fbs K = true
theorem FbsOk.fact {K : PySem.W.Frag} (c : FbsOk K) (i : Nat) {f : PySem.W.Frag → Bool} (h : facts[i]? = some f := by rfl) : f K = true := List.all_eq_true.mp c.ok f (List.mem_of_getElem? h)
theorem txt_of {K : PySem.W.Frag} {h : Heap} {mg : Str → Option Value} (X : K.In h) (G : h.Ns mainGlobals mg) (c : FbsOk K) : Txt K mg where
    b_list := He.free_ok X G (c.fact 0)
    b_range := He.free_ok X G (c.fact 1)
    b_tuple := He.free_ok X G (c.fact 2)
    b_dict := He.free_ok X G (c.fact 3)
    b_len := He.free_ok X G (c.fact 4)
    b_enumerate := He.free_ok X G (c.fact 5)
    b_isinstance := He.free_ok X G (c.fact 6)
    b_int := He.free_ok X G (c.fact 7)
    k_MOST_POINTS := (let ⟨t, h⟩ := He.int_ok X G (c.fact 8); ⟨_, h, ⟨t, rfl⟩⟩)
    g_TriedError := He.glo_ok X G (c.fact 9)
    g_BadTable := He.glo_ok X G (c.fact 10)
    g_OtherSize := He.glo_ok X G (c.fact 11)
    g_NoPoint := He.glo_ok X G (c.fact 12)
    g_NoMeaning := He.glo_ok X G (c.fact 13)
    g_TooGreat := He.glo_ok X G (c.fact 14)
    g_Table := He.glo_ok X G (c.fact 15)
    o_Table := ownB_ok (c.fact 16)
    mk_Table := He.mkr_ok (c.fact 17)
    n_Table_image := He.noat_ok (c.fact 18)
    m_Table_len := He.meth_ok (c.fact 19)
    m_Table_call := He.meth_ok (c.fact 20)
    m_Table_mul := He.meth_ok (c.fact 21)
    m_Table_invert := He.meth_ok (c.fact 22)
    m_Table_power := He.meth_ok (c.fact 23)
    m_Table_eq := He.meth_ok (c.fact 24)
    m_Table_order := He.meth_ok (c.fact 25)
    s_Table_neutral := staB_ok (c.fact 26)
    x_OtherSize := errB_ok (c.fact 27)
    nx_OtherSize_size := He.eqO_ok (c.fact 28)
    xi_OtherSize := He.eqO_ok (c.fact 29)
    xt_OtherSize := eq_of_beq (c.fact 30)
    x_NoMeaning := errB_ok (c.fact 31)
    nx_NoMeaning_name := He.eqO_ok (c.fact 32)
    xi_NoMeaning := He.eqO_ok (c.fact 33)
    xt_NoMeaning := eq_of_beq (c.fact 34)
    ki_OtherSize_TriedError := of_decide_eq_true (c.fact 35)
    ki_NoMeaning_TriedError := of_decide_eq_true (c.fact 36)
    xm_OtherSize_OtherSize := of_decide_eq_true (c.fact 37)
    xm_NoMeaning_OtherSize := of_decide_eq_true (c.fact 38)
    xm_NoMeaning_NoMeaning := of_decide_eq_true (c.fact 39)
    g_check_size := He.glo_ok X G (c.fact 40)
    g_result := He.glo_ok X G (c.fact 41)
    g__law_start := He.glo_ok X G (c.fact 42)
    g__law_draw := He.glo_ok X G (c.fact 43)
    g__law_name := He.glo_ok X G (c.fact 44)
    g__law_names := He.glo_ok X G (c.fact 45)
    g__law_image := He.glo_ok X G (c.fact 46)
    g__law_row := He.glo_ok X G (c.fact 47)
    g__law_walked := He.glo_ok X G (c.fact 48)
    g__law_told := He.glo_ok X G (c.fact 49)
    g__law_refused := He.glo_ok X G (c.fact 50)
    g_law := He.glo_ok X G (c.fact 51)
    i_Table := of_decide_eq_true (c.fact 52)
    it_Table := of_decide_eq_true (c.fact 53)
    nf_Table := (c.fact 54)
    fic_Table := (c.fact 55)
    nft_Table := (c.fact 56)
theorem sc_OtherSize_init : FnScope ["self", "size"] ["self", "size"] (defScope s_OtherSize_init) := ⟨rfl, rfl, rfl, by decide +kernel, rfl, by decide +kernel, by decide +kernel⟩
theorem ok_OtherSize {P : Program} {w : World} {K : PySem.W.Frag} {mg : Str → Option Value} {base : Heap} {f : Addr} {fd : FuncData} (F : FX K "__init__" "OtherSize.__init__" s_OtherSize_init [] [] f fd) (T : Txt K mg) : FnOk P w K mg base (L2.CX P w) 1 f fd ["self", "size"] (spI1 (He.ga K "OtherSize") "size") := by
  refine F.ok sc_OtherSize_init (fun vs H Q E h => ?_) (fun cdv A outer s H vs Q E hr h => ?_)
  · obtain ⟨a, v, rfl, _⟩ := h
    rfl
  · obtain ⟨a, v, rfl, ha, k⟩ := h
    refine ⟨_, PSs.nox (pss_one (ps_ost (pv 0) (pv 1))), ?_⟩
    exact ⟨_, rfl, _, rfl, a, He.ga K "OtherSize", rfl, T.x_OtherSize.ox, T.nx_OtherSize_size, .inl ⟨ha, k⟩⟩
theorem sc_NoMeaning_init : FnScope ["self", "name"] ["self", "name"] (defScope s_NoMeaning_init) := ⟨rfl, rfl, rfl, by decide +kernel, rfl, by decide +kernel, by decide +kernel⟩
theorem ok_NoMeaning {P : Program} {w : World} {K : PySem.W.Frag} {mg : Str → Option Value} {base : Heap} {f : Addr} {fd : FuncData} (F : FX K "__init__" "NoMeaning.__init__" s_NoMeaning_init [] [] f fd) (T : Txt K mg) : FnOk P w K mg base (L2.CX P w) 1 f fd ["self", "name"] (spI1 (He.ga K "NoMeaning") "name") := by
  refine F.ok sc_NoMeaning_init (fun vs H Q E h => ?_) (fun cdv A outer s H vs Q E hr h => ?_)
  · obtain ⟨a, v, rfl, _⟩ := h
    rfl
  · obtain ⟨a, v, rfl, ha, k⟩ := h
    refine ⟨_, PSs.nox (pss_one (ps_ost (pv 0) (pv 1))), ?_⟩
    exact ⟨_, rfl, _, rfl, a, He.ga K "NoMeaning", rfl, T.x_NoMeaning.ox, T.nx_NoMeaning_name, .inl ⟨ha, k⟩⟩

/-! ### the pen: what the law draws from -/
structure Pen (H : Hp) (p sc : Addr) (n : Nat) : Prop where
  ex : ∃ (ns : List Int) (a c k : Int), H p = some (.lst [.ref sc, .int a, .int c, .int k]) ∧ H sc = some (.lst (ns.map V.int)) ∧ sc ≠ p ∧ 0 ≤ a ∧ 0 ≤ k ∧ k + (n : Int) ≤ 1000000000
theorem Pen.le {H : Hp} {p sc : Addr} {n m : Nat} (h : Pen H p sc n) (l : m ≤ n) : Pen H p sc m := by
  obtain ⟨ns, a, c, k, h1, h2, h3, h4, h5, h6⟩ := h.ex
  exact ⟨ns, a, c, k, h1, h2, h3, h4, h5, by omega⟩
/-- the pen stands where both its lists stand -/
theorem Pen.mv {H H1 : Hp} {p sc : Addr} {n : Nat} (h : Pen H p sc n) (s : ∀ a o, a = p ∨ a = sc → H a = some o → H1 a = some o) : Pen H1 p sc n := by
  obtain ⟨ns, a, c, k, h1, h2, h3⟩ := h.ex
  exact ⟨ns, a, c, k, s _ _ (.inl rfl) h1, s _ _ (.inr rfl) h2, h3⟩
theorem Pen.same {H H1 : Hp} {p sc : Addr} {n : Nat} (h : Pen H p sc n) (s : Same H H1) : Pen H1 p sc n := h.mv fun a o _ e => s a o e
/-- .. where one other list has changed -/
theorem Pen.but {H H1 : Hp} {p sc q : Addr} {n : Nat} (h : Pen H p sc n) (s : But q H H1) (n1 : p ≠ q) (n2 : sc ≠ q) : Pen H1 p sc n := h.mv fun a o e => s a o (by rcases e with rfl | rfl <;> assumption)
theorem Pen.at_ {H : Hp} {p sc : Addr} {n : Nat} (h : Pen H p sc n) : (∃ xs, H p = some (.lst xs)) ∧ ∃ ys, H sc = some (.lst ys) := by
  obtain ⟨ns, a, c, k, h1, h2, _⟩ := h.ex
  exact ⟨⟨_, h1⟩, _, h2⟩
theorem Pen.ne {H : Hp} {p sc q : Addr} {n : Nat} (h : Pen H p sc n) (hq : H q = none) : p ≠ q ∧ sc ≠ q := by
  obtain ⟨⟨_, h1⟩, _, h2⟩ := h.at_
  exact ⟨ne_of_none h1 hq, ne_of_none h2 hq⟩
theorem Pen.free {H H1 : Hp} {p sc q : Addr} {n : Nat} (h : Pen H1 p sc n) (b : But p H H1) (hq : H1 q = none) : H q = none := by
  cases e : H q with
  | none => rfl
  | some o =>
    have := b q o (Ne.symm (h.ne hq).1) e
    rw [hq] at this
    cases this
def spStart (K : PySem.W.Frag) : Sp := fun vs H Q _ => ∃ (a : Addr) (ns : List Int), vs = [.ref a] ∧ SqL K H a (ns.map V.int) ∧
  ∀ p sc H', H p = none → H sc = none → Same H H' → Pen H' p sc 1000000000 → Q (.ref p) H'
def spDraw : Sp := fun vs H Q _ => ∃ (p sc : Addr) (m : Int) (n : Nat), vs = [.ref p, .int m] ∧ Pen H p sc (n + 1) ∧ 0 < m ∧ m < 1073741824 ∧
  ∀ (r : Int) H', 0 ≤ r → r < m → But p H H' → Pen H' p sc n → Q (.int r) H'
section
variable {P : Program} {w : World} {K : PySem.W.Frag} {mg : Str → Option Value} {base : Heap}
theorem sc__law_draw : FnScope ["_law_state", "_law_many", "_law_drawn", "_law_seed", "_law_mixed"] ["_law_state", "_law_many"] (defScope s__law_draw) := ⟨rfl, rfl, rfl, by decide +kernel, rfl, by decide +kernel, by decide +kernel⟩
theorem ok_draw {f : Addr} {fd : FuncData} (F : FX K "_law_draw" "_law_draw" s__law_draw [] [] f fd) (T : Txt K mg) : FnOk P w K mg base (L2.CX P w) 2 f fd ["_law_state", "_law_many"] spDraw := by
  refine F.ok sc__law_draw (fun vs H Q E h => ?_) (fun cdv A outer s H vs Q E hr h => ?_)
  · obtain ⟨p, sc, m, n, rfl, _⟩ := h
    rfl
  · obtain ⟨p, sc, m, n, rfl, hp, m0, m1, k⟩ := h
    refine ⟨_, PSs.nox ((pss_cons (ps_if (pt_cmpR op_ge (pe_ix (k_ix (K := K) rfl) (pv 0) pe_int (fun _ _ => rfl)) (pe_op op_pow pe_int pe_int) (nomark _)) (pss_cons (ps_set (i := 2) sc__law_draw.nd rfl (Or.inl rfl) (pe_op op_mod (pe_callTy call_int1U (by rfl) T.b_int (by decide +kernel) (pa_cons (pe_ix (k_ix (K := K) rfl) (pv 0) pe_int (fun _ _ => rfl)) pa_nil)) (pv 1))) 
      (pss_cons (ps_asg (pe_op op_fdiv (pe_ix (k_ix (K := K) rfl) (pv 0) pe_int (fun _ _ => rfl)) (pv 1)) (pg_sub (pv 0) pe_int set_list)) (pss_one (ps_ret (pv 2))))) pss_nil) 
      (pss_cons (ps_asg (pe_op (k_add (K := K) rfl) (pe_ix (k_ix (K := K) rfl) (pv 0) pe_int (fun _ _ => rfl)) pe_int) (pg_sub (pv 0) pe_int set_list)) 
      (pss_cons (ps_set (i := 3) sc__law_draw.nd rfl (Or.inl rfl) (pe_op (k_add (K := K) rfl) (pe_op (k_add (K := K) rfl) (pe_op op_mod (pe_callTy call_int1U (by rfl) T.b_int (by decide +kernel) (pa_cons (pe_ix (k_ix (K := K) rfl) (pv 0) pe_int (fun _ _ => rfl)) pa_nil)) pe_int) (pe_op (k_mul (K := K) rfl) pe_int (pe_ix (k_ix (K := K) rfl) (pv 0) pe_int (fun _ _ => rfl)))) pe_int)) 
      (pss_cons (ps_set (i := 4) sc__law_draw.nd rfl (Or.inl rfl) (pe_op op_mod (pe_op op_pow (pv 3) pe_int) pe_int)) 
      (pss_cons (ps_if (pt_cmpR op_lt (pe_ix (k_ix (K := K) rfl) (pv 0) pe_int (fun _ _ => rfl)) (pe_callB (k_len (K := K) rfl) (by rfl) T.b_len PySem.boot_len (pa_cons (pe_ix (k_ix (K := K) rfl) (pv 0) pe_int (fun _ _ => rfl)) pa_nil)) (nomark _)) (pss_cons (ps_asg (pe_ix (k_ix (K := K) rfl) (pe_ix (k_ix (K := K) rfl) (pv 0) pe_int (fun _ _ => rfl)) (pe_ix (k_ix (K := K) rfl) (pv 0) pe_int (fun _ _ => rfl)) (fun _ _ => rfl)) (pg_sub (pv 0) pe_int set_list)) (pss_one (ps_asg (pe_op (k_add (K := K) rfl) (pe_ix (k_ix (K := K) rfl) (pv 0) pe_int (fun _ _ => rfl)) pe_int) (pg_sub (pv 0) pe_int set_list)))) pss_nil) (pss_one (ps_ret (pe_op op_mod (pe_op op_fdiv (pe_callTy call_int1U (by rfl) T.b_int (by decide +kernel) (pa_cons (pv 4) pa_nil)) pe_int) (pv 1)))))))))), ?_⟩
    try dsimp only [cxOf]
    obtain ⟨ns, a, c, n2, h1, h2, hne, a0, k0, k1⟩ := hp.ex
    walk_at "go"
    refine a_ite (fun hc => ?_) (fun hc => ?_)
    · walk_at "go"
      refine a_setB h1 rfl fun H2 b1 g1 => ?_
      walk_at "go"
      exact k _ _ (Int.emod_nonneg _ (by omega)) (Int.emod_lt_of_pos _ m0) b1 ⟨ns, a, _, n2, g1, b1 _ _ hne h2, hne, a0, k0, by omega⟩
    · walk_at "go"
      refine a_setB h1 rfl fun H2 b1 g1 => ?_
      replace h2 := b1 _ _ hne h2
      walk_at "go"
      refine a_ite (fun hl => ?_) (fun hl => ?_)
      · rw [List.length_map] at hl
        obtain ⟨j, rfl⟩ : ∃ j : Nat, a = (j : Int) := ⟨a.toNat, by omega⟩
        have hj : j < ns.length := by omega
        walk_at "go"
        refine a_ixL (SqL.of h2) (atI_of (j := j) (z := V.int ns[j]) rfl (by rw [List.getElem?_map, List.getElem?_eq_getElem hj]; rfl)) ?_
        walk_at "go"
        refine a_setB g1 rfl fun H3 b2 g2 => ?_
        replace h2 := b2 _ _ hne h2
        walk_at "go"
        refine a_setB g2 rfl fun H4 b3 g3 => ?_
        replace h2 := b3 _ _ hne h2
        walk_at "go"
        exact k _ _ (Int.emod_nonneg _ (by omega)) (Int.emod_lt_of_pos _ m0) ((b1.trans b2).trans b3) ⟨ns, _, _, _, g3, h2, hne, by omega, by omega, by omega⟩
      · walk_at "go"
        exact k _ _ (Int.emod_nonneg _ (by omega)) (Int.emod_lt_of_pos _ m0) b1 ⟨ns, _, _, _, g1, h2, hne, a0, by omega, by omega⟩
theorem sc__law_start : FnScope ["_law_script", "_law_first"] ["_law_script"] (defScope s__law_start) := ⟨rfl, rfl, rfl, by decide +kernel, rfl, by decide +kernel, by decide +kernel⟩
theorem ok_start {f : Addr} {fd : FuncData} (F : FX K "_law_start" "_law_start" s__law_start [] [] f fd) (T : Txt K mg) : FnOk P w K mg base (L2.CX P w) 2 f fd ["_law_script"] (spStart K) := by
  refine F.ok sc__law_start (fun vs H Q E h => ?_) (fun cdv A outer s H vs Q E hr h => ?_)
  · obtain ⟨a, ns, rfl, _⟩ := h
    rfl
  · obtain ⟨a, ns, rfl, hs, k⟩ := h
    refine ⟨_, PSs.nox ((pss_cons (ps_set (i := 1) sc__law_start.nd rfl (Or.inl rfl) pe_int) 
      (pss_cons (ps_if (pt_cmpR op_gt (pe_callB (k_len (K := K) rfl) (by rfl) T.b_len PySem.boot_len (pa_cons (pv 0) pa_nil)) pe_int (nomark _)) (pss_one (ps_set (i := 1) sc__law_start.nd rfl (Or.inl rfl) (pe_ix (k_ix (K := K) rfl) (pv 0) pe_int (fun _ _ => rfl)))) pss_nil) (pss_one (ps_ret (pe_lst (pa_cons (pe_callTy (k_list (K := K) rfl) (by rfl) T.b_list (by decide +kernel) (pa_cons (pv 0) pa_nil)) (pa_cons pe_int (pa_cons (pv 1) (pa_cons pe_int pa_nil)))))))))), ?_⟩
    try dsimp only [cxOf]
    have fin : ∀ c : Int, tRet (tLst (tCons (tCB (rListU K) (tCons (tVar 0) tNil)) (tCons (tC (.int 1)) (tCons (tVar 1) (tCons (tC (.int 0)) tNil))))) { nx := fun _ H' => Q .non H', rt := Q } [some (.ref a), some (.int c)] H := fun c => by
      walk_at "go"
      refine a_list (.inl hs) fun l H2 n2 s2 h2 => ?_
      walk_at "go"
      refine a_newL (by show 4 ≤ 100000; decide) fun p H3 n3 s3 h3 => ?_
      exact k p l H3 (s2.free n3) n2 (s2.trans s3) ⟨ns, 1, c, 0, h3, s3 _ _ h2, ne_of_none h2 n3, by omega, by omega, by omega⟩
    walk_at "go"
    refine a_lenL hs ?_
    walk_at "go"
    refine a_ite (fun hl => ?_) (fun hl => ?_)
    · have hj : 0 < ns.length := by
        rw [List.length_map] at hl
        omega
      walk_at "go"
      refine a_ixL hs (atI_of (j := 0) (z := V.int ns[0]) rfl (by rw [List.getElem?_map, List.getElem?_eq_getElem hj]; rfl)) ?_
      exact fin _
    · exact fin _
end

/-! ### tables -/
def TabAt (K : PySem.W.Frag) (H : Hp) (p : Addr) (a : List Nat) : Prop := ∃ dx t, H p = some (.ins (He.ga K "Table") dx [("image", .ref t)]) ∧ SqT K H t (vi a)
theorem TabAt.same {K : PySem.W.Frag} {H H1 : Hp} {p : Addr} {a : List Nat} (h : TabAt K H p a) (s : Same H H1) : TabAt K H1 p a := by
  obtain ⟨dx, t, h1, h2⟩ := h
  exact ⟨dx, t, s _ _ h1, same_t s h2⟩
theorem img_look (v : V) : ([(("image" : Str), v)] : List (Str × V)).lookup ("image" : Str) = some v := by simp [List.lookup]
def spCheck : Sp := fun vs H Q _ => ∃ n : Int, vs = [.int n] ∧ n ≤ 3300 ∧ Q .non H
def spTInit (K : PySem.W.Frag) : Sp := fun vs H Q _ => ∃ (p x dx : Addr) (a : List Nat), vs = [.ref p, .ref x] ∧ H p = some (.ins (He.ga K "Table") dx []) ∧ Seq K H x (vi a) ∧ OkImg a ∧ a.length ≤ 3300 ∧
  ∀ H', But p H H' → TabAt K H' p a → Q .non H'
def spTLen (K : PySem.W.Frag) : Sp := fun vs H Q _ => ∃ (p : Addr) (a : List Nat), vs = [.ref p] ∧ TabAt K H p a ∧ Q (.int (a.length : Nat)) H
def spTCall (K : PySem.W.Frag) : Sp := fun vs H Q _ => ∃ (p : Addr) (a : List Nat) (i : Nat) (hi : i < a.length), vs = [.ref p, .int (i : Nat)] ∧ TabAt K H p a ∧ Q (.int (a[i] : Nat)) H
def spTMul (K : PySem.W.Frag) : Sp := fun vs H Q _ => ∃ (p q : Addr) (a b : List Nat), vs = [.ref p, .ref q] ∧ TabAt K H p a ∧ TabAt K H q b ∧ OkImg a ∧ OkImg b ∧ a.length = b.length ∧ a.length ≤ 3300 ∧
  ∀ r H', H r = none → Same H H' → TabAt K H' r (comp a b) → Q (.ref r) H'
def spTInv (K : PySem.W.Frag) : Sp := fun vs H Q _ => ∃ (p : Addr) (a : List Nat), vs = [.ref p] ∧ TabAt K H p a ∧ OkImg a ∧ a.length ≤ 3300 ∧ ∀ r H', H r = none → Same H H' → TabAt K H' r (inv a) → Q (.ref r) H'
def spTEq (K : PySem.W.Frag) : Sp := fun vs H Q _ => ∃ (p q : Addr) (a : List Nat), vs = [.ref p, .ref q] ∧ TabAt K H p a ∧ ((∃ b, TabAt K H q b ∧ Q (.bl (decide (a = b))) H) ∨ ((∃ xs, SqT K H q xs) ∧ Q (.bl false) H))
def spTNeu (K : PySem.W.Frag) : Sp := fun vs H Q _ => ∃ (n : Nat), vs = [.int (n : Nat)] ∧ n ≤ 3300 ∧ ∀ r H', H r = none → Same H H' → TabAt K H' r (List.range n) → Q (.ref r) H'
/-- Table(x) where it is made -/
theorem a_mkT {K : PySem.W.Frag} {H : Hp} {x : Addr} {a : List Nat} {Q : VK} {E : XK} (h : Seq K H x (vi a)) (ok : OkImg a) (hl : a.length ≤ 3300) (q : ∀ r H', H r = none → Same H H' → TabAt K H' r a → Q (.ref r) H') :
    rMk (He.ga K "Table") (spTInit K) E [.ref x] H Q := by
  intro r dx hr hd ne
  have s1 : Same H (upd (upd H dx (.own r)) r (.ins (He.ga K "Table") dx [])) := same_mut (same_new hd) hr
  exact ⟨r, x, dx, a, rfl, upd_same, h.same s1, ok, hl, fun H' b ht => ⟨rfl, q r H' hr (fun c o e => b c o (ne_of_none e hr) (s1 c o e)) ht⟩⟩
theorem a_mulT {K : PySem.W.Frag} {H : Hp} {o1 o2 : Addr} {a b : List Nat} {Q : VK} {E : XK} (h1 : TabAt K H o1 a) (h2 : TabAt K H o2 b) (oa : OkImg a) (ob : OkImg b) (e : a.length = b.length) (hl : a.length ≤ 3300) (q : ∀ r H', H r = none → Same H H' → TabAt K H' r (comp a b) → Q (.ref r) H') :
    rOwnB (He.ga K "Table") (spTMul K) E (.ref o1) (.ref o2) H Q := by
  obtain ⟨dx, t, g1, g2⟩ := id h1
  obtain ⟨dy, u, g3, g4⟩ := id h2
  exact ⟨o1, dx, _, o2, dy, _, rfl, rfl, g1, g3, o1, o2, a, b, rfl, h1, h2, oa, ob, e, hl, q⟩
theorem a_invT {K : PySem.W.Frag} {H : Hp} {o1 : Addr} {a : List Nat} {Q : VK} {E : XK} (h1 : TabAt K H o1 a) (oa : OkImg a) (hl : a.length ≤ 3300) (q : ∀ r H', H r = none → Same H H' → TabAt K H' r (inv a) → Q (.ref r) H') :
    rOwnU (He.ga K "Table") (spTInv K) E (.ref o1) H Q := by
  obtain ⟨dx, t, g1, g2⟩ := id h1
  exact ⟨o1, dx, _, rfl, g1, o1, a, rfl, h1, oa, hl, q⟩
theorem a_eqT {K : PySem.W.Frag} {mg : Str → Option Value} {H : Hp} {o1 o2 : Addr} {a b : List Nat} {Q : VK} {E : XK} (T : Txt K mg) (h1 : TabAt K H o1 a) (h2 : TabAt K H o2 b) (q : Q (.bl (decide (a = b))) H) :
    rOwnC K (He.ga K "Table") (spTEq K) E (.ref o1) (.ref o2) H Q := by
  obtain ⟨dx, t, g1, g2⟩ := id h1
  obtain ⟨dy, u, g3, g4⟩ := id h2
  exact ⟨o1, dx, _, _, rfl, g1, T.o_Table.ty g3, T.nf_Table, o1, o2, a, rfl, h1, .inl ⟨b, h2, q⟩⟩
theorem a_eqTt {K : PySem.W.Frag} {mg : Str → Option Value} {H : Hp} {o1 o2 : Addr} {a : List Nat} {xs : List V} {Q : VK} {E : XK} (T : Txt K mg) (h1 : TabAt K H o1 a) (h2 : SqT K H o2 xs) (q : Q (.bl false) H) :
    rOwnC K (He.ga K "Table") (spTEq K) E (.ref o1) (.ref o2) H Q := by
  obtain ⟨dx, t, g1, g2⟩ := id h1
  exact ⟨o1, dx, _, _, rfl, g1, ty_t h2, T.nft_Table, o1, o2, a, rfl, h1, .inr ⟨⟨xs, h2⟩, q⟩⟩
/-- the list of what was seen -/
def seenV (a : List Nat) (i n : Nat) : List V := (List.range n).map fun j => V.bl (decide (j ∈ a.take i))
theorem seenV_len (a : List Nat) (i n : Nat) : (seenV a i n).length = n := by unfold seenV; rw [List.length_map, List.length_range]
theorem seenV_at (a : List Nat) (i n j : Nat) (h : j < n) : (seenV a i n)[j]? = some (.bl (decide (j ∈ a.take i))) := by
  unfold seenV
  rw [List.getElem?_map, List.getElem?_range h]
  rfl
theorem seenV_set (a : List Nat) (i n : Nat) (hi : i < a.length) : (seenV a i n).set a[i] (.bl true) = seenV a (i + 1) n := by
  refine List.ext_getElem (by rw [List.length_set, seenV_len, seenV_len]) fun j h1 h2 => ?_
  rw [seenV_len] at h2
  rw [List.getElem_set]
  simp only [seenV, List.getElem_map, List.getElem_range]
  have e2 := List.take_append_getElem hi
  by_cases e : a[i] = j
  · subst e
    rw [if_pos rfl, decide_eq_true]
    rw [← e2]
    exact List.mem_append_right _ (List.mem_singleton.mpr rfl)
  · rw [if_neg e]
    congr 1
    rw [decide_eq_decide, ← e2, List.mem_append, List.mem_singleton]
    exact ⟨.inl, fun h => h.elim id fun h => absurd h.symm e⟩
theorem not_seen {a : List Nat} (nd : a.Nodup) {i : Nat} (hi : i < a.length) : ¬ a[i] ∈ a.take i := fun h => by
  obtain ⟨j, hj, e⟩ := List.getElem_of_mem h
  rw [List.length_take] at hj
  rw [List.getElem_take] at e
  have := nd_inj nd (by omega) hi e
  omega
/-- the list that __invert__ fills -/
def backV (a : List Nat) (i : Nat) : List V := (List.range a.length).map fun j => V.int ((if j ∈ a.take i then a.idxOf j else 0 : Nat) : Int)
theorem backV_len (a : List Nat) (i : Nat) : (backV a i).length = a.length := by unfold backV; rw [List.length_map, List.length_range]
theorem backV_0 (a : List Nat) : (List.range a.length).map (fun _ => V.int 0) = backV a 0 := by
  unfold backV
  simp
theorem backV_n {a : List Nat} (h : OkImg a) : backV a a.length = vi (inv a) := by
  refine List.ext_getElem (by rw [backV_len, vi_len, inv_len]) fun j h1 h2 => ?_
  rw [backV_len] at h1
  have := h.has h1
  simp [backV, vi, inv, this]
theorem backV_set {a : List Nat} (nd : a.Nodup) {i : Nat} (hi : i < a.length) : (backV a i).set a[i] (.int (i : Nat)) = backV a (i + 1) := by
  refine List.ext_getElem (by rw [List.length_set, backV_len, backV_len]) fun j h1 h2 => ?_
  rw [backV_len] at h2
  rw [List.getElem_set]
  simp only [backV, List.getElem_map, List.getElem_range]
  have e2 := List.take_append_getElem hi
  by_cases e : a[i] = j
  · subst e
    rw [if_pos rfl, if_pos (by rw [← e2]; exact List.mem_append_right _ (List.mem_singleton.mpr rfl)), idx_uniq nd hi rfl]
  · rw [if_neg e]
    have : (j ∈ a.take (i + 1)) ↔ (j ∈ a.take i) := by
      rw [← e2, List.mem_append, List.mem_singleton]
      exact ⟨fun h => h.elim id fun h => absurd h.symm e, .inl⟩
    simp only [this]
theorem ixN_of {n j : Nat} (h : j < n) : ixN n (j : Int) = some j := by
  unfold ixN
  rw [if_pos (by omega), if_pos (by omega)]
  rfl
section
variable {P : Program} {w : World} {K : PySem.W.Frag} {mg : Str → Option Value} {base : Heap} {f : Addr} {fd : FuncData}
theorem sc_check_size : FnScope ["size"] ["size"] (defScope s_check_size) := ⟨rfl, rfl, rfl, by decide +kernel, rfl, by decide +kernel, by decide +kernel⟩
theorem ok_check (F : FX K "check_size" "check_size" s_check_size [] [] f fd) (T : Txt K mg) : FnOk P w K mg base (L2.CX P w) 1 f fd ["size"] spCheck := by
  refine F.ok sc_check_size (fun vs H Q E h => ?_) (fun cdv A outer s H vs Q E hr h => ?_)
  · obtain ⟨n, rfl, _⟩ := h
    rfl
  · obtain ⟨n, rfl, hn, k⟩ := h
    refine ⟨_, PSs.nox ((pss_one (ps_if (pt_cmpR op_gt (pv 0) (pe_gv rfl T.k_MOST_POINTS) (nomark _)) (pss_one ps_never) pss_nil))), ?_⟩
    try dsimp only [cxOf]
    walk_at "go"
    exact a_no (by omega) k
theorem sc_Table_init : FnScope ["self", "image", "seen", "point"] ["self", "image"] (defScope s_Table_init) := ⟨rfl, rfl, rfl, by decide +kernel, rfl, by decide +kernel, by decide +kernel⟩
theorem ok_Tinit (F : FX K "__init__" "Table.__init__" s_Table_init [] [] f fd) (T : Txt K mg) (c_check_size : Cal P w K mg base "check_size" 1 spCheck) : FnOk P w K mg base (L2.CX P w) 3 f fd ["self", "image"] (spTInit K) := by
  refine F.ok sc_Table_init (fun vs H Q E h => ?_) (fun cdv A outer s H vs Q E hr h => ?_)
  · obtain ⟨p, x, dx, a, rfl, _⟩ := h
    rfl
  · obtain ⟨p, x, dx, a, rfl, hp, hx, ok, hl, k⟩ := h
    refine ⟨_, PSs.nox ((pss_cons (ps_expr (pe_f c_check_size hr (by decide) rfl passL (pa_cons (pe_callB (k_len (K := K) rfl) (by rfl) T.b_len PySem.boot_len (pa_cons (pv 1) pa_nil)) pa_nil))) 
      (pss_cons (k_put (K := K) rfl (pv 0) (pe_callTy (k_tuple (K := K) rfl) (by rfl) T.b_tuple (by decide +kernel) (pa_cons (pv 1) pa_nil))) 
      (pss_cons (ps_setLc (i := 2) (own := [("point", 3)]) rfl sc_Table_init.nd rfl rfl (sw_true rfl rfl rfl (by decide +kernel)) (k_iT (K := K) rfl (k_fld (K := K) rfl (pv 0))) (blkOk_by (own := [("point", 3)]) (N := ["self", "image", "seen", "point"]) (sc := defScope s_Table_init) (by decide +kernel)) (fun _ _ _ _ _ => by exact (pg_name (i := 3) sc_Table_init.nd rfl (Or.inl rfl))) (fun _ _ _ _ _ => by exact pts_nil) (fun _ _ _ _ _ => by exact pe_bl)) (pss_one (ps_for PassesOwn.never rfl (k_iT (K := K) rfl (k_fld (K := K) rfl (pv 0))) (pg_name (i := 3) sc_Table_init.nd rfl (Or.inl rfl)) (pss_cons (ps_if (PW.pt (pw_or (pt_not (pt_chain op_le op_lt pe_int (pv 3) (pe_callB (k_len (K := K) rfl) (by rfl) T.b_len PySem.boot_len (pa_cons (pv 2) pa_nil)))) (pw_or1 (k_tr (K := K) rfl (pe_ix (k_ix (K := K) rfl) (pv 2) (pv 3) (fun _ _ => rfl)))))) (pss_one ps_never) pss_nil) (pss_one (ps_asg pe_bl (pg_sub (pv 2) (pv 3) set_list)))))))))), ?_⟩
    try dsimp only [cxOf]
    walk_at "go"
    refine a_lenS hx ?_
    walk_at "go"
    rw [vi_len]
    refine ⟨_, rfl, by omega, ?_⟩
    walk_at "go"
    refine a_tup hx fun t H1 s1 ht => ?_
    walk_at "go"
    refine a_put (s1 _ _ hp) T.o_Table.cl T.n_Table_image (by show 0 < 1000; decide) fun H2 b1 hp2 => ?_
    have b2 : But p H H2 := (But.of s1).trans b1
    have ht2 : SqT K H2 t (vi a) := by
      rcases ht with (h | ⟨o, h⟩) | h
      · exact .inl (.inl (b1 _ _ (ne_of h (s1 _ _ hp) (by intro z; cases z)) h))
      · exact .inl (.inr ⟨o, b1 _ _ (ne_of h (s1 _ _ hp) (by intro z; cases z)) h⟩)
      · exact .inr h
    walk_at "go"
    refine c_t (xs := vi a) (fun _ => V.bl false) (by rw [vi_len]; omega) ?_ ?_ ?_
    · intro R r
      walk_at "go"
      exact a_fld (hp2) T.o_Table.cl T.n_Table_image (img_look _) (r _ _ (Same.refl _) ht2)
    · intro i z H' hz s' R r
      exact r H' (Same.refl _)
    intro D H3 hD s3 hD3
    have e0 : (List.range (vi a).length).map (fun _ => V.bl false) = seenV a 0 a.length := by
      unfold seenV
      rw [vi_len]
      simp
    rw [e0] at hD3
    walk_at "go"
    refine a_fld (s3 _ _ hp2) T.o_Table.cl T.n_Table_image (img_look _) ⟨t, rfl, ⟨_, same_t s3 ht2⟩, ?_⟩
    refine for_tup (K := K) (a := t) (xs := vi a) (fun i σ H' => ∃ v : Option V, σ = [some (.ref p), some (.ref x), some (.ref D), v] ∧ Same H2 H' ∧ H' D = some (.lst (seenV a i a.length)))
      ⟨none, rfl, s3, hD3⟩ (fun i σ H' _ ⟨_, _, s', _⟩ => same_t s' ht2) ?_ ?_
    · rintro i y σ H' hy ⟨v, rfl, s', hD'⟩
      obtain ⟨hi, rfl⟩ := vi_get hy
      have hlt : a[i] < a.length := ok.lt _ (List.getElem_mem hi)
      show tIfS _ _ _ _ _ _
      walk_at "go"
      refine a_yes (by omega) ?_
      walk_at "go"
      rw [seenV_len]
      walk_at "go"
      refine a_nyes (by omega) ?_
      walk_at "go"
      refine a_ixL (SqL.of hD') (atI_of rfl (seenV_at a i a.length a[i] hlt)) ?_
      refine a_truB ?_
      refine a_no (not_seen ok.nd hi) ?_
      walk_at "go"
      refine a_setB hD' (by rw [seenV_len]; exact ixN_of hlt) fun H4 b4 h4 => ?_
      refine ⟨_, rfl, fun c o e => b4 c o (ne_of_none e hD) (s' c o e), ?_⟩
      rw [h4, seenV_set a i a.length hi]
    · rintro σ H' ⟨v, rfl, s', hD'⟩
      exact k H' (b2.trans (But.of s')) ⟨dx, t, s' _ _ hp2, same_t s' ht2⟩
theorem sc_Table_len : FnScope ["self"] ["self"] (defScope s_Table_len) := ⟨rfl, rfl, rfl, by decide +kernel, rfl, by decide +kernel, by decide +kernel⟩
theorem ok_Tlen (F : FX K "__len__" "Table.__len__" s_Table_len [] [] f fd) (T : Txt K mg) : FnOk P w K mg base (L2.CX P w) 1 f fd ["self"] (spTLen K) := by
  refine F.ok sc_Table_len (fun vs H Q E h => ?_) (fun cdv A outer s H vs Q E hr h => ?_)
  · obtain ⟨p, a, rfl, _⟩ := h
    rfl
  · obtain ⟨p, a, rfl, ⟨dx, t, h1, h2⟩, k⟩ := h
    refine ⟨_, PSs.nox ((pss_one (ps_ret (pe_callB (k_len (K := K) rfl) (by rfl) T.b_len PySem.boot_len (pa_cons (k_fld (K := K) rfl (pv 0)) pa_nil))))), ?_⟩
    try dsimp only [cxOf]
    walk_at "go"
    refine a_fld (h1) T.o_Table.cl T.n_Table_image (img_look _) ?_
    walk_at "go"
    refine a_lenT h2 ?_
    rw [vi_len]
    exact k
theorem sc_Table_call : FnScope ["self", "point"] ["self", "point"] (defScope s_Table_call) := ⟨rfl, rfl, rfl, by decide +kernel, rfl, by decide +kernel, by decide +kernel⟩
theorem ok_Tcall (F : FX K "__call__" "Table.__call__" s_Table_call [] [] f fd) (T : Txt K mg) : FnOk P w K mg base (L2.CX P w) 1 f fd ["self", "point"] (spTCall K) := by
  refine F.ok sc_Table_call (fun vs H Q E h => ?_) (fun cdv A outer s H vs Q E hr h => ?_)
  · obtain ⟨p, a, i, hi, rfl, _⟩ := h
    rfl
  · obtain ⟨p, a, i, hi, rfl, ⟨dx, t, h1, h2⟩, k⟩ := h
    refine ⟨_, PSs.nox ((pss_cons (ps_if (pt_not (pt_chain op_le op_lt pe_int (pv 1) (pe_callB (k_len (K := K) rfl) (by rfl) T.b_len PySem.boot_len (pa_cons (k_fld (K := K) rfl (pv 0)) pa_nil)))) (pss_one ps_never) pss_nil) (pss_one (ps_ret (pe_ix (k_ix (K := K) rfl) (k_fld (K := K) rfl (pv 0)) (pv 1) (fun _ _ => rfl)))))), ?_⟩
    try dsimp only [cxOf]
    walk_at "go"
    refine a_yes (by omega) ?_
    walk_at "go"
    refine a_fld (h1) T.o_Table.cl T.n_Table_image (img_look _) ?_
    walk_at "go"
    refine a_lenT h2 ?_
    rw [vi_len]
    walk_at "go"
    refine a_nyes (by omega) ?_
    walk_at "go"
    refine a_fld (h1) T.o_Table.cl T.n_Table_image (img_look _) ?_
    walk_at "go"
    exact a_ixT h2 (atI_of rfl (vi_at hi)) k
theorem sc_Table_mul : FnScope ["self", "other", "point"] ["self", "other"] (defScope s_Table_mul) := ⟨rfl, rfl, rfl, by decide +kernel, rfl, by decide +kernel, by decide +kernel⟩
theorem ok_Tmul (F : FX K "__mul__" "Table.__mul__" s_Table_mul [] [] f fd) (T : Txt K mg) (c_Table_init : Mak P w K mg base "Table" (He.ga K "Table") 3 (spTInit K)) : FnOk P w K mg base (L2.CX P w) 6 f fd ["self", "other"] (spTMul K) := by
  refine F.ok sc_Table_mul (fun vs H Q E h => ?_) (fun cdv A outer s H vs Q E hr h => ?_)
  · obtain ⟨p, q, a, b, rfl, _⟩ := h
    rfl
  · obtain ⟨p, q, a, b, rfl, ⟨dx, t, h1, h2⟩, ⟨dy, u, g1, g2⟩, oa, ob, e, hl, k⟩ := h
    refine ⟨_, PSs.nox ((pss_cons (ps_if (pt_cmpR (k_ne (K := K) rfl hr.units) (pe_callB (k_len (K := K) rfl) (by rfl) T.b_len PySem.boot_len (pa_cons (k_fld (K := K) rfl (pv 1)) pa_nil)) (pe_callB (k_len (K := K) rfl) (by rfl) T.b_len PySem.boot_len (pa_cons (k_fld (K := K) rfl (pv 0)) pa_nil)) (nomark _)) (pss_one ps_never) pss_nil) (pss_one (ps_ret (pe_k c_Table_init hr (by decide) rfl passL (pa_cons (by exact (pe_lc (own := [("point", 2)]) rfl sc_Table_mul.nd (k_iT (K := K) rfl (k_fld (K := K) rfl (pv 0))) (blkOk_by (own := [("point", 2)]) (N := ["self", "other", "point"]) (sc := defScope s_Table_mul) (by decide +kernel)) (fun _ _ _ _ _ => by exact (pg_name (i := 2) sc_Table_mul.nd rfl (Or.inl rfl))) (fun _ _ _ _ _ => by exact pts_nil) (fun _ _ _ _ _ => by exact (pe_ix (k_ix (K := K) rfl) (k_fld (K := K) rfl (pv 1)) (pv 2) (fun _ _ => rfl))))) pa_nil)))))), ?_⟩
    try dsimp only [cxOf]
    walk_at "go"
    refine a_fld (g1) T.o_Table.cl T.n_Table_image (img_look _) ?_
    walk_at "go"
    refine a_lenT g2 ?_
    walk_at "go"
    refine a_fld (h1) T.o_Table.cl T.n_Table_image (img_look _) ?_
    walk_at "go"
    refine a_lenT h2 ?_
    rw [vi_len, vi_len]
    walk_at "go"
    refine a_nyes (by rw [e]) ?_
    walk_at "go"
    refine c_t (xs := vi a) (fun i => V.int ((b.getD (a.getD i 0) 0 : Nat) : Int)) (by rw [vi_len]; omega) ?_ ?_ ?_
    · intro R r
      walk_at "go"
      exact a_fld (h1) T.o_Table.cl T.n_Table_image (img_look _) (r _ _ (Same.refl _) h2)
    · intro i z H' hz s' R r
      obtain ⟨hi, rfl⟩ := vi_get hz
      have hb : a[i] < b.length := e ▸ oa.lt _ (List.getElem_mem hi)
      walk_at "go"
      refine a_fld (s' _ _ g1) T.o_Table.cl T.n_Table_image (img_look _) ?_
      walk_at "go"
      refine a_ixT (same_t s' g2) (atI_of rfl (vi_at hb)) ?_
      have e1 : b.getD (a.getD i 0) 0 = b[a[i]] := by rw [getD_lt hi, getD_lt hb]
      have r1 := r H' (Same.refl _)
      rw [e1] at r1
      exact r1
    intro D H3 hD s3 hD3
    have e2 : (List.range (vi a).length).map (fun i => V.int ((b.getD (a.getD i 0) 0 : Nat) : Int)) = vi (comp a b) := by
      rw [vi_len]
      refine List.ext_getElem (by rw [List.length_map, List.length_range, vi_len, comp_len]) fun i p1 p2 => ?_
      rw [List.length_map, List.length_range] at p1
      simp [vi, comp, p1]
    rw [e2] at hD3
    walk_at "go"
    exact a_mkT (.inl (SqL.of hD3)) (oa.comp ob e) (by rw [comp_len]; exact hl) fun r H' hr s' ht => k r H' (s3.free hr) (s3.trans s') ht
theorem sc_Table_invert : FnScope ["self", "back", "point", "goal"] ["self"] (defScope s_Table_invert) := ⟨rfl, rfl, rfl, by decide +kernel, rfl, by decide +kernel, by decide +kernel⟩
theorem ok_Tinv (F : FX K "__invert__" "Table.__invert__" s_Table_invert [] [] f fd) (T : Txt K mg) (c_Table_init : Mak P w K mg base "Table" (He.ga K "Table") 3 (spTInit K)) : FnOk P w K mg base (L2.CX P w) 6 f fd ["self"] (spTInv K) := by
  refine F.ok sc_Table_invert (fun vs H Q E h => ?_) (fun cdv A outer s H vs Q E hr h => ?_)
  · obtain ⟨p, a, rfl, _⟩ := h
    rfl
  · obtain ⟨p, a, rfl, ⟨dx, t, h1, h2⟩, oa, hl, k⟩ := h
    refine ⟨_, PSs.nox ((pss_cons (ps_setLc (i := 1) (own := [("point", 2)]) rfl sc_Table_invert.nd rfl rfl (sw_true rfl rfl rfl (by decide +kernel)) (k_iT (K := K) rfl (k_fld (K := K) rfl (pv 0))) (blkOk_by (own := [("point", 2)]) (N := ["self", "back", "point", "goal"]) (sc := defScope s_Table_invert) (by decide +kernel)) (fun _ _ _ _ _ => by exact (pg_name (i := 2) sc_Table_invert.nd rfl (Or.inl rfl))) (fun _ _ _ _ _ => by exact pts_nil) (fun _ _ _ _ _ => by exact pe_int)) 
      (pss_cons (ps_for PassesOwn.never rfl (k_iEt (K := K) rfl (by rfl) T.b_enumerate (pa_cons (k_fld (K := K) rfl (pv 0)) pa_nil)) (k_gtup (K := K) (n := 2) rfl (by rfl) (pgs_cons (pg_name (i := 2) sc_Table_invert.nd rfl (Or.inl rfl)) (pgs_cons (pg_name (i := 3) sc_Table_invert.nd rfl (Or.inl rfl)) pgs_nil))) (pss_one (ps_asg (pv 2) (pg_sub (pv 1) (pv 3) set_list)))) (pss_one (ps_ret (pe_k c_Table_init hr (by decide) rfl passL (pa_cons (pv 1) pa_nil))))))), ?_⟩
    try dsimp only [cxOf]
    walk_at "go"
    refine c_t (xs := vi a) (fun _ => V.int 0) (by rw [vi_len]; omega) ?_ ?_ ?_
    · intro R r
      walk_at "go"
      exact a_fld (h1) T.o_Table.cl T.n_Table_image (img_look _) (r _ _ (Same.refl _) h2)
    · intro i z H' hz s' R r
      exact r H' (Same.refl _)
    intro D H3 hD s3 hD3
    walk_at "go"
    refine a_fld (s3 _ _ h1) T.o_Table.cl T.n_Table_image (img_look _) ?_
    walk_at "go"
    refine ⟨t, vi a, rfl, same_t s3 h2, for_it walk_et (fun i σ H' => ∃ v w : Option V, σ = [some (.ref p), some (.ref D), v, w] ∧ Same H H' ∧ H' D = some (.lst (backV a i)))
      ⟨none, none, rfl, s3, by rw [hD3, vi_len, backV_0]⟩ (fun i σ H' _ ⟨_, _, _, s', _⟩ => same_t s' h2) ?_ ?_⟩
    · rintro i x σ H' H4 hi ⟨v, w', rfl, s', hD'⟩ ⟨q, y, z, rfl, nq, rfl, ey, ez⟩
      obtain ⟨hi, rfl⟩ := vi_get ez
      cases Option.some.inj ey
      have hlt : a[i] < a.length := oa.lt _ (List.getElem_mem hi)
      have s4 : Same H' (upd H' q (.tup [.int (i : Nat), .int (a[i] : Nat)])) := same_new nq
      refine ⟨q, _, rfl, SqT.of upd_same, rfl, _, _, rfl, _, _, rfl, rfl, ?_⟩
      walk_at "go"
      refine a_setB (s4 _ _ hD') (by rw [backV_len]; exact ixN_of hlt) fun H5 b5 h5 => ?_
      refine ⟨_, _, rfl, fun c o e => b5 c o (ne_of_none e hD) (s4 c o (s' c o e)), ?_⟩
      rw [h5, backV_set oa.nd hi]
    · rintro σ H' ⟨v, w', rfl, s', hD'⟩
      rw [vi_len, backV_n oa] at hD'
      walk_at "go"
      exact a_mkT (.inl (SqL.of hD')) oa.inv (by rw [inv_len]; exact hl) fun r H5 hr s5 ht => k r H5 (s'.free hr) (s'.trans s5) ht
theorem sc_Table_eq : FnScope ["self", "other"] ["self", "other"] (defScope s_Table_eq) := ⟨rfl, rfl, rfl, by decide +kernel, rfl, by decide +kernel, by decide +kernel⟩
theorem ok_Teq (F : FX K "__eq__" "Table.__eq__" s_Table_eq [] [] f fd) (T : Txt K mg) : FnOk P w K mg base (L2.CX P w) 2 f fd ["self", "other"] (spTEq K) := by
  refine F.ok sc_Table_eq (fun vs H Q E h => ?_) (fun cdv A outer s H vs Q E hr h => ?_)
  · obtain ⟨p, q, a, rfl, _⟩ := h
    rfl
  · obtain ⟨p, q, a, rfl, ⟨dx, t, h1, h2⟩, k⟩ := h
    refine ⟨_, PSs.nox ((pss_one (ps_ret (pe_and (pe_callB (k_isi (K := K) rfl) (by rfl) T.b_isinstance (by decide +kernel) (pa_cons (pv 1) (pa_cons (pe_gv (v := .ref (He.ga K "Table")) rfl ⟨_, T.g_Table, rfl⟩) pa_nil))) (pe_one (pe_cmpR (k_eq (K := K) rfl hr.units) (k_fld (K := K) rfl (pv 0)) (k_fld (K := K) rfl (pv 1)) (nomark _))))))), ?_⟩
    try dsimp only [cxOf]
    walk_at "go"
    rcases k with ⟨b, ⟨dy, u, g1, g2⟩, k⟩ | ⟨⟨xs, g⟩, k⟩
    · refine a_isi (.own _) (T.o_Table.ty g1) T.i_Table ?_
      refine ⟨true, rfl, ?_⟩
      refine a_T rfl ?_
      walk_at "go"
      refine a_fld (h1) T.o_Table.cl T.n_Table_image (img_look _) ?_
      walk_at "go"
      refine a_fld (g1) T.o_Table.cl T.n_Table_image (img_look _) ?_
      refine a_eqD (.tup h2 (dp_vi a)) (.tup g2 (dp_vi b)) (sh_t a) (sh_t b) ?_
      rw [eqv_tt]
      exact k
    · refine a_isi (.own _) (ty_t g) T.it_Table ?_
      refine ⟨false, rfl, ?_⟩
      exact a_F rfl k
theorem sc_Table_neutral : FnScope ["size"] ["size"] (defScope s_Table_neutral) := ⟨rfl, rfl, rfl, by decide +kernel, rfl, by decide +kernel, by decide +kernel⟩
theorem ok_Tneu (F : FX K "neutral" "Table.neutral" s_Table_neutral [] [] f fd) (T : Txt K mg) (c_check_size : Cal P w K mg base "check_size" 1 spCheck) (c_Table_init : Mak P w K mg base "Table" (He.ga K "Table") 3 (spTInit K)) : FnOk P w K mg base (L2.CX P w) 6 f fd ["size"] (spTNeu K) := by
  refine F.ok sc_Table_neutral (fun vs H Q E h => ?_) (fun cdv A outer s H vs Q E hr h => ?_)
  · obtain ⟨n, rfl, _⟩ := h
    rfl
  · obtain ⟨n, rfl, hn, k⟩ := h
    refine ⟨_, PSs.nox ((pss_cons (ps_expr (pe_f c_check_size hr (by decide) rfl passL (pa_cons (pv 0) pa_nil))) (pss_one (ps_ret (pe_k c_Table_init hr (by decide) rfl passL (pa_cons (pe_listRg rfl rfl T.b_list (prg_1 rfl T.b_range (pv 0))) pa_nil)))))), ?_⟩
    try dsimp only [cxOf]
    walk_at "go"
    refine ⟨_, rfl, by omega, ?_⟩
    walk_at "go"
    refine a_lrg (n := (n : Int)) (by omega) (by omega) fun l H2 hl s2 h2 => ?_
    rw [Int.toNat_natCast] at h2
    walk_at "go"
    exact a_mkT (a := List.range n) (.inl (SqL.of h2)) (OkImg.range n) (by rw [List.length_range]; exact hn) fun r H' hr s' ht => k r H' (s2.free hr) (s2.trans s') ht
end

/-! ### the law's own images -/
def spImage : Sp := fun vs H Q _ => ∃ (p sc : Addr) (n m : Nat), vs = [.ref p, .int (n : Nat)] ∧ Pen H p sc (n + m) ∧ n ≤ 60 ∧
  ∀ r a H', H r = none → But p H H' → Pen H' p sc m → H' r = some (.lst (vi a)) → OkImg a → a.length = n → Q (.ref r) H'
theorem vi_app (a : List Nat) (x : Nat) : vi a ++ [V.int (x : Nat)] = vi (a ++ [x]) := by unfold vi; rw [List.map_append]; rfl
theorem map_erase {α β : Type} (g : α → β) : ∀ (l : List α) (k : Nat), (l.map g).eraseIdx k = (l.eraseIdx k).map g
  | [], _ => rfl
  | x :: l, 0 => rfl
  | x :: l, k + 1 => by
    show g x :: (l.map g).eraseIdx k = g x :: (l.eraseIdx k).map g
    rw [map_erase g l k]
theorem perm_erase : ∀ {l : List Nat} {k : Nat} (h : k < l.length), ([l[k]] ++ l.eraseIdx k).Perm l
  | x :: l, 0, _ => List.Perm.refl _
  | x :: l, k + 1, h => by
    have h' : k < l.length := Nat.lt_of_succ_lt_succ h
    show (l[k] :: x :: l.eraseIdx k).Perm (x :: l)
    exact (List.Perm.swap x l[k] _).trans (List.Perm.cons x (perm_erase h'))
theorem vi_erase (a : List Nat) (k : Nat) : (vi a).eraseIdx k = vi (a.eraseIdx k) := map_erase _ a k
theorem perm_pop {acc pool : List Nat} {n k : Nat} (h : (acc ++ pool).Perm (List.range n)) (hk : k < pool.length) : ((acc ++ [pool[k]]) ++ pool.eraseIdx k).Perm (List.range n) := by
  refine List.Perm.trans ?_ h
  rw [List.append_assoc]
  exact List.Perm.append_left acc (perm_erase hk)
theorem ok_perm {a : List Nat} {n : Nat} (h : a.Perm (List.range n)) : OkImg a := by
  have hl : a.length = n := by rw [h.length_eq, List.length_range]
  exact ⟨h.nodup_iff.mpr List.nodup_range, fun x hx => by rw [hl]; exact List.mem_range.mp (h.mem_iff.mp hx)⟩
section
variable {P : Program} {w : World} {K : PySem.W.Frag} {mg : Str → Option Value} {base : Heap} {f : Addr} {fd : FuncData}
theorem sc__law_image : FnScope ["_law_pen", "_law_size", "_law_pool", "_law_k"] ["_law_pen", "_law_size"] (defScope s__law_image) := ⟨rfl, rfl, rfl, by decide +kernel, rfl, by decide +kernel, by decide +kernel⟩
theorem ok_image (F : FX K "_law_image" "_law_image" s__law_image [] [] f fd) (T : Txt K mg) (c__law_draw : Cal P w K mg base "_law_draw" 2 spDraw) : FnOk P w K mg base (L2.CX P w) 4 f fd ["_law_pen", "_law_size"] spImage := by
  refine F.ok sc__law_image (fun vs H Q E h => ?_) (fun cdv A outer s H vs Q E hr h => ?_)
  · obtain ⟨p, sc, n, m, rfl, _⟩ := h
    rfl
  · obtain ⟨p, sc, n, m, rfl, hp, hn, k⟩ := h
    refine ⟨_, PSs.nox ((pss_cons (ps_set (i := 2) sc__law_image.nd rfl (Or.inr rfl) (pe_listRg rfl rfl T.b_list (prg_1 rfl T.b_range (pv 1)))) (pss_one (ps_ret (by exact (pe_lc (own := [("_law_k", 3)]) rfl sc__law_image.nd (pi_range1 (by rfl) T.b_range (pa_cons (pv 1) pa_nil)) (blkOk_by (own := [("_law_k", 3)]) (N := ["_law_pen", "_law_size", "_law_pool", "_law_k"]) (sc := defScope s__law_image) (by decide +kernel)) (fun _ _ _ _ _ => by exact (pg_name (i := 3) sc__law_image.nd rfl (Or.inl rfl))) (fun _ _ _ _ _ => by exact pts_nil) (fun _ _ _ _ _ => by exact (k_bm (K := K) rfl PySem.F.plainAttrs_list PySem.F.slot_list_pop PySem.F.type_list_pop mt_popAt (pv 2) (pa_cons (pe_f c__law_draw hr (by decide) rfl passL (pa_cons (pv 0) (pa_cons (pe_op op_sub (pv 1) (pv 3)) pa_nil))) pa_nil))))))))), ?_⟩
    try dsimp only [cxOf]
    walk_at "go"
    refine a_lrg (n := (n : Int)) (by omega) (by omega) fun L H1 hL s1 h1 => ?_
    rw [Int.toNat_natCast] at h1
    have hp1 := hp.same s1
    have nL := hp.ne hL
    walk_at "go"
    refine g_lcT ?_
    walk_at "go"
    refine ⟨(n : Int), rfl, by omega, by omega, fun D hD => ?_⟩
    have nD := hp1.ne hD
    have hDL : D ≠ L := Ne.symm (ne_of_none h1 hD)
    refine lc_it walk_range (fun i H' => ∃ acc pool : List Nat, But p H H' ∧ Pen H' p sc (n - i + m) ∧ H' L = some (.lst (vi pool)) ∧ H' D = some (.lst (vi acc)) ∧ (acc ++ pool).Perm (List.range n) ∧ acc.length = i)
      ⟨[], List.range n, (But.of (s1.trans (same_new hD))), (hp1.same (same_new hD)), by rw [upd_ne (Ne.symm hDL)]; exact h1, upd_same, List.Perm.refl _, rfl⟩ (fun _ _ _ _ => True.intro) ?_ ?_
    · rintro i x H' H2 hi ⟨acc, pool, b', hp', hL', hD', pm, el⟩ ⟨rfl, rfl⟩
      have plen : acc.length + pool.length = n := by
        have := pm.length_eq
        rw [List.length_append, List.length_range] at this
        exact this
      refine ⟨rfl, ?_⟩
      refine g_yes (a_T rfl ?_)
      walk_at "go"
      refine a_ty hL' ?_
      walk_at "go"
      refine ⟨p, sc, _, n - (i + 1) + m, rfl, hp'.le (by omega), by omega, by omega, fun r H3 r0 r1 b3 hp3 => ?_⟩
      walk_at "go"
      obtain ⟨kk, rfl⟩ : ∃ kk : Nat, r = (kk : Int) := ⟨r.toNat, by omega⟩
      have hk : kk < pool.length := by omega
      refine a_pop (k := kk) (b3 _ _ (Ne.symm nL.1) hL') rfl (vi_at hk) (by rw [vi_len]; omega) fun H4 b4 h4 => ?_
      have hD4 := b4 _ _ hDL (b3 _ _ (Ne.symm nD.1) hD')
      refine ⟨_, hD4, by rw [vi_len]; exact szl (by omega), acc ++ [pool[kk]], pool.eraseIdx kk, ?_, ?_, ?_, ?_, perm_pop pm hk, by rw [List.length_append, el]; rfl⟩
      · intro c o nc e
        rw [upd_ne (ne_of_none (s1 c o e) hD)]
        exact b4 c o (ne_of_none e hL) (b3 c o nc (b' c o nc e))
      · exact (hp3.but b4 nL.1 nL.2).but But.upd nD.1 nD.2
      · rw [upd_ne (Ne.symm hDL), h4, vi_erase]
      · rw [upd_same, vi_app]
    · rintro H' ⟨acc, pool, b', hp', hL', hD', pm, el⟩
      have plen : acc.length + pool.length = n := by
        have := pm.length_eq
        rw [List.length_append, List.length_range] at this
        exact this
      have : pool = [] := List.eq_nil_of_length_eq_zero (by rw [Int.toNat_natCast] at el; omega)
      subst this
      rw [List.append_nil] at pm
      rw [Int.toNat_natCast] at el hp'
      refine k D acc H' (s1.free hD) b' (hp'.le (by omega)) hD' (ok_perm pm) el
end

/-! ### the law's own names -/
def nameS (n : Nat) : Str := if n < 26 then ⟨#[97 + n]⟩ else if n < 702 then ⟨#[97 + (n / 26 - 1), 97 + n % 26]⟩ else ⟨#[97 + (n - 702) / 676, 97 + (n - 702) / 26 % 26, 97 + (n - 702) % 26]⟩
theorem nameS_inj {m n : Nat} (hm : m < 18278) (hn : n < 18278) (e : nameS m = nameS n) : m = n := by
  unfold nameS at e
  have e1 : ∀ {a b : Str}, a = b → a.cps.toList = b.cps.toList := fun h => by rw [h]
  by_cases a1 : m < 26
  · by_cases b1 : n < 26
    · rw [if_pos a1, if_pos b1] at e
      have := e1 e
      simp at this
      exact this
    · by_cases b2 : n < 702
      · rw [if_pos a1, if_neg b1, if_pos b2] at e
        have := e1 e
        simp at this
      · rw [if_pos a1, if_neg b1, if_neg b2] at e
        have := e1 e
        simp at this
  · by_cases a2 : m < 702
    · by_cases b1 : n < 26
      · rw [if_neg a1, if_pos a2, if_pos b1] at e
        have := e1 e
        simp at this
      · by_cases b2 : n < 702
        · rw [if_neg a1, if_pos a2, if_neg b1, if_pos b2] at e
          have := e1 e
          simp at this
          omega
        · rw [if_neg a1, if_pos a2, if_neg b1, if_neg b2] at e
          have := e1 e
          simp at this
    · by_cases b1 : n < 26
      · rw [if_neg a1, if_neg a2, if_pos b1] at e
        have := e1 e
        simp at this
      · by_cases b2 : n < 702
        · rw [if_neg a1, if_neg a2, if_neg b1, if_pos b2] at e
          have := e1 e
          simp at this
        · rw [if_neg a1, if_neg a2, if_neg b1, if_neg b2] at e
          have := e1 e
          simp at this
          omega
theorem nameS_ok {n : Nat} (h : n < 18278) : PyData.strOk (nameS n) = true := by
  unfold nameS PyData.strOk
  split
  · simp; omega
  · split
    · simp; omega
    · simp; omega
theorem letters_at : ∀ k, k < 26 → ("abcdefghijklmnopqrstuvwxyz" : Str).cps.toList[k]? = some (97 + k) := by decide +kernel
theorem letters_len : ("abcdefghijklmnopqrstuvwxyz" : Str).length = 26 := by decide +kernel
theorem letters_llen : ("abcdefghijklmnopqrstuvwxyz" : Str).cps.toList.length = 26 := by decide +kernel
theorem a_letter {K : PySem.W.Frag} {H : Hp} {Q : VK} {i : Int} {k : Nat} (e : i = (k : Int)) (hk : k < 26) (q : Q (.str ⟨#[97 + k]⟩) H) : rIx K (.str "abcdefghijklmnopqrstuvwxyz") (.int i) H Q :=
  .inr (.inr ⟨_, i, 97 + k, rfl, rfl, by rw [letters_len]; decide, atI_of e (letters_at k hk), q⟩)
def spName : Sp := fun vs H Q _ => ∃ n : Nat, vs = [.int (n : Nat)] ∧ n < 18278 ∧ Q (.str (nameS n)) H
def spNames : Sp := fun vs H Q _ => ∃ (p sc : Addr) (m n : Nat), vs = [.ref p, .int (m : Nat)] ∧ Pen H p sc (n + 2) ∧ m ≤ 26 ∧
  ∀ r (ns : List Str) H', H r = none → But p H H' → Pen H' p sc n → H' r = some (.lst (ns.map V.str)) → ns.length = m → ns.Nodup → (∀ x ∈ ns, PyData.strOk x = true) → Q (.ref r) H'
section
variable {P : Program} {w : World} {K : PySem.W.Frag} {mg : Str → Option Value} {base : Heap} {f : Addr} {fd : FuncData}
theorem sc__law_name : FnScope ["_law_number", "_law_letters", "_law_rest"] ["_law_number"] (defScope s__law_name) := ⟨rfl, rfl, rfl, by decide +kernel, rfl, by decide +kernel, by decide +kernel⟩
theorem ok_name (F : FX K "_law_name" "_law_name" s__law_name [] [] f fd) (T : Txt K mg) : FnOk P w K mg base (L2.CX P w) 1 f fd ["_law_number"] spName := by
  refine F.ok sc__law_name (fun vs H Q E h => ?_) (fun cdv A outer s H vs Q E hr h => ?_)
  · obtain ⟨n, rfl, _⟩ := h
    rfl
  · obtain ⟨n, rfl, hn, k⟩ := h
    refine ⟨_, PSs.nox ((pss_cons (ps_set (i := 1) sc__law_name.nd rfl (Or.inl rfl) pe_str) 
      (pss_cons (ps_if (pt_cmpR op_lt (pv 0) pe_int (nomark _)) (pss_one (ps_ret (pe_ix (k_ix (K := K) rfl) (pv 1) (pv 0) (fun _ _ => rfl)))) pss_nil) 
      (pss_cons (ps_if (pt_cmpR op_lt (pv 0) pe_int (nomark _)) (pss_one (ps_ret (pe_op op_add_str (pe_ix (k_ix (K := K) rfl) (pv 1) (pe_op op_sub (pe_op op_fdiv (pv 0) pe_int) pe_int) (fun _ _ => rfl)) (pe_ix (k_ix (K := K) rfl) (pv 1) (pe_op op_mod (pv 0) pe_int) (fun _ _ => rfl))))) pss_nil) 
      (pss_cons (ps_set (i := 2) sc__law_name.nd rfl (Or.inl rfl) (pe_op op_sub (pv 0) pe_int)) (pss_one (ps_ret (pe_op op_add_str (pe_op op_add_str (pe_ix (k_ix (K := K) rfl) (pv 1) (pe_op op_fdiv (pv 2) pe_int) (fun _ _ => rfl)) (pe_ix (k_ix (K := K) rfl) (pv 1) (pe_op op_mod (pe_op op_fdiv (pv 2) pe_int) pe_int) (fun _ _ => rfl))) (pe_ix (k_ix (K := K) rfl) (pv 1) (pe_op op_mod (pv 2) pe_int) (fun _ _ => rfl)))))))))), ?_⟩
    try dsimp only [cxOf]
    walk_at "go"
    refine a_ite (fun c1 => ?_) (fun c1 => ?_)
    · walk_at "go"
      refine a_letter (k := n) rfl (by omega) ?_
      have := k
      unfold nameS at this
      rw [if_pos (by omega)] at this
      exact this
    · walk_at "go"
      refine a_ite (fun c2 => ?_) (fun c2 => ?_)
      · walk_at "go"
        refine a_letter (k := n / 26 - 1) (by omega) (by omega) ?_
        walk_at "go"
        refine a_letter (k := n % 26) (by omega) (by omega) ?_
        refine ⟨_, _, rfl, rfl, (by show _ ≤ 16777216; first | (show 1 + 1 ≤ _; omega) | (show 2 + 1 ≤ _; omega)), ?_⟩
        have := k
        unfold nameS at this
        rw [if_neg (by omega), if_pos (by omega)] at this
        exact this
      · walk_at "go"
        refine a_letter (k := (n - 702) / 676) (by omega) (by omega) ?_
        walk_at "go"
        refine a_letter (k := (n - 702) / 26 % 26) (by omega) (by omega) ?_
        refine ⟨_, _, rfl, rfl, (by show _ ≤ 16777216; show 1 + 1 ≤ _; omega), ?_⟩
        walk_at "go"
        refine a_letter (k := (n - 702) % 26) (by omega) (by omega) ?_
        refine ⟨_, _, rfl, rfl, (by show _ ≤ 16777216; first | (show 1 + 1 ≤ _; omega) | (show 2 + 1 ≤ _; omega)), ?_⟩
        have := k
        unfold nameS at this
        rw [if_neg (by omega), if_neg (by omega)] at this
        exact this
theorem names_nd {first step many : Nat} (hs : step = 1 ∨ step = 27 ∨ step = 677 ∨ step = 5) (hm : many ≤ 26) : ((List.range many).map fun k => nameS ((first + k * step) % 18278)).Nodup := by
  unfold List.Nodup
  rw [List.pairwise_map]
  refine List.Pairwise.imp_of_mem (fun {i j} hi hj h z => ?_) (List.pairwise_lt_range (n := many))
  have hi := List.mem_range.mp hi
  have hj := List.mem_range.mp hj
  have := nameS_inj (Nat.mod_lt _ (by decide)) (Nat.mod_lt _ (by decide)) z
  rcases hs with rfl | rfl | rfl | rfl <;> omega
theorem sc__law_names : FnScope ["_law_pen", "_law_many", "_law_first", "_law_step", "_law_k"] ["_law_pen", "_law_many"] (defScope s__law_names) := ⟨rfl, rfl, rfl, by decide +kernel, rfl, by decide +kernel, by decide +kernel⟩
theorem ok_names (F : FX K "_law_names" "_law_names" s__law_names [] [] f fd) (T : Txt K mg) (c__law_draw : Cal P w K mg base "_law_draw" 2 spDraw) (c__law_name : Cal P w K mg base "_law_name" 1 spName) : FnOk P w K mg base (L2.CX P w) 4 f fd ["_law_pen", "_law_many"] spNames := by
  refine F.ok sc__law_names (fun vs H Q E h => ?_) (fun cdv A outer s H vs Q E hr h => ?_)
  · obtain ⟨p, sc, m, n, rfl, _⟩ := h
    rfl
  · obtain ⟨p, sc, m, n, rfl, hp, hm, k⟩ := h
    refine ⟨_, PSs.nox ((pss_cons (ps_set (i := 2) sc__law_names.nd rfl (Or.inr rfl) (pe_f c__law_draw hr (by decide) rfl passL (pa_cons (pv 0) (pa_cons pe_int pa_nil)))) 
      (pss_cons (ps_set (i := 3) sc__law_names.nd rfl (Or.inr rfl) (pe_ix (k_ix (K := K) rfl) (pe_lst (pa_cons pe_int (pa_cons pe_int (pa_cons pe_int (pa_cons pe_int pa_nil))))) (pe_f c__law_draw hr (by decide) rfl passL (pa_cons (pv 0) (pa_cons pe_int pa_nil))) (fun _ _ => rfl))) (pss_one (ps_ret (by exact (pe_lc (own := [("_law_k", 4)]) rfl sc__law_names.nd (pi_range1 (by rfl) T.b_range (pa_cons (pv 1) pa_nil)) (blkOk_by (own := [("_law_k", 4)]) (N := ["_law_pen", "_law_many", "_law_first", "_law_step", "_law_k"]) (sc := defScope s__law_names) (by decide +kernel)) (fun _ _ _ _ _ => by exact (pg_name (i := 4) sc__law_names.nd rfl (Or.inl rfl))) (fun _ _ _ _ _ => by exact pts_nil) (fun _ _ _ _ _ => by exact (pe_f c__law_name hr (by decide) rfl passL (pa_cons (pe_op op_mod (pe_callTy call_int1U (by rfl) T.b_int (by decide +kernel) (pa_cons (pe_op (k_add (K := K) rfl) (pv 2) (pe_op (k_mul (K := K) rfl) (pv 4) (pv 3))) pa_nil)) pe_int) pa_nil)))))))))), ?_⟩
    try dsimp only [cxOf]
    walk_at "go"
    refine ⟨p, sc, 18278, n + 1, rfl, hp, by omega, by omega, fun r H1 r0 r1 b1 hp1 => ?_⟩
    obtain ⟨first, rfl⟩ : ∃ k : Nat, r = (k : Int) := ⟨r.toNat, by omega⟩
    walk_at "go"
    refine a_newL (by show 4 ≤ 100000; decide) fun l H2 nl s2 h2 => ?_
    walk_at "go"
    refine ⟨p, sc, 4, n, rfl, hp1.same s2, by omega, by omega, fun r2 H3 q0 q1 b3 hp3 => ?_⟩
    obtain ⟨j, rfl⟩ : ∃ k : Nat, r2 = (k : Int) := ⟨r2.toNat, by omega⟩
    have hl3 : H3 l = some (.lst [.int 1, .int 27, .int 677, .int 5]) := b3 _ _ (Ne.symm (hp1.ne nl).1) h2
    obtain ⟨step, hst, ej⟩ : ∃ step : Nat, (step = 1 ∨ step = 27 ∨ step = 677 ∨ step = 5) ∧ ([.int 1, .int 27, .int 677, .int 5] : List V)[j]? = some (.int (step : Nat)) := by
      match j, q1 with
      | 0, _ => exact ⟨1, by omega, rfl⟩
      | 1, _ => exact ⟨27, by omega, rfl⟩
      | 2, _ => exact ⟨677, by omega, rfl⟩
      | 3, _ => exact ⟨5, by omega, rfl⟩
      | (j + 4), h => exact absurd h (by omega)
    walk_at "go"
    refine a_ixL (SqL.of hl3) (atI_of rfl ej) ?_
    walk_at "go"
    refine c_r (k := m) (fun k => V.str (nameS ((first + k * step) % 18278))) (by omega) ?_ ?_ ?_
    · intro R r
      walk_at "go"
      exact r _ (Same.refl _)
    · intro i H' hi s' R r
      walk_at "go"
      refine ⟨(first + i * step) % 18278, ?_, Nat.mod_lt _ (by decide), ?_⟩
      · congr 2
      · exact r _ (Same.refl _)
    intro D H4 hD s4 h4
    have e0 : (List.range m).map (fun k => V.str (nameS ((first + k * step) % 18278))) = ((List.range m).map fun k => nameS ((first + k * step) % 18278)).map V.str := by
      rw [List.map_map]
      rfl
    rw [e0] at h4
    have bb : But p H H3 := (b1.trans (But.of s2)).trans b3
    refine k D _ H4 ?_ (bb.trans (But.of s4)) (hp3.same s4) h4 (by rw [List.length_map, List.length_range]) (names_nd hst hm) ?_
    · exact hp3.free bb hD
    · intro x hx
      obtain ⟨i, _, rfl⟩ := List.mem_map.mp hx
      exact nameS_ok (Nat.mod_lt _ (by decide))
end

/-! ### meanings -/
abbrev Ent := Str × Addr × List Nat
def mkv (es : List Ent) : List (Key × V) := es.map fun e => (.inr e.1, .ref e.2.1)
def getE (es : List Ent) (n : Str) : Option (Addr × List Nat) := (es.find? fun e => decide (e.1 = n)).map (·.2)
theorem val_mkv (n : Str) : ∀ es : List Ent, valV (mkv es) (.inr n) = (getE es n).map fun p => V.ref p.1
  | [] => rfl
  | e :: es => by
    unfold mkv getE
    rw [List.map_cons, List.find?_cons]
    by_cases h : e.1 = n
    · rw [valV_pos (by rw [h]), decide_eq_true h]
      rfl
    · rw [valV_neg (fun z => h (Sum.inr.inj z)), decide_eq_false h]
      exact val_mkv n es
theorem getE_mem {es : List Ent} {n : Str} {t : Addr} {a : List Nat} (h : getE es n = some (t, a)) : (n, t, a) ∈ es := by
  unfold getE at h
  obtain ⟨e, he, e2⟩ := Option.map_eq_some_iff.mp h
  have h1 := List.mem_of_find?_eq_some he
  have h2 := List.find?_some he
  have h2 : e.1 = n := of_decide_eq_true h2
  obtain ⟨x, y⟩ := e
  cases e2
  cases h2
  exact h1
theorem getE_nd : ∀ {es : List Ent} {e : Ent}, (es.map (·.1)).Nodup → e ∈ es → getE es e.1 = some e.2
  | x :: es, e, nd, he => by
    unfold getE
    rw [List.find?_cons]
    rw [List.map_cons, List.nodup_cons] at nd
    rcases List.mem_cons.mp he with rfl | he
    · rw [decide_eq_true rfl]
      rfl
    · have : ¬ x.1 = e.1 := fun z => nd.1 (z ▸ List.mem_map_of_mem he)
      rw [decide_eq_false this]
      exact getE_nd nd.2 he
theorem getE_none {es : List Ent} {n : Str} (h : n ∉ es.map (·.1)) : getE es n = none := by
  unfold getE
  rw [Option.map_eq_none_iff, List.find?_eq_none]
  intro e he z
  exact h (of_decide_eq_true z ▸ List.mem_map_of_mem he)
theorem getE_some {es : List Ent} {n : Str} (h : n ∈ es.map (·.1)) : (getE es n).isSome = true := by
  obtain ⟨e, he, rfl⟩ := List.mem_map.mp h
  unfold getE
  rw [Option.isSome_map, List.find?_isSome]
  exact ⟨e, he, by simp⟩
structure Mean (K : PySem.W.Frag) (H : Hp) (d : Addr) (es : List Ent) : Prop where
  at_ : H d = some (.dK (mkv es))
  tab : ∀ e ∈ es, TabAt K H e.2.1 e.2.2 ∧ OkImg e.2.2 ∧ e.2.2.length ≤ 100
  few : es.length ≤ 1000
  nd : (es.map (·.1)).Nodup
theorem Mean.same {K : PySem.W.Frag} {H H1 : Hp} {d : Addr} {es : List Ent} (h : Mean K H d es) (s : Same H H1) : Mean K H1 d es := ⟨s _ _ h.at_, fun e he => ⟨(h.tab e he).1.same s, (h.tab e he).2⟩, h.few, h.nd⟩
theorem TabAt.bd {K : PySem.W.Frag} {H H1 : Hp} {p q : Addr} {a : List Nat} {u : HO} (h : TabAt K H p a) (hq : H q = some u) (nu : (∃ kvs, u = .dK kvs) ∨ ∃ xs, u = .lst xs) (b : But q H H1) : TabAt K H1 p a := by
  obtain ⟨dx, t, h1, h2⟩ := h
  have no : ∀ {x : Addr} {o : HO}, H x = some o → (∀ kvs, o ≠ .dK kvs) → (∀ xs, o ≠ .lst xs) → x ≠ q := fun {x o} e n1 n2 z => by
    subst z
    rw [e] at hq
    cases hq
    rcases nu with ⟨kvs, rfl⟩ | ⟨xs, rfl⟩
    · exact n1 _ rfl
    · exact n2 _ rfl
  refine ⟨dx, t, b _ _ (no h1 (by intro _ z; cases z) (by intro _ z; cases z)) h1, ?_⟩
  rcases h2 with (h | ⟨o, h⟩) | h
  · exact .inl (.inl (b _ _ (no h (by intro _ z; cases z) (by intro _ z; cases z)) h))
  · exact .inl (.inr ⟨o, b _ _ (no h (by intro _ z; cases z) (by intro _ z; cases z)) h⟩)
  · exact .inr h
theorem Mean.bl {K : PySem.W.Frag} {H H1 : Hp} {d p : Addr} {es : List Ent} {xs : List V} (h : Mean K H d es) (hp : H p = some (.lst xs)) (b : But p H H1) : Mean K H1 d es := ⟨b _ _ (ne_of h.at_ hp (by intro z; cases z)) h.at_, fun e he => ⟨(h.tab e he).1.bd hp (.inr ⟨_, rfl⟩) b, (h.tab e he).2⟩, h.few, h.nd⟩
theorem unlock_same {H H1 H2 : Hp} {d : Addr} {u : HO} (h : H d = some u) (b : But d H H1) (s : Same H1 H2) : Same H (upd H2 d u) := fun a o e => by
  by_cases z : a = d
  · subst z
    rw [h] at e
    rw [upd_same, e]
  · rw [upd_ne z]
    exact s _ _ (b _ _ z e)
theorem mkv_len (es : List Ent) : (mkv es).length = es.length := List.length_map ..
theorem mkv_get {es : List Ent} {i : Nat} {k : Key} {v : V} (h : (mkv es)[i]? = some (k, v)) : ∃ hi : i < es.length, k = .inr es[i].1 ∧ v = .ref es[i].2.1 := by
  have hi : i < es.length := by
    have := (List.getElem?_eq_some_iff.mp h).1
    rwa [mkv_len] at this
  unfold mkv at h
  rw [List.getElem?_map, List.getElem?_eq_getElem hi] at h
  cases h
  exact ⟨hi, rfl, rfl⟩
def szs (es : List Ent) : List Nat := es.map fun e => e.2.2.length
theorem szs_len (es : List Ent) : (szs es).length = es.length := List.length_map ..
/-- the first size that is another one than the first -/
def oth (es : List Ent) : Option Nat := (szs es).find? fun s => decide (s ≠ (szs es).headD 0)
def miss (es : List Ent) (row : List Str) : Option Str := row.find? fun n => (getE es n).isNone
def look (es : List Ent) (n : Str) : List Nat := ((getE es n).map (·.2)).getD []
def walked (n : Nat) (ims : List (List Nat)) : List Nat := ims.foldl comp (List.range n)
theorem comp_assoc {a b c : List Nat} (h : ∀ x ∈ a, x < b.length) : comp (comp a b) c = comp a (comp b c) := by
  unfold comp
  rw [List.map_map]
  refine List.map_congr_left fun x hx => ?_
  have := h x hx
  simp [List.getD_eq_getElem?_getD, this]
theorem comp_id {a : List Nat} : comp (List.range a.length) a = a := by
  refine List.ext_getElem (by rw [comp_len, List.length_range]) fun i h1 h2 => ?_
  rw [comp_get (by rw [List.length_range]; exact h2) h1, List.getElem_range, getD_lt h2]
theorem foldc {n : Nat} : ∀ {ims : List (List Nat)} {a : List Nat}, (∀ b ∈ ims, OkImg b ∧ b.length = n) → OkImg a → a.length = n → OkImg (ims.foldl comp a) ∧ (ims.foldl comp a).length = n
  | [], a, _, oa, la => ⟨oa, la⟩
  | b :: ims, a, h, oa, la => by
    have hb := h b (List.mem_cons_self ..)
    exact foldc (ims := ims) (a := comp a b) (fun c hc => h c (List.mem_cons_of_mem _ hc)) (oa.comp hb.1 (by omega)) (by rw [comp_len]; exact la)
theorem fold_comp {n : Nat} : ∀ {ims : List (List Nat)} {a b : List Nat}, (∀ b ∈ ims, OkImg b ∧ b.length = n) → OkImg a → a.length = n → OkImg b → b.length = n → ims.foldl comp (comp a b) = comp a (ims.foldl comp b)
  | [], a, b, _, _, _, _, _ => rfl
  | c :: ims, a, b, h, oa, la, ob, lb => by
    have hc := h c (List.mem_cons_self ..)
    show ims.foldl comp (comp (comp a b) c) = comp a (ims.foldl comp (comp b c))
    rw [comp_assoc fun x hx => by have := oa.lt x hx; omega]
    exact fold_comp (fun c hc => h c (List.mem_cons_of_mem _ hc)) oa la (ob.comp hc.1 (by omega)) (by rw [comp_len]; exact lb)
theorem comp_idr {a : List Nat} {n : Nat} (h : ∀ x ∈ a, x < n) : comp a (List.range n) = a := by
  refine List.ext_getElem (comp_len _ _) fun i h1 h2 => ?_
  rw [comp_get h2]
  have := h _ (List.getElem_mem h2)
  rw [getD_lt (by rw [List.length_range]; exact this), List.getElem_range]
theorem walked_app {n : Nat} {ims jms : List (List Nat)} (h1 : ∀ b ∈ ims, OkImg b ∧ b.length = n) (h2 : ∀ b ∈ jms, OkImg b ∧ b.length = n) : walked n (ims ++ jms) = comp (walked n ims) (walked n jms) := by
  unfold walked
  rw [List.foldl_append]
  obtain ⟨o1, l1⟩ := foldc h1 (OkImg.range n) List.length_range
  rw [← fold_comp h2 o1 l1 (OkImg.range n) List.length_range, comp_idr fun x hx => by have := o1.lt x hx; omega]
def spRes (K : PySem.W.Frag) : Sp := fun vs H Q E => ∃ (d r : Addr) (es : List Ent) (row : List Str), vs = [.ref d, .ref r] ∧ Mean K H d es ∧ Seq K H r (row.map V.str) ∧ row.length ≤ 1000 ∧
  (∀ s, oth es = some s → ∀ D H', Same H H' → H' D = some (.xd [("size", .int (s : Nat))]) → E (.ref (He.ga K "OtherSize")) (some D) H') ∧
  (oth es = none → ∀ n, miss es row = some n → ∀ D H', Same H H' → H' D = some (.xd [("name", .str n)]) → E (.ref (He.ga K "NoMeaning")) (some D) H') ∧
  (oth es = none → miss es row = none → ∀ t H', H t = none → Same H H' → TabAt K H' t (walked ((szs es).headD 0) (row.map (look es))) → Q (.ref t) H')
theorem oth_all {es : List Ent} (h : oth es = none) : ∀ e ∈ es, e.2.2.length = (szs es).headD 0 := fun e he => by
  have := List.find?_eq_none.mp h e.2.2.length (List.mem_map_of_mem he)
  simpa using this
section
variable {P : Program} {w : World} {K : PySem.W.Frag} {mg : Str → Option Value} {base : Heap} {f : Addr} {fd : FuncData}
theorem sc_result : FnScope ["meaning", "row", "sizes", "name", "size", "found"] ["meaning", "row"] (defScope s_result) := ⟨rfl, rfl, rfl, by decide +kernel, rfl, by decide +kernel, by decide +kernel⟩
theorem ok_res (F : FX K "result" "result" s_result [] [] f fd) (T : Txt K mg) (c_OtherSize : Rai P w K mg base "OtherSize" (He.ga K "OtherSize") 1 (spI1 (He.ga K "OtherSize") "size")) (c_NoMeaning : Rai P w K mg base "NoMeaning" (He.ga K "NoMeaning") 1 (spI1 (He.ga K "NoMeaning") "name"))
    (c_Table_neutral : Sta P w K mg base (He.ga K "Table") "neutral" 6 (spTNeu K)) (c_Table_mul : Met P w K mg base (He.ga K "Table") "__mul__" 6 (spTMul K)) : FnOk P w K mg base (L2.CX P w) 8 f fd ["meaning", "row"] (spRes K) := by
  refine F.ok sc_result (fun vs H Q E h => ?_) (fun cdv A outer s H vs Q E hr h => ?_)
  · obtain ⟨d, r, es, row, rfl, _⟩ := h
    rfl
  · obtain ⟨d, r, es, row, rfl, hm, hrow, hlen, kO, kN, kQ⟩ := h
    refine ⟨_, ((pss_cons (ps_lock (ps_setLc (i := 2) (own := [("name", 3)]) rfl sc_result.nd rfl rfl (sw_true rfl rfl rfl (by decide +kernel)) (pi_keys (pv 0)) (blkOk_by (own := [("name", 3)]) (N := ["meaning", "row", "sizes", "name", "size", "found"]) (sc := defScope s_result) (by decide +kernel)) (fun _ _ _ _ _ => by exact (pg_name (i := 3) sc_result.nd rfl (Or.inl rfl))) (fun _ _ _ _ _ => by exact pts_nil) (fun _ _ _ _ _ => by exact (pe_callB (k_len (K := K) rfl) (by rfl) T.b_len PySem.boot_len (pa_cons (k_fld (K := K) rfl (pe_dget (hu_of hr) (pv 0) (pv 3) (fun _ _ => rfl))) pa_nil))))) 
      (pss_cons (ps_for (passes_of rfl) rfl (k_iL (K := K) rfl (pv 2)) (pg_name (i := 4) sc_result.nd rfl (Or.inl rfl)) (pss_one (ps_if (pt_cmpR (k_ne (K := K) rfl hr.units) (pv 4) (pe_ix (k_ix (K := K) rfl) (pv 2) pe_int (fun _ _ => rfl)) (nomark _)) (pss_one (ps_rs rfl (takes_of rfl rfl rfl rfl) (pmk_r c_OtherSize hr (by decide) rfl (pa_cons (pv 4) pa_nil)))) pss_nil))) 
      (pss_cons (ps_for (passes_of rfl) rfl (pi_seq (K := K) rfl (pv 1)) (pg_name (i := 3) sc_result.nd rfl (Or.inl rfl)) (pss_one (ps_if (pt_cmp (pc_dnotin (hu_of hr) (pv 3) (pv 0))) (pss_one (ps_rs rfl (takes_of rfl rfl rfl rfl) (pmk_r c_NoMeaning hr (by decide) rfl (pa_cons (pv 3) pa_nil)))) pss_nil))) 
      (pss_cons (ps_set (i := 5) sc_result.nd rfl (Or.inl rfl) (pe_s c_Table_neutral hr (by decide) (passes_call (E := E) (takes_of rfl rfl rfl rfl) (fun _ _ _ _ h => h)) (pe_gv (v := .ref (He.ga K "Table")) rfl ⟨_, T.g_Table, rfl⟩) (pa_cons (pe_ifExp (k_tr (K := K) rfl (pv 2)) (pe_ix (k_ix (K := K) rfl) (pv 2) pe_int (fun _ _ => rfl)) pe_int) pa_nil))) 
      (pss_cons (ps_for (passes_of rfl) rfl (pi_seq (K := K) rfl (pv 1)) (pg_name (i := 3) sc_result.nd rfl (Or.inl rfl)) (pss_one (ps_set (i := 5) sc_result.nd rfl (Or.inl rfl) (pe_op (op_mulO T.o_Table c_Table_mul hr (by decide) passL) (pv 5) (pe_dget (hu_of hr) (pv 0) (pv 3) (fun _ _ => rfl)))))) (pss_one (ps_ret (pv 5))))))))), ?_⟩
    try dsimp only [cxOf]
    walk_at "go"
    refine a_lock hm.at_ True.intro fun od Hf bf hf => ?_
    walk_at "go"
    refine c_k (d := d) (od := od) (kvs := mkv es) (fun i => V.int ((szs es).getD i 0 : Nat)) (by rw [mkv_len]; have := hm.few; omega) ?_ ?_ ?_
    · intro R r
      walk_at "go"
      exact r _ (Same.refl _) hf
    · intro i k v H' hk s' R r
      obtain ⟨hi, rfl, rfl⟩ := mkv_get hk
      obtain ⟨h1, h2, h3⟩ := hm.tab es[i] (List.getElem_mem hi)
      obtain ⟨dx, t, g1, g2⟩ := (h1.bd hm.at_ (.inl ⟨_, rfl⟩) bf).same s'
      walk_at "go"
      refine a_dgetS (.inr ⟨od, s' _ _ hf⟩) (by rw [val_mkv, getE_nd hm.nd (List.getElem_mem hi)]; rfl) ?_
      walk_at "go"
      refine a_fld g1 T.o_Table.cl T.n_Table_image (img_look _) ?_
      walk_at "go"
      refine a_lenT g2 ?_
      rw [vi_len]
      have e1 : (szs es).getD i 0 = es[i].2.2.length := by
        unfold szs
        rw [getD_lt (by rw [List.length_map]; exact hi), List.getElem_map]
      have := r _ (Same.refl _)
      rw [e1] at this
      exact this
    intro D H' nD s' hD'
    refine ⟨s' _ _ hf, ?_⟩
    have e0 : (List.range (mkv es).length).map (fun i => V.int ((szs es).getD i 0 : Nat)) = vi (szs es) := by
      rw [mkv_len]
      refine List.ext_getElem (by rw [List.length_map, List.length_range, vi_len, szs_len]) fun i p1 p2 => ?_
      rw [List.length_map, List.length_range] at p1
      simp [vi, szs_len, p1]
    rw [e0] at hD'
    have s1 : Same H (upd H' d (.dK (mkv es))) := unlock_same hm.at_ bf s'
    have hD1 : upd H' d (.dK (mkv es)) D = some (.lst (vi (szs es))) := by
      rw [upd_ne (Ne.symm (ne_of_none hf nD))]
      exact hD'
    generalize upd H' d (.dK (mkv es)) = H1 at s1 hD1
    clear hD' s' nD hf bf
    walk_at "go"
    refine ⟨D, rfl, ⟨_, SqL.of hD1⟩, ?_⟩
    refine for_list (K := K) (a := D) (xs := vi (szs es)) (fun i σ H' => ∃ v : Option V, σ = [some (.ref d), some (.ref r), some (.ref D), none, v, none] ∧ Same H1 H' ∧ ∀ j, j < i → j < (szs es).length → (szs es).getD j 0 = (szs es).headD 0)
      ⟨none, rfl, Same.refl _, fun j hj => by omega⟩ (fun i σ H' _ ⟨_, _, s', _⟩ => same_l s' (SqL.of hD1)) ?_ ?_
    · rintro i y σ H' hy ⟨v, rfl, s', hal⟩
      obtain ⟨hi, rfl⟩ := vi_get hy
      have h0 : 0 < (szs es).length := by omega
      show tIfS _ _ _ _ _ _
      walk_at "go"
      refine a_ixL (SqL.of (s' _ _ hD1)) (atI_of (j := 0) rfl (vi_at h0)) ?_
      walk_at "go"
      have eh : (szs es)[0] = (szs es).headD 0 := by
        generalize szs es = l at h0 ⊢
        cases l with
        | nil => simp at h0
        | cons x l => rfl
      refine a_nite (fun hne => ?_) (fun heq => ?_)
      · walk_at "go"
        refine a_oex1 fun D4 H4 hd s4 h4 => kO (szs es)[i] ?_ D4 H4 (s1.trans (s'.trans s4)) h4
        unfold oth
        rw [List.find?_eq_some_iff_getElem]
        refine ⟨by rw [← eh]; simpa using fun z => hne (by rw [z]), i, hi, rfl, fun j hj => ?_⟩
        have := hal j hj (by omega)
        rw [getD_lt (by omega)] at this
        simp [this]
      · walk_at "go"
        refine ⟨_, rfl, s', fun j hj hl => ?_⟩
        by_cases e : j = i
        · subst e
          rw [getD_lt hl, ← eh]
          have := V.int.inj heq
          omega
        · exact hal j (by omega) hl
    · rintro σ H2 ⟨v, rfl, s2, hal⟩
      have hO : oth es = none := by
        unfold oth
        rw [List.find?_eq_none]
        intro x hx
        obtain ⟨j, hj, rfl⟩ := List.getElem_of_mem hx
        have := hal j (by rw [vi_len]; exact hj) hj
        rw [getD_lt hj] at this
        simp [this]
      have hm2 : Mean K H2 d es := hm.same (s1.trans s2)
      have hrow2 := hrow.same (s1.trans s2)
      walk_at "go"
      refine a_iter hrow2 fun J wk => ?_
      refine for_it wk (fun i σ H' => ∃ v3 : Option V, σ = [some (.ref d), some (.ref r), some (.ref D), v3, v, none] ∧ Same H2 H' ∧ ∀ x ∈ row.take i, (getE es x).isSome = true)
        ⟨none, rfl, Same.refl _, fun x hx => by simp at hx⟩ (fun i σ H' _ ⟨_, _, s', _⟩ => s') ?_ ?_
      · rintro i x σ H' H3 hi ⟨v3, rfl, s3, hal⟩ ⟨rfl, ey⟩
        rw [List.length_map] at hi
        rw [List.getElem?_map, List.getElem?_eq_getElem hi] at ey
        cases ey
        walk_at "go"
        refine a_dninS (.inl (s3 _ _ hm2.at_)) ?_
        rw [val_mkv]
        walk_at "go"
        cases e : getE es row[i] with
        | none =>
          refine a_T rfl ?_
          walk_at "go"
          refine a_oex1 fun D4 H4 hd s4 h4 => kN hO row[i] ?_ D4 H4 (s1.trans (s2.trans (s3.trans s4))) h4
          unfold miss
          rw [List.find?_eq_some_iff_getElem]
          refine ⟨by rw [e]; rfl, i, hi, rfl, fun j hj => ?_⟩
          have := hal row[j] (List.mem_take_iff_getElem.mpr ⟨j, by omega, rfl⟩)
          cases z : getE es row[j] with
          | none => rw [z] at this; cases this
          | some p => rfl
        | some p =>
          refine a_F rfl ?_
          walk_at "go"
          refine ⟨_, rfl, s3, fun x hx => ?_⟩
          rw [← List.take_append_getElem hi, List.mem_append, List.mem_singleton] at hx
          rcases hx with hx | rfl
          · exact hal x hx
          · rw [e]; rfl
      · rintro σ H3 ⟨v3, rfl, s3, hal⟩
        rw [List.length_map, List.take_length] at hal
        have hM : miss es row = none := by
          unfold miss
          rw [List.find?_eq_none]
          intro x hx
          have := hal x hx
          cases z : getE es x with
          | none => rw [z] at this; cases this
          | some p => simp
        have kk := kQ hO hM
        have hm3 := hm2.same s3
        have hrow3 := hrow2.same s3
        have sz := oth_all hO
        have body : ∀ n : Nat, n = (szs es).headD 0 → n ≤ 3300 → True := fun _ _ _ => True.intro
        have fin : ∀ (t : Addr) (H4 : Hp), H3 t = none → Same H3 H4 → TabAt K H4 t (List.range ((szs es).headD 0)) → tSeq (tFor (iSeq K (tVar 1)) (gName 3) (tAsg (tOp (rOwnB (He.ga K (Str.ofString "Table")) (spTMul K) E0) (tVar 5) (tDGet (tVar 0) (tVar 3))) (gName 5))) (tRet (tVar 5)) { nx := fun x H' => Q V.non H', rt := Q } [some (.ref d), some (.ref r), some (.ref D), v3, v, some (.ref t)] H4 := by
          intro t H4 nt s4 ht
          walk_at "go"
          refine a_iter (hrow3.same s4) fun J wk => ?_
          refine for_it wk (fun i σ H' => ∃ (v3 : Option V) (u : Addr), σ = [some (.ref d), some (.ref r), some (.ref D), v3, v, some (.ref u)] ∧ Same H4 H' ∧ H3 u = none ∧ TabAt K H' u (walked ((szs es).headD 0) ((row.take i).map (look es))))
            ⟨v3, t, rfl, Same.refl _, nt, ht⟩ (fun i σ H' _ ⟨_, _, _, s', _⟩ => s') ?_ ?_
          · rintro i x σ H' H5 hi ⟨v3, u, rfl, s5, nu, hu⟩ ⟨rfl, ey⟩
            rw [List.length_map] at hi
            rw [List.getElem?_map, List.getElem?_eq_getElem hi] at ey
            cases ey
            walk_at "go"
            have hs := hal row[i] (List.getElem_mem hi)
            obtain ⟨⟨q, a⟩, e⟩ := Option.isSome_iff_exists.mp hs
            have hq := hm3.tab _ (getE_mem e)
            refine a_dgetS (.inl (s5 _ _ (s4 _ _ hm3.at_))) (v := .ref q) (by rw [val_mkv, e]; rfl) ?_
            have all : ∀ b ∈ (row.take i).map (look es), OkImg b ∧ b.length = (szs es).headD 0 := fun b hb => by
              obtain ⟨x, hx, rfl⟩ := List.mem_map.mp hb
              obtain ⟨⟨q', a'⟩, e'⟩ := Option.isSome_iff_exists.mp (hal x (List.mem_of_mem_take hx))
              unfold look
              rw [e']
              exact ⟨(hm3.tab _ (getE_mem e')).2.1, sz _ (getE_mem e')⟩
            obtain ⟨ow, lw⟩ := foldc all (OkImg.range ((szs es).headD 0)) List.length_range
            have la := sz _ (getE_mem e)
            refine a_mulT hu (hq.1.same (s4.trans s5)) ow hq.2.1 (by rw [la]; exact lw) (by have := hq.2.2; simp only at this la; unfold walked; omega) fun u' H6 nu' s6 hu' => ?_
            refine ⟨_, u', rfl, s5.trans s6, (s4.trans s5).free nu', ?_⟩
            rw [← List.take_append_getElem hi, List.map_append]
            unfold walked
            rw [List.foldl_append]
            have e2 : look es row[i] = a := by unfold look; rw [e]; rfl
            simp only [List.map_cons, List.map_nil, List.foldl_cons, List.foldl_nil, e2]
            exact hu'
          · rintro σ H5 ⟨v3, u, rfl, s5, nu, hu⟩
            rw [List.length_map, List.take_length] at hu
            walk_at "go"
            exact kk u H5 ((s1.trans (s2.trans s3)).free nu) (s1.trans (s2.trans (s3.trans (s4.trans s5)))) hu
        walk_at "go"
        refine ⟨rfl, ?_⟩
        walk_at "go"
        refine a_truP (SqL.of (s3 _ _ (s2 _ _ hD1))) ?_
        have le : (szs es).headD 0 ≤ 3300 := by
          cases es with
          | nil => exact Nat.zero_le _
          | cons e es =>
            have := (hm.tab e (List.mem_cons_self ..)).2.2
            show e.2.2.length ≤ 3300
            omega
        refine a_ite (fun hne => ?_) (fun heq => ?_)
        · have h0 : 0 < (szs es).length := by
            cases e : szs es with
            | nil => rw [e] at hne; exact absurd rfl hne
            | cons x l => simp
          walk_at "go"
          refine a_ixL (SqL.of (s3 _ _ (s2 _ _ hD1))) (atI_of (j := 0) rfl (vi_at h0)) ?_
          have eh : (szs es)[0] = (szs es).headD 0 := by
            generalize szs es = l at h0 ⊢
            cases l with
            | nil => simp at h0
            | cons x l => rfl
          walk_at "go"
          rw [eh]
          exact ⟨_, rfl, le, fun t H4 nt s4 ht => fin t H4 nt s4 ht⟩
        · have e0 : szs es = [] := by
            cases e : szs es with
            | nil => rfl
            | cons x l => rw [e] at heq; exact absurd (fun z => by cases z) heq
          walk_at "go"
          refine ⟨0, rfl, by omega, fun t H4 nt s4 ht => fin t H4 nt s4 ?_⟩
          rw [e0]
          exact ht
end

def spRow : Sp := fun vs H Q _ => ∃ (p sc l : Addr) (ns : List Str) (m n : Nat), vs = [.ref p, .ref l, .int (m : Nat)] ∧ Pen H p sc (m + 1 + n) ∧ m ≤ 100 ∧ H l = some (.lst (ns.map V.str)) ∧ l ≠ p ∧ 0 < ns.length ∧ ns.length ≤ 1000 ∧
  ∀ r (row : List Str) H', H r = none → But p H H' → Pen H' p sc n → H' r = some (.lst (row.map V.str)) → (∀ x ∈ row, x ∈ ns) → row.length ≤ m → Q (.ref r) H'
/-- the images of the names, lists -/
structure Imgs (H : Hp) (d : Addr) (es : List Ent) : Prop where
  at_ : H d = some (.dK (mkv es))
  lst : ∀ e ∈ es, H e.2.1 = some (.lst (vi e.2.2))
theorem Imgs.same {H H1 : Hp} {d : Addr} {es : List Ent} (h : Imgs H d es) (s : Same H H1) : Imgs H1 d es := ⟨s _ _ h.at_, fun e he => s _ _ (h.lst e he)⟩
def spWalked (K : PySem.W.Frag) : Sp := fun vs H Q _ => ∃ (d r : Addr) (es : List Ent) (row : List Str) (n : Nat), vs = [.ref d, .ref r, .int (n : Nat)] ∧ Imgs H d es ∧ SqL K H r (row.map V.str) ∧ n ≤ 1000 ∧ (∀ e ∈ es, OkImg e.2.2 ∧ e.2.2.length = n) ∧ (∀ x ∈ row, (getE es x).isSome = true) ∧
  ∀ t H', Same H H' → SqT K H' t (vi (walked n (row.map (look es)))) → Q (.ref t) H'
def toldD (es : List Ent) (row : List Str) : PyData := match oth es with
  | some s => .tuple [.str "size", .int (s : Nat), .bool true]
  | none => match miss es row with
    | some n => .tuple [.str "none", .str n, .bool true]
    | none => .tuple (di (walked ((szs es).headD 0) (row.map (look es))))
def spTold (K : PySem.W.Frag) : Sp := fun vs H Q _ => ∃ (d r : Addr) (es : List Ent) (row : List Str), vs = [.ref d, .ref r] ∧ Mean K H d es ∧ Seq K H r (row.map V.str) ∧ row.length ≤ 1000 ∧ (∀ x ∈ row, PyData.strOk x = true) ∧
  ∀ t H', Same H H' → Dq K H' 4 (.ref t) (toldD es row) → Q (.ref t) H'
theorem dqv {K : PySem.W.Frag} {H : Hp} {n : Nat} : ∀ a : List Nat, DqA K H (n + 1) (vi a) (di a)
  | [] => .nil
  | x :: a => .cons (.int _) (dqv a)
theorem fold_get : ∀ (ims : List (List Nat)) (a : List Nat) (i : Nat) (hi : i < a.length), (ims.foldl comp a).getD i 0 = ims.foldl (fun x b => b.getD x 0) a[i]
  | [], a, i, hi => getD_lt hi
  | b :: ims, a, i, hi => by
    show (ims.foldl comp (comp a b)).getD i 0 = ims.foldl (fun x b => b.getD x 0) (b.getD a[i] 0)
    rw [fold_get ims (comp a b) i (by rw [comp_len]; exact hi), comp_get hi]
theorem walked_get (n : Nat) (ims : List (List Nat)) {i : Nat} (hi : i < n) : (walked n ims).getD i 0 = ims.foldl (fun x b => b.getD x 0) i := by
  unfold walked
  rw [fold_get ims _ i (by rw [List.length_range]; exact hi), List.getElem_range]
theorem fold_lt {n : Nat} : ∀ {ims : List (List Nat)} {x : Nat}, (∀ b ∈ ims, OkImg b ∧ b.length = n) → x < n → ims.foldl (fun x b => b.getD x 0) x < n
  | [], x, _, hx => hx
  | b :: ims, x, h, hx => by
    have hb := h b (List.mem_cons_self ..)
    refine fold_lt (ims := ims) (x := b.getD x 0) (fun c hc => h c (List.mem_cons_of_mem _ hc)) ?_
    rw [getD_lt (by omega)]
    have := hb.1.lt _ (List.getElem_mem (l := b) (n := x) (by omega))
    omega
section
variable {P : Program} {w : World} {K : PySem.W.Frag} {mg : Str → Option Value} {base : Heap} {f : Addr} {fd : FuncData}
theorem sc__law_row : FnScope ["_law_pen", "_law_names_here", "_law_most", "_law_k"] ["_law_pen", "_law_names_here", "_law_most"] (defScope s__law_row) := ⟨rfl, rfl, rfl, by decide +kernel, rfl, by decide +kernel, by decide +kernel⟩
theorem ok_row (F : FX K "_law_row" "_law_row" s__law_row [] [] f fd) (T : Txt K mg) (c__law_draw : Cal P w K mg base "_law_draw" 2 spDraw) : FnOk P w K mg base (L2.CX P w) 4 f fd ["_law_pen", "_law_names_here", "_law_most"] spRow := by
  refine F.ok sc__law_row (fun vs H Q E h => ?_) (fun cdv A outer s H vs Q E hr h => ?_)
  · obtain ⟨p, sc, l, ns, m, n, rfl, _⟩ := h
    rfl
  · obtain ⟨p, sc, l, ns, m, n, rfl, hp, hm, hl, nlp, n0, n1, k⟩ := h
    refine ⟨_, PSs.nox ((pss_one (ps_ret (by exact (pe_lc (own := [("_law_k", 3)]) rfl sc__law_row.nd (pi_range1 (by rfl) T.b_range (pa_cons (pe_f c__law_draw hr (by decide) rfl passL (pa_cons (pv 0) (pa_cons (pe_op (k_add (K := K) rfl) (pv 2) pe_int) pa_nil))) pa_nil)) (blkOk_by (own := [("_law_k", 3)]) (N := ["_law_pen", "_law_names_here", "_law_most", "_law_k"]) (sc := defScope s__law_row) (by decide +kernel)) (fun _ _ _ _ _ => by exact (pg_name (i := 3) sc__law_row.nd rfl (Or.inl rfl))) (fun _ _ _ _ _ => by exact pts_nil) (fun _ _ _ _ _ => by exact (pe_ix (k_ix (K := K) rfl) (pv 1) (pe_f c__law_draw hr (by decide) rfl passL (pa_cons (pv 0) (pa_cons (pe_callB (k_len (K := K) rfl) (by rfl) T.b_len PySem.boot_len (pa_cons (pv 1) pa_nil)) pa_nil))) (fun _ _ => rfl)))))))), ?_⟩
    try dsimp only [cxOf]
    walk_at "go"
    refine g_lcT ?_
    walk_at "go"
    refine ⟨p, sc, _, m + n, rfl, hp.le (by omega), by omega, by omega, fun r H1 r0 r1 b1 hp1 => ?_⟩
    obtain ⟨c, rfl⟩ : ∃ c : Nat, r = (c : Int) := ⟨r.toNat, by omega⟩
    have hl1 := b1 _ _ nlp hl
    walk_at "go"
    refine ⟨(c : Int), rfl, by omega, by omega, fun D hD => ?_⟩
    have nD := hp1.ne hD
    have nDl : D ≠ l := Ne.symm (ne_of_none hl1 hD)
    refine lc_it walk_range (fun i H' => ∃ row : List Str, But p H H' ∧ Pen H' p sc (c - i + n) ∧ H' l = some (.lst (ns.map V.str)) ∧ H' D = some (.lst (row.map V.str)) ∧ (∀ x ∈ row, x ∈ ns) ∧ row.length = i)
      ⟨[], b1.trans (But.of (same_new hD)), (hp1.same (same_new hD)).le (by omega), (same_new hD) _ _ hl1, upd_same, (fun x hx => by cases hx), rfl⟩ (fun _ _ _ _ => True.intro) ?_ ?_
    · rintro i x H' H2 hi ⟨row, b', hp', hl', hD', al, el⟩ ⟨rfl, rfl⟩
      have hi : i < c := by simpa using hi
      refine ⟨rfl, ?_⟩
      refine g_yes (a_T rfl ?_)
      walk_at "go"
      rw [List.length_map]
      refine ⟨p, sc, _, c - (i + 1) + n, rfl, hp'.le (by omega), by omega, by omega, fun r H3 r0 r1 b3 hp3 => ?_⟩
      obtain ⟨kk, rfl⟩ : ∃ kk : Nat, r = (kk : Int) := ⟨r.toNat, by omega⟩
      have hk : kk < ns.length := by omega
      walk_at "go"
      refine a_ixL (SqL.of (b3 _ _ nlp hl')) (atI_of (j := kk) (z := V.str ns[kk]) rfl (by rw [List.getElem?_map, List.getElem?_eq_getElem hk]; rfl)) ?_
      have hD3 := b3 _ _ (Ne.symm nD.1) hD'
      refine ⟨_, hD3, by rw [List.length_map]; exact szl (by omega), row ++ [ns[kk]], ?_, ?_, ?_, ?_, ?_, by rw [List.length_append, el]; rfl⟩
      · intro a o na e
        have ha := b3 a o na (b' a o na e)
        rw [upd_ne (fun z => ?_)]
        · exact ha
        · subst z
          exact absurd (b1 _ _ na e) (by rw [hD]; intro q; cases q)
      · exact hp3.but But.upd nD.1 nD.2
      · rw [upd_ne (Ne.symm nDl)]
        exact b3 _ _ nlp hl'
      · rw [upd_same, List.map_append]
        rfl
      · intro x hx
        rcases List.mem_append.mp hx with hx | hx
        · exact al x hx
        · rw [List.mem_singleton.mp hx]
          exact List.getElem_mem hk
    · rintro H' ⟨row, b', hp', hl', hD', al, el⟩
      rw [Int.toNat_natCast] at el hp'
      exact k D row H' (hp1.free b1 hD) b' (hp'.le (by omega)) hD' al (by omega)
theorem sc__law_walked : FnScope ["_law_images", "_law_row_here", "_law_size", "_law_found", "_law_point", "_law_here", "_law_name_here"] ["_law_images", "_law_row_here", "_law_size"] (defScope s__law_walked) := ⟨rfl, rfl, rfl, by decide +kernel, rfl, by decide +kernel, by decide +kernel⟩
theorem ok_walked (F : FX K "_law_walked" "_law_walked" s__law_walked [] [] f fd) (T : Txt K mg) : FnOk P w K mg base (L2.CX P w) 2 f fd ["_law_images", "_law_row_here", "_law_size"] (spWalked K) := by
  refine F.ok sc__law_walked (fun vs H Q E h => ?_) (fun cdv A outer s H vs Q E hr h => ?_)
  · obtain ⟨d, r, es, row, n, rfl, _⟩ := h
    rfl
  · obtain ⟨d, r, es, row, n, rfl, hm, hrow, hn, ok, hal, k⟩ := h
    refine ⟨_, PSs.nox ((pss_cons (ps_set (i := 3) sc__law_walked.nd rfl (Or.inl rfl) (pe_lst pa_nil)) 
      (pss_cons (ps_for PassesOwn.never rfl (pi_range1 (by rfl) T.b_range (pa_cons (pv 2) pa_nil)) (pg_name (i := 4) sc__law_walked.nd rfl (Or.inl rfl)) (pss_cons (ps_set (i := 5) sc__law_walked.nd rfl (Or.inl rfl) (pv 4)) 
      (pss_cons (ps_for PassesOwn.never rfl (k_iL (K := K) rfl (pv 1)) (pg_name (i := 6) sc__law_walked.nd rfl (Or.inl rfl)) (pss_one (ps_set (i := 5) sc__law_walked.nd rfl (Or.inl rfl) (pe_ix (k_ix (K := K) rfl) (pe_dget (hu_of hr) (pv 0) (pv 6) (fun _ _ => rfl)) (pv 5) (fun _ _ => rfl))))) (pss_one (ps_expr (k_bm (K := K) rfl PySem.F.plainAttrs_list PySem.F.slot_list_append PySem.F.type_list_append mt_append (pv 3) (pa_cons (pv 5) pa_nil))))))) (pss_one (ps_ret (pe_callTy (k_tuple (K := K) rfl) (by rfl) T.b_tuple (by decide +kernel) (pa_cons (pv 3) pa_nil))))))), ?_⟩
    try dsimp only [cxOf]
    walk_at "go"
    refine a_newL (by show 0 ≤ 100000; decide) fun D H1 nD s1 hD => ?_
    have all : ∀ j, ∀ b ∈ (row.take j).map (look es), OkImg b ∧ b.length = n := fun j b hb => by
      obtain ⟨x, hx, rfl⟩ := List.mem_map.mp hb
      obtain ⟨⟨q', a'⟩, e'⟩ := Option.isSome_iff_exists.mp (hal x (List.mem_of_mem_take hx))
      unfold look
      rw [e']
      exact ok _ (getE_mem e')
    walk_at "go"
    refine ⟨(n : Int), rfl, by omega, by omega, ?_⟩
    refine for_range (n := n) (fun i σ H' => ∃ v4 v5 v6 : Option V, σ = [some (.ref d), some (.ref r), some (.int (n : Nat)), some (.ref D), v4, v5, v6] ∧ Same H H' ∧ H' D = some (.lst (vi ((walked n (row.map (look es))).take i))))
      ⟨none, none, none, rfl, s1, hD⟩ ?_ ?_
    · rintro i σ H2 hi ⟨v4, v5, v6, rfl, s2, hD2⟩
      walk_at "go"
      have e00 : (0 : Int) + (i : Nat) = (i : Nat) := by omega
      rw [e00]
      refine ⟨r, rfl, ⟨_, same_l s2 hrow⟩, ?_⟩
      refine for_list (K := K) (a := r) (xs := row.map V.str) (fun j σ H' => ∃ v6 : Option V, σ = [some (.ref d), some (.ref r), some (.int (n : Nat)), some (.ref D), some (.int (i : Nat)), some (.int ((((row.take j).map (look es)).foldl (fun x b => b.getD x 0) i : Nat) : Int)), v6] ∧ H' = H2)
        ⟨v6, rfl, rfl⟩ (fun j σ H' _ ⟨_, _, e⟩ => by rw [e]; exact same_l s2 hrow) ?_ ?_
      · rintro j y σ H' hy ⟨v6, rfl, rfl⟩
        rw [List.getElem?_map] at hy
        obtain ⟨x, ex, rfl⟩ := Option.map_eq_some_iff.mp hy
        obtain ⟨hj, rfl⟩ := List.getElem?_eq_some_iff.mp ex
        walk_at "go"
        obtain ⟨⟨q, a⟩, e⟩ := Option.isSome_iff_exists.mp (hal row[j] (List.getElem_mem hj))
        refine a_dgetS (.inl (s2 _ _ hm.at_)) (v := .ref q) (by rw [val_mkv, e]; rfl) ?_
        have hq := hm.lst _ (getE_mem e)
        have oq := ok _ (getE_mem e)
        have lt := fold_lt (all j) hi
        have e2 : look es row[j] = a := by unfold look; rw [e]; rfl
        walk_at "go"
        refine a_ixL (SqL.of (s2 _ _ hq)) (atI_of rfl (vi_at (a := a) (by have := oq.2; simp only at this; omega))) ?_
        refine ⟨some (.str row[j]), ?_, rfl⟩
        rw [← List.take_append_getElem hj, List.map_append, List.foldl_append]
        simp only [List.map_cons, List.map_nil, List.foldl_cons, List.foldl_nil, e2]
        rw [getD_lt (by have := oq.2; simp only at this; omega)]
        rfl
      · rintro σ H' ⟨v6, rfl, rfl⟩
        rw [List.length_map, List.take_length]
        walk_at "go"
        refine a_ty hD2 ?_
        walk_at "go"
        have lw : (walked n (row.map (look es))).length = n := by
          have := all row.length
          rw [List.take_length] at this
          exact (foldc this (OkImg.range n) List.length_range).2
        refine a_app hD2 (by rw [vi_len, List.length_take]; exact szl (by omega)) fun H3 b3 h3 => ?_
        refine ⟨_, _, _, rfl, fun c o e => b3 c o (ne_of_none e nD) (s2 c o e), ?_⟩
        rw [h3, vi_app, ← walked_get n _ hi, getD_lt (by omega), List.take_append_getElem]
    · rintro σ H2 ⟨v4, v5, v6, rfl, s2, hD2⟩
      walk_at "go"
      refine a_tup (.inl (SqL.of hD2)) fun t H3 s3 h3 => ?_
      have lw : (walked n (row.map (look es))).length = n := by
        have := all row.length
        rw [List.take_length] at this
        exact (foldc this (OkImg.range n) List.length_range).2
      rw [List.take_of_length_le (by omega)] at h3
      exact k t H3 (s2.trans s3) h3
theorem sc__law_told : FnScope ["_law_meaning", "_law_row_here", "_law_seen", "e"] ["_law_meaning", "_law_row_here"] (defScope s__law_told) := ⟨rfl, rfl, rfl, by decide +kernel, rfl, by decide +kernel, by decide +kernel⟩
theorem ok_told (F : FX K "_law_told" "_law_told" s__law_told [] [] f fd) (T : Txt K mg) (c_result : Cal P w K mg base "result" 8 (spRes K)) : FnOk P w K mg base (L2.CX P w) 10 f fd ["_law_meaning", "_law_row_here"] (spTold K) := by
  refine F.ok sc__law_told (fun vs H Q E h => ?_) (fun cdv A outer s H vs Q E hr h => ?_)
  · obtain ⟨d, r, es, row, rfl, _⟩ := h
    rfl
  · obtain ⟨d, r, es, row, rfl, hm, hrow, hlen, hok, k⟩ := h
    refine ⟨_, PSs.nox ((pss_cons (ps_set (i := 2) sc__law_told.nd rfl (Or.inl rfl) pe_non) 
      (pss_cons (ps_tr (K := K) rfl rfl rfl sc__law_told.nd takes0 (fun W pn xe tk po => (pss_one (ps_set (i := 2) sc__law_told.nd rfl (Or.inl rfl) (k_fld (K := K) rfl (pe_fS c_result hr (by decide) rfl (passS tk) (pa_cons (pv 0) (pa_cons (pv 1) pa_nil))))))) (HdsN.cons (i := 3) rfl rfl ⟨rfl, by decide, Or.inl T.g_OtherSize⟩ (fun a oe cls d pn hz hf => (pss_one (ps_set (i := 2) sc__law_told.nd rfl (Or.inl rfl) (pe_tup (pa_cons pe_str (pa_cons (k_xf (K := K) rfl T.x_OtherSize.xf T.nx_OtherSize_size hz hf (pv 3)) (pa_cons (pe_callB (k_isX (K := K) rfl hz hf) (by rfl) T.b_isinstance (by decide +kernel) (pa_cons (pv 3) (pa_cons (pe_gv (v := .ref (He.ga K "TriedError")) rfl ⟨_, T.g_TriedError, rfl⟩) pa_nil))) pa_nil))))))) (HdsN.cons (i := 3) rfl rfl ⟨rfl, by decide, Or.inl T.g_NoMeaning⟩ (fun a oe cls d pn hz hf => (pss_one (ps_set (i := 2) sc__law_told.nd rfl (Or.inl rfl) (pe_tup (pa_cons pe_str (pa_cons (k_xf (K := K) rfl T.x_NoMeaning.xf T.nx_NoMeaning_name hz hf (pv 3)) (pa_cons (pe_callB (k_isX (K := K) rfl hz hf) (by rfl) T.b_isinstance (by decide +kernel) (pa_cons (pv 3) (pa_cons (pe_gv (v := .ref (He.ga K "TriedError")) rfl ⟨_, T.g_TriedError, rfl⟩) pa_nil))) pa_nil))))))) HdsN.nil))) (pss_one (ps_ret (pv 2)))))), ?_⟩
    try dsimp only [cxOf]
    walk_at "go"
    refine ⟨d, r, es, row, rfl, hm, hrow, hlen, fun sz ho D H1 s1 hd => ?_, fun ho nm hn D H1 s1 hd => ?_, fun ho hn t H1 nt s1 ht => ?_⟩
    · refine a_catch T.xm_OtherSize_OtherSize fun a0 ha0 => ?_
      walk_at "go"
      refine g_xf1 rfl hd ?_
      walk_at "go"
      refine a_isX1 T.x_OtherSize hd T.ki_OtherSize_TriedError ?_
      walk_at "go"
      refine a_newT (by show 3 ≤ 100000; decide) fun q H2 nq s2 h2 => ?_
      walk_at "go"
      refine k q H2 (s1.trans s2) ?_
      unfold toldD
      rw [ho]
      exact .tup (SqT.of h2) (.cons (.str _ (by decide +kernel)) (.cons (.int _) (.cons (.bl _) .nil)))
    · refine a_skip T.xm_NoMeaning_OtherSize (a_catch T.xm_NoMeaning_NoMeaning fun a0 ha0 => ?_)
      walk_at "go"
      refine g_xf1 rfl hd ?_
      walk_at "go"
      refine a_isX1 T.x_NoMeaning hd T.ki_NoMeaning_TriedError ?_
      walk_at "go"
      refine a_newT (by show 3 ≤ 100000; decide) fun q H2 nq s2 h2 => ?_
      walk_at "go"
      refine k q H2 (s1.trans s2) ?_
      unfold toldD
      rw [ho, hn]
      exact .tup (SqT.of h2) (.cons (.str _ (by decide +kernel)) (.cons (.str _ (hok nm (List.mem_of_find?_eq_some hn))) (.cons (.bl _) .nil)))
    · obtain ⟨dx, u, h1, h2⟩ := id ht
      walk_at "go"
      refine a_fld h1 T.o_Table.cl T.n_Table_image (img_look _) ?_
      walk_at "go"
      refine k u H1 s1 ?_
      unfold toldD
      rw [ho, hn]
      exact .tup h2 (dqv _)
end

def spRefused : PySem.W.Frag → Sp := fun K vs H Q _ => ∃ (p sc d l r : Addr) (es : List Ent) (st : Str) (row : List Str) (n m : Nat), vs = [.ref p, .ref d, .ref l, .ref r, .int (n : Nat)] ∧ Pen H p sc (m + 3) ∧ Mean K H d es ∧
  H l = some (.lst ((es.map fun e => V.str e.1) ++ [V.str st])) ∧ l ≠ p ∧ H r = some (.lst (row.map V.str)) ∧ r ≠ p ∧ row.length ≤ 100 ∧ (∀ x ∈ row, x ∈ es.map (·.1)) ∧ st ∉ es.map (·.1) ∧ (∀ e ∈ es, PyData.strOk e.1 = true) ∧ PyData.strOk st = true ∧
  0 < es.length ∧ es.length ≤ 20 ∧ n ≤ 50 ∧ (∀ e ∈ es, e.2.2.length = n) ∧ ∀ H', But p H H' → Pen H' p sc m → Q (.bl true) H'
theorem oth_none {es : List Ent} {n : Nat} (h : ∀ e ∈ es, e.2.2.length = n) : oth es = none := by
  unfold oth
  rw [List.find?_eq_none]
  intro x hx
  have al : ∀ y ∈ szs es, y = n := fun y hy => by
    obtain ⟨e, he, rfl⟩ := List.mem_map.mp hy
    exact h e he
  have h1 := al x hx
  cases e : szs es with
  | nil => rw [e] at hx; cases hx
  | cons y l =>
    have := al y (by rw [e]; exact List.mem_cons_self ..)
    simp [h1, this]
theorem hd_size {es : List Ent} {n : Nat} (h : ∀ e ∈ es, e.2.2.length = n) (h0 : 0 < es.length) : (szs es).headD 0 = n := by
  cases es with
  | nil => cases h0
  | cons e es => exact h e (List.mem_cons_self ..)
theorem miss_st {es : List Ent} {st : Str} {l : List Str} (hs : st ∉ es.map (·.1)) (hl : ∀ x ∈ l, x ∈ es.map (·.1) ∨ x = st) (hm : st ∈ l) : miss es l = some st := by
  unfold miss
  cases e : l.find? fun n => (getE es n).isNone with
  | none =>
    have := List.find?_eq_none.mp e st hm
    rw [getE_none hs] at this
    exact absurd rfl this
  | some x =>
    have h1 := List.find?_some e
    rcases hl x (List.mem_of_find?_eq_some e) with h | h
    · have := getE_some h
      cases z : getE es x with
      | none => rw [z] at this; cases this
      | some p => rw [z] at h1; cases h1
    · rw [h]
theorem miss_none {es : List Ent} {l : List Str} (hl : ∀ x ∈ l, x ∈ es.map (·.1)) : miss es l = none := by
  unfold miss
  rw [List.find?_eq_none]
  intro x hx
  have := getE_some (hl x hx)
  cases z : getE es x with
  | none => rw [z] at this; cases this
  | some p => simp
theorem put_mkv {es : List Ent} {j : Nat} (hj : j < es.length) (nd : (es.map (·.1)).Nodup) (t : Addr) (a : List Nat) : putK (mkv es) (.inr es[j].1) (.ref t) = mkv (es.set j (es[j].1, t, a)) := by
  unfold putK
  rw [if_pos]
  · refine List.ext_getElem (by simp [mkv]) fun i h1 h2 => ?_
    have hi : i < es.length := by simpa [mkv] using h1
    simp only [mkv, List.getElem_map, List.getElem_set]
    by_cases e : j = i
    · subst e
      simp
    · rw [if_neg e]
      rw [if_neg]
      intro z
      have z := Sum.inr.inj z
      have := (List.getElem_inj (h₀ := by rw [List.length_map]; exact hi) (h₁ := by rw [List.length_map]; exact hj) nd).mp (by rw [List.getElem_map, List.getElem_map]; exact z)
      exact e this.symm
  · rw [List.any_eq_true]
    exact ⟨(.inr es[j].1, .ref es[j].2.1), List.mem_map_of_mem (List.getElem_mem hj), by simp⟩
theorem set_names {es : List Ent} {j : Nat} (hj : j < es.length) (x : Addr × List Nat) : (es.set j (es[j].1, x)).map (·.1) = es.map (·.1) := by
  refine List.ext_getElem (by simp) fun i h1 h2 => ?_
  simp only [List.getElem_map, List.getElem_set]
  split
  · rename_i e
    subst e
    rfl
  · rfl
theorem a_lenTab {K : PySem.W.Frag} {H : Hp} {r : Addr} {a : List Nat} {Q : VK} {E : XK} (h : TabAt K H r a) (hl : a.length ≤ 3300) (q : Q (.int (a.length : Nat)) H) : rOwnL (He.ga K "Table") (spTLen K) E [.ref r] H Q := by
  obtain ⟨dx, t, h1, h2⟩ := id h
  exact ⟨r, dx, _, rfl, h1, r, a, rfl, h, _, rfl, by omega, by omega, q⟩
section
variable {P : Program} {w : World} {K : PySem.W.Frag} {mg : Str → Option Value} {base : Heap} {f : Addr} {fd : FuncData}
theorem sc__law_refused : FnScope ["_law_pen", "_law_meaning", "_law_names_here", "_law_row_here", "_law_size", "_law_stranger", "_law_longer", "_law_wider", "_law_spot", "_law_due", "_law_name_here"] ["_law_pen", "_law_meaning", "_law_names_here", "_law_row_here", "_law_size"] (defScope s__law_refused) := ⟨rfl, rfl, rfl, by decide +kernel, rfl, by decide +kernel, by decide +kernel⟩
theorem ok_refused (F : FX K "_law_refused" "_law_refused" s__law_refused [] [] f fd) (T : Txt K mg) (c__law_draw : Cal P w K mg base "_law_draw" 2 spDraw) (c__law_told : Cal P w K mg base "_law_told" 10 (spTold K)) (c_Table_neutral : Sta P w K mg base (He.ga K "Table") "neutral" 6 (spTNeu K)) (c_Table_len : Met P w K mg base (He.ga K "Table") "__len__" 1 (spTLen K)) : FnOk P w K mg base (L2.CX P w) 12 f fd ["_law_pen", "_law_meaning", "_law_names_here", "_law_row_here", "_law_size"] (spRefused K) := by
  refine F.ok sc__law_refused (fun vs H Q E h => ?_) (fun cdv A outer s H vs Q E hr h => ?_)
  · obtain ⟨p, sc, d, l, r, es, st, row, n, m, rfl, _⟩ := h
    rfl
  · obtain ⟨p, sc, d, l, r, es, st, row, n, m, rfl, hp, hm, hl, nlp, hrow, nrp, rlen, rin, nst, sok, stok, e0, e1, n1, hsz, k⟩ := h
    refine ⟨_, PSs.nox ((pss_cons (ps_set (i := 5) sc__law_refused.nd rfl (Or.inl rfl) (pe_ix (k_ix (K := K) rfl) (pv 2) (pe_un un_neg pe_int) (fun _ _ => rfl))) 
      (pss_cons (ps_set (i := 6) sc__law_refused.nd rfl (Or.inl rfl) (pe_callTy (k_list (K := K) rfl) (by rfl) T.b_list (by decide +kernel) (pa_cons (pv 3) pa_nil))) 
      (pss_cons (ps_expr (k_bm (K := K) rfl PySem.F.plainAttrs_list PySem.F.slot_list_insert PySem.F.type_list_insert mt_ins (pv 6) (pa_cons (pe_f c__law_draw hr (by decide) rfl passL (pa_cons (pv 0) (pa_cons (pe_op (k_add (K := K) rfl) (pe_callB (k_len (K := K) rfl) (by rfl) T.b_len PySem.boot_len (pa_cons (pv 3) pa_nil)) pe_int) pa_nil))) (pa_cons (pv 5) pa_nil)))) 
      (pss_cons (ps_if (pt_cmpR (k_ne (K := K) rfl hr.units) (pe_f c__law_told hr (by decide) rfl passL (pa_cons (pv 1) (pa_cons (pe_op (k_add (K := K) rfl) (pv 6) (pe_lst (pa_cons (pv 5) pa_nil))) pa_nil))) (pe_tup (pa_cons pe_str (pa_cons (pv 5) (pa_cons pe_bl pa_nil)))) (nomark _)) (pss_one (ps_ret pe_bl)) pss_nil) 
      (pss_cons (ps_set (i := 7) sc__law_refused.nd rfl (Or.inl rfl) (pe_callTy call_dictDU (by rfl) T.b_dict (by decide +kernel) (pa_cons (pv 1) pa_nil))) 
      (pss_cons (ps_set (i := 8) sc__law_refused.nd rfl (Or.inl rfl) (pe_ix (k_ix (K := K) rfl) (pv 2) (pe_f c__law_draw hr (by decide) rfl passL (pa_cons (pv 0) (pa_cons (pe_op op_sub (pe_callB (k_len (K := K) rfl) (by rfl) T.b_len PySem.boot_len (pa_cons (pv 2) pa_nil)) pe_int) pa_nil))) (fun _ _ => rfl))) 
      (pss_cons (ps_dput (hu_of hr) (pv 7) (pv 8) (pe_s c_Table_neutral hr (by decide) passL (pe_gv (v := .ref (He.ga K "Table")) rfl ⟨_, T.g_Table, rfl⟩) (pa_cons (pe_op (k_add (K := K) rfl) (pe_op (k_add (K := K) rfl) (pv 4) pe_int) (pe_f c__law_draw hr (by decide) rfl passL (pa_cons (pv 0) (pa_cons pe_int pa_nil)))) pa_nil)) rfl) 
      (pss_cons (ps_set (i := 9) sc__law_refused.nd rfl (Or.inl rfl) pe_non) 
      (pss_cons (ps_for PassesOwn.never rfl (k_iL (K := K) rfl (pe_slice (k_sl (K := K) rfl) (pv 2) po_none (po_some (pe_un un_neg pe_int)))) (pg_name (i := 10) sc__law_refused.nd rfl (Or.inl rfl)) (pss_one (ps_if (PW.pt (pw_and (pt_cmpR op_isNU (pv 9) pe_non (nomark _)) (pw_and1 (pt_cmpR (k_ne (K := K) rfl hr.units) (pe_callB (call_lenO c_Table_len hr (by decide) passL) (by rfl) T.b_len PySem.boot_len (pa_cons (pe_dget (hu_of hr) (pv 7) (pv 10) (fun _ _ => rfl)) pa_nil)) (pe_callB (call_lenO c_Table_len hr (by decide) passL) (by rfl) T.b_len PySem.boot_len (pa_cons (pe_dget (hu_of hr) (pv 7) (pe_ix (k_ix (K := K) rfl) (pv 2) pe_int (fun _ _ => rfl)) (fun _ _ => rfl)) pa_nil)) (nomark _))))) (pss_one (ps_set (i := 9) sc__law_refused.nd rfl (Or.inl rfl) (pe_tup (pa_cons pe_str (pa_cons (pe_callB (call_lenO c_Table_len hr (by decide) passL) (by rfl) T.b_len PySem.boot_len (pa_cons (pe_dget (hu_of hr) (pv 7) (pv 10) (fun _ _ => rfl)) pa_nil)) (pa_cons pe_bl pa_nil)))))) pss_nil))) 
      (pss_cons (ps_if (pt_cmpR op_isNU (pv 9) pe_non (nomark _)) (pss_one (ps_ret (pe_cmpR (k_eq (K := K) rfl hr.units) (pe_f c__law_told hr (by decide) rfl passL (pa_cons (pv 7) (pa_cons (pe_lst pa_nil) pa_nil))) (pe_tupRg rfl rfl T.b_tuple (prg_1 rfl T.b_range (pe_callB (call_lenO c_Table_len hr (by decide) passL) (by rfl) T.b_len PySem.boot_len (pa_cons (pe_dget (hu_of hr) (pv 7) (pv 8) (fun _ _ => rfl)) pa_nil)))) (nomark _)))) pss_nil) (pss_one (ps_ret (pe_and (pe_cmpR (k_eq (K := K) rfl hr.units) (pe_f c__law_told hr (by decide) rfl passL (pa_cons (pv 7) (pa_cons (pv 6) pa_nil))) (pv 9) (nomark _)) (pe_one (pe_cmpR (k_eq (K := K) rfl hr.units) (pe_f c__law_told hr (by decide) rfl passL (pa_cons (pv 7) (pa_cons (pe_lst pa_nil) pa_nil))) (pv 9) (nomark _))))))))))))))))), ?_⟩
    try dsimp only [cxOf]
    have hO := oth_none hsz
    walk_at "go"
    refine a_ixL (SqL.of hl) (atI_last _ _) ?_
    walk_at "go"
    refine a_list (.inl (SqL.of hrow)) fun g H1 ng s1 hg => ?_
    walk_at "go"
    refine a_ty hg ?_
    walk_at "go"
    refine a_lenL (SqL.of (s1 _ _ hrow)) ?_
    walk_at "go"
    rw [List.length_map]
    refine ⟨p, sc, _, m + 2, rfl, hp.same s1, by omega, by omega, fun r1 H2 q0 q1 b2 hp2 => ?_⟩
    obtain ⟨j, rfl⟩ : ∃ j : Nat, r1 = (j : Int) := ⟨r1.toNat, by omega⟩
    have ngp := Ne.symm (hp.ne ng).1
    walk_at "go"
    refine a_ins (b2 _ _ ngp hg) (by rw [List.length_map]; omega) (by omega) fun H3 b3 h3 => ?_
    have hp3 := hp2.but b3 (Ne.symm ngp) (Ne.symm (Ne.symm (hp.ne ng).2))
    obtain ⟨lg, elg, llen, lin, lst⟩ : ∃ lg : List Str, (row.map V.str).take j ++ [V.str st] ++ (row.map V.str).drop j = lg.map V.str ∧ lg.length ≤ 101 ∧ (∀ x ∈ lg, x ∈ es.map (·.1) ∨ x = st) ∧ st ∈ lg := by
      refine ⟨row.take j ++ [st] ++ row.drop j, by simp, by simp; omega, fun x hx => ?_, by simp⟩
      rcases List.mem_append.mp hx with hx | hx
      · rcases List.mem_append.mp hx with hx | hx
        · exact .inl (rin x (List.mem_of_mem_take hx))
        · exact .inr (List.mem_singleton.mp hx)
      · exact .inl (rin x (List.mem_of_mem_drop hx))
    rw [elg] at h3
    have lok : ∀ x ∈ lg, PyData.strOk x = true := fun x hx => by
      rcases lin x hx with h | rfl
      · obtain ⟨e, he, rfl⟩ := List.mem_map.mp h
        exact sok e he
      · exact stok
    obtain ⟨⟨px, hpx⟩, _⟩ := (hp.same s1).at_
    have hm3 : Mean K H3 d es := ((hm.same s1).bl hpx b2).bl (b2 _ _ ngp hg) b3
    have bb : But p H H3 := fun a o na e => b3 a o (ne_of_none e ng) (b2 a o na (s1 a o e))
    have hl3 := bb _ _ nlp hl
    walk_at "go"
    refine a_newL (by show 1 ≤ 100000; decide) fun l1 H4 nl1 s4 h4 => ?_
    walk_at "go"
    refine a_cat (s4 _ _ h3) h4 (by simp; omega) fun l2 H5 nl2 s5 h5 => ?_
    have el2 : lg.map V.str ++ [V.str st] = (lg ++ [st]).map V.str := by simp
    rw [el2] at h5
    walk_at "go"
    refine ⟨d, l2, es, lg ++ [st], rfl, hm3.same (s4.trans s5), .inl (SqL.of h5), by rw [List.length_append]; show _ + 1 ≤ 1000; omega, fun x hx => ?_, fun t H6 s6 dq6 => ?_⟩
    · rcases List.mem_append.mp hx with hx | hx
      · exact lok x hx
      · rw [List.mem_singleton.mp hx]
        exact stok
    have ed : toldD es (lg ++ [st]) = .tuple [.str "none", .str st, .bool true] := by
      unfold toldD
      rw [hO, miss_st nst (fun x hx => ?_) (List.mem_append_left _ lst)]
      rcases List.mem_append.mp hx with hx | hx
      · exact lin x hx
      · exact .inr (List.mem_singleton.mp hx)
    rw [ed] at dq6
    walk_at "go"
    refine a_newT (by show 3 ≤ 100000; decide) fun t2 H7 nt2 s7 h7 => ?_
    refine a_neQ (dq6.same s7) (.tup (SqT.of h7) (.cons (.str _ (by decide +kernel)) (.cons (.str _ stok) (.cons (.bl _) .nil)))) ?_
    walk_at "go"
    refine a_F rfl ?_
    have s37 : Same H3 H7 := s4.trans (s5.trans (s6.trans s7))
    walk_at "go"
    refine a_dictD (.inl (s37 _ _ hm3.at_)) fun wd H8 nwd s8 h8 => ?_
    have s38 := s37.trans s8
    walk_at "go"
    refine a_lenL (SqL.of (s38 _ _ hl3)) ?_
    walk_at "go"
    rw [List.length_append, List.length_map]
    refine ⟨p, sc, _, m + 1, rfl, hp3.same s38, by simp; omega, by simp; omega, fun r2 H9 q2 q3 b9 hp9 => ?_⟩
    obtain ⟨i, rfl⟩ : ∃ i : Nat, r2 = (i : Int) := ⟨r2.toNat, by omega⟩
    have hi : i < es.length := by simp at q3; omega
    have hl9 := b9 _ _ nlp (s38 _ _ hl3)
    have nwp : wd ≠ p := Ne.symm ((hp3.same s37).ne nwd).1
    have hw9 := b9 _ _ nwp h8
    obtain ⟨⟨px8, hpx8⟩, _⟩ := (hp3.same s38).at_
    have hm9 : Mean K H9 d es := (hm3.same s38).bl hpx8 b9
    walk_at "go"
    refine a_ixL (SqL.of hl9) (atI_of (j := i) (z := V.str es[i].1) rfl (by rw [List.getElem?_append_left (by rw [List.length_map]; exact hi), List.getElem?_map, List.getElem?_eq_getElem hi]; rfl)) ?_
    walk_at "go"
    refine ⟨rfl, ?_⟩
    walk_at "go"
    refine ⟨p, sc, 3, m, rfl, hp9, by omega, by omega, fun r3 H10 q4 q5 b10 hp10 => ?_⟩
    obtain ⟨c, rfl⟩ : ∃ c : Nat, r3 = (c : Int) := ⟨r3.toNat, by omega⟩
    obtain ⟨⟨px9, hpx9⟩, _⟩ := hp9.at_
    have hm10 : Mean K H10 d es := hm9.bl hpx9 b10
    have hw10 := b10 _ _ nwp hw9
    have hl10 := b10 _ _ nlp hl9
    walk_at "go"
    refine ⟨n + 1 + c, by simp, by omega, fun tb H11 ntb s11 htb => ?_⟩
    have hm11 := hm10.same s11
    walk_at "go"
    refine a_dputS (s11 _ _ hw10) (by rw [mkv_len]; omega) fun H12 b12 h12 => ?_
    rw [put_mkv hi hm.nd tb (List.range (n + 1 + c))] at h12
    have en := set_names hi (tb, List.range (n + 1 + c))
    generalize ees : es.set i (es[i].1, tb, List.range (n + 1 + c)) = es' at h12 en
    have el' : es'.length = es.length := by rw [← ees, List.length_set]
    have hm12 : Mean K H12 wd es' := by
      refine ⟨h12, fun e he => ?_, by have := hm.few; omega, by rw [en]; exact hm.nd⟩
      rw [← ees] at he
      rcases List.mem_or_eq_of_mem_set he with he | rfl
      · exact ⟨(hm11.tab e he).1.bd (s11 _ _ hw10) (.inl ⟨_, rfl⟩) b12, (hm11.tab e he).2⟩
      · exact ⟨htb.bd (s11 _ _ hw10) (.inl ⟨_, rfl⟩) b12, OkImg.range _, by simp only [List.length_range]; omega⟩
    have hl12 : H12 l = some (.lst ((es.map fun e => V.str e.1) ++ [V.str st])) := b12 _ _ (ne_of (s11 _ _ hl10) (s11 _ _ hw10) (by intro z; cases z)) (s11 _ _ hl10)
    have hg12 : H12 g = some (.lst (lg.map V.str)) := by
      have := s11 _ _ (b10 _ _ ngp (b9 _ _ ngp (s38 _ _ h3)))
      exact b12 _ _ (ne_of this (s11 _ _ hw10) (by intro z; cases z)) this
    have hp12 : Pen H12 p sc m := by
      refine (hp10.same s11).mv fun a o ha e => b12 a o (fun z => ?_) e
      subst z
      rw [s11 _ _ hw10] at e
      cases e
      obtain ⟨⟨x1, y1⟩, x2, y2⟩ := (hp10.same s11).at_
      rcases ha with rfl | rfl
      · rw [s11 _ _ hw10] at y1; cases y1
      · rw [s11 _ _ hw10] at y2; cases y2
    have bb12 : But p H H12 := fun a o na e => by
      have h1 := s11 _ _ (b10 a o na (b9 a o na (s38 a o (bb a o na e))))
      refine b12 a o (fun z => ?_) h1
      subst z
      have := s37 _ _ (bb _ _ na e)
      rw [nwd] at this
      cases this
    have enV : (es.map fun e => V.str e.1) = es'.map fun e => V.str e.1 := by
      have := congrArg (List.map V.str) en
      rw [List.map_map, List.map_map] at this
      exact this.symm
    rw [enV] at hl12
    have e0' : 0 < es'.length := by omega
    have spt : ∃ hi' : i < es'.length, es[i].1 = es'[i].1 := by
      refine ⟨by omega, ?_⟩
      subst ees
      simp
    walk_at "go"
    refine a_slL (SqL.of hl12) fun l5 H13 nl5 s13 h13 => ?_
    rw [cut_last] at h13
    refine ⟨l5, rfl, ⟨_, SqL.of h13⟩, ?_⟩
    refine for_list (K := K) (a := l5) (xs := es'.map fun e => V.str e.1) (fun j σ H' => ∃ (vd : V) (v10 : Option V), σ = [some (.ref p), some (.ref d), some (.ref l), some (.ref r), some (.int (n : Nat)), some (.str st), some (.ref g), some (.ref wd), some (.str es[i].1), some vd, v10] ∧ Same H13 H' ∧
        ((vd = .non ∧ ∀ k, k < j → k < (szs es').length → (szs es').getD k 0 = (szs es').headD 0) ∨ ∃ q s, vd = .ref q ∧ H' q = some (.tup [.str "size", .int (s : Nat), .bl true]) ∧ oth es' = some s))
      ⟨.non, none, rfl, Same.refl _, .inl ⟨rfl, fun k hk => by omega⟩⟩ (fun j σ H' _ ⟨_, _, _, s', _⟩ => same_l s' (SqL.of h13)) ?_ ?_
    · rintro j y σ H' hy ⟨vd, v10, rfl, s', hv⟩
      rw [List.getElem?_map] at hy
      obtain ⟨x, ex, rfl⟩ := Option.map_eq_some_iff.mp hy
      obtain ⟨hj, rfl⟩ := List.getElem?_eq_some_iff.mp ex
      have hm' := hm12.same (s13.trans s')
      have hl' := s' _ _ (s13 _ _ hl12)
      show tIfS _ _ _ _ _ _
      walk_at "go"
      rcases hv with ⟨rfl, hal⟩ | ⟨q, sz, rfl, hq, ho⟩
      · refine a_isNt ?_
        walk_at "go"
        refine a_T rfl ?_
        walk_at "go"
        refine a_dgetS (.inl hm'.at_) (v := .ref es'[j].2.1) (by rw [val_mkv, getE_nd hm'.nd (List.getElem_mem hj)]; rfl) ?_
        walk_at "go"
        have tj := hm'.tab es'[j] (List.getElem_mem hj)
        have t0 := hm'.tab es'[0] (List.getElem_mem e0')
        refine a_lenTab tj.1 (by have := tj.2.2; omega) ?_
        walk_at "go"
        refine a_ixL (SqL.of hl') (atI_of (j := 0) (z := V.str es'[0].1) rfl (by rw [List.getElem?_append_left (by rw [List.length_map]; exact e0'), List.getElem?_map, List.getElem?_eq_getElem e0']; rfl)) ?_
        walk_at "go"
        refine a_dgetS (.inl hm'.at_) (v := .ref es'[0].2.1) (by rw [val_mkv, getE_nd hm'.nd (List.getElem_mem e0')]; rfl) ?_
        walk_at "go"
        refine a_lenTab t0.1 (by have := t0.2.2; omega) ?_
        walk_at "go"
        have ej : (szs es').getD j 0 = es'[j].2.2.length := by
          unfold szs
          rw [getD_lt (by rw [List.length_map]; exact hj), List.getElem_map]
        have eh : (szs es').headD 0 = es'[0].2.2.length := by
          cases es' with
          | nil => cases e0'
          | cons x l => rfl
        refine a_nite (fun hne => ?_) (fun heq => ?_)
        · walk_at "go"
          refine a_dgetS (.inl hm'.at_) (v := .ref es'[j].2.1) (by rw [val_mkv, getE_nd hm'.nd (List.getElem_mem hj)]; rfl) ?_
          walk_at "go"
          refine a_lenTab tj.1 (by have := tj.2.2; omega) ?_
          walk_at "go"
          refine a_newT (by show 3 ≤ 100000; decide) fun q H14 nq s14 h14 => ?_
          refine ⟨_, _, rfl, s'.trans s14, .inr ⟨q, _, rfl, h14, ?_⟩⟩
          unfold oth
          rw [List.find?_eq_some_iff_getElem]
          refine ⟨by rw [eh]; simpa using fun z => hne (by rw [z]), j, by rw [szs_len]; exact hj, by simp [szs], fun k hk => ?_⟩
          have := hal k hk (by rw [szs_len]; omega)
          rw [getD_lt (by rw [szs_len]; omega)] at this
          simp [this]
        · walk_at "go"
          refine ⟨_, _, rfl, s', .inl ⟨rfl, fun k hk hl => ?_⟩⟩
          by_cases e : k = j
          · subst e
            rw [ej, eh]
            have := V.int.inj heq
            omega
          · exact hal k (by omega) hl
      · refine a_isNf (by intro z; cases z) ?_
        walk_at "go"
        refine a_F rfl ?_
        walk_at "go"
        exact ⟨_, _, rfl, s', .inr ⟨q, sz, rfl, hq, ho⟩⟩
    · rintro σ H14 ⟨vd, v10, rfl, s14, hv⟩
      have hm14 := hm12.same (s13.trans s14)
      have fin : ∀ H', Same H14 H' → Q (.bl true) H' := fun H' s' => k H' (bb12.trans (But.of (s13.trans (s14.trans s')))) (hp12.same (s13.trans (s14.trans s')))
      walk_at "go"
      rcases hv with ⟨rfl, hal⟩ | ⟨q, sz, rfl, hq, ho⟩
      · refine a_isNt ?_
        walk_at "go"
        refine a_T rfl ?_
        have hO' : oth es' = none := by
          unfold oth
          rw [List.find?_eq_none]
          intro x hx
          obtain ⟨j, hj, rfl⟩ := List.getElem_of_mem hx
          have := hal j (by rw [List.length_map, ← szs_len]; exact hj) hj
          rw [getD_lt hj] at this
          simp [this]
        walk_at "go"
        refine a_newL (by show 0 ≤ 100000; decide) fun l6 H15 nl6 s15 h15 => ?_
        walk_at "go"
        refine ⟨wd, l6, es', [], rfl, hm14.same s15, .inl (SqL.of h15), by show 0 ≤ 1000; omega, (fun x hx => by cases hx), fun t5 H16 s16 d16 => ?_⟩
        have ed : toldD es' [] = .tuple (di (List.range ((szs es').headD 0))) := by
          unfold toldD
          rw [hO']
          rfl
        rw [ed] at d16
        obtain ⟨hi', es1⟩ := spt
        have hm16 := hm14.same (s15.trans s16)
        have ti := hm16.tab es'[i] (List.getElem_mem hi')
        walk_at "go"
        refine a_dgetS (.inl hm16.at_) (v := .ref es'[i].2.1) (by rw [es1, val_mkv, getE_nd hm16.nd (List.getElem_mem hi')]; rfl) ?_
        walk_at "go"
        refine a_lenTab ti.1 (by have := ti.2.2; omega) ?_
        walk_at "go"
        rw [oth_all hO' _ (List.getElem_mem hi')]
        have lt : (szs es').headD 0 ≤ 100 := by
          rw [← oth_all hO' _ (List.getElem_mem hi')]
          exact ti.2.2
        refine a_trg (by omega) (by omega) fun t6 H17 nt6 s17 h17 => ?_
        rw [Int.toNat_natCast] at h17
        refine a_eqQ (d16.same s17) (.tup (SqT.of h17) (dqv (List.range ((szs es').headD 0)))) ?_
        exact fin H17 (s15.trans (s16.trans s17))
      · refine a_isNf (by intro z; cases z) ?_
        walk_at "go"
        refine a_F rfl ?_
        walk_at "go"
        have hg14 := s14 _ _ (s13 _ _ hg12)
        refine ⟨wd, g, es', lg, rfl, hm14, .inl (SqL.of hg14), by omega, lok, fun t5 H15 s15 d15 => ?_⟩
        have ed : ∀ row, toldD es' row = .tuple [.str "size", .int (sz : Nat), .bool true] := fun row => by
          unfold toldD
          rw [ho]
        rw [ed] at d15
        walk_at "go"
        have dd : Dq K H14 4 (.ref q) (.tuple [.str "size", .int (sz : Nat), .bool true]) := .tup (SqT.of hq) (.cons (.str _ (by decide +kernel)) (.cons (.int _) (.cons (.bl _) .nil)))
        refine a_eqQ d15 (dd.same s15) ?_
        refine ⟨true, rfl, ?_⟩
        refine a_T rfl ?_
        walk_at "go"
        refine a_newL (by show 0 ≤ 100000; decide) fun l6 H16 nl6 s16 h16 => ?_
        walk_at "go"
        refine ⟨wd, l6, es', [], rfl, hm14.same (s15.trans s16), .inl (SqL.of h16), by show 0 ≤ 1000; omega, (fun x hx => by cases hx), fun t6 H17 s17 d17 => ?_⟩
        rw [ed] at d17
        walk_at "go"
        refine a_eqQ d17 (dd.same (s15.trans (s16.trans s17))) ?_
        exact fin H17 (s15.trans (s16.trans s17))
end

def prj (e : Ent) : Str × List Nat := (e.1, e.2.2)
theorem look_prj (es : List Ent) (n : Str) : look es n = (((es.map prj).find? fun q => decide (q.1 = n)).map (·.2)).getD [] := by
  unfold look getE
  rw [List.find?_map, Option.map_map, Option.map_map]
  rfl
theorem look_eq {es es' : List Ent} (h : es.map prj = es'.map prj) : look es = look es' := funext fun n => by rw [look_prj, look_prj, h]
structure Sit (K : PySem.W.Frag) (H : Hp) (p sc : Addr) (m : Nat) (d1 d2 : Addr) (es1 es2 : List Ent) (n : Nat) : Prop where
  pen : Pen H p sc m
  im : Imgs H d1 es1
  me : Mean K H d2 es2
  nep : ∀ e ∈ es1, e.2.1 ≠ p
  ndd : d1 ≠ d2
  eqs : es1.map prj = es2.map prj
  szz : ∀ e ∈ es1, OkImg e.2.2 ∧ e.2.2.length = n
section
variable {K : PySem.W.Frag} {H H1 : Hp} {p sc : Addr} {m : Nat} {d1 d2 : Addr} {es1 es2 : List Ent} {n : Nat}
theorem Sit.same (h : Sit K H p sc m d1 d2 es1 es2 n) (s : Same H H1) : Sit K H1 p sc m d1 d2 es1 es2 n := ⟨h.pen.same s, h.im.same s, h.me.same s, h.nep, h.ndd, h.eqs, h.szz⟩
theorem Sit.drew {m' : Nat} (h : Sit K H p sc m d1 d2 es1 es2 n) (b : But p H H1) (hp : Pen H1 p sc m') : Sit K H1 p sc m' d1 d2 es1 es2 n := by
  obtain ⟨⟨x, hx⟩, _⟩ := h.pen.at_
  exact ⟨hp, ⟨b _ _ (ne_of h.im.at_ hx (by intro z; cases z)) h.im.at_, fun e he => b _ _ (h.nep e he) (h.im.lst e he)⟩, h.me.bl hx b, h.nep, h.ndd, h.eqs, h.szz⟩
theorem Sit.le {m' : Nat} (h : Sit K H p sc m d1 d2 es1 es2 n) (l : m' ≤ m) : Sit K H p sc m' d1 d2 es1 es2 n := ⟨h.pen.le l, h.im, h.me, h.nep, h.ndd, h.eqs, h.szz⟩
theorem Sit.names (h : Sit K H p sc m d1 d2 es1 es2 n) : es1.map (·.1) = es2.map (·.1) := by
  have := congrArg (List.map Prod.fst) h.eqs
  rw [List.map_map, List.map_map] at this
  exact this
theorem Sit.sz2 (h : Sit K H p sc m d1 d2 es1 es2 n) : ∀ e ∈ es2, OkImg e.2.2 ∧ e.2.2.length = n := fun e he => by
  have : prj e ∈ es1.map prj := by rw [h.eqs]; exact List.mem_map_of_mem he
  obtain ⟨e', he', z⟩ := List.mem_map.mp this
  have := h.szz e' he'
  have z2 := congrArg Prod.snd z
  have z2 : e'.2.2 = e.2.2 := z2
  rwa [z2] at this
end
theorem dqs {K : PySem.W.Frag} {H : Hp} {n : Nat} : ∀ ss : List Str, (∀ x ∈ ss, PyData.strOk x = true) → DqA K H (n + 1) (ss.map V.str) (ss.map PyData.str)
  | [], _ => .nil
  | x :: ss, h => .cons (.str x (h x (List.mem_cons_self ..))) (dqs ss fun y hy => h y (List.mem_cons_of_mem _ hy))
def spLaw (K : PySem.W.Frag) : Sp := fun vs H Q _ => ∃ (a : Addr) (ns : List Int), vs = [.ref a] ∧ SqL K H a (ns.map V.int) ∧ ns.length ≤ 63 ∧ ∀ H', Q (.bl true) H'
section
variable {P : Program} {w : World} {K : PySem.W.Frag} {mg : Str → Option Value} {base : Heap} {f : Addr} {fd : FuncData}
theorem sc_law : FnScope ["_law_script", "_law_pen", "_law_turn", "_law_many", "_law_size", "_law_names_here", "_law_images", "_law_meaning", "_law_name_here", "_law_row_here", "_law_other"] ["_law_script"] (defScope s_law) := ⟨rfl, rfl, rfl, by decide +kernel, rfl, by decide +kernel, by decide +kernel⟩
theorem ok_law (F : FX K "law" "law" s_law [] [] f fd) (T : Txt K mg) (c__law_start : Cal P w K mg base "_law_start" 2 (spStart K)) (c__law_draw : Cal P w K mg base "_law_draw" 2 spDraw)
    (c__law_image : Cal P w K mg base "_law_image" 4 spImage) (c__law_names : Cal P w K mg base "_law_names" 4 spNames) (c__law_row : Cal P w K mg base "_law_row" 4 spRow) (c__law_walked : Cal P w K mg base "_law_walked" 2 (spWalked K)) (c__law_told : Cal P w K mg base "_law_told" 10 (spTold K))
    (c__law_refused : Cal P w K mg base "_law_refused" 12 (spRefused K)) (c_result : Cal P w K mg base "result" 8 (spRes K)) (c_Table_init : Mak P w K mg base "Table" (He.ga K "Table") 3 (spTInit K)) (c_Table_mul : Met P w K mg base (He.ga K "Table") "__mul__" 6 (spTMul K)) (c_Table_eq : Met P w K mg base (He.ga K "Table") "__eq__" 2 (spTEq K)) : FnOk P w K mg base (L2.CX P w) 14 f fd ["_law_script"] (spLaw K) := by
  refine F.ok sc_law (fun vs H Q E h => ?_) (fun cdv A outer s H vs Q E hr h => ?_)
  · obtain ⟨a, ns, rfl, _⟩ := h
    rfl
  · obtain ⟨sa, zs, rfl, hs, hlen, k⟩ := h
    refine ⟨_, PSs.nox ((pss_cons (ps_set (i := 1) sc_law.nd rfl (Or.inl rfl) (pe_f c__law_start hr (by decide) rfl passL (pa_cons (pv 0) pa_nil))) 
      (pss_cons (ps_for PassesOwn.never rfl (pi_range1 (by rfl) T.b_range (pa_cons pe_int pa_nil)) (pg_name (i := 2) sc_law.nd rfl (Or.inl rfl)) (pss_cons (ps_set (i := 3) sc_law.nd rfl (Or.inl rfl) (pe_op (k_add (K := K) rfl) pe_int (pe_f c__law_draw hr (by decide) rfl passL (pa_cons (pv 1) (pa_cons pe_int pa_nil))))) 
      (pss_cons (ps_set (i := 4) sc_law.nd rfl (Or.inl rfl) (pe_f c__law_draw hr (by decide) rfl passL (pa_cons (pv 1) (pa_cons pe_int pa_nil)))) 
      (pss_cons (ps_set (i := 5) sc_law.nd rfl (Or.inl rfl) (pe_f c__law_names hr (by decide) rfl passL (pa_cons (pv 1) (pa_cons (pe_op (k_add (K := K) rfl) (pv 3) pe_int) pa_nil)))) 
      (pss_cons (ps_asg (pe_tup (pa_cons pe_dnewK (pa_cons pe_dnewK pa_nil))) (k_gtup (K := K) (n := 2) rfl (by rfl) (pgs_cons (pg_name (i := 6) sc_law.nd rfl (Or.inr rfl)) (pgs_cons (pg_name (i := 7) sc_law.nd rfl (Or.inr rfl)) pgs_nil)))) 
      (pss_cons (ps_for PassesOwn.never rfl (k_iL (K := K) rfl (pe_slice (k_sl (K := K) rfl) (pv 5) po_none (po_some (pe_un un_neg pe_int)))) (pg_name (i := 8) sc_law.nd rfl (Or.inl rfl)) (pss_cons (ps_dput (hu_of hr) (pv 6) (pv 8) (pe_f c__law_image hr (by decide) rfl passL (pa_cons (pv 1) (pa_cons (pv 4) pa_nil))) rfl) (pss_one (ps_dput (hu_of hr) (pv 7) (pv 8) (pe_k c_Table_init hr (by decide) rfl passL (pa_cons (pe_dget (hu_of hr) (pv 6) (pv 8) (fun _ _ => rfl)) pa_nil)) rfl)))) 
      (pss_cons (ps_par (i := 9) (j := 10) (by rfl) sc_law.nd rfl rfl (by decide) rfl rfl (pa_cons (pe_f c__law_row hr (by decide) rfl passL (pa_cons (pv 1) (pa_cons (pe_slice (k_sl (K := K) rfl) (pv 5) po_none (po_some (pe_un un_neg pe_int))) (pa_cons pe_int pa_nil)))) (pa_cons (pe_f c__law_row hr (by decide) rfl passL (pa_cons (pv 1) (pa_cons (pe_slice (k_sl (K := K) rfl) (pv 5) po_none (po_some (pe_un un_neg pe_int))) (pa_cons pe_int pa_nil)))) pa_nil)) (by rfl)) 
      (pss_cons (ps_if (pt_cmpR (k_ne (K := K) rfl hr.units) (pe_f c__law_told hr (by decide) rfl passL (pa_cons (pv 7) (pa_cons (pv 9) pa_nil))) (pe_f c__law_walked hr (by decide) rfl passL (pa_cons (pv 6) (pa_cons (pv 9) (pa_cons (pv 4) pa_nil)))) (nomark _)) (pss_one (ps_ret pe_bl)) pss_nil) 
      (pss_cons (ps_if (pt_not (pt_cmpR (op_eqO c_Table_eq hr (by decide) passL) (pe_f c_result hr (by decide) rfl passL (pa_cons (pv 7) (pa_cons (pe_op (k_add (K := K) rfl) (pv 9) (pv 10)) pa_nil))) (pe_op (op_mulO T.o_Table c_Table_mul hr (by decide) passL) (pe_f c_result hr (by decide) rfl passL (pa_cons (pv 7) (pa_cons (pv 9) pa_nil))) (pe_f c_result hr (by decide) rfl passL (pa_cons (pv 7) (pa_cons (pe_callTy (k_tuple (K := K) rfl) (by rfl) T.b_tuple (by decide +kernel) (pa_cons (pv 10) pa_nil)) pa_nil)))) (nomark _))) (pss_one (ps_ret pe_bl)) pss_nil) 
      (pss_cons (ps_if (PW.pt (pw_or (pt_not (k_tr (K := K) rfl (pe_callB (k_isi (K := K) rfl) (by rfl) T.b_isinstance (by decide +kernel) (pa_cons (pe_f c_result hr (by decide) rfl passL (pa_cons (pv 7) (pa_cons (pe_lst pa_nil) pa_nil))) (pa_cons (pe_gv (v := .ref (He.ga K "Table")) rfl ⟨_, T.g_Table, rfl⟩) pa_nil))))) (pw_or1 (pt_cmpR (k_ne (K := K) rfl hr.units) (pe_f c__law_told hr (by decide) rfl passL (pa_cons (pv 7) (pa_cons (pe_lst pa_nil) pa_nil))) (pe_tupRg rfl rfl T.b_tuple (prg_1 rfl T.b_range (pv 4))) (nomark _))))) (pss_one (ps_ret pe_bl)) pss_nil) 
      (pss_cons (ps_if (PW.pt (pw_or (pt_not (k_tr (K := K) rfl (pe_f c__law_refused hr (by decide) rfl passL (pa_cons (pv 1) (pa_cons (pv 7) (pa_cons (pv 5) (pa_cons (pv 9) (pa_cons (pv 4) pa_nil)))))))) (pw_or1 (pt_cmpR (k_ne (K := K) rfl hr.units) (pe_callTy (call_listDU rfl) (by rfl) T.b_list (by decide +kernel) (pa_cons (pv 7) pa_nil)) (pe_slice (k_sl (K := K) rfl) (pv 5) po_none (po_some (pe_un un_neg pe_int))) (nomark _))))) (pss_one (ps_ret pe_bl)) pss_nil) (pss_one (ps_if (pt_cmpR (k_ne (K := K) rfl hr.units) (pe_lock (by exact (pe_lc (own := [("_law_name_here", 8)]) rfl sc_law.nd (pi_keys (pv 7)) (blkOk_by (own := [("_law_name_here", 8)]) (N := ["_law_script", "_law_pen", "_law_turn", "_law_many", "_law_size", "_law_names_here", "_law_images", "_law_meaning", "_law_name_here", "_law_row_here", "_law_other"]) (sc := defScope s_law) (by decide +kernel)) (fun _ _ _ _ _ => by exact (pg_name (i := 8) sc_law.nd rfl (Or.inl rfl))) (fun _ _ _ _ _ => by exact (pts_one (pt_cmpR (k_ne (K := K) rfl hr.units) (k_fld (K := K) rfl (pe_dget (hu_of hr) (pv 7) (pv 8) (fun _ _ => rfl))) (pe_callTy (k_tuple (K := K) rfl) (by rfl) T.b_tuple (by decide +kernel) (pa_cons (pe_dget (hu_of hr) (pv 6) (pv 8) (fun _ _ => rfl)) pa_nil)) (nomark _)))) (fun _ _ _ _ _ => by exact (pv 8))))) (pe_lst pa_nil) (nomark _)) (pss_one (ps_ret pe_bl)) pss_nil))))))))))))) (pss_one (ps_ret (pe_cmpR (op_eqO c_Table_eq hr (by decide) passL) (pe_f c_result hr (by decide) rfl passL (pa_cons pe_dnewK (pa_cons (pe_lst pa_nil) pa_nil))) (pe_k c_Table_init hr (by decide) rfl passL (pa_cons (pe_lst pa_nil) pa_nil)) (nomark _))))))), ?_⟩
    try dsimp only [cxOf]
    walk_at "go"
    refine ⟨sa, zs, rfl, hs, fun p sc H1 np nsc s1 hp => ?_⟩
    walk_at "go"
    refine ⟨3, rfl, by decide, by decide, ?_⟩
    refine for_range (n := 3) (fun i σ H' => ∃ v2 v3 v4 v5 v6 v7 v8 v9 v10 : Option V, σ = [some (.ref sa), some (.ref p), v2, v3, v4, v5, v6, v7, v8, v9, v10] ∧ Pen H' p sc (10000 - 2000 * i))
      ⟨none, none, none, none, none, none, none, none, none, rfl, hp.le (by omega)⟩ ?_ ?_
    · rintro i σ H2 hi ⟨v2, v3, v4, v5, v6, v7, v8, v9, v10, rfl, hp2⟩
      walk_at "go"
      refine ⟨p, sc, 6, 9900 - 2000 * i, rfl, hp2.le (by omega), by omega, by omega, fun r1 H3 q0 q1 b3 hp3 => ?_⟩
      obtain ⟨c, rfl⟩ : ∃ c : Nat, r1 = (c : Int) := ⟨r1.toNat, by omega⟩
      walk_at "go"
      refine ⟨p, sc, 13, 9800 - 2000 * i, rfl, hp3.le (by omega), by omega, by omega, fun r2 H4 q2 q3 b4 hp4 => ?_⟩
      obtain ⟨n, rfl⟩ : ∃ c : Nat, r2 = (c : Int) := ⟨r2.toNat, by omega⟩
      walk_at "go"
      refine ⟨p, sc, 1 + c + 1, 9700 - 2000 * i, rfl, hp4.le (by omega), by omega, fun l nms H5 nl b5 hp5 hl5 el nd sok => ?_⟩
      obtain ⟨ns, st, rfl⟩ : ∃ ns st, nms = ns ++ [st] := by
        refine ⟨nms.dropLast, nms.getLast (fun z => by rw [z] at el; simp at el), (List.dropLast_concat_getLast _).symm⟩
      have en : ns.length = 1 + c := by simp at el; omega
      rw [List.nodup_append] at nd
      have hst : st ∉ ns := fun z => nd.2.2 st z st (by simp) rfl
      have hnd := nd.1
      have nlp : l ≠ p := Ne.symm (hp4.ne nl).1
      rw [List.map_append, List.map_singleton] at hl5
      walk_at "go"
      refine a_dnew fun d1 H6 nd1 s6 hd1 => ?_
      walk_at "go"
      refine a_dnew fun d2 H7 nd2 s7 hd2 => ?_
      walk_at "go"
      refine a_newT (by show 2 ≤ 100000; decide) fun t8 H8 nt8 s8 h8 => ?_
      walk_at "go"
      refine a_slL (SqL.of (s8 _ _ (s7 _ _ (s6 _ _ hl5)))) fun l9 H9 nl9 s9 h9 => ?_
      rw [cut_last] at h9
      have ne12 : d1 ≠ d2 := ne_of_none hd1 nd2
      have s59 : Same H5 H9 := s6.trans (s7.trans (s8.trans s9))
      have hp9 := hp5.same s59
      have nl9p : l9 ≠ p := Ne.symm ((hp5.same (s6.trans (s7.trans s8))).ne nl9).1
      refine ⟨l9, rfl, ⟨_, SqL.of h9⟩, ?_⟩
      refine for_list (K := K) (a := l9) (xs := ns.map V.str) (fun j σ H' => ∃ (v8 : Option V) (es1 es2 : List Ent), σ = [some (.ref sa), some (.ref p), some (.int (0 + (i : Int))), some (.int (1 + (c : Int))), some (.int (n : Nat)), some (.ref l), some (.ref d1), some (.ref d2), v8, v9, v10] ∧
          Sit K H' p sc (9700 - 2000 * i - 20 * j) d1 d2 es1 es2 n ∧ H' l9 = some (.lst (ns.map V.str)) ∧ H' l = some (.lst (ns.map V.str ++ [V.str st])) ∧ es1.map (·.1) = ns.take j)
        ⟨v8, [], [], rfl, ⟨hp9.le (by omega), ⟨s9 _ _ (s8 _ _ (s7 _ _ hd1)), (fun e he => by cases he)⟩, ⟨s9 _ _ (s8 _ _ hd2), (fun e he => by cases he), (by decide), List.nodup_nil⟩, (fun e he => by cases he), ne12, rfl, (fun e he => by cases he)⟩, h9, s59 _ _ hl5, rfl⟩ (fun j σ H' _ ⟨_, _, _, _, _, h, _⟩ => SqL.of h) ?_ ?_
      · rintro j y σ H' hy ⟨v8, es1, es2, rfl, S, hl9, hl, e1⟩
        rw [List.getElem?_map] at hy
        obtain ⟨x, ex, rfl⟩ := Option.map_eq_some_iff.mp hy
        obtain ⟨hj, rfl⟩ := List.getElem?_eq_some_iff.mp ex
        walk_at "go"
        refine ⟨p, sc, n, 9700 - 2000 * i - 20 * (j + 1), rfl, S.pen.le (by omega), by omega, fun q a Ha nq ba hpa hqa oa la => ?_⟩
        have Sa := S.drew ba hpa
        have hl9a := ba _ _ nl9p hl9
        have hla := ba _ _ nlp hl
        have nqp : q ≠ p := Ne.symm (S.pen.ne nq).1
        have fresh : ∀ es : List Ent, es.map (·.1) = ns.take j → ns[j] ∉ es.map (·.1) := fun es e z => by
          rw [e] at z
          obtain ⟨m, hm, e2⟩ := List.getElem_of_mem z
          rw [List.getElem_take] at e2
          rw [List.length_take] at hm
          have := (List.getElem_inj (h₀ := by omega) (h₁ := hj) hnd).mp e2
          omega
        have e2 : es2.map (·.1) = ns.take j := S.names ▸ e1
        have few2 : es2.length ≤ 20 := by
          have := congrArg List.length e2
          rw [List.length_map, List.length_take] at this
          omega
        have few1 : es1.length ≤ 20 := by
          have := congrArg List.length e1
          rw [List.length_map, List.length_take] at this
          omega
        have vn : ∀ es : List Ent, es.map (·.1) = ns.take j → valV (mkv es) (.inr ns[j]) = none := fun es e => by rw [val_mkv, getE_none (fresh es e)]; rfl
        walk_at "go"
        refine a_dputS Sa.im.at_ (by rw [mkv_len]; omega) fun Hb bb hb => ?_
        rw [putK_new _ (vn es1 e1)] at hb
        have hqb := bb _ _ (ne_of hqa Sa.im.at_ (by intro z; cases z)) hqa
        have im1 : mkv es1 ++ [(Sum.inr ns[j], V.ref q)] = mkv (es1 ++ [(ns[j], q, a)]) := by simp [mkv]
        rw [im1] at hb
        have d1a := Sa.im.at_
        have meb : Mean K Hb d2 es2 := ⟨bb _ _ (Ne.symm ne12) Sa.me.at_, fun e he => ⟨(Sa.me.tab e he).1.bd d1a (.inl ⟨_, rfl⟩) bb, (Sa.me.tab e he).2⟩, Sa.me.few, Sa.me.nd⟩
        walk_at "go"
        refine a_dgetS (.inl hb) (v := .ref q) (by rw [val_mkv, getE_nd (e := (ns[j], q, a)) (by rw [List.map_append, List.nodup_append]; exact ⟨by rw [e1]; exact hnd.sublist (List.take_sublist ..), by simp, fun x hx y hy z => fresh es1 e1 (by simp at hy; rw [← hy, ← z]; exact hx)⟩) (by simp)]; rfl) ?_
        walk_at "go"
        refine a_mkT (.inl (SqL.of hqb)) oa (by omega) fun tb Hc ntb sc' htb => ?_
        walk_at "go"
        have mec := meb.same sc'
        refine a_dputS mec.at_ (by rw [mkv_len]; omega) fun Hd bd hd => ?_
        rw [putK_new _ (vn es2 e2)] at hd
        have im2 : mkv es2 ++ [(Sum.inr ns[j], V.ref tb)] = mkv (es2 ++ [(ns[j], tb, a)]) := by simp [mkv]
        rw [im2] at hd
        have keep : ∀ x o, (∀ kvs, o ≠ HO.dK kvs) → Ha x = some o → Hd x = some o := fun x o no e => by
          have h1 : x ≠ d1 := fun z => by subst z; rw [d1a] at e; cases e; exact no _ rfl
          have h2 : x ≠ d2 := fun z => by subst z; rw [Sa.me.at_] at e; cases e; exact no _ rfl
          exact bd _ _ h2 (sc' _ _ (bb _ _ h1 e))
        refine ⟨_, es1 ++ [(ns[j], q, a)], es2 ++ [(ns[j], tb, a)], rfl, ⟨?_, ⟨?_, ?_⟩, ⟨hd, ?_, ?_, ?_⟩, ?_, ne12, ?_, ?_⟩, keep _ _ (by intro _ z; cases z) hl9a, keep _ _ (by intro _ z; cases z) hla, ?_⟩
        · obtain ⟨⟨xs, hx⟩, ys, hy⟩ := hpa.at_
          exact hpa.mv fun b o hb e => by
            rcases hb with rfl | rfl
            · rw [hx] at e; cases e; exact keep _ _ (by intro _ z; cases z) hx
            · rw [hy] at e; cases e; exact keep _ _ (by intro _ z; cases z) hy
        · exact bd _ _ ne12 (sc' _ _ hb)
        · intro e he
          rcases List.mem_append.mp he with he | he
          · exact keep _ _ (by intro _ z; cases z) (Sa.im.lst e he)
          · rw [List.mem_singleton.mp he]
            exact keep _ _ (by intro _ z; cases z) hqa
        · intro e he
          rcases List.mem_append.mp he with he | he
          · exact ⟨(mec.tab e he).1.bd mec.at_ (.inl ⟨_, rfl⟩) bd, (mec.tab e he).2⟩
          · rw [List.mem_singleton.mp he]
            exact ⟨htb.bd mec.at_ (.inl ⟨_, rfl⟩) bd, oa, by simp only; omega⟩
        · rw [List.length_append]
          simp
          omega
        · rw [List.map_append, List.nodup_append]
          exact ⟨by rw [e2]; exact hnd.sublist (List.take_sublist ..), by simp, fun x hx y hy z => fresh es2 e2 (by simp at hy; rw [← hy, ← z]; exact hx)⟩
        · intro e he
          rcases List.mem_append.mp he with he | he
          · exact Sa.nep e he
          · rw [List.mem_singleton.mp he]
            exact nqp
        · rw [List.map_append, List.map_append, Sa.eqs]
          rfl
        · intro e he
          rcases List.mem_append.mp he with he | he
          · exact Sa.szz e he
          · rw [List.mem_singleton.mp he]
            exact ⟨oa, la⟩
        · rw [List.map_append, e1, ← List.take_append_getElem hj]
          rfl
      · rintro σ H' ⟨v8, es1, es2, rfl, S, hl9, hl, e1⟩
        rw [List.length_map, List.take_length] at e1
        have e2 : es2.map (·.1) = ns := S.names ▸ e1
        have el2 : es2.length = ns.length := by rw [← e2, List.length_map]
        have lk := look_eq S.eqs
        have hO : oth es2 = none := oth_none fun e he => (S.sz2 e he).2
        have hh : (szs es2).headD 0 = n := hd_size (fun e he => (S.sz2 e he).2) (by omega)
        have okN : ∀ x ∈ ns, PyData.strOk x = true := fun x hx => sok x (List.mem_append_left _ hx)
        replace S : Sit K H' p sc (9500 - 2000 * i) d1 d2 es1 es2 n := S.le (by rw [List.length_map]; omega)
        walk_at "go"
        refine a_slL (SqL.of hl) fun l10 H10 nl10 s10 h10 => ?_
        rw [cut_last] at h10
        have S10 := S.same s10
        walk_at "go"
        refine ⟨p, sc, l10, ns, 40, 9400 - 2000 * i, rfl, S10.pen.le (by omega), by omega, h10, Ne.symm (S.pen.ne nl10).1, by omega, by omega, fun rw1 row H11 nr b11 hp11 hr1 rin rlen => ?_⟩
        have S11 := S10.drew b11 hp11
        have hl11 := b11 _ _ nlp (s10 _ _ hl)
        have nr1p : rw1 ≠ p := Ne.symm (S10.pen.ne nr).1
        walk_at "go"
        refine a_slL (SqL.of hl11) fun l12 H12 nl12 s12 h12 => ?_
        rw [cut_last] at h12
        have S12 := S11.same s12
        walk_at "go"
        refine ⟨p, sc, l12, ns, 5, 9300 - 2000 * i, rfl, S12.pen.le (by omega), by omega, h12, Ne.symm (S11.pen.ne nl12).1, by omega, by omega, fun rw2 oth2 H13 nr2 b13 hp13 hr2 oin olen => ?_⟩
        have S13 := S12.drew b13 hp13
        have hl13 := b13 _ _ nlp (s12 _ _ hl11)
        have hr13 := b13 _ _ nr1p (s12 _ _ hr1)
        have rin2 : ∀ x ∈ row, x ∈ es2.map (·.1) := fun x hx => by rw [e2]; exact rin x hx
        have oin2 : ∀ x ∈ oth2, x ∈ es2.map (·.1) := fun x hx => by rw [e2]; exact oin x hx
        have lok : ∀ (l : List Str), (∀ x ∈ l, x ∈ es2.map (·.1)) → ∀ b ∈ l.map (look es2), OkImg b ∧ b.length = n := fun l hl b hb => by
          obtain ⟨x, hx, rfl⟩ := List.mem_map.mp hb
          obtain ⟨⟨q', a'⟩, e'⟩ := Option.isSome_iff_exists.mp (getE_some (hl x hx))
          unfold look
          rw [e']
          exact S.sz2 _ (getE_mem e')
        walk_at "go"
        refine ⟨d2, rw1, es2, row, rfl, S13.me, .inl (SqL.of hr13), by omega, fun x hx => okN x (rin x hx), fun t14 H14 s14 d14 => ?_⟩
        have ed : ∀ l : List Str, (∀ x ∈ l, x ∈ es2.map (·.1)) → toldD es2 l = .tuple (di (walked n (l.map (look es2)))) := fun l hl => by
          unfold toldD
          rw [hO, miss_none hl, hh]
        rw [ed row rin2] at d14
        walk_at "go"
        refine ⟨d1, rw1, es1, row, n, rfl, S13.im.same s14, SqL.of (s14 _ _ hr13), by omega, S.szz, fun x hx => getE_some (by rw [S.names]; exact rin2 x hx), fun t15 H15 s15 h15 => ?_⟩
        rw [lk] at h15
        refine a_neQ (d14.same s15) (.tup h15 (dqv _)) ?_
        walk_at "go"
        refine a_F rfl ?_
        have S15 := S13.same (s14.trans s15)
        have hr15 := s15 _ _ (s14 _ _ hr13)
        have ho15 := s15 _ _ (s14 _ _ hr2)
        have hl15 := s15 _ _ (s14 _ _ hl13)
        walk_at "go"
        refine a_cat hr15 ho15 (by simp; omega) fun l16 H16 nl16 s16 h16 => ?_
        rw [← List.map_append] at h16
        have S16 := S15.same s16
        have bothin : ∀ x ∈ row ++ oth2, x ∈ es2.map (·.1) := fun x hx => (List.mem_append.mp hx).elim (rin2 x) (oin2 x)
        walk_at "go"
        refine ⟨d2, l16, es2, row ++ oth2, rfl, S16.me, .inl (SqL.of h16), by simp; omega, (fun s hs => by rw [hO] at hs; cases hs), (fun _ x hx => by rw [miss_none bothin] at hx; cases hx), fun _ _ t17 H17 nt17 s17 h17 => ?_⟩
        rw [hh, List.map_append, walked_app (lok row rin2) (lok oth2 oin2)] at h17
        have S17 := S16.same s17
        walk_at "go"
        refine ⟨d2, rw1, es2, row, rfl, S17.me, .inl (SqL.of (s17 _ _ (s16 _ _ hr15))), by omega, (fun s hs => by rw [hO] at hs; cases hs), (fun _ x hx => by rw [miss_none rin2] at hx; cases hx), fun _ _ t18 H18 nt18 s18 h18 => ?_⟩
        rw [hh] at h18
        have S18 := S17.same s18
        walk_at "go"
        refine a_tup (.inl (SqL.of (s18 _ _ (s17 _ _ (s16 _ _ ho15))))) fun t19 H19 s19 h19 => ?_
        have S19 := S18.same s19
        walk_at "go"
        refine ⟨d2, t19, es2, oth2, rfl, S19.me, .inr h19, by omega, (fun s hs => by rw [hO] at hs; cases hs), (fun _ x hx => by rw [miss_none oin2] at hx; cases hx), fun _ _ t20 H20 nt20 s20 h20 => ?_⟩
        rw [hh] at h20
        have S20 := S19.same s20
        obtain ⟨o1, z1⟩ := foldc (lok row rin2) (OkImg.range n) List.length_range
        obtain ⟨o2, z2⟩ := foldc (lok oth2 oin2) (OkImg.range n) List.length_range
        walk_at "go"
        refine a_mulT (h18.same (s19.trans s20)) h20 o1 o2 (z1.trans z2.symm) (by unfold walked; omega) fun t21 H21 nt21 s21 h21 => ?_
        have S21 := S20.same s21
        refine a_eqT T (h17.same (s18.trans (s19.trans (s20.trans s21)))) h21 ?_
        rw [decide_eq_true rfl]
        walk_at "go"
        refine a_F rfl ?_
        walk_at "go"
        refine a_newL (by show 0 ≤ 100000; decide) fun l22 H22 nl22 s22 h22 => ?_
        have S22 := S21.same s22
        walk_at "go"
        refine ⟨d2, l22, es2, [], rfl, S22.me, .inl (SqL.of h22), by decide, (fun s hs => by rw [hO] at hs; cases hs), (fun _ x hx => by cases hx), fun _ _ t23 H23 nt23 s23 h23 => ?_⟩
        have S23 := S22.same s23
        obtain ⟨dx, u, g1, g2⟩ := h23
        walk_at "go"
        refine a_isi (.own _) (T.o_Table.ty g1) T.i_Table ?_
        walk_at "go"
        refine a_F rfl ?_
        walk_at "go"
        refine a_newL (by show 0 ≤ 100000; decide) fun l24 H24 nl24 s24 h24 => ?_
        have S24 := S23.same s24
        walk_at "go"
        refine ⟨d2, l24, es2, [], rfl, S24.me, .inl (SqL.of h24), by decide, (fun x hx => by cases hx), fun t25 H25 s25 d25 => ?_⟩
        rw [ed [] (fun x hx => by cases hx)] at d25
        have S25 := S24.same s25
        walk_at "go"
        refine a_trg (by omega) (by omega) fun t26 H26 nt26 s26 h26 => ?_
        rw [Int.toNat_natCast] at h26
        refine a_neQ (d25.same s26) (.tup (SqT.of h26) (dqv (List.range n))) ?_
        have S26 := S25.same s26
        walk_at "go"
        refine a_F rfl ?_
        have s1526 : Same H15 H26 := s16.trans (s17.trans (s18.trans (s19.trans (s20.trans (s21.trans (s22.trans (s23.trans (s24.trans (s25.trans s26)))))))))
        have hl26 : H26 l = some (.lst ((es2.map fun e => V.str e.1) ++ [V.str st])) := by
          have := s1526 _ _ hl15
          rw [← e2, List.map_map] at this
          exact this
        walk_at "go"
        refine ⟨p, sc, d2, l, rw1, es2, st, row, n, 9200 - 2000 * i, rfl, S26.pen.le (by omega), S26.me, hl26, nlp, s1526 _ _ hr15, nr1p, by omega, rin2, by rw [e2]; exact hst, fun e he => okN _ (by rw [← e2]; exact List.mem_map_of_mem he), sok st (by simp), by omega, by omega, by omega, fun e he => (S.sz2 e he).2, fun H27 b27 hp27 => ?_⟩
        have S27 := S26.drew b27 hp27
        have hl27 := b27 _ _ nlp hl26
        walk_at "go"
        refine a_F rfl ?_
        walk_at "go"
        refine a_listD (.inl S27.me.at_) fun l28 H28 nl28 s28 h28 => ?_
        walk_at "go"
        refine a_slL (SqL.of (s28 _ _ hl27)) fun l29 H29 nl29 s29 h29 => ?_
        rw [cut_last] at h29
        have ek : (mkv es2).map (fun kv => kV kv.1) = ns.map V.str := by
          rw [← e2]
          unfold mkv
          rw [List.map_map, List.map_map]
          rfl
        have ek2 : (es2.map fun e => V.str e.1) = ns.map V.str := by
          rw [← e2, List.map_map]
          rfl
        rw [ek] at h28
        rw [ek2] at h29
        refine a_neQ (n := 2) (.lst (SqL.of (s29 _ _ h28)) (dqs ns okN)) (.lst (SqL.of h29) (dqs ns okN)) ?_
        walk_at "go"
        refine a_F rfl ?_
        have S29 := S27.same (s28.trans s29)
        walk_at "go"
        refine a_lockE S29.me.at_ True.intro fun od Hf bf hf => ?_
        refine cf_k (d := d2) (od := od) (kvs := mkv es2) (fun _ => false) (fun _ => .non) (by rw [mkv_len]; omega) ?_ ?_ ?_
        · intro R r
          walk_at "go"
          exact r _ (Same.refl _) hf
        · intro j kk v Hx hk sx
          obtain ⟨hj, rfl, rfl⟩ := mkv_get hk
          refine ⟨fun R r => ?_, fun z => by cases z⟩
          have hj1 : j < es1.length := by
            have := congrArg List.length S.eqs
            rw [List.length_map, List.length_map] at this
            omega
          have ep : prj es1[j] = prj es2[j] := by
            have := congrArg (fun l => l[j]?) S.eqs
            simp only [List.getElem?_map, List.getElem?_eq_getElem hj, List.getElem?_eq_getElem hj1] at this
            exact Option.some.inj this
          have nm : (prj es1[j]).1 = (prj es2[j]).1 := congrArg Prod.fst ep
          have im : (prj es1[j]).2 = (prj es2[j]).2 := congrArg Prod.snd ep
          dsimp only [prj] at nm im
          obtain ⟨dy, u2, k1, k2⟩ := ((S29.me.tab _ (List.getElem_mem hj)).1.bd S29.me.at_ (.inl ⟨_, rfl⟩) bf).same sx
          walk_at "go"
          refine a_dgetS (.inr ⟨od, sx _ _ hf⟩) (v := .ref es2[j].2.1) (by rw [val_mkv, getE_nd S29.me.nd (List.getElem_mem hj)]; rfl) ?_
          walk_at "go"
          refine a_fld k1 T.o_Table.cl T.n_Table_image (img_look _) ?_
          walk_at "go"
          have hi1 : Hx d1 = some (.dK (mkv es1)) := sx _ _ (bf _ _ ne12 S29.im.at_)
          refine a_dgetS (.inl hi1) (v := .ref es1[j].2.1) (by rw [← nm, val_mkv, getE_nd (by rw [S.names]; exact S29.me.nd) (List.getElem_mem hj1)]; rfl) ?_
          walk_at "go"
          have hq1 := S29.im.lst _ (List.getElem_mem hj1)
          have hq2 := sx _ _ (bf _ _ (ne_of hq1 S29.me.at_ (by intro z; cases z)) hq1)
          refine a_tup (.inl (SqL.of hq2)) fun t30 H30 s30 h30 => ?_
          rw [im] at h30
          refine a_neQ (n := 2) (.tup (same_t s30 k2) (dqv _)) (.tup h30 (dqv _)) ?_
          walk_at "go"
          exact r _ s30
        intro Dl Hy nDl sy hDl
        refine ⟨sy _ _ hf, ?_⟩
        have su := unlock_same S29.me.at_ bf sy
        have hDu : upd Hy d2 (.dK (mkv es2)) Dl = some (.lst []) := by
          rw [upd_ne (Ne.symm (ne_of_none hf nDl)), hDl]
          simp
        generalize upd Hy d2 (.dK (mkv es2)) = Hu at su hDu
        walk_at "go"
        refine a_newL (by show 0 ≤ 100000; decide) fun l31 H31 nl31 s31 h31 => ?_
        refine a_neQ (n := 2) (.lst (SqL.of (s31 _ _ hDu)) .nil) (.lst (SqL.of h31) .nil) ?_
        walk_at "go"
        refine a_F rfl ?_
        walk_at "go"
        exact ⟨_, _, _, _, _, _, _, _, _, rfl, ((S29.pen.same su).same s31).le (by omega)⟩
    · rintro σ H2 ⟨v2, v3, v4, v5, v6, v7, v8, v9, v10, rfl, hp2⟩
      walk_at "go"
      refine a_dnew fun d H3 nd s3 hd => ?_
      walk_at "go"
      refine a_newL (by show 0 ≤ 100000; decide) fun l H4 nl s4 h4 => ?_
      walk_at "go"
      refine ⟨d, l, [], [], rfl, ⟨s4 _ _ hd, (fun e he => by cases he), (by decide), List.nodup_nil⟩, .inl (SqL.of h4), (by decide), (fun s hs => by cases hs), (fun _ n hn => by cases hn), fun _ _ t H5 nt s5 ht => ?_⟩
      walk_at "go"
      refine a_newL (by show 0 ≤ 100000; decide) fun l2 H6 nl2 s6 h6 => ?_
      walk_at "go"
      refine a_mkT (a := []) (.inl (SqL.of h6)) (OkImg.range 0) (by decide) fun t2 H7 nt2 s7 ht2 => ?_
      refine a_eqT T (ht.same (s6.trans s7)) ht2 ?_
      exact k _
end

def dfs : List DX := [
  ⟨fun K => He.ma K (He.ga K "OtherSize") "__init__", "__init__", "OtherSize.__init__", s_OtherSize_init, [], []⟩,
  ⟨fun K => He.ma K (He.ga K "NoMeaning") "__init__", "__init__", "NoMeaning.__init__", s_NoMeaning_init, [], []⟩,
  ⟨fun K => He.ga K "check_size", "check_size", "check_size", s_check_size, [], []⟩,
  ⟨fun K => He.ma K (He.ga K "Table") "__init__", "__init__", "Table.__init__", s_Table_init, [], []⟩,
  ⟨fun K => He.ma K (He.ga K "Table") "__len__", "__len__", "Table.__len__", s_Table_len, [], []⟩,
  ⟨fun K => He.ma K (He.ga K "Table") "__mul__", "__mul__", "Table.__mul__", s_Table_mul, [], []⟩,
  ⟨fun K => He.ma K (He.ga K "Table") "__eq__", "__eq__", "Table.__eq__", s_Table_eq, [], []⟩,
  ⟨fun K => He5.wf K (He.ga K "Table") "staticmethod" "neutral", "neutral", "Table.neutral", s_Table_neutral, [], []⟩,
  ⟨fun K => He.ga K "result", "result", "result", s_result, [], []⟩,
  ⟨fun K => He.ga K "_law_start", "_law_start", "_law_start", s__law_start, [], []⟩,
  ⟨fun K => He.ga K "_law_draw", "_law_draw", "_law_draw", s__law_draw, [], []⟩,
  ⟨fun K => He.ga K "_law_name", "_law_name", "_law_name", s__law_name, [], []⟩,
  ⟨fun K => He.ga K "_law_names", "_law_names", "_law_names", s__law_names, [], []⟩,
  ⟨fun K => He.ga K "_law_image", "_law_image", "_law_image", s__law_image, [], []⟩,
  ⟨fun K => He.ga K "_law_row", "_law_row", "_law_row", s__law_row, [], []⟩,
  ⟨fun K => He.ga K "_law_walked", "_law_walked", "_law_walked", s__law_walked, [], []⟩,
  ⟨fun K => He.ga K "_law_told", "_law_told", "_law_told", s__law_told, [], []⟩,
  ⟨fun K => He.ga K "_law_refused", "_law_refused", "_law_refused", s__law_refused, [], []⟩,
  ⟨fun K => He.ga K "law", "law", "law", s_law, [], []⟩]
def others : List Str := (["_wall", "TriedError", "BadTable", "OtherSize", "NoPoint", "NoMeaning", "TooGreat", "MOST_POINTS", "check_size", "Table", "result", "_law_start", "_law_draw", "_law_name", "_law_names", "_law_image", "_law_row", "_law_walked", "_law_told", "_law_refused"] : List Str)
abbrev R : PySem.W.OpenRow := PySem.W.OpenLaw.row PySem.Challenge.rw_triedtells_k34_whole_results_of_rows
abbrev hk : PySem.W.Hook := hookX 5 fbs dfs
def ob (s : PySem.W.SharedT) : SeenX := seenG 5 fbs dfs (HandSHeadRun.getT s)
theorem ob_eq (s : PySem.W.SharedT) : ob s = hk.obs s.abs := seenG_eq (HandSHeadRun.getT_eq s)
set_option maxHeartbeats 0 in
theorem run (w : World) : HandSHeadRun.RunEq R (PySem.W.view R.prog [23]) hk ob 6000 others w := by
  intro os
  kernel_rfl
theorem whole {P : Program} {w : World} {K : PySem.W.Frag} {h : Heap} {mg : Str → Option Value} {f : Addr} (X : K.In h) (G : h.Ns mainGlobals mg) (hfa : mg ("law" : Str) = some (.ref f)) (c : Tells fbs dfs K) :
    ∃ fd : FuncData, (∀ (s : Shared) (v : Value), BindsTo s fd ⟨[v], []⟩ [("_law_script", v)]) ∧ ∀ base : Heap, K.In base → base.Ns mainGlobals mg → FnOk P w K mg base CX0 14 f fd ["_law_script"] (spLaw K) := by
  have T : Txt K mg := txt_of X G ⟨c.fb⟩
  obtain ⟨d0, F0⟩ := c.fx 0 rfl
  obtain ⟨d1, F1⟩ := c.fx 1 rfl
  obtain ⟨d2, F2⟩ := c.fx 2 rfl
  obtain ⟨d3, F3⟩ := c.fx 3 rfl
  obtain ⟨d4, F4⟩ := c.fx 4 rfl
  obtain ⟨d5, F5⟩ := c.fx 5 rfl
  obtain ⟨d6, F6⟩ := c.fx 6 rfl
  obtain ⟨d7, F7⟩ := c.fx 7 rfl
  obtain ⟨d8, F8⟩ := c.fx 8 rfl
  obtain ⟨d9, F9⟩ := c.fx 9 rfl
  obtain ⟨d10, F10⟩ := c.fx 10 rfl
  obtain ⟨d11, F11⟩ := c.fx 11 rfl
  obtain ⟨d12, F12⟩ := c.fx 12 rfl
  obtain ⟨d13, F13⟩ := c.fx 13 rfl
  obtain ⟨d14, F14⟩ := c.fx 14 rfl
  obtain ⟨d15, F15⟩ := c.fx 15 rfl
  obtain ⟨d16, F16⟩ := c.fx 16 rfl
  obtain ⟨d17, F17⟩ := c.fx 17 rfl
  obtain ⟨d18, F18⟩ := c.fx 18 rfl
  have e := hfa.symm.trans T.g_law
  cases e
  refine ⟨d18, fun s v => FunD.bindsA (ps := ["_law_script"]) F18 (fun _ _ _ _ _ _ us hl => match us, hl with | [_], _ => rfl) s [v] rfl, fun base _ _ => cx0_of ?_ fun vs H Q E z => z⟩
  have c_OtherSize := rai_of (P := P) (w := w) (base := base) F0 T.g_OtherSize T.x_OtherSize T.xi_OtherSize T.xt_OtherSize (ok_OtherSize F0 T) (fun _ _ _ _ _ _ us hl => match us, hl with | [_, _], _ => rfl)
  have c_NoMeaning := rai_of (P := P) (w := w) (base := base) F1 T.g_NoMeaning T.x_NoMeaning T.xi_NoMeaning T.xt_NoMeaning (ok_NoMeaning F1 T) (fun _ _ _ _ _ _ us hl => match us, hl with | [_, _], _ => rfl)
  have c_check_size := cal_of (P := P) (w := w) (base := base) F2 T.g_check_size (ok_check F2 T) (fun _ _ _ _ _ _ us hl => match us, hl with | [_], _ => rfl)
  have c_Table_init := mak_of (P := P) (w := w) (base := base) F3 T.g_Table T.mk_Table (ok_Tinit F3 T c_check_size) (fun _ _ _ _ _ _ us hl => match us, hl with | [_, _], _ => rfl)
  have c_Table_len := met_of (P := P) (w := w) (base := base) F4 T.o_Table.cl T.m_Table_len (ok_Tlen F4 T) (fun _ _ _ _ _ _ us hl => match us, hl with | [_], _ => rfl)
  have c_Table_mul := met_of (P := P) (w := w) (base := base) F5 T.o_Table.cl T.m_Table_mul (ok_Tmul F5 T c_Table_init) (fun _ _ _ _ _ _ us hl => match us, hl with | [_, _], _ => rfl)
  have c_Table_eq := met_of (P := P) (w := w) (base := base) F6 T.o_Table.cl T.m_Table_eq (ok_Teq F6 T) (fun _ _ _ _ _ _ us hl => match us, hl with | [_, _], _ => rfl)
  have c_Table_neutral := sta_of (P := P) (w := w) (base := base) F7 T.s_Table_neutral (ok_Tneu F7 T c_check_size c_Table_init) (fun _ _ _ _ _ _ us hl => match us, hl with | [_], _ => rfl)
  have c_result := cal_of (P := P) (w := w) (base := base) F8 T.g_result (ok_res F8 T c_OtherSize c_NoMeaning c_Table_neutral c_Table_mul) (fun _ _ _ _ _ _ us hl => match us, hl with | [_, _], _ => rfl)
  have c__law_start := cal_of (P := P) (w := w) (base := base) F9 T.g__law_start (ok_start F9 T) (fun _ _ _ _ _ _ us hl => match us, hl with | [_], _ => rfl)
  have c__law_draw := cal_of (P := P) (w := w) (base := base) F10 T.g__law_draw (ok_draw F10 T) (fun _ _ _ _ _ _ us hl => match us, hl with | [_, _], _ => rfl)
  have c__law_name := cal_of (P := P) (w := w) (base := base) F11 T.g__law_name (ok_name F11 T) (fun _ _ _ _ _ _ us hl => match us, hl with | [_], _ => rfl)
  have c__law_names := cal_of (P := P) (w := w) (base := base) F12 T.g__law_names (ok_names F12 T c__law_draw c__law_name) (fun _ _ _ _ _ _ us hl => match us, hl with | [_, _], _ => rfl)
  have c__law_image := cal_of (P := P) (w := w) (base := base) F13 T.g__law_image (ok_image F13 T c__law_draw) (fun _ _ _ _ _ _ us hl => match us, hl with | [_, _], _ => rfl)
  have c__law_row := cal_of (P := P) (w := w) (base := base) F14 T.g__law_row (ok_row F14 T c__law_draw) (fun _ _ _ _ _ _ us hl => match us, hl with | [_, _, _], _ => rfl)
  have c__law_walked := cal_of (P := P) (w := w) (base := base) F15 T.g__law_walked (ok_walked F15 T) (fun _ _ _ _ _ _ us hl => match us, hl with | [_, _, _], _ => rfl)
  have c__law_told := cal_of (P := P) (w := w) (base := base) F16 T.g__law_told (ok_told F16 T c_result) (fun _ _ _ _ _ _ us hl => match us, hl with | [_, _], _ => rfl)
  have c__law_refused := cal_of (P := P) (w := w) (base := base) F17 T.g__law_refused (ok_refused F17 T c__law_draw c__law_told c_Table_neutral c_Table_len) (fun _ _ _ _ _ _ us hl => match us, hl with | [_, _, _, _, _], _ => rfl)
  exact ok_law F18 T c__law_start c__law_draw c__law_image c__law_names c__law_row c__law_walked c__law_told c__law_refused c_result c_Table_init c_Table_mul c_Table_eq

end TT
open PySem PySem.W PySem.Calls PyProof.Rows
set_option maxRecDepth 100000 in
set_option maxHeartbeats 0 in
theorem PySem.Challenge.cw_triedtells_k34_whole_results_of_rows_holds : PySem.Challenge.rw_triedtells_k34_whole_results_of_rows.Holds := by
  w_on; o_law
  refine HandSHeadRun.head_any (r := OpenLaw.row PySem.Challenge.rw_triedtells_k34_whole_results_of_rows) (q := view (OpenLaw.row PySem.Challenge.rw_triedtells_k34_whole_results_of_rows).prog [23])
    (H := TT.hk) (ob := TT.ob) (M := 6000) (loose := TT.others) (d := HandSHeadRun.topDef (OpenLaw.row PySem.Challenge.rw_triedtells_k34_whole_results_of_rows).prog 23) (kwd := []) TT.ob_eq
    (by kernel_rfl) (fun s => by kernel_rfl) TT.run (by kernel_rfl) (by kernel_rfl) (by kernel_rfl) (by rfl) (by first | assumption | decide +kernel) (by decide +kernel) ⟨rfl, rfl, rfl, rfl, rfl, by decide +kernel⟩ ?hw ?hc
  case hw => w_witness2
  case hc =>
    refine L2.walk_ofE (l := PySem.Challenge.rw_triedtells_k34_whole_results_of_rows) (n := 63) (k := 14) (x := "_law_script") (CX := L2.CX0) rfl (by decide) (by kernel_rfl) ⟨rfl, by decide, by decide⟩ ?F (fun _ _ _ _ z => z)
    intro w mg fa h Y G hmg0
    obtain ⟨K, KX, c⟩ := Y
    have hmg : mg ("law" : PySem.Str) = some (.ref fa) := by
      have e : (HandSHeadRun.topDef (OpenLaw.row PySem.Challenge.rw_triedtells_k34_whole_results_of_rows).prog 23).name = ("law" : PySem.Str) := by kernel_rfl
      rw [← e]
      exact hmg0
    obtain ⟨fd, hb, hF⟩ := TT.whole (P := (PySem.Challenge.rw_triedtells_k34_whole_results_of_rows).prog) (w := w) KX G hmg c
    exact ⟨K, fd, TT.spLaw K, KX, hb, fun H a ns hl _ hS => ⟨a, ns, rfl, hS, hl, fun _ => rfl⟩, hF⟩
