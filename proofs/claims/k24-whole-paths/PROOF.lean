import PyProof.Rows.All
import Wide.All
import OpenK.AllK
import Wide.FinOn
import HandS.ForMost
import HandS.Walk
import HandS.IsInst
import HandS.Star
import HandS.DictComp
import HandS.Defaults
import HandS.Strs
import HandS.TupAny
import PySem.Challenge.RW_viewstairs_k24_whole_paths
import KE.GoesEnum
import KE.KExcInit
import HandS.ForExc
import HandS.ExcField
import HandS.Small
import HandS.Lambda
import HandS.ExcIs
import HandS.TryMany
import KE.KTryMore
import PyProof.ReprRoads
import PyProof.ReprLen
import HandS.EndTab
import HandS.Head0
import HandS.Head1
import HandS.Head2
import HandS.HeadHook4
import HandS.HeadWalk
set_option Elab.async false
set_option linter.all false
set_option maxRecDepth 100000
set_option maxHeartbeats 4000000
/-! Base: the text by places, facts of the top, data in tuples, small rules. -/
namespace VS
open PySem PySem.Spec PyProof.Rows L2

def topS (i : Nat) : Stmt := PySem.Challenge.pw_viewstairs_k24_whole_paths.main.body.getD i (.Pass ⟨0, 0, 0, 0⟩)

/-- a def of the module as it stands behind the top -/
abbrev FnP (K : PySem.W.Frag) (x : Str) (st : Stmt) (f : Addr) (fd : FuncData) : Prop := FunD K x x (defArgs st) (defBody st) (defScope st) [] [] f fd
/-- a def by its name: where it stands, how it binds -/
structure Fn (K : PySem.W.Frag) (mg : Str → Option Value) (x : Str) (st : Stmt) (ps : List Str) (f : Addr) (fd : FuncData) : Prop where
  g : mg x = some (.ref f)
  d : FnP K x st f fd
  b : Binds K fd ps []
/-- a promise that a name of the module keeps -/
def Ok (P : Program) (w : World) (K : PySem.W.Frag) (mg : Str → Option Value) (base : Heap) (CX : CXT) (k : Nat) (x : Str) (ps : List Str) (sp : Sp) : Prop :=
  ∃ (f : Addr) (fd : FuncData), mg x = some (.ref f) ∧ PySem.W.keepIn K (.ref f) = true ∧ Binds K fd ps [] ∧ FnOk P w K mg base CX k f fd ps sp

section
variable {P : Program} {w : World} {K : PySem.W.Frag} {mg : Str → Option Value} {base : Heap}
theorem Ok.mono {CX : CXT} {j k : Nat} {x : Str} {ps : List Str} {sp : Sp} (G : Ok P w K mg base CX j x ps sp) (h : j ≤ k) : Ok P w K mg base CX k x ps sp := by
  obtain ⟨f, fd, g, kp, b, F⟩ := G
  exact ⟨f, fd, g, kp, b, F.mono h⟩
theorem Ok.imp {CX : CXT} {k : Nat} {x : Str} {ps : List Str} {sp sp2 : Sp} (G : Ok P w K mg base CX k x ps sp) (h : ∀ vs H Q E, sp2 vs H Q E → sp vs H Q E) : Ok P w K mg base CX k x ps sp2 := by
  obtain ⟨f, fd, g, kp, b, F⟩ := G
  exact ⟨f, fd, g, kp, b, F.imp h⟩
/-- a def that lets nothing out -/
theorem Fn.ok0 {x : Str} {st : Stmt} {ps N : List Str} {k : Nat} {sp : Sp} {f : Addr} {fd : FuncData} (F : Fn K mg x st ps f fd) (S : FnScope N ps (defScope st)) (len : ∀ vs H Q E, sp vs H Q E → vs.length = ps.length)
    (body : ∀ (cdv : Value) (A : Around) (outer : List Env) (s : Shared) (H : Hp) (vs : List V) (Q : VK) (E : XK), Room k (A.deeper (envOfC x (defScope st) s.heap.objs.size f cdv)) → sp vs H Q E →
      ∃ t, PSs (cxOf CX0 P w K mg base N x (defScope st) f cdv A outer s H E).nox (defBody st) t ∧ t { nx := fun _ H2 => Q .non H2, rt := Q } (start N vs) H) : Ok P w K mg base CX0 (k + 1) x ps sp :=
  ⟨f, fd, F.g, F.d.kp, F.b, F.d.ok S len fun cdv A outer s H vs Q E hr h => by
    obtain ⟨t, a, b⟩ := body cdv A outer s H vs Q E hr h
    exact ⟨t, a.nox, b⟩⟩
/-- a def that may raise -/
theorem Fn.okX {x : Str} {st : Stmt} {ps N : List Str} {k : Nat} {sp : Sp} {f : Addr} {fd : FuncData} (F : Fn K mg x st ps f fd) (S : FnScope N ps (defScope st)) (len : ∀ vs H Q E, sp vs H Q E → vs.length = ps.length)
    (body : ∀ (cdv : Value) (A : Around) (outer : List Env) (s : Shared) (H : Hp) (vs : List V) (Q : VK) (E : XK), Room k (A.deeper (envOfC x (defScope st) s.heap.objs.size f cdv)) → sp vs H Q E →
      ∃ t, PSs (cxOf (L2.CX P w) P w K mg base N x (defScope st) f cdv A outer s H E) (defBody st) t ∧ t { nx := fun _ H2 => Q .non H2, rt := Q } (start N vs) H) : Ok P w K mg base (L2.CX P w) (k + 1) x ps sp :=
  ⟨f, fd, F.g, F.d.kp, F.b, F.d.ok S len fun cdv A outer s H vs Q E hr h => body cdv A outer s H vs Q E hr h⟩
end

section
variable {X : Cx} {CX : CXT} {k : Nat} {x : Str} {ps : List Str} {sp : Sp} {E : XK} {p pos : Pos} {e : Expr} {es : List Expr} {t : TA}
/-- a call of a name of the module -/
theorem pe_fn (G : Ok X.prog X.w X.K X.mg X.base CX k x ps sp) (hr : Room k X.A) (hx : Passes CX X E) (ha : PA X (e :: es) t) (hg : Gl X x := by rfl) (hdb : (x == ("__debug__" : Str)) = false := by decide)
    (he : starEach (e :: es) X.env = (false, eval e X.env) :: starEach es X.env := by rfl) (hpl : (backTo pos (starEach es X.env)).any (·.1) = false := by rfl) :
    PE X (.Call (.Name x p) (e :: es) [] pos) (tCall sp [] E t) := by
  obtain ⟨f, fd, g, kp, b, F⟩ := G
  exact pe_call F hr hg g kp b .nil hx ha hdb he hpl
end

/-! ### heaps -/
/-- tuples stay -/
def KT (H H2 : Hp) : Prop := ∀ b xs, H b = some (.tup xs) → H2 b = some (.tup xs)
theorem KT.refl (H : Hp) : KT H H := fun _ _ h => h
theorem KT.trans {H H1 H2 : Hp} (a : KT H H1) (b : KT H1 H2) : KT H H2 := fun c xs h => b c xs (a c xs h)
theorem KT.of {H H2 : Hp} (e : Same H H2) : KT H H2 := fun b xs h => e b _ h
theorem same_upd {H : Hp} {p : Addr} {o : HO} (h : H p = none) : Same H (upd H p o) := fun b x e => by
  rw [upd_ne (ne_of_none e h)]
  exact e
theorem Same.new {H H1 : Hp} {p : Addr} {o : HO} (s : Same H H1) (h : H1 p = none) : Same H (upd H1 p o) := s.trans (same_upd h)
/-- a further object that H does not know is changed -/
theorem Same.mut {H H1 : Hp} {p : Addr} {o : HO} (s : Same H H1) (h : H p = none) : Same H (upd H1 p o) := fun b x e => by
  rw [upd_ne (ne_of_none e h)]
  exact s b x e
/-- all but d stays -/
def But (d : Addr) (H H2 : Hp) : Prop := ∀ b o, H b = some o → b ≠ d → H2 b = some o
theorem But.refl (d : Addr) (H : Hp) : But d H H := fun _ _ h _ => h
theorem But.trans {d : Addr} {H H1 H2 : Hp} (a : But d H H1) (b : But d H1 H2) : But d H H2 := fun c o h n => b c o (a c o h n) n
theorem But.of {d : Addr} {H H2 : Hp} (e : Same H H2) : But d H H2 := fun b o h _ => e b o h
theorem But.new {d : Addr} {H H1 : Hp} {p : Addr} {o : HO} (s : But d H H1) (h : H1 p = none) : But d H (upd H1 p o) := s.trans (.of (same_upd h))
theorem But.mut {d : Addr} {H H1 : Hp} {p : Addr} {o : HO} (s : But d H H1) (h : H p = none) : But d H (upd H1 p o) := fun b x e n => by
  rw [upd_ne (ne_of_none e h)]
  exact s b x e n
theorem But.kt {d : Addr} {H H2 : Hp} {kvs : List (Key × V)} (e : But d H H2) (h : H d = some (.dK kvs)) : KT H H2 := fun b xs q => e b _ q fun z => by
  rw [z, h] at q
  cases q

/-! ### data -/
/-- when a table may be written -/
def LoadAt (H : Hp) (v : V) : Option (Int × Int) → Prop
  | none => v = .non
  | some (p, o) => ∃ q, v = .ref q ∧ H q = some (.tup [.int p, .int o])
def TabAt (H : Hp) (v : V) (t : Str × Option (Int × Int)) : Prop := ∃ p l, v = .ref p ∧ H p = some (.tup [.str t.1, l]) ∧ LoadAt H l t.2
def SrcAt (H : Hp) (v : V) (s : Str × Str) : Prop := ∃ p, v = .ref p ∧ H p = some (.tup [.str s.1, .str s.2])
structure VW where
  name : Str
  beat : Int × Int × Int
  srcs : List (Str × Str)
def BeatAt (H : Hp) (v : V) (b : Int × Int × Int) : Prop := ∃ p, v = .ref p ∧ H p = some (.tup [.int b.1, .int b.2.1, .int b.2.2])
def SrcsAt (H : Hp) (v : V) (l : List (Str × Str)) : Prop := ∃ p xs, v = .ref p ∧ H p = some (.tup xs) ∧ Paired (SrcAt H) xs l
def ViewAt (H : Hp) (v : V) (u : VW) : Prop := ∃ p b s, v = .ref p ∧ H p = some (.tup [.str u.name, b, s]) ∧ BeatAt H b u.beat ∧ SrcsAt H s u.srcs
structure WB where
  tabs : List (Str × Option (Int × Int))
  views : List VW
def WebAt (H : Hp) (v : V) (W : WB) : Prop := ∃ p t u ts us, v = .ref p ∧ H p = some (.tup [.ref t, .ref u]) ∧ H t = some (.tup ts) ∧ H u = some (.tup us) ∧ Paired (TabAt H) ts W.tabs ∧ Paired (ViewAt H) us W.views
section
variable {H H2 : Hp} (k : KT H H2)
include k
theorem LoadAt.kt {v : V} : ∀ {l : Option (Int × Int)}, LoadAt H v l → LoadAt H2 v l
  | none, h => h
  | some (p, o), ⟨q, e, h⟩ => ⟨q, e, k _ _ h⟩
theorem TabAt.kt {v : V} {t : Str × Option (Int × Int)} (h : TabAt H v t) : TabAt H2 v t := by
  obtain ⟨p, l, e, a, b⟩ := h
  exact ⟨p, l, e, k _ _ a, LoadAt.kt k b⟩
theorem SrcAt.kt {v : V} {s : Str × Str} (h : SrcAt H v s) : SrcAt H2 v s := by
  obtain ⟨p, e, a⟩ := h
  exact ⟨p, e, k _ _ a⟩
theorem SrcsAt.kt {v : V} {l : List (Str × Str)} (h : SrcsAt H v l) : SrcsAt H2 v l := by
  obtain ⟨p, xs, e, a, b⟩ := h
  exact ⟨p, xs, e, k _ _ a, L2.Paired.mapP b fun _ _ => SrcAt.kt k⟩
theorem BeatAt.kt {v : V} {b : Int × Int × Int} (h : BeatAt H v b) : BeatAt H2 v b := by
  obtain ⟨p, e, a⟩ := h
  exact ⟨p, e, k _ _ a⟩
theorem ViewAt.kt {v : V} {u : VW} (h : ViewAt H v u) : ViewAt H2 v u := by
  obtain ⟨p, b, s, e, a, c, d⟩ := h
  exact ⟨p, b, s, e, k _ _ a, BeatAt.kt k c, SrcsAt.kt k d⟩
theorem WebAt.kt {v : V} {W : WB} (h : WebAt H v W) : WebAt H2 v W := by
  obtain ⟨p, t, u, ts, us, e, a, b, c, d, f⟩ := h
  exact ⟨p, t, u, ts, us, e, k _ _ a, k _ _ b, k _ _ c, L2.Paired.mapP d fun _ _ => TabAt.kt k, L2.Paired.mapP f fun _ _ => ViewAt.kt k⟩
end
theorem paired_get {α β : Type} {R : α → β → Prop} : ∀ {xs : List α} {ys : List β} {i : Nat} {x : α}, Paired R xs ys → xs[i]? = some x → ∃ y, ys[i]? = some y ∧ R x y
  | _, _, _, _, .nil, e => by simp at e
  | _, _, 0, _, .cons r _, e => by simp at e; subst e; exact ⟨_, rfl, r⟩
  | _, _, i + 1, x, .cons _ t, e => by
    obtain ⟨y, h1, h2⟩ := paired_get (i := i) (x := x) t (by simpa using e)
    exact ⟨y, by simpa using h1, h2⟩
theorem paired_snoc {α β : Type} {R : α → β → Prop} : ∀ {xs : List α} {ys : List β} {x : α} {y : β}, Paired R xs ys → R x y → Paired R (xs ++ [x]) (ys ++ [y])
  | _, _, _, _, .nil, r => .cons r .nil
  | _, _, _, _, .cons a t, r => .cons a (paired_snoc t r)

/-! ### facts of the top -/
/-- the defs of the text: name, place, parameters -/
def dl : List (Str × Nat × List Str) := [("is_whole", 10, ["thing"]), ("is_between", 11, ["thing", "least", "most"]), ("is_beat", 14, ["thing"]), ("is_word", 23, ["thing"]), ("is_load", 24, ["thing"]), ("is_table", 25, ["thing", "ahead"]),
  ("are_sources", 26, ["thing", "ahead"]), ("is_view", 27, ["thing", "ahead"]), ("has_parts", 28, ["thing"]), ("web_fault", 29, ["thing"]), ("need_web", 30, ["thing"]), ("all_names", 31, ["web"]), ("names_of", 32, ["web"]), ("sources_in", 33, ["web"]),
  ("paths_from", 34, ["sources", "name"]), ("is_name_of", 35, ["web", "thing"]), ("paths", 36, ["web", "name"]), ("_law_begin", 38, ["script"]), ("_law_draw", 39, ["state", "many"]), ("_law_of", 40, ["state", "some"]), ("_law_beat", 41, ["state", "size"]),
  ("_law_names", 42, ["state", "many"]), ("_law_load", 43, ["state", "size"]), ("_law_web", 44, ["state", "size", "tables", "views"]), ("_law_paths", 45, ["web", "name"]), ("_law_all_names", 46, ["web"]), ("_law_wide", 47, ["state", "last"]),
  ("_law_raised", 48, ["asked"]), ("_law_wide_right", 49, ["state"]), ("law", 50, ["script"])]
structure Top (K : PySem.W.Frag) (mg : Str → Option Value) : Prop where
  fn : ∀ q ∈ dl, ∃ f fd, Fn K mg q.1 (topS q.2.1) q.2.2 f fd
  isi : mg "isinstance" = none
  all : mg "all" = none
  len : mg "len" = none
  tup : mg "tuple" = none
  str : mg "str" = none
  int : mg "int" = none
  bool : mg "bool" = none
  rev : mg "reversed" = none
  lst : mg "list" = none
  enu : mg "enumerate" = none
  rng : mg "range" = none
  min : mg "min" = none
  rpr : mg "repr" = none
  dct : mg "dict" = none
  mBeat : ∃ t, mg "MOST_BEAT" = some (.int 1000000 t)
  mTab : ∃ t, mg "MOST_TABLES" = some (.int 6 t)
  mVie : ∃ t, mg "MOST_VIEWS" = some (.int 8 t)
  mSou : ∃ t, mg "MOST_SOURCES" = some (.int 4 t)
  mPat : ∃ t, mg "MOST_PATHS" = some (.int 200 t)
  mLet : ∃ t, mg "MOST_LETTERS" = some (.int 8 t)
  lets : ∃ t, mg "LETTERS" = some (.str "abcdefghijklmnopqrstuvwxyz" t)
  modes : ∃ a, mg "MODES" = some (.ref a) ∧ ∀ H, SqT K H a [.str "with", .str "ahead"]
theorem Top.at {K : PySem.W.Frag} {mg : Str → Option Value} (T : Top K mg) (i : Nat) {x : Str} {j : Nat} {ps : List Str} (h : dl[i]? = some (x, j, ps) := by rfl) : ∃ f fd, Fn K mg x (topS j) ps f fd := T.fn (x, j, ps) (List.mem_of_getElem? h)
/-! ### the built-ins' names -/
theorem b_isi : bootBuiltins "isinstance" = some (.builtin "isinstance") := by decide +kernel
theorem b_all : bootBuiltins "all" = some (.builtin "all") := by decide +kernel
theorem b_len : bootBuiltins "len" = some (.builtin "len") := by decide +kernel
theorem b_min : bootBuiltins "min" = some (.builtin "min") := by decide +kernel
theorem b_rpr : bootBuiltins "repr" = some (.builtin "repr") := by decide +kernel
theorem b_tup : bootBuiltins "tuple" = some (.type "tuple") := by decide +kernel
theorem b_str : bootBuiltins "str" = some (.type "str") := by decide +kernel
theorem b_int : bootBuiltins "int" = some (.type "int") := by decide +kernel
theorem b_bool : bootBuiltins "bool" = some (.type "bool") := by decide +kernel
theorem b_lst : bootBuiltins "list" = some (.type "list") := by decide +kernel
theorem b_dct : bootBuiltins "dict" = some (.type "dict") := by decide +kernel
/-! ### rules in short: readings that are not unfolded -/
@[irreducible] def vIsi (K : PySem.W.Frag) : List V → Hp → VK → Prop := rIsi K
/-- len(e), e a list | a tuple -/
@[irreducible] def vLen (K : PySem.W.Frag) : List V → Hp → VK → Prop := fun xs H Q => ∃ p ys, xs = [.ref p] ∧ (SqL K H p ys ∨ SqT K H p ys) ∧ Q (.int ys.length) H
@[irreducible] def vIxT (K : PySem.W.Frag) : R2 := rIxT K
@[irreducible] def vIxL (K : PySem.W.Frag) : R2 := rIxL K
@[irreducible] def vI (g : Int → Int → V) : R2 := rI0 g
@[irreducible] def vEq : R2 := rEq
@[irreducible] def vNe : R2 := rNe
@[irreducible] def vIn (K : PySem.W.Frag) (neg : Bool) : R2 := rIn K neg
@[irreducible] def vSp (sp : Sp) : Sp := sp
section
variable {X : Cx} {e : Expr} {te : TE} {ta : TA} {p p2 pos : Pos}
variable {K : PySem.W.Frag} {mg : Str → Option Value}
theorem Top.isq (T : Top K mg) (hK : X.K = K := by rfl) : CallR X (.builtin "isinstance") (vIsi K) := by
  subst hK
  unfold vIsi
  exact call_isi
theorem Top.lnq (T : Top K mg) (hK : X.K = K := by rfl) : CallR X (.builtin "len") (vLen K) := by
  subst hK
  unfold vLen
  exact call_len_seq
theorem Top.ixT (T : Top K mg) (hK : X.K = K := by rfl) : IxR X (vIxT K) := by
  subst hK
  unfold vIxT
  exact ix_tup
theorem Top.ixL (T : Top K mg) (hK : X.K = K := by rfl) : IxR X (vIxL K) := by
  subst hK
  unfold vIxL
  exact ix_list
theorem eq_ok : OpR X (compareOp .Eq) vEq := by
  unfold vEq
  exact op_eq
theorem ne_ok : OpR X (compareOp .NotEq) vNe := by
  unfold vNe
  exact op_ne
theorem Top.inq (T : Top K mg) (hK : X.K = K := by rfl) : OpR X (compareOp .In) (vIn K false) := by
  subst hK
  unfold vIn
  exact op_in_seq
theorem Top.ninq (T : Top K mg) (hK : X.K = K := by rfl) : OpR X (compareOp .NotIn) (vIn K true) := by
  subst hK
  unfold vIn
  exact op_notIn_seq
theorem le_ok : OpR X (compareOp .LtE) (vI fun i j => .bl (decide (i ≤ j))) := by
  unfold vI
  exact op_le
theorem lt_ok : OpR X (compareOp .Lt) (vI fun i j => .bl (decide (i < j))) := by
  unfold vI
  exact op_lt
theorem gt_ok : OpR X (compareOp .Gt) (vI fun i j => .bl (decide (j < i))) := by
  unfold vI
  exact op_gt
theorem ge_ok : OpR X (compareOp .GtE) (vI fun i j => .bl (decide (j ≤ i))) := by
  unfold vI
  exact op_ge
theorem add_ok : OpR X (binaryOp .Add) (vI fun i j => .int (i + j)) := by
  unfold vI
  exact op_add
theorem sub_ok : OpR X (binaryOp .Sub) (vI fun i j => .int (i - j)) := by
  unfold vI
  exact op_sub
/-- isinstance(e, T), T a built-in type -/
theorem pe_isi {x : Str} {n : String} (T : Top K mg) (hm : mg x = none) (hv : bootBuiltins x = some (.type n)) (he : PE X e te) (hK : X.K = K := by rfl) (hM : X.mg = mg := by rfl) (hgi : Gl X "isinstance" := by rfl) (hg : Gl X x := by rfl) (hn : x ≠ "__name__" := by decide) (hd : (x == ("__debug__" : Str)) = false := by decide)
    (hs : starEach [e, .Name x p2] X.env = (false, eval e X.env) :: starEach [.Name x p2] X.env := by rfl) (hs2 : starEach [.Name x p2] X.env = (false, eval (.Name x p2) X.env) :: starEach [] X.env := by rfl)
    (hpl : (backTo pos (starEach [.Name x p2] X.env)).any (·.1) = false := by rfl) : PE X (.Call (.Name "isinstance" p) [e, .Name x p2] [] pos) (tCB (vIsi K) (tCons te (tCons (tC (.ty n)) tNil))) := by
  subst hM
  exact pe_callB (pos := pos) (p := p) (T.isq hK) hgi T.isi b_isi (pa_cons he (pa_cons (pe_bltn (v := .ty n) (pos := p2) hg hm hv rfl hn hd) pa_nil hs2) hs) (by decide) (by decide) hs hpl
theorem pe_len (T : Top K mg) (he : PE X e te) (hK : X.K = K := by rfl) (hM : X.mg = mg := by rfl) (hg : Gl X "len" := by rfl) (hs : starEach [e] X.env = (false, eval e X.env) :: starEach [] X.env := by rfl) (hpl : (backTo pos (starEach [] X.env)).any (·.1) = false := by rfl) :
    PE X (.Call (.Name "len" p) [e] [] pos) (tCB (vLen K) (tCons te tNil)) := by
  subst hM
  exact pe_callB (pos := pos) (p := p) (T.lnq hK) hg T.len b_len (pa_cons he pa_nil hs) (by decide) (by decide) hs hpl
variable {H : Hp} {a : Addr} {xs : List V} {x y v : V} {Q : VK}
theorem r_isi {n : String} (t : String) (b : Bool) (ty : TyX K H x (.type t)) (hk : kitB t n = some b) (q : Q (.bl b) H) : vIsi K [x, .ty n] H Q := by
  unfold vIsi
  exact ⟨x, .ty n, .type t, .type n, b, rfl, .ty n, ty, kit_ty hk, q⟩
theorem r_lnT (h : H a = some (.tup xs)) (q : Q (.int xs.length) H) : vLen K [.ref a] H Q := by
  unfold vLen
  exact ⟨a, xs, rfl, .inr (.of h), q⟩
theorem r_lnL (h : H a = some (.lst xs)) (q : Q (.int xs.length) H) : vLen K [.ref a] H Q := by
  unfold vLen
  exact ⟨a, xs, rfl, .inl (.of h), q⟩
/-- e[j] -/
theorem r_ixT (j : Nat) (h : H a = some (.tup xs)) (e : xs[j]? = some v) (q : Q v H) : vIxT K (.ref a) (.int (j : Int)) H Q := by
  unfold vIxT
  exact ⟨a, xs, j, v, rfl, rfl, .of h, atI_nat e, q⟩
theorem r_ixL (j : Nat) (h : H a = some (.lst xs)) (e : xs[j]? = some v) (q : Q v H) : vIxL K (.ref a) (.int (j : Int)) H Q := by
  unfold vIxL
  exact ⟨a, xs, j, v, rfl, rfl, .of h, atI_nat e, q⟩
/-- two ints, the answer known -/
theorem r_i {i j : Int} {g : Int → Int → V} (e : g i j = v) (q : Q v H) : vI g (.int i) (.int j) H Q := by
  unfold vI
  exact ⟨i, j, rfl, rfl, by rw [e]; exact q⟩
/-- == of scalars, its answer known -/
theorem r_eq {b : Bool} (h : scal x y = true) (e : decide (x = y) = b) (q : Q (.bl b) H) : vEq x y H Q := by
  unfold vEq
  exact ⟨h, by rw [e]; exact q⟩
theorem r_ne {b : Bool} (h : scal x y = true) (e : (!decide (x = y)) = b) (q : Q (.bl b) H) : vNe x y H Q := by
  unfold vNe
  exact ⟨h, by rw [e]; exact q⟩
theorem ty_tup (h : H a = some (.tup xs)) : TyX K H (.ref a) (.type "tuple") := .base (.tup h)
end
end VS

/-! The checks of a web: from is_whole to is_word. -/
namespace VS
open PySem PySem.Spec PyProof.Rows L2
section
variable {P : Program} {w : World} {K : PySem.W.Frag} {mg : Str → Option Value} {base : Heap}
/-! ### is_whole, is_between, is_beat -/
theorem sc_whole : FnScope ["thing"] ["thing"] (defScope (topS 10)) := ⟨rfl, rfl, rfl, by decide +kernel, rfl, by decide +kernel, by decide +kernel⟩
def spWhole : Sp := fun vs H Q _ => ∃ i, vs = [.int i] ∧ Q (.bl true) H
theorem ok_whole (T : Top K mg) : Ok P w K mg base CX0 1 "is_whole" ["thing"] spWhole := by
  obtain ⟨f, fd, F⟩ := T.at 0
  refine F.ok0 sc_whole (fun vs H Q E h => ?_) (fun cdv A outer s H vs Q E hr h => ?_)
  · obtain ⟨i, rfl, _⟩ := h
    rfl
  · obtain ⟨i, rfl, q⟩ := h
    refine ⟨_, pss_one (ps_ret (pe_and (pe_isi T T.int b_int (pv 0)) (pe_one (pe_not (pe_isi T T.bool b_bool (pv 0)))))), ?_⟩
    refine ⟨_, rfl, r_isi "int" true (.base (.int i)) (by decide +kernel) ⟨true, rfl, iteT ?_⟩⟩
    exact ⟨_, rfl, r_isi "int" false (.base (.int i)) (by decide +kernel) ⟨false, rfl, q⟩⟩
theorem sc_between : FnScope ["thing", "least", "most"] ["thing", "least", "most"] (defScope (topS 11)) := ⟨rfl, rfl, rfl, by decide +kernel, rfl, by decide +kernel, by decide +kernel⟩
def spBetween : Sp := fun vs H Q _ => ∃ i a b : Int, vs = [.int i, .int a, .int b] ∧ a ≤ i ∧ i ≤ b ∧ Q (.bl true) H
theorem ok_between (T : Top K mg) : Ok P w K mg base CX0 2 "is_between" ["thing", "least", "most"] spBetween := by
  obtain ⟨f, fd, F⟩ := T.at 1
  refine F.ok0 sc_between (fun vs H Q E h => ?_) (fun cdv A outer s H vs Q E hr h => ?_)
  · obtain ⟨i, a, b, rfl, _⟩ := h
    rfl
  · obtain ⟨i, a, b, rfl, h1, h2, q⟩ := h
    refine ⟨_, pss_one (ps_ret (pe_and (pe_fn (ok_whole T) hr pass0 (pa_cons (pv 0) pa_nil)) (pe_one (pe_chain le_ok le_ok (pv 1) (pv 0) (pv 2))))), ?_⟩
    refine ⟨_, rfl, i, rfl, true, rfl, iteT ?_⟩
    refine ⟨_, rfl, _, rfl, r_i (by rw [decide_eq_true h1]) ⟨true, rfl, iteT ?_⟩⟩
    exact ⟨_, rfl, r_i (by rw [decide_eq_true h2]) q⟩
theorem sc_beat : FnScope ["thing"] ["thing"] (defScope (topS 14)) := ⟨rfl, rfl, rfl, by decide +kernel, rfl, by decide +kernel, by decide +kernel⟩
def GoodBeat (b : Int × Int × Int) : Prop := 1 ≤ b.1 ∧ b.1 ≤ 1000000 ∧ 0 ≤ b.2.1 ∧ b.2.1 ≤ b.1 - 1 ∧ 0 ≤ b.2.2 ∧ b.2.2 ≤ 1000000
def spBeat : Sp := fun vs H Q _ => ∃ v b, vs = [v] ∧ BeatAt H v b ∧ GoodBeat b ∧ Q (.bl true) H
theorem ok_beat (T : Top K mg) : Ok P w K mg base CX0 3 "is_beat" ["thing"] spBeat := by
  obtain ⟨f, fd, F⟩ := T.at 2
  refine F.ok0 sc_beat (fun vs H Q E h => ?_) (fun cdv A outer s H vs Q E hr h => ?_)
  · obtain ⟨i, b, rfl, _⟩ := h
    rfl
  · obtain ⟨v, b, rfl, ⟨p, rfl, hp⟩, ⟨g1, g2, g3, g4, g5, g6⟩, q⟩ := h
    obtain ⟨tb, mb⟩ := T.mBeat
    refine ⟨_, pss_cons (ps_if (PW.pt (pw_or (pt_not (pt_val (pe_isi T T.tup b_tup (pv 0)))) (pw_or (pt_cmpR ne_ok (pe_len T (pv 0)) pe_int (nomark _))
        (pw_or1 (pt_not (pt_val (pe_fn (ok_between T) hr pass0 (pa_cons (pe_ix T.ixT (pv 0) pe_int (fun _ _ => rfl)) (pa_cons pe_int (pa_cons (pe_glob (v := .int 1000000) rfl mb ⟨_, rfl⟩) pa_nil))))))))))
        (pss_one (ps_ret pe_bl)) pss_nil)
      (pss_one (ps_ret (pe_and (pe_fn (ok_between T) hr pass0 (pa_cons (pe_ix T.ixT (pv 0) pe_int (fun _ _ => rfl)) (pa_cons pe_int (pa_cons (pe_op sub_ok (pe_ix T.ixT (pv 0) pe_int (fun _ _ => rfl)) pe_int) pa_nil))))
        (pe_one (pe_fn (ok_between T) hr pass0 (pa_cons (pe_ix T.ixT (pv 0) pe_int (fun _ _ => rfl)) (pa_cons pe_int (pa_cons (pe_glob (v := .int 1000000) rfl mb ⟨_, rfl⟩) pa_nil)))))))), ?_⟩
    refine ⟨_, rfl, r_isi "tuple" true (ty_tup hp) (by decide +kernel) ⟨true, rfl, iteF ?_⟩⟩
    refine ⟨_, rfl, r_lnT hp (r_ne rfl rfl ⟨false, rfl, iteF ?_⟩)⟩
    refine ⟨_, rfl, r_ixT 0 hp rfl ⟨_, _, _, rfl, g1, g2, true, rfl, iteF ?_⟩⟩
    refine ⟨_, rfl, r_ixT 1 hp rfl ⟨_, rfl, r_ixT 0 hp rfl (r_i rfl ⟨_, _, _, rfl, g3, g4, true, rfl, iteT ?_⟩)⟩⟩
    exact ⟨_, rfl, r_ixT 2 hp rfl ⟨_, _, _, rfl, g5, g6, q⟩⟩
end
end VS

/-! The checks of a web: is_word, is_load, is_table. -/
namespace VS
open PySem PySem.Spec PyProof.Rows L2
@[irreducible] def vLenS : List V → Hp → VK → Prop := fun xs H Q => ∃ x : Str, xs = [.str x] ∧ x.length ≤ sizeLine ∧ Q (.int x.length) H
@[irreducible] def vInS : R2 := fun x y H Q => ∃ (c : Nat) (z : Str), x = .str ⟨#[c]⟩ ∧ y = .str z ∧ Q (.bl (decide (c ∈ z.cps.toList))) H
@[irreducible] def vApp : V → List V → Hp → VK → Prop := rAppend
@[irreducible] def vAll (K : PySem.W.Frag) : List V → Hp → VK → Prop := rAll K
section
variable {X : Cx} {e : Expr} {te : TE} {p p2 pos : Pos}
theorem lenS_ok : CallR X (.builtin "len") vLenS := by
  unfold vLenS
  exact call_len_str
theorem inS_ok : OpR X (compareOp .In) vInS := by
  unfold vInS
  exact op_in_sign
theorem app_ok : MtM X "list.append" vApp := by
  unfold vApp
  exact mt_append
variable {K : PySem.W.Frag} {mg : Str → Option Value}
theorem Top.allq (T : Top K mg) (hc : X.calm = true) (hK : X.K = K := by rfl) : CallR X (.builtin "all") (vAll K) := by
  subst hK
  unfold vAll
  exact cr_all hc
variable {H : Hp} {a : Addr} {Q : VK}
theorem r_lnS {x : Str} (h : x.length ≤ sizeLine) (q : Q (.int x.length) H) : vLenS [.str x] H Q := by
  unfold vLenS
  exact ⟨x, rfl, h, q⟩
theorem r_inS {c : Nat} {z : Str} {b : Bool} (e : decide (c ∈ z.cps.toList) = b) (q : Q (.bl b) H) : vInS (.str ⟨#[c]⟩) (.str z) H Q := by
  unfold vInS
  exact ⟨c, z, rfl, rfl, by rw [e]; exact q⟩
/-- the reading of xs.append(e) -/
theorem r_app {l : Addr} {xs : List V} {v : V} (h : H l = some (.lst xs)) (hz : xs.length < sizeLine) (q : Q .non (upd H l (.lst (xs ++ [v])))) : vApp (.ref l) [v] H Q := by
  unfold vApp
  exact ⟨l, xs, v, rfl, rfl, h, hz, q⟩
theorem r_all {n : Nat} (h : H a = some (.lst (List.replicate n (V.bl true)))) (q : Q (.bl true) H) : vAll K [.ref a] H Q := by
  unfold vAll
  refine ⟨a, List.replicate n true, rfl, .of (by rw [h, List.map_replicate]), ?_⟩
  have e : (List.replicate n true).all id = true := by simp
  rw [e]
  exact q
end
/-- a comprehension without a test -/
theorem tyes {σ : L2.St} {H : Hp} {A B : Hp → Prop} (h : A H) : tYes σ H (fun b H3 => if b = true then A H3 else B H3) := by
  show (if true = true then A H else B H)
  rw [if_pos rfl]
  exact h
section
variable {P : Program} {w : World} {K : PySem.W.Frag} {mg : Str → Option Value} {base : Heap}
abbrev letters : Str := "abcdefghijklmnopqrstuvwxyz"
structure GoodW (x : Str) : Prop where
  lo : 1 ≤ x.length
  hi : x.length ≤ 8
  let_ : ∀ c ∈ x.cps.toList, c ∈ letters.cps.toList
theorem sc_word : FnScope ["thing", "letter"] ["thing"] (defScope (topS 23)) := ⟨rfl, rfl, rfl, by decide +kernel, rfl, by decide +kernel, by decide +kernel⟩
def spWord : Sp := fun vs H Q _ => ∃ x, vs = [.str x] ∧ GoodW x ∧ ∀ H2, Same H H2 → Q (.bl true) H2
theorem ok_word (T : Top K mg) : Ok P w K mg base CX0 1 "is_word" ["thing"] spWord := by
  obtain ⟨f, fd, F⟩ := T.at 3
  refine F.ok0 sc_word (fun vs H Q E h => ?_) (fun cdv A outer s H vs Q E hr h => ?_)
  · obtain ⟨x, rfl, _⟩ := h
    rfl
  · obtain ⟨x, rfl, g, q⟩ := h
    obtain ⟨tm, mm⟩ := T.mLet
    obtain ⟨tl, ml⟩ := T.lets
    refine ⟨_, pss_cons (ps_if (PW.pt (pw_or (pt_not (pt_val (pe_isi T T.str b_str (pv 0)))) (pw_or1 (pt_not (pt_chain le_ok le_ok pe_int
          (pe_callB lenS_ok (by rfl) T.len b_len (pa_cons (pv 0) pa_nil)) (pe_glob (v := .int 8) rfl mm ⟨_, rfl⟩))))))
        (pss_one (ps_ret pe_bl)) pss_nil)
      (pss_one (ps_ret (pe_callB (T.allq rfl) (by rfl) T.all b_all (pa_cons (pe_lc (own := [("letter", 1)]) (g := gName 1) (tt := tYes) rfl sc_word.nd (pi_str (pv 0)) (blkOk_by (N := ["thing", "letter"]) (sc := defScope (topS 23)) (by decide +kernel))
        (fun _ _ _ _ _ => pg_name (i := 1) sc_word.nd rfl (.inl rfl)) (fun _ _ _ _ _ => pts_nil) (fun _ _ _ _ _ => pe_cmpR inS_ok (pv 1) (pe_glob (v := .str letters) rfl ml ⟨_, rfl⟩) rfl)) pa_nil)))), ?_⟩
    refine ⟨_, rfl, r_isi "str" true (.base (.str x)) (by decide +kernel) ⟨true, rfl, iteF ?_⟩⟩
    have h1 : (1 : Int) ≤ (x.length : Int) := by have := g.lo; omega
    have h8 : (x.length : Int) ≤ 8 := by have := g.hi; omega
    have hz : x.length ≤ sizeLine := Nat.le_trans g.hi (by decide)
    refine ⟨_, rfl, r_lnS hz (r_i (by rw [decide_eq_true h1]) ⟨true, rfl, iteT (r_i (by rw [decide_eq_true h8]) ⟨true, rfl, iteF ?_⟩)⟩)⟩
    refine ⟨_, rfl, x, rfl, fun D nD => ?_⟩
    refine lc_it (Qd := fun H' => vAll K [.ref D] H' Q) walk_str (fun i H' => Same H H' ∧ H' D = some (.lst (List.replicate i (V.bl true)))) ⟨same_upd nD, upd_same⟩ (fun _ _ _ _ => trivial) ?_ (fun H' hp => r_all hp.2 (q H' hp.1))
    rintro i y H' H'' hi ⟨sm, hD⟩ ⟨rfl, c, hc, rfl⟩
    have hm : c ∈ x.cps.toList := by
      rw [← Array.getElem?_toList] at hc
      exact List.mem_of_getElem? hc
    refine ⟨rfl, tyes ⟨_, rfl, r_inS (decide_eq_true (g.let_ c hm)) ⟨_, hD, ?_, Same.mut sm nD, ?_⟩⟩⟩
    · rw [List.length_replicate]
      exact Nat.lt_of_lt_of_le hi hz
    · rw [upd_same, List.replicate_succ']
/-! ### is_load, is_table -/
theorem sc_load : FnScope ["thing"] ["thing"] (defScope (topS 24)) := ⟨rfl, rfl, rfl, by decide +kernel, rfl, by decide +kernel, by decide +kernel⟩
def GoodL : Option (Int × Int) → Prop
  | none => True
  | some (p, o) => 1 ≤ p ∧ p ≤ 1000000 ∧ 0 ≤ o ∧ o ≤ p - 1
def spLoad : Sp := fun vs H Q _ => ∃ v l, vs = [v] ∧ LoadAt H v l ∧ GoodL l ∧ ∀ H2, Same H H2 → Q (.bl true) H2
theorem ok_load (T : Top K mg) : Ok P w K mg base CX0 4 "is_load" ["thing"] spLoad := by
  obtain ⟨f, fd, F⟩ := T.at 4
  refine F.ok0 sc_load (fun vs H Q E h => ?_) (fun cdv A outer s H vs Q E hr h => ?_)
  · obtain ⟨x, l, rfl, _⟩ := h
    rfl
  · obtain ⟨v, l, rfl, hl, g, q⟩ := h
    refine ⟨_, pss_one (ps_ret (pe_or (pe_cmpR op_isN (pv 0) pe_non (nomark _)) (pe_one (pe_and (pe_isi T T.tup b_tup (pv 0)) (pe_and (pe_cmpR eq_ok (pe_len T (pv 0)) pe_int (nomark _))
      (pe_one (pe_fn (ok_beat T) hr pass0 (pa_cons (pe_tup (StX.pa_star (pv 0) (pa_cons pe_int pa_nil))) pa_nil)))))))), ?_⟩
    cases l with
    | none =>
      obtain rfl : v = .non := hl
      exact ⟨_, rfl, rfl, true, rfl, iteT (q H (Same.refl H))⟩
    | some po =>
      obtain ⟨pp, oo⟩ := po
      obtain ⟨a, rfl, ha⟩ : ∃ a, v = .ref a ∧ H a = some (.tup [.int pp, .int oo]) := hl
      refine ⟨_, rfl, rfl, false, rfl, iteF ?_⟩
      refine ⟨_, rfl, r_isi "tuple" true (ty_tup ha) (by decide +kernel) ⟨true, rfl, iteT ?_⟩⟩
      refine ⟨_, rfl, r_lnT ha (r_eq rfl rfl ⟨true, rfl, iteT ?_⟩)⟩
      refine ⟨_, rfl, a, _, rfl, .inl (.of ha), (by show 3 ≤ sizeLine; decide), fun t nt => ?_⟩
      exact ⟨_, (pp, oo, 0), rfl, ⟨t, rfl, upd_same⟩, ⟨g.1, g.2.1, g.2.2.1, g.2.2.2, Int.le_refl _, (by decide : (0 : Int) ≤ 1000000)⟩, q _ (same_upd nt)⟩
/-- the names ahead, as a list of texts -/
abbrev txs (l : List Str) : List V := l.map V.str
theorem flat_txs (l : List Str) : (txs l).all flatV = true := by
  rw [List.all_eq_true]
  intro v hv
  obtain ⟨x, _, rfl⟩ := List.mem_map.mp hv
  rfl
theorem inV_txs (x : Str) (l : List Str) : inV (.str x) (txs l) = decide (x ∈ l) := by
  induction l with
  | nil => rfl
  | cons y r ih =>
    have e1 : inV (.str x) (txs (y :: r)) = (eqV (.str y) (.str x) || inV (.str x) (txs r)) := rfl
    rw [e1, ih]
    have e2 : eqV (.str y) (.str x) = decide (y = x) := by
      first
        | rfl
        | simp [eqV]
    rw [e2]
    by_cases h : y = x
    · subst h
      simp
    · have h2 : ¬ x = y := fun e => h e.symm
      simp [h, h2]
theorem r_inL {K : PySem.W.Frag} {H : Hp} {a : Addr} {x : Str} {l : List Str} {b : Bool} {Q : VK} (h : H a = some (.lst (txs l))) (e : decide (x ∈ l) = b) (q : Q (.bl b) H) : vIn K false (.str x) (.ref a) H Q := by
  unfold vIn
  refine ⟨a, _, rfl, .inl (.of h), rfl, flat_txs l, ?_⟩
  rw [inV_txs, e]
  exact q
theorem r_inT {K : PySem.W.Frag} {H : Hp} {a : Addr} {x : Str} {l : List Str} {b : Bool} {Q : VK} (h : SqT K H a (txs l)) (e : decide (x ∈ l) = b) (q : Q (.bl b) H) : vIn K false (.str x) (.ref a) H Q := by
  unfold vIn
  refine ⟨a, _, rfl, .inr h, rfl, flat_txs l, ?_⟩
  rw [inV_txs, e]
  exact q
theorem r_ninL {K : PySem.W.Frag} {H : Hp} {a : Addr} {x : Str} {l : List Str} {b : Bool} {Q : VK} (h : H a = some (.lst (txs l))) (e : decide (x ∈ l) = b) (q : Q (.bl (!b)) H) : vIn K true (.str x) (.ref a) H Q := by
  unfold vIn
  refine ⟨a, _, rfl, .inl (.of h), rfl, flat_txs l, ?_⟩
  rw [inV_txs, e]
  exact q
theorem r_ninT {K : PySem.W.Frag} {H : Hp} {a : Addr} {x : Str} {l : List Str} {b : Bool} {Q : VK} (h : SqT K H a (txs l)) (e : decide (x ∈ l) = b) (q : Q (.bl (!b)) H) : vIn K true (.str x) (.ref a) H Q := by
  unfold vIn
  refine ⟨a, _, rfl, .inr h, rfl, flat_txs l, ?_⟩
  rw [inV_txs, e]
  exact q
theorem sc_table : FnScope ["thing", "ahead"] ["thing", "ahead"] (defScope (topS 25)) := ⟨rfl, rfl, rfl, by decide +kernel, rfl, by decide +kernel, by decide +kernel⟩
def spTable : Sp := fun vs H Q _ => ∃ v l t ns, vs = [v, .ref l] ∧ TabAt H v t ∧ GoodW t.1 ∧ GoodL t.2 ∧ H l = some (.lst (txs ns)) ∧ t.1 ∉ ns ∧ ∀ H2, Same H H2 → Q (.bl true) H2
theorem ok_table (T : Top K mg) : Ok P w K mg base CX0 5 "is_table" ["thing", "ahead"] spTable := by
  obtain ⟨f, fd, F⟩ := T.at 5
  refine F.ok0 sc_table (fun vs H Q E h => ?_) (fun cdv A outer s H vs Q E hr h => ?_)
  · obtain ⟨x, l, t, ns, rfl, _⟩ := h
    rfl
  · obtain ⟨v, l, t, ns, rfl, ⟨p, x, rfl, hp, hx⟩, gw, gl, hl, hn, q⟩ := h
    refine ⟨_, pss_cons (ps_if (PW.pt (pw_or (pt_not (pt_val (pe_isi T T.tup b_tup (pv 0)))) (pw_or (pt_cmpR ne_ok (pe_len T (pv 0)) pe_int (nomark _))
        (pw_or1 (pt_not (pt_val (pe_fn (ok_word T) (hr.mono (by decide)) pass0 (pa_cons (pe_ix T.ixT (pv 0) pe_int (fun _ _ => rfl)) pa_nil))))))))
        (pss_one (ps_ret pe_bl)) pss_nil)
      (pss_one (ps_ret (pe_and (pe_cmpR T.ninq (pe_ix T.ixT (pv 0) pe_int (fun _ _ => rfl)) (pv 1) (by rfl)) (pe_one (pe_fn (ok_load T) hr pass0 (pa_cons (pe_ix T.ixT (pv 0) pe_int (fun _ _ => rfl)) pa_nil)))))), ?_⟩
    refine ⟨_, rfl, r_isi "tuple" true (ty_tup hp) (by decide +kernel) ⟨true, rfl, iteF ?_⟩⟩
    refine ⟨_, rfl, r_lnT hp (r_ne rfl rfl ⟨false, rfl, iteF ?_⟩)⟩
    refine ⟨_, rfl, r_ixT 0 hp rfl ⟨_, rfl, gw, fun H1 s1 => ⟨true, rfl, iteF ?_⟩⟩⟩
    refine ⟨_, rfl, r_ixT 0 (s1 _ _ hp) rfl ⟨_, rfl, r_ninL (s1 _ _ hl) (decide_eq_false hn) ⟨true, rfl, iteT ?_⟩⟩⟩
    exact ⟨_, rfl, r_ixT 1 (s1 _ _ hp) rfl ⟨_, t.2, rfl, LoadAt.kt (.of s1) hx, gl, fun H2 s2 => q H2 (s1.trans s2)⟩⟩
end
end VS

/-! The checks of a web: are_sources, is_view, has_parts. -/
namespace VS
open PySem PySem.Spec PyProof.Rows L2
theorem take_snoc {α : Type} : ∀ {l : List α} {i : Nat} {x : α}, l[i]? = some x → l.take (i + 1) = l.take i ++ [x]
  | [], i, x, h => by simp at h
  | a :: l, 0, x, h => by
    have e : a = x := Option.some.inj h
    subst e
    rfl
  | a :: l, i + 1, x, h => by
    have ih := take_snoc (l := l) (i := i) (x := x) h
    show a :: l.take (i + 1) = a :: l.take i ++ [x]
    rw [ih]
    rfl
theorem small100 {n : Nat} (h : n ≤ 100) : n < sizeLine := Nat.lt_of_le_of_lt h (by decide)
section
variable {P : Program} {w : World} {K : PySem.W.Frag} {mg : Str → Option Value} {base : Heap}
abbrev modes : List Str := ["with", "ahead"]
/-- sources that a view may have behind the names ns -/
structure GoodS (ns : List Str) (l : List (Str × Str)) : Prop where
  lo : 1 ≤ l.length
  hi : l.length ≤ 4
  word : ∀ s ∈ l, GoodW s.1
  ahead : ∀ s ∈ l, s.1 ∈ ns
  nd : (l.map (·.1)).Nodup
  mode : ∀ s ∈ l, s.2 ∈ modes
theorem nd_take {α β : Type} {f : α → β} {l : List α} {i : Nat} {x : α} (h : (l.map f).Nodup) (e : l[i]? = some x) : f x ∉ (l.take i).map f := by
  intro hm
  obtain ⟨y, hy, ey⟩ := List.mem_map.mp hm
  obtain ⟨j, hj, ej⟩ := List.mem_iff_getElem.mp hy
  rw [List.length_take] at hj
  have hj2 : j < i := by omega
  have hi : i < l.length := (List.getElem?_eq_some_iff.mp e).1
  have e1 : (l.map f)[j]? = some (f x) := by
    rw [List.getElem?_map, List.getElem?_eq_getElem (by omega), ← ey]
    rw [List.getElem_take] at ej
    rw [ej]
    rfl
  have e2 : (l.map f)[i]? = some (f x) := by
    rw [List.getElem?_map, e]
    rfl
  exact absurd (nd_ix h e1 e2) (by omega)
theorem sc_sources : FnScope ["thing", "ahead", "found", "source"] ["thing", "ahead"] (defScope (topS 26)) := ⟨rfl, rfl, rfl, by decide +kernel, rfl, by decide +kernel, by decide +kernel⟩
def spSources : Sp := fun vs H Q _ => ∃ v a l ns, vs = [v, .ref a] ∧ SrcsAt H v l ∧ H a = some (.lst (txs ns)) ∧ GoodS ns l ∧ ∀ H2, Same H H2 → Q (.bl true) H2
theorem ok_sources (T : Top K mg) : Ok P w K mg base CX0 2 "are_sources" ["thing", "ahead"] spSources := by
  obtain ⟨f, fd, F⟩ := T.at 6
  refine F.ok0 sc_sources (fun vs H Q E h => ?_) (fun cdv A outer s H vs Q E hr h => ?_)
  · obtain ⟨v, a, l, ns, rfl, _⟩ := h
    rfl
  · obtain ⟨v, a, l, ns, rfl, ⟨p, xs, rfl, hp, hx⟩, ha, g, q⟩ := h
    obtain ⟨tm, mm⟩ := T.mSou
    obtain ⟨am, gm, hm⟩ := T.modes
    have hlen : xs.length = l.length := Paired.length hx
    refine ⟨_, pss_cons (ps_if (PW.pt (pw_or (pt_not (pt_val (pe_isi T T.tup b_tup (pv 0)))) (pw_or1 (pt_not (pt_chain le_ok le_ok pe_int (pe_len T (pv 0)) (pe_glob (v := .int 4) rfl mm ⟨_, rfl⟩))))))
        (pss_one (ps_ret pe_bl)) pss_nil)
      (pss_cons (ps_set (i := 2) sc_sources.nd rfl (.inl rfl) (pe_lst pa_nil))
      (pss_cons (ps_for PassesOwn.never rfl (pi_tup (pv 0)) (pg_name (i := 3) sc_sources.nd rfl (.inl rfl))
        (pss_cons (ps_if (PW.pt (pw_or (pt_not (pt_val (pe_isi T T.tup b_tup (pv 3)))) (pw_or (pt_cmpR ne_ok (pe_len T (pv 3)) pe_int (nomark _))
            (pw_or (pt_not (pt_val (pe_fn (ok_word T) hr pass0 (pa_cons (pe_ix T.ixT (pv 3) pe_int (fun _ _ => rfl)) pa_nil)))) (pw_or1 (pt_cmpR T.ninq (pe_ix T.ixT (pv 3) pe_int (fun _ _ => rfl)) (pv 1) (by rfl)))))))
            (pss_one (ps_ret pe_bl)) pss_nil)
        (pss_cons (ps_if (PW.pt (pw_or (pt_cmpR T.inq (pe_ix T.ixT (pv 3) pe_int (fun _ _ => rfl)) (pv 2) (by rfl)) (pw_or (pt_not (pt_val (pe_isi T T.str b_str (pe_ix T.ixT (pv 3) pe_int (fun _ _ => rfl)))))
            (pw_or1 (pt_cmpR T.ninq (pe_ix T.ixT (pv 3) pe_int (fun _ _ => rfl)) (pe_glob (v := .ref am) rfl gm rfl) (by rfl))))))
            (pss_one (ps_ret pe_bl)) pss_nil)
        (pss_one (ps_expr (pe_bm PySem.F.plainAttrs_list PySem.F.slot_list_append PySem.F.type_list_append app_ok (pv 2) (pa_cons (pe_ix T.ixT (pv 3) pe_int (fun _ _ => rfl)) pa_nil)))))))
      (pss_one (ps_ret pe_bl)))), ?_⟩
    refine ⟨_, rfl, r_isi "tuple" true (ty_tup hp) (by decide +kernel) ⟨true, rfl, iteF ?_⟩⟩
    have h1 : (1 : Int) ≤ (xs.length : Int) := by have := g.lo; omega
    have h4 : (xs.length : Int) ≤ 4 := by have := g.hi; omega
    refine ⟨_, rfl, r_lnT hp (r_i (by rw [decide_eq_true h1]) ⟨true, rfl, iteT (r_i (by rw [decide_eq_true h4]) ⟨true, rfl, iteF ?_⟩)⟩)⟩
    refine ⟨Nat.zero_le _, fun d nd => ?_⟩
    have s0 : Same H (upd H d (.lst [])) := same_upd nd
    refine ⟨_, rfl, p, rfl, ⟨_, .of (s0 _ _ hp)⟩, for_tup (xs := xs) (fun i σ H2 => ∃ y, σ = [some (.ref p), some (.ref a), some (.ref d), y] ∧ Same H H2 ∧ H2 d = some (.lst (txs ((l.take i).map (·.1)))))
      ⟨none, rfl, s0, upd_same⟩ (fun i σ H2 _ ⟨_, _, s2, _⟩ => .of (s2 _ _ hp)) ?_ ?_⟩
    · rintro i x σ H2 hi ⟨y, rfl, s2, hd⟩
      obtain ⟨sr, hl, ⟨e, rfl, he⟩⟩ := paired_get hx hi
      have hmem : sr ∈ l := List.mem_of_getElem? hl
      have he2 : H2 e = some (.tup [.str sr.1, .str sr.2]) := s2 _ _ he
      refine ⟨_, rfl, r_isi "tuple" true (ty_tup he2) (by decide +kernel) ⟨true, rfl, iteF ?_⟩⟩
      refine ⟨_, rfl, r_lnT he2 (r_ne rfl rfl ⟨false, rfl, iteF ?_⟩)⟩
      refine ⟨_, rfl, r_ixT 0 he2 rfl ⟨_, rfl, g.word _ hmem, fun H3 s3 => ⟨true, rfl, iteF ?_⟩⟩⟩
      have s3' := s2.trans s3
      have he3 := s3' _ _ he
      refine ⟨_, rfl, r_ixT 0 he3 rfl ⟨_, rfl, r_ninL (s3' _ _ ha) (decide_eq_true (g.ahead _ hmem)) ⟨false, rfl, iteF ?_⟩⟩⟩
      refine ⟨_, rfl, r_ixT 0 he3 rfl ⟨_, rfl, r_inL (s3 _ _ hd) (decide_eq_false (nd_take g.nd hl)) ⟨false, rfl, iteF ?_⟩⟩⟩
      refine ⟨_, rfl, r_ixT 1 he3 rfl (r_isi "str" true (.base (.str _)) (by decide +kernel) ⟨true, rfl, iteF ?_⟩)⟩
      refine ⟨_, rfl, r_ixT 1 he3 rfl (r_ninT (l := modes) (hm H3) (decide_eq_true (g.mode _ hmem)) ⟨false, rfl, iteF ?_⟩)⟩
      have hlt : i < l.length := (List.getElem?_eq_some_iff.mp hl).1
      refine ⟨_, rfl, .inl ⟨rfl, _, .of (s3 _ _ hd)⟩, _, rfl, r_ixT 0 he3 rfl (r_app (s3 _ _ hd) ?_ ⟨_, rfl, Same.mut s3' nd, ?_⟩)⟩
      · rw [List.length_map, List.length_map, List.length_take]
        exact small100 (by have := g.hi; omega)
      · rw [upd_same]
        show some (HO.lst (List.map V.str _ ++ _)) = some (HO.lst (List.map V.str _))
        rw [take_snoc hl, List.map_append, List.map_append]
        rfl
    · rintro σ H2 ⟨y, rfl, s2, hd⟩
      exact q H2 s2
theorem sc_view : FnScope ["thing", "ahead"] ["thing", "ahead"] (defScope (topS 27)) := ⟨rfl, rfl, rfl, by decide +kernel, rfl, by decide +kernel, by decide +kernel⟩
def spView : Sp := fun vs H Q _ => ∃ v l u ns, vs = [v, .ref l] ∧ ViewAt H v u ∧ GoodW u.name ∧ GoodBeat u.beat ∧ GoodS ns u.srcs ∧ H l = some (.lst (txs ns)) ∧ u.name ∉ ns ∧ ∀ H2, Same H H2 → Q (.bl true) H2
theorem ok_view (T : Top K mg) : Ok P w K mg base CX0 4 "is_view" ["thing", "ahead"] spView := by
  obtain ⟨f, fd, F⟩ := T.at 7
  refine F.ok0 sc_view (fun vs H Q E h => ?_) (fun cdv A outer s H vs Q E hr h => ?_)
  · obtain ⟨x, l, t, ns, rfl, _⟩ := h
    rfl
  · obtain ⟨v, l, u, ns, rfl, ⟨p, b, sv, rfl, hp, hb, hs⟩, gw, gb, gs, hl, hn, q⟩ := h
    refine ⟨_, pss_cons (ps_if (PW.pt (pw_or (pt_not (pt_val (pe_isi T T.tup b_tup (pv 0)))) (pw_or (pt_cmpR ne_ok (pe_len T (pv 0)) pe_int (nomark _))
        (pw_or (pt_not (pt_val (pe_fn (ok_word T) (hr.mono (by decide)) pass0 (pa_cons (pe_ix T.ixT (pv 0) pe_int (fun _ _ => rfl)) pa_nil)))) (pw_or1 (pt_cmpR T.inq (pe_ix T.ixT (pv 0) pe_int (fun _ _ => rfl)) (pv 1) (by rfl)))))))
        (pss_one (ps_ret pe_bl)) pss_nil)
      (pss_one (ps_ret (pe_and (pe_fn (ok_beat T) hr pass0 (pa_cons (pe_ix T.ixT (pv 0) pe_int (fun _ _ => rfl)) pa_nil))
        (pe_one (pe_fn (ok_sources T) (hr.mono (by decide)) pass0 (pa_cons (pe_ix T.ixT (pv 0) pe_int (fun _ _ => rfl)) (pa_cons (pv 1) pa_nil))))))), ?_⟩
    refine ⟨_, rfl, r_isi "tuple" true (ty_tup hp) (by decide +kernel) ⟨true, rfl, iteF ?_⟩⟩
    refine ⟨_, rfl, r_lnT hp (r_ne rfl rfl ⟨false, rfl, iteF ?_⟩)⟩
    refine ⟨_, rfl, r_ixT 0 hp rfl ⟨_, rfl, gw, fun H1 s1 => ⟨true, rfl, iteF ?_⟩⟩⟩
    refine ⟨_, rfl, r_ixT 0 (s1 _ _ hp) rfl ⟨_, rfl, r_inL (s1 _ _ hl) (decide_eq_false hn) ⟨false, rfl, iteF ?_⟩⟩⟩
    refine ⟨_, rfl, r_ixT 1 (s1 _ _ hp) rfl ⟨_, _, rfl, BeatAt.kt (.of s1) hb, gb, true, rfl, iteT ?_⟩⟩
    exact ⟨_, rfl, r_ixT 2 (s1 _ _ hp) rfl ⟨_, rfl, _, l, u.srcs, ns, rfl, SrcsAt.kt (.of s1) hs, s1 _ _ hl, gs, fun H2 s2 => q H2 (s1.trans s2)⟩⟩
theorem sc_parts : FnScope ["thing", "part"] ["thing"] (defScope (topS 28)) := ⟨rfl, rfl, rfl, by decide +kernel, rfl, by decide +kernel, by decide +kernel⟩
/-- another number of parts; two tuples of right lengths -/
def spParts : Sp := fun vs H Q _ => ∃ p xs, vs = [.ref p] ∧ H p = some (.tup xs) ∧ ((xs.length ≠ 2 ∧ Q (.bl false) H) ∨ ∃ t u ts us, xs = [.ref t, .ref u] ∧ H t = some (.tup ts) ∧ H u = some (.tup us) ∧ 1 ≤ ts.length ∧ ts.length ≤ 6 ∧ us.length ≤ 8 ∧ ∀ H2, Same H H2 → Q (.bl true) H2)
theorem ok_parts (T : Top K mg) : Ok P w K mg base CX0 1 "has_parts" ["thing"] spParts := by
  obtain ⟨f, fd, F⟩ := T.at 8
  refine F.ok0 sc_parts (fun vs H Q E h => ?_) (fun cdv A outer s H vs Q E hr h => ?_)
  · obtain ⟨x, l, rfl, _⟩ := h
    rfl
  · obtain ⟨p, xs, rfl, hp, h⟩ := h
    obtain ⟨tt, mt⟩ := T.mTab
    obtain ⟨tv, mv⟩ := T.mVie
    refine ⟨_, pss_cons (ps_if (PW.pt (pw_or (pt_not (pt_val (pe_isi T T.tup b_tup (pv 0)))) (pw_or (pt_cmpR ne_ok (pe_len T (pv 0)) pe_int (nomark _))
        (pw_or1 (pt_not (pt_val (pe_callB (T.allq rfl) (by rfl) T.all b_all (pa_cons (pe_lc (own := [("part", 1)]) (g := gName 1) (tt := tYes) rfl sc_parts.nd (pi_tup (pv 0)) (blkOk_by (N := ["thing", "part"]) (sc := defScope (topS 28)) (by decide +kernel))
          (fun _ _ _ _ _ => pg_name (i := 1) sc_parts.nd rfl (.inl rfl)) (fun _ _ _ _ _ => pts_nil) (fun _ _ _ _ _ => pe_isi T T.tup b_tup (pv 1))) pa_nil))))))))
        (pss_one (ps_ret pe_bl)) pss_nil)
      (pss_one (ps_ret (pe_and (pe_chain le_ok le_ok pe_int (pe_len T (pe_ix T.ixT (pv 0) pe_int (fun _ _ => rfl))) (pe_glob (v := .int 6) rfl mt ⟨_, rfl⟩))
        (pe_one (pe_cmpR le_ok (pe_len T (pe_ix T.ixT (pv 0) pe_int (fun _ _ => rfl))) (pe_glob (v := .int 8) rfl mv ⟨_, rfl⟩) (nomark _)))))), ?_⟩
    refine ⟨_, rfl, r_isi "tuple" true (ty_tup hp) (by decide +kernel) ⟨true, rfl, iteF ?_⟩⟩
    rcases h with ⟨hn, q⟩ | ⟨t, u, ts, us, rfl, ht, hu, l1, l2, l3, q⟩
    · have e : (!decide (V.int (xs.length : Int) = V.int 2)) = true := by
        have : ¬ V.int (xs.length : Int) = V.int 2 := fun z => hn (by have := V.int.inj z; omega)
        rw [decide_eq_false this]
        rfl
      exact ⟨_, rfl, r_lnT hp (r_ne rfl e ⟨true, rfl, iteT (iteT q)⟩)⟩
    · refine ⟨_, rfl, r_lnT hp (r_ne rfl rfl ⟨false, rfl, iteF ?_⟩)⟩
      refine ⟨_, rfl, p, rfl, ⟨_, .of hp⟩, fun D nD => ?_⟩
      refine lc_it (walk_tup (xs := [.ref t, .ref u])) (fun i H' => Same H H' ∧ H' D = some (.lst (List.replicate i (V.bl true)))) ⟨same_upd nD, upd_same⟩ (fun i H' _ hq => .of (hq.1 _ _ hp)) ?_ (fun H1 hq => r_all hq.2 ⟨true, rfl, iteF ?_⟩)
      · rintro i y H' H'' hi ⟨sm, hD⟩ ⟨rfl, hy⟩
        have hty : TyX K H'' y (.type "tuple") := by
          match i, hi, hy with
          | 0, _, hy =>
            obtain rfl : V.ref t = y := Option.some.inj hy
            exact ty_tup (sm _ _ ht)
          | 1, _, hy =>
            obtain rfl : V.ref u = y := Option.some.inj hy
            exact ty_tup (sm _ _ hu)
        refine ⟨rfl, tyes ⟨_, rfl, r_isi "tuple" true hty (by decide +kernel) ⟨_, hD, ?_, Same.mut sm nD, ?_⟩⟩⟩
        · rw [List.length_replicate]
          exact small100 (by have : i < 2 := hi; omega)
        · rw [upd_same, List.replicate_succ']
      · have s1 := hq.1
        have h1 : (1 : Int) ≤ (ts.length : Int) := by omega
        have h6 : (ts.length : Int) ≤ 6 := by omega
        have h8 : (us.length : Int) ≤ 8 := by omega
        refine ⟨_, rfl, r_ixT 0 (s1 _ _ hp) rfl (r_lnT (s1 _ _ ht) (r_i (by rw [decide_eq_true h1]) ⟨true, rfl, iteT (r_i (by rw [decide_eq_true h6]) ⟨true, rfl, iteT ?_⟩)⟩))⟩
        exact ⟨_, rfl, r_ixT 1 (s1 _ _ hp) rfl (r_lnT (s1 _ _ hu) (r_i (by rw [decide_eq_true h8]) (q H1 s1)))⟩
end
end VS

/-! enumerate over a tuple, in a for. -/
namespace VS
open PySem PySem.Spec PyProof.Rows L2
section
variable {prog : Program} {w : World} {A : Around} {E : Value → Shared → Prop} {s : Shared}
theorem enum_new1 {v : Value} {o : Obj} {G : Heap → Prop} (B : Begins v o G) :
    Meets (Builtin.«enumerate.__new__» ⟨[.type "enumerate", v], []⟩) (fun _ R s => G s.heap ∧
      R (.ok (.ret (.ref (s.heap.push o).objs.size))) { s with heap := (s.heap.push o).push { cls := .type "enumerate", data := .fields #[.none, .bool false, .ref s.heap.objs.size, rawInt 0, .none, .none] } }) :=
  .of_wp fun prog w A R s h => by
    obtain ⟨hp, gs, dr, tk, os⟩ := s
    obtain ⟨h1, h⟩ := h
    have hsub := sub_enumerate
    have qq : ∀ {A2 : Around} {E : Value → Shared → Prop} {Q : Value → Shared → Prop}, Q (.ref hp.objs.size) ⟨hp.push o, gs, dr, tk, os⟩ → wpAny (model prog w) A2 (pyIter v) Q E ⟨hp, gs, dr, tk, os⟩ :=
      fun q => B.iter prog w _ _ ⟨hp, gs, dr, tk, os⟩ _ h1 q
    wp_walk using qq
    refine wpAny_stack_any fun stk => wpAny_pure ?_
    split
    · rename_i c _ _ _ _ _
      cases (c == Value.type "enumerate")
      all_goals
        wp_walk using qq
        exact ⟨_, rfl, h⟩
    · wp_walk using qq
      exact ⟨_, rfl, h⟩
theorem enum_call1 {v : Value} {o : Obj} {G : Heap → Prop} {Q : Value → Shared → Prop} (B : Begins v o G) (h1 : G s.heap)
    (h : ∀ h2, IsEnum h2 (s.heap.objs.size + 1) s.heap.objs.size 0 .none → h2.get? s.heap.objs.size = some o → (∀ b o, s.heap.get? b = some o → h2.get? b = some o) → Q (.ref (s.heap.objs.size + 1)) { s with heap := h2 }) :
    wpAny (model prog w) A (call (.type "enumerate") [v]) Q E s := by
  refine callType_new F.called_enumerate (by decide) (F.typeCall_enumerate_1 _) (F.newCall_enumerate_1 _) (fun obj => F.args_object_init_2 obj _) F.entry_enumerate_new (enum_new1 B) ⟨h1, ?_⟩
  have zl : (s.heap.push o).objs.size = s.heap.objs.size + 1 := Heap.size_push ..
  show _ ∧ _
  rw [zl]
  have hE : IsEnum ((s.heap.push o).push { cls := .type "enumerate", data := .fields #[.none, .bool false, .ref s.heap.objs.size, rawInt 0, .none, .none] }) (s.heap.objs.size + 1) s.heap.objs.size 0 .none := by
    have z := Heap.get?_push_size (s.heap.push o) (o := { cls := .type "enumerate", data := .fields #[.none, .bool false, .ref s.heap.objs.size, rawInt 0, .none, .none] }) rfl
    rw [zl] at z
    exact z
  exact ⟨⟨_, hE, rfl⟩, h _ hE (Heap.get?_push_of_some _ (Heap.get?_push_size _ B.free)) fun b o x => Heap.get?_push_of_some _ (Heap.get?_push_of_some _ x)⟩
end
/-- the pairs of place and item of the tuple at a -/
def ItE (K : PySem.W.Frag) (a : Addr) : It :=
  ⟨fun i H => ∃ (xs : List V) (x : V), SqT K H a xs ∧ xs[i]? = some x, fun i H v H2 => ∃ T x, v = .ref T ∧ H T = none ∧ H2 = upd H T (.tup [.int (i : Nat), x]) ∧ ∀ xs, SqT K H a xs → xs[i]? = some x, fun i H => ∃ xs : List V, SqT K H a xs ∧ xs.length = i⟩
theorem turn_enT {P : Program} {w : World} {K : PySem.W.Frag} {elts : List Expr} {kk : Nat} {tpos : Pos} (a e it : Addr) :
    Turn P w K (.Tuple elts kk tpos) (ItE K a) [e, it] e (fun i h => (∃ was, IsEnum h e it ((i : Nat) : Int) was) ∧ h.IsTupleIter it a i ∧ e ≠ it ∧ e ≠ a ∧ a ≠ it) where
  mem := by simp
  obj := fun i h st b hb => by
    obtain ⟨⟨was, he⟩, ⟨o, oo, oc, od⟩, _⟩ := st
    have hb2 : b = e ∨ b = it := by simpa using hb
    rcases hb2 with z | z
    · rw [z]
      exact ⟨_, he, fun v q => nomatch q⟩
    · rw [z]
      exact ⟨o, oo, fun v q => by rw [od] at q; cases q⟩
  keep := fun i h h2 st k => by
    obtain ⟨⟨was, he⟩, hi, hn⟩ := st
    exact ⟨⟨was, k e (by simp) _ he⟩, hi.at fun o q => k it (by simp) o q, hn⟩
  item := by
    intro X eP ew eK oc i pins s σ H E I hf st hg
    subst eP ew eK
    obtain ⟨⟨was, he⟩, hit, hne, hea, hai⟩ := st
    obtain ⟨xs, x, hq, hx⟩ := hg
    obtain ⟨its, rvs, p, zl⟩ := I.tuple hq
    obtain ⟨u, gu, rgu⟩ := rvs.get hx
    have lte : e < s.heap.objs.size := Heap.lt_size he
    have hlt : i < its.toArray.size := by
      have := (List.getElem?_eq_some_iff.mp gu).1
      simpa using this
    have hcalm : X.A.in1.handled = none := I.ok.hd oc
    refine wpAny_pyNext_enum_itemC (D := Draws.tuple hcalm it a hai its.toArray) he ⟨hit, p⟩ hlt hne (by simp [hne, hea]) fun y h2 tk hy oo hit2 hT hsz hk => ?_
    have ey : y = u := by
      have hy2 : its[i]? = some y := by simpa using hy
      rw [gu] at hy2
      exact (Option.some.inj hy2).symm
    subst ey
    refine ⟨_, rfl, wpAny_letOwnedTupleGo_enum (s := { s with heap := h2, toks := tk + 1 }) oo fun h3 he3 sb => ?_⟩
    have hT2 : h3.get? s.heap.objs.size = some { cls := .type "tuple", data := .seq #[.int i tk, y] } := (sb.2 _ (Nat.ne_of_gt lte)).trans hT
    have new : ObjOk X.prog X.w (upd H s.heap.objs.size (.tup [.int (i : Nat), x])) h3 s.heap.objs.size (.tup [.int (i : Nat), x]) :=
      ⟨by show 2 ≤ sizeLine; decide, [.int i tk, y], .cons ⟨_, rfl⟩ (.cons rgu .nil), ⟨_, hT2, rfl, _, rfl⟩⟩
    have I1 : Inv X pins σ (upd H s.heap.objs.size (.tup [.int (i : Nat), x])) { s with heap := h3, toks := tk + 1 } :=
      I.turnedNew (ch := [e, it]) (fun b ob hb q => (sb.2 b (fun z => hb (by simp [z]))).trans (hk b ob (fun z => hb (by simp [z])) (fun z => hb (by simp [z])) q)) hf (Nat.le_refl _) new
    refine ⟨.ref s.heap.objs.size, _, I1, rfl, ⟨_, x, rfl, I.hok.fresh (Nat.le_refl _), rfl, fun ys hy => by rw [I.tuple_inj hy hq]; exact hx⟩, ⟨⟨y, ?_⟩, hit2.1.at fun o q => (sb.2 it (Ne.symm hne)).trans q, hne, hea, hai⟩, fun b hb => ?_⟩
    · have eplus : ((i + 1 : Nat) : Int) = (i : Int) + 1 := by omega
      rw [eplus]
      exact he3
    · have hb2 : b < s.heap.objs.size := by
        have z : b = e ∨ b = it := by simpa using hb
        rcases z with z | z
        · rw [z]
          exact lte
        · rw [z]
          obtain ⟨_, q, _⟩ := hit
          exact Heap.lt_size q
      rw [upd_ne (Nat.ne_of_lt hb2)]
      exact (hf b hb).1
  done := by
    intro X eP ew eK oc i pins s σ H E I hf st hg
    subst eP ew eK
    obtain ⟨⟨was, he⟩, hit, hne, hea, hai⟩ := st
    obtain ⟨xs, hq, hx⟩ := hg
    obtain ⟨its, rvs, p, zl⟩ := I.tuple hq
    obtain ⟨g0, g1, g2, g3, g4, g5⟩ := hf it (by simp)
    have hcalm : X.A.in1.handled = none := I.ok.hd oc
    have hl : its.toArray.size = i := by
      rw [← hx, rvs.length]
      simp
    subst hl
    exact wpAny_pyNext_enum_endD (D := Draws.tuple hcalm it a hai its.toArray) he ⟨hit, p⟩ fun h2 eb => ⟨rfl, I.turned (t' := s.toks) (fun b o hb q => eb b o hb q) g0 g1 g3 g4 g5⟩
  self := fun A i s Q E st h => by
    obtain ⟨⟨_, he⟩, _⟩ := st
    exact wpAny_pyIter_enum he h
def iEnumT (K : PySem.W.Frag) (ta : TA) : TI := fun σ H R => ta σ H fun vs H1 => ∃ a xs, vs = [.ref a] ∧ SqT K H1 a xs ∧ R (ItE K a) H1
theorem pi_enT {X : Cx} {e : Expr} {ta : TA} {p pos tpos : Pos} {elts : List Expr} {kk : Nat} (hg : Gl X "enumerate") (hm : X.mg "enumerate" = none) (ha : PA X [e] ta) (hs : starEach [e] X.env = [(false, eval e X.env)] := by rfl) :
    PI X (.Tuple elts kk tpos) (.Call (.Name "enumerate" p) [e] [] pos) (iEnumT X.K ta) := by
  refine ⟨fun pins s σ H R I h => ?_⟩
  refine Call_ (ld_blt I hg hm boot_enumerate (PyProof.Rows.callWith_type1 (thn (ha.run pos pins s σ H _ I h) fun us s1 ⟨vs, H1, I1, r1, qq⟩ => ?_) hs rfl))
  obtain ⟨a, xs, ex, hq, q⟩ := qq
  subst ex
  cases r1 with
  | cons r rr =>
    cases rr
    cases r
    obtain ⟨its, rvs, tp, zl⟩ := I1.tuple hq
    have B := begins_tuple a its.toArray
    have lta : a < s1.heap.objs.size := by
      obtain ⟨o, oo, _⟩ := tp
      exact Heap.lt_size oo
    refine enum_call1 B tp fun h2 he hit hk => wpAny_pyIter_enum he ?_
    have I2 : Inv X pins σ H1 { s1 with heap := h2 } := I1.kept (t' := s1.toks) hk
    refine ⟨s1.heap.objs.size + 1, [s1.heap.objs.size + 1, s1.heap.objs.size], _, _, H1, rfl, I2, turn_enT a (s1.heap.objs.size + 1) s1.heap.objs.size, ⟨⟨.none, he⟩, ⟨_, hit, rfl, rfl⟩, Nat.succ_ne_self _, Nat.ne_of_gt (Nat.lt_succ_of_lt lta), Nat.ne_of_lt lta⟩, fun b hb => ?_, q⟩
    have hb2 : b = s1.heap.objs.size + 1 ∨ b = s1.heap.objs.size := by simpa using hb
    have above : s1.heap.objs.size ≤ b := by
      rcases hb2 with z | z
      · rw [z]
        exact Nat.le_add_right _ _
      · rw [z]
        exact Nat.le_refl _
    exact I1.fpOk above (I1.hok.fresh above)
theorem walk_enT {K : PySem.W.Frag} {a : Addr} {xs : List V} : Walk (ItE K a) xs.length (fun H => SqT K H a xs) (YPair (fun i => some (.int (i : Nat))) (fun i => xs[i]?)) := by
  refine ⟨fun i _ hi q => ⟨xs, xs[i], q, by simp [hi]⟩, fun _ q => ⟨xs, q, rfl⟩, fun i H v H2 _ q y => ?_⟩
  obtain ⟨T, x, h1, h2, h3, h4⟩ := y
  exact ⟨T, .int (i : Nat), x, h1, h2, h3, rfl, h4 xs q⟩
end VS

/-! Own exceptions of one field over any built-in base: made and raised (turned from skel/42's LowX). -/
namespace VX
open PySem PySem.W PySem.Calls PyProof.Rows PySem.HandSPX Builtin Builtin.ObjectAttr
section
variable {prog : Program} {w : World} {A : Around} {E : Value → Shared → Prop} {R : Result → Shared → Prop} {hp : Heap} {g : Array GenState} {d : Drawn} {t : Nat} {os : OsState} {B : String} {bmB : List Value}
/-- self.name = v on an exception that has no dict yet, whatever its built-in base -/
theorem exc_store {K : Frag} {name : Str} {tk : Tok} {v : Value} {x C : Addr} {fv : Array Value} {cd : ClassData} (SF : StoreFacts B bmB "object.__setattr__" "object")
    (X : K.In hp) (xo : hp.get? x = some { cls := .ref C, data := .fields fv }) (hcd : clsIn K C = some cd) (hov : excOver K C bmB = true) (hh : cd.hasDict = true) (ha : findIn K (.ref C) name = some none)
    (hq : ∀ h2 tk2 dx, (∀ b o, b ≠ x → hp.get? b = some o → h2.get? b = some o) → hp.objs.size ≤ dx → dx ≠ x → h2.get? x = some { cls := .ref C, dict := some dx, data := .fields fv } →
      h2.Ns1 dx (fun y => if y = name then some v else none) → R (.ok (.ret .none)) ⟨h2, g, d, tk2, os⟩) :
    codeAny (model prog w) A (.call (.builtin "object.__setattr__") ⟨[.ref x, .str name tk, v], []⟩) R ⟨hp, g, d, t, os⟩ := by
  have I : InstAt hp x { cls := .ref C, data := .fields fv } C none := ⟨xo, rfl, rfl, trivial⟩
  have ht : takerIn K C name = some none := by
    unfold takerIn
    rw [ha] <;> rfl
  have nxs : x ≠ hp.objs.size := Nat.ne_of_lt (Heap.lt_size xo)
  have lkc : Looks (model prog w) hp (classData C) cd := looks_clsIn X hcd
  refine osa_openX (s := ⟨hp, g, d, t, os⟩) SF X I hov ht fun b => ?_
  show wpAny _ _ (storeInOwnDict (.ref x) (.ref C) (.str name tk) name v b) _ _ _
  obtain ⟨nn, bb, mro, ns, qn, hd, n1, n2, n3, n4, n5⟩ := cd
  dsimp only at hh
  subst hh
  unfold storeInOwnDict ownDictForStores
  repeat (first | with_reducible refine store_in_new ?_ ?_ | with_reducible refine wpAny_loadPart_at xo ?_ | with_reducible refine lkc.at ?_ | wp_step)
  · exact ⟨_, #[], _, (Heap.get?_update_ne _ _ _ _ nxs.symm).trans (Heap.get?_push_at rfl rfl), rfl, fun e he => absurd he (by simp), fun _ => rfl⟩
  · intro h2 tk2 dict0 rest
    have hx1 : (hp.push { cls := .type "dict", data := .dict #[] }).get? x = some { cls := .ref C, data := .fields fv } := Heap.get?_push_of_some _ xo
    refine hq h2 tk2 hp.objs.size (fun b o hb ho => ?_) (Nat.le_refl _) nxs.symm ?_ dict0
    · exact (rest.2 b (Nat.ne_of_lt (Heap.lt_size ho))).trans ((Heap.get?_update_ne _ _ _ _ hb).trans (Heap.get?_push_of_some _ ho))
    · exact (rest.2 x nxs).trans (Heap.get?_update_self _ hx1 rfl)
end
end VX

/-! The __init__ of the three exception classes (printed by gen_x2.py). -/
namespace VX
open PySem PySem.W PySem.Calls PyProof.Rows PySem.HandSPX
/-- what __init__ leaves of a fresh exception at x: its field f is v -/
structure InitEnd (f : Str) (h h2 : Heap) (x C dx t1 : Addr) (v : Value) : Prop where
  keep : ∀ b o, b ≠ x → h.get? b = some o → h2.get? b = some o
  obj : h2.get? x = some { cls := .ref C, dict := some dx, data := .fields #[.ref t1, .none, .none, .none, .bool false, .none] }
  dbig : h.objs.size ≤ dx
  dne : dx ≠ x
  ns : h2.Ns1 dx (fun y => if y = f then some v else none)
/-- the class at C of the field f over the built-in base B, its __init__ at fI -/
structure ExK (K : Frag) (C fI : Addr) (f : Str) (bmB : List Value) (newId : String) : Prop where
  q : excInitIn K C bmB newId = true
  ov : excOver K C bmB = true
  hd : hasDictIn K C = true
  nof : findIn K (.ref C) f = some none
  sa : findIn K (.ref C) "__setattr__" = some (some (.builtin "object.__setattr__"))
  iC : findIn K (.ref C) "__init__" = some (some (.ref fI))
  tI : typeIn K (.ref fI) = some (.type "function")
def InitOk (K : Frag) (C fI : Addr) (f : Str) : Prop := ∀ {prog : Program} {w : World} {A : Around} {R : Result → Shared → Prop} {s : Shared} {x t0 : Addr} {v : Value}, K.In s.heap → s.heap.NoLimit → s.heap.get? x = some (excO C t0) → A.depth < recursionLimit →
  (∀ h2 tk dx, InitEnd f s.heap h2 x C dx t0 v → R (.ok (.ret .none)) { s with heap := h2, toks := tk }) → codeAny (model prog w) A (.call (.ref fI) ⟨[.ref x, v], []⟩) R s
theorem ld_loc {M : Model} {s : Shared} {name : Str} {scope : Scope} {L a : Addr} {cd : Value} {m : Str → Option Value} {x : Str} {pos : Pos} {v : Value} {Q : Value → Shared → Prop} {A : Around} {E : Value → Shared → Prop} (hn : s.heap.Ns L m) (hv : m x = some v) (h : Q v s)
    (hk : scope.kind = .function := by rfl) (hl : (envOfC name scope L a cd).kindOf x = some .local := by rfl) (hd : (x == ("__debug__" : Str)) = false := by decide) :
    wpAny M A (eval (.Name x pos) (envOfC name scope L a cd)) Q E s := wpAny_Name (wpAny_loadName_local hk hl hn hv h) hd

theorem init_BadWeb {K : Frag} {C fI : Addr} {fd : FuncData} {bmB : List Value} {newId B : String} (F : L2.FunD K "__init__" "BadWeb.__init__" (L2.defArgs (L2.inClass (VS.topS 2) 0)) (L2.defBody (L2.inClass (VS.topS 2) 0)) (L2.defScope (L2.inClass (VS.topS 2) 0)) [] [] fI fd)
    (T : ExK K C fI "place" bmB newId) (SF : StoreFacts B bmB "object.__setattr__" "object") : InitOk K C fI "place" := by
  intro prog w A R s x t0 v X hlim hx hroom hq
  obtain ⟨oc, od, dV, kV, doc, pm, an, cdv, ct, osl, rfl, ho, hcd, hD, _⟩ := F.ex
  have e0 : dV = .none := by
    rcases hD with ⟨_, e⟩ | ⟨e, _⟩
    · exact e
    · exact absurd rfl e
  subst e0
  obtain ⟨cd, hcl, hh⟩ : ∃ cd, clsIn K C = some cd ∧ cd.hasDict = true := by
    obtain ⟨cd, a, b⟩ := any_some T.hd
    exact ⟨cd, a, b⟩
  obtain ⟨q1, q2, q3, q4, hb⟩ : ∃ q1 q2 q3 q4, L2.defBody (L2.inClass (VS.topS 2) 0) = [.Assign [.Attribute (.Name "self" q1) "place" q2] (.Name "place" q3) q4] := ⟨_, _, _, _, rfl⟩
  refine Att.call_fn (binds := [("self", .ref x), ("place", v)]) X hlim ho hcd hroom (BindsTo.of_eq (by first | rfl | with_unfolding_all rfl)) (by first | rfl | decide | with_unfolding_all rfl) (fun s₁ IC => ?_) rfl rfl rfl
  obtain ⟨h₁, tk₁, rfl⟩ := IC.toInCall.same
  have k : ∀ b o, s.heap.get? b = some o → h₁.get? b = some o := IC.toInCall.keep
  have hn := IC.toInCall.ns
  have X₁ : K.In h₁ := X.keeps k
  have hx₁ := k _ _ hx
  rw [hb]
  -- self.place = place
  show wpAny _ _ (execs _ _) _ _ _
  refine wpAny_execs_cons (plainObj_wpAny_Assign_Attribute ?_)
  refine ld_loc (v := v) hn (by first | rfl | with_unfolding_all rfl | kernel_rfl) (ld_loc (v := .ref x) hn (by first | rfl | with_unfolding_all rfl | kernel_rfl) ?_)
  refine set_plain X₁ (ox := excO C t0) (od := none) ⟨hx₁, rfl, rfl, trivial⟩ T.sa ?_
  refine exc_store SF X₁ hx₁ hcl T.ov hh T.nof (fun h₃ tk₃ dx k₃ dn dne hx₃ hn₃ => ?_)
  show wpAny _ _ (execs _ _) _ _ _
  have z : s.heap.objs.size < h₁.objs.size := hn.lt
  exact wpAny_execs_nil (hq h₃ tk₃ dx ⟨fun b o hb e => k₃ b o hb (k b o e), hx₃, Nat.le_of_lt (Nat.lt_of_lt_of_le z dn), dne, hn₃⟩)

theorem init_TooGreat {K : Frag} {C fI : Addr} {fd : FuncData} {bmB : List Value} {newId B : String} (F : L2.FunD K "__init__" "TooGreat.__init__" (L2.defArgs (L2.inClass (VS.topS 7) 0)) (L2.defBody (L2.inClass (VS.topS 7) 0)) (L2.defScope (L2.inClass (VS.topS 7) 0)) [] [] fI fd)
    (T : ExK K C fI "most" bmB newId) (SF : StoreFacts B bmB "object.__setattr__" "object") : InitOk K C fI "most" := by
  intro prog w A R s x t0 v X hlim hx hroom hq
  obtain ⟨oc, od, dV, kV, doc, pm, an, cdv, ct, osl, rfl, ho, hcd, hD, _⟩ := F.ex
  have e0 : dV = .none := by
    rcases hD with ⟨_, e⟩ | ⟨e, _⟩
    · exact e
    · exact absurd rfl e
  subst e0
  obtain ⟨cd, hcl, hh⟩ : ∃ cd, clsIn K C = some cd ∧ cd.hasDict = true := by
    obtain ⟨cd, a, b⟩ := any_some T.hd
    exact ⟨cd, a, b⟩
  obtain ⟨q1, q2, q3, q4, hb⟩ : ∃ q1 q2 q3 q4, L2.defBody (L2.inClass (VS.topS 7) 0) = [.Assign [.Attribute (.Name "self" q1) "most" q2] (.Name "most" q3) q4] := ⟨_, _, _, _, rfl⟩
  refine Att.call_fn (binds := [("self", .ref x), ("most", v)]) X hlim ho hcd hroom (BindsTo.of_eq (by first | rfl | with_unfolding_all rfl)) (by first | rfl | decide | with_unfolding_all rfl) (fun s₁ IC => ?_) rfl rfl rfl
  obtain ⟨h₁, tk₁, rfl⟩ := IC.toInCall.same
  have k : ∀ b o, s.heap.get? b = some o → h₁.get? b = some o := IC.toInCall.keep
  have hn := IC.toInCall.ns
  have X₁ : K.In h₁ := X.keeps k
  have hx₁ := k _ _ hx
  rw [hb]
  -- self.most = most
  show wpAny _ _ (execs _ _) _ _ _
  refine wpAny_execs_cons (plainObj_wpAny_Assign_Attribute ?_)
  refine ld_loc (v := v) hn (by first | rfl | with_unfolding_all rfl | kernel_rfl) (ld_loc (v := .ref x) hn (by first | rfl | with_unfolding_all rfl | kernel_rfl) ?_)
  refine set_plain X₁ (ox := excO C t0) (od := none) ⟨hx₁, rfl, rfl, trivial⟩ T.sa ?_
  refine exc_store SF X₁ hx₁ hcl T.ov hh T.nof (fun h₃ tk₃ dx k₃ dn dne hx₃ hn₃ => ?_)
  show wpAny _ _ (execs _ _) _ _ _
  have z : s.heap.objs.size < h₁.objs.size := hn.lt
  exact wpAny_execs_nil (hq h₃ tk₃ dx ⟨fun b o hb e => k₃ b o hb (k b o e), hx₃, Nat.le_of_lt (Nat.lt_of_lt_of_le z dn), dne, hn₃⟩)

theorem init_Missing {K : Frag} {C fI : Addr} {fd : FuncData} {bmB : List Value} {newId B : String} (F : L2.FunD K "__init__" "Missing.__init__" (L2.defArgs (L2.inClass (VS.topS 8) 0)) (L2.defBody (L2.inClass (VS.topS 8) 0)) (L2.defScope (L2.inClass (VS.topS 8) 0)) [] [] fI fd)
    (T : ExK K C fI "name" bmB newId) (SF : StoreFacts B bmB "object.__setattr__" "object") : InitOk K C fI "name" := by
  intro prog w A R s x t0 v X hlim hx hroom hq
  obtain ⟨oc, od, dV, kV, doc, pm, an, cdv, ct, osl, rfl, ho, hcd, hD, _⟩ := F.ex
  have e0 : dV = .none := by
    rcases hD with ⟨_, e⟩ | ⟨e, _⟩
    · exact e
    · exact absurd rfl e
  subst e0
  obtain ⟨cd, hcl, hh⟩ : ∃ cd, clsIn K C = some cd ∧ cd.hasDict = true := by
    obtain ⟨cd, a, b⟩ := any_some T.hd
    exact ⟨cd, a, b⟩
  obtain ⟨q1, q2, q3, q4, hb⟩ : ∃ q1 q2 q3 q4, L2.defBody (L2.inClass (VS.topS 8) 0) = [.Assign [.Attribute (.Name "self" q1) "name" q2] (.Name "name" q3) q4] := ⟨_, _, _, _, rfl⟩
  refine Att.call_fn (binds := [("self", .ref x), ("name", v)]) X hlim ho hcd hroom (BindsTo.of_eq (by first | rfl | with_unfolding_all rfl)) (by first | rfl | decide | with_unfolding_all rfl) (fun s₁ IC => ?_) rfl rfl rfl
  obtain ⟨h₁, tk₁, rfl⟩ := IC.toInCall.same
  have k : ∀ b o, s.heap.get? b = some o → h₁.get? b = some o := IC.toInCall.keep
  have hn := IC.toInCall.ns
  have X₁ : K.In h₁ := X.keeps k
  have hx₁ := k _ _ hx
  rw [hb]
  -- self.name = name
  show wpAny _ _ (execs _ _) _ _ _
  refine wpAny_execs_cons (plainObj_wpAny_Assign_Attribute ?_)
  refine ld_loc (v := v) hn (by first | rfl | with_unfolding_all rfl | kernel_rfl) (ld_loc (v := .ref x) hn (by first | rfl | with_unfolding_all rfl | kernel_rfl) ?_)
  refine set_plain X₁ (ox := excO C t0) (od := none) ⟨hx₁, rfl, rfl, trivial⟩ T.sa ?_
  refine exc_store SF X₁ hx₁ hcl T.ov hh T.nof (fun h₃ tk₃ dx k₃ dn dne hx₃ hn₃ => ?_)
  show wpAny _ _ (execs _ _) _ _ _
  have z : s.heap.objs.size < h₁.objs.size := hn.lt
  exact wpAny_execs_nil (hq h₃ tk₃ dx ⟨fun b o hb e => k₃ b o hb (k b o e), hx₃, Nat.le_of_lt (Nat.lt_of_lt_of_le z dn), dne, hn₃⟩)

/-- an exception of the class at C that was made with one value -/
structure ExMade (f : Str) (h h2 : Heap) (e C d : Addr) (v : Value) : Prop where
  keep : ∀ b o, h.get? b = some o → h2.get? b = some o
  new : h.objs.size ≤ e
  obj : ∃ oe vs, h2.get? e = some oe ∧ oe.cls = .ref C ∧ oe.dict = some d ∧ oe.data = .fields vs ∧ vs[1]? = some .none
  dbig : h.objs.size ≤ d
  dne : d ≠ e
  ns : h2.Ns1 d (fun y => if y = f then some v else none)
theorem made_of {prog : Program} {w : World} {A : Around} {R : Result → Shared → Prop} {s : Shared} {K : Frag} {C fI : Addr} {f : Str} {bmB : List Value} {B newId initId : String} {v : Value} (FB : ExcBaseFacts B newId initId bmB) (T : ExK K C fI f bmB newId) (IO : InitOk K C fI f)
    (X : K.In s.heap) (hlim : s.heap.NoLimit) (hroom : A.depth + 1 < recursionLimit) (hq : ∀ h2 tk e d, ExMade f s.heap h2 e C d v → R (.ok (.ret (.ref e))) { s with heap := h2, toks := tk }) :
    codeAny (model prog w) A (.call (.ref C) ⟨[v], []⟩) R s := by
  obtain ⟨nm, N, qn, bs, bm, hdct, sn, sub, ab, col, dd, k0, k1, k2, k3, k5, hC, hT⟩ := excInit_of X T.q
  obtain ⟨hp, g, dr, tk, os⟩ := s
  have k : ∀ b o, hp.get? b = some o → ((hp.push (kdv_tup [v])).push (excO C hp.objs.size)).get? b = some o := fun b o e => Heap.get?_push_of_some _ (Heap.get?_push_of_some _ e)
  have hget : ((hp.push (kdv_tup [v])).push (excO C hp.objs.size)).get? (hp.objs.size + 1) = some (excO C hp.objs.size) := by heap_get
  have one : [v].length ≤ sizeLine := by
    rw [sizeLine_eq]
    exact (by decide : 1 ≤ 16777216)
  refine PySem.HandSPX.call_own FB hT hC (looks_findIn X T.iC) (fun self => bind_fn X self T.tI) one ?_
  refine IO (s := ⟨(hp.push (kdv_tup [v])).push (excO C hp.objs.size), g, dr, tk, os⟩) (X.keeps k) (hlim.keeps k) hget ?_ fun h2 tk2 dx M => ?_
  · show A.depth + 1 < recursionLimit
    exact hroom
  · have old : ∀ b o, hp.get? b = some o → h2.get? b = some o := fun b o e => M.keep b o (Nat.ne_of_lt (Nat.lt_succ_of_lt (Heap.lt_size e))) (k b o e)
    have z : hp.objs.size + 1 + 1 ≤ dx := by
      have q := M.dbig
      first
        | (simpa only [Heap.size_push] using q)
        | exact q
    exact ⟨rfl, hq h2 tk2 (hp.objs.size + 1) dx ⟨old, Nat.le_succ _, ⟨_, _, M.obj, rfl, rfl, rfl, rfl⟩, Nat.le_trans (Nat.le_trans (Nat.le_succ _) (Nat.le_succ _)) z, M.dne, M.ns⟩⟩
end VX

/-! raise C(e): the rule, for an own class of one field. -/
namespace VS
open PySem PySem.Spec PyProof.Rows L2
/-- the class x at C, of the field f -/
structure ExX (K : PySem.W.Frag) (mg : Str → Option Value) (x f : Str) (C : Addr) : Prop where
  gC : mg x = some (.ref C)
  ini : ∃ (fI : Addr) (bmB : List Value) (B newId initId : String), ExcBaseFacts B newId initId bmB ∧ VX.ExK K C fI f bmB newId ∧ VX.InitOk K C fI f
  kC : PySem.W.keepIn K (.ref C) = true
  tyC : PySem.W.typeIn K (.ref C) = some (.type "type")
  xf : XfC K C
  nof : PySem.W.findIn K (.ref C) f = some none
theorem relO_one {v : V} {u : Value} (r : RelV v u) (f g : Str) : RelO (List.lookup g [(f, v)]) (if g = f then some u else none) := by
  by_cases hw : g = f
  · subst hw
    rw [if_pos rfl]
    have q : List.lookup g [(g, v)] = some v := by simp [List.lookup]
    rw [q]
    exact r
  · rw [if_neg hw]
    have qw : (g == f) = false := by simpa using hw
    have q2 : List.lookup g [(f, v)] = none := by simp [List.lookup, qw]
    rw [q2]
    trivial
section
variable {X : Cx} {C : Addr} {x f : Str}
/-- C(e) -/
def tMkE (f : Str) (C : Addr) (ta : TA) : L2.St → Hp → XK → Prop := fun σ H Q => ta σ H fun vs H1 => ∃ v, vs = [v] ∧ ∀ d, H1 d = none → Q (.ref C) (some d) (upd H1 d (.xd [(f, v)]))
theorem pmk_ex {a : Expr} {ta : TA} {p pos : Pos} {k : Nat} (T : ExX X.K X.mg x f C) (hr : Room k X.A) (ha : PA X [a] ta) (hg : Gl X x := by rfl) (hdb : (x == ("__debug__" : Str)) = false := by decide)
    (he : starEach (a :: []) X.env = (false, eval a X.env) :: starEach [] X.env := by rfl) (hpl : (backTo pos (starEach [] X.env)).any (·.1) = false := by rfl) :
    PMk X (.Call (.Name x p) [a] [] pos) (tMkE f C ta) := by
  intro pins s σ H Q I h
  obtain ⟨fI, bmB, B, newId, initId, FB, TK, IO⟩ := T.ini
  refine wpAny_Call_Name_kw (ld_glob I hg T.gC ?_ hdb)
  refine PySem.W.callWith_K (h₀ := X.base) I.ok.mod.kin T.kC (thn (ha.run pos pins s σ H _ I h) fun us s1 hh => ?_) he hpl
  obtain ⟨vs, H1, I1, r1, v, ev, q1⟩ := hh
  subst ev
  refine ⟨I1.kIn, ?_⟩
  cases r1 with
  | cons rv rn =>
    rename_i v2 us2
    cases rn
    show wpAny _ _ (call (.ref C) [v2]) _ _ _
    have hlim := I1.nolimit
    obtain ⟨hp, g, dr, tk, os⟩ := s1
    refine wpAny_call (VX.made_of FB TK IO I1.kIn hlim (by have := hr.dp; omega) fun h2 tk2 e d M => ?_)
    show MkP X pins σ Q (.ref e) ⟨h2, g, dr, tk2, os⟩
    obtain ⟨oe, fv, hoe, hc, hd, hdat, h1⟩ := M.obj
    have hns := M.ns
    obtain ⟨G2, g1, g2⟩ := restrict h2 fun b => decide (b ≠ e)
    have gk : ∀ b, b ≠ e → G2.get? b = h2.get? b := fun b hb => g1 b (decide_eq_true hb)
    have ge : G2.get? e = none := g2 e (by simp)
    have old : ∀ b o, hp.get? b = some o → G2.get? b = some o := fun b o q => (gk b (Nat.ne_of_lt (Nat.lt_of_lt_of_le (Heap.lt_size q) M.new))).trans (M.keep b o q)
    have obx : ObjOk X.prog X.w (upd H1 d (.xd [(f, v)])) G2 d (.xd [(f, v)]) :=
      ⟨_, hns.at (fun o q => (gk d M.dne).trans q), fun g => relO_one rv f g⟩
    have J : Inv X pins σ (upd H1 d (.xd [(f, v)])) ⟨G2, g, dr, tk2, os⟩ := I1.laid (t' := tk2) old M.dbig obx
    refine ⟨e, oe, fv, ⟨G2, g, dr, tk2, os⟩, _, .ref C, some d, rfl, J, fun b o q => ?_, ge, hoe, ⟨hc, hd⟩, hdat, h1, ?_, rfl, I1.bare, raises_own T.xf.exC T.tyC, q1 d (I1.hok.fresh M.dbig)⟩
    · by_cases hb : b = e
      · have q2 : G2.get? b = some o := q
        rw [hb, ge] at q2
        cases q2
      · exact (gk b hb).symm.trans q
    · rw [upd_ne (Ne.symm M.dne)]
      exact I1.hok.fresh M.new
/-- raise C(e) -/
def tRaiseE (f : Str) (C : Addr) (W : WX) (ta : TA) : TS := fun _ σ H => tMkE f C ta σ H fun cls d H2 => W cls d σ H2
theorem ps_raiseE {a : Expr} {ta : TA} {W : WX} {p pos pos2 : Pos} {k : Nat} (hc : X.calm = true) (T : ExX X.K X.mg x f C) (hr : Room k X.A) (tk : Takes X W) (ha : PA X [a] ta) (hg : Gl X x := by rfl) (hdb : (x == ("__debug__" : Str)) = false := by decide)
    (he : starEach (a :: []) X.env = (false, eval a X.env) :: starEach [] X.env := by rfl) (hpl : (backTo pos (starEach [] X.env)).any (·.1) = false := by rfl) :
    PS X (.Raise (some (.Call (.Name x p) [a] [] pos)) none pos2) (tRaiseE f C W ta) := ps_raise hc tk (pmk_ex T hr ha hg hdb he hpl)
end
end VS

/-! web_fault, need_web. -/
namespace VS
open PySem PySem.Spec PyProof.Rows L2
def WB.tn (W : WB) : List Str := W.tabs.map (·.1)
def WB.vn (W : WB) : List Str := W.views.map VW.name
def WB.names (W : WB) : List Str := W.tn ++ W.vn
structure GoodWeb (W : WB) : Prop where
  lo : 1 ≤ W.tabs.length
  hi : W.tabs.length ≤ 6
  vi : W.views.length ≤ 8
  tab : ∀ t ∈ W.tabs, GoodW t.1 ∧ GoodL t.2
  view : ∀ u ∈ W.views, GoodW u.name ∧ GoodBeat u.beat
  nd : W.names.Nodup
  srcs : ∀ (i : Nat) (u : VW), W.views[i]? = some u → GoodS (W.tn ++ (W.views.take i).map VW.name) u.srcs
theorem GoodWeb.tnew {W : WB} (g : GoodWeb W) {i : Nat} {t : Str × Option (Int × Int)} (h : W.tabs[i]? = some t) : t.1 ∉ (W.tabs.take i).map (·.1) := by
  have nd : (W.tabs.map (·.1)).Nodup := g.nd.sublist (List.sublist_append_left _ _)
  exact nd_take nd h
theorem GoodWeb.vnew {W : WB} (g : GoodWeb W) {i : Nat} {u : VW} (h : W.views[i]? = some u) : u.name ∉ W.tn ++ (W.views.take i).map VW.name := by
  intro hm
  have nd := g.nd
  unfold WB.names at nd
  rw [List.nodup_append] at nd
  obtain ⟨n1, n2, n3⟩ := nd
  rcases List.mem_append.mp hm with h1 | h1
  · exact n3 _ h1 _ (List.mem_map.mpr ⟨u, List.mem_of_getElem? h, rfl⟩) rfl
  · exact nd_take n2 h h1
/-- the walked pair of a for over enumerate -/
theorem r_pair {K : PySem.W.Frag} {X : Cx} {σ : L2.St} {H : Hp} {T : Addr} {x y : V} {i j : Nat} {Q : L2.St → Hp → Prop} (h : H T = some (.tup [x, y])) (q : Q ((σ.set i (some x)).set j (some y)) H) :
    gTup K 2 (gCons (gName i) (gCons (gName j) gNil)) (.ref T) σ H Q := ⟨T, [x, y], rfl, .of h, rfl, x, [y], rfl, y, [], rfl, rfl, q⟩
section
variable {P : Program} {w : World} {K : PySem.W.Frag} {mg : Str → Option Value} {base : Heap}
theorem sc_fault : FnScope ["thing", "ahead", "number", "table", "view"] ["thing"] (defScope (topS 29)) := ⟨rfl, rfl, rfl, by decide +kernel, rfl, by decide +kernel, by decide +kernel⟩
def spFault : Sp := fun vs H Q _ => ∃ p xs, vs = [.ref p] ∧ H p = some (.tup xs) ∧ ((xs.length ≠ 2 ∧ ∀ a H2, Same H H2 → H2 a = some (.tup [.str "form"]) → Q (.ref a) H2) ∨ ∃ W, WebAt H (.ref p) W ∧ GoodWeb W ∧ ∀ H2, Same H H2 → Q .non H2)
theorem ok_fault (T : Top K mg) : Ok P w K mg base CX0 6 "web_fault" ["thing"] spFault := by
  obtain ⟨f, fd, F⟩ := T.at 9
  refine F.ok0 sc_fault (fun vs H Q E h => ?_) (fun cdv A outer s H vs Q E hr h => ?_)
  · obtain ⟨x, l, rfl, _⟩ := h
    rfl
  · obtain ⟨p, xs, rfl, hp, h⟩ := h
    have nd := sc_fault.nd
    refine ⟨_, pss_cons (ps_if (pt_not (pt_val (pe_fn (ok_parts T) (hr.mono (by decide)) pass0 (pa_cons (pv 0) pa_nil)))) (pss_one (ps_ret (pe_tup (pa_cons pe_str pa_nil)))) pss_nil)
      (pss_cons (ps_set (i := 1) nd rfl (.inl rfl) (pe_lst pa_nil))
      (pss_cons (ps_for PassesOwn.never rfl (pi_enT (by rfl) T.enu (pa_cons (pe_ix T.ixT (pv 0) pe_int (fun _ _ => rfl)) pa_nil)) (pg_tup rfl (pgs_cons (pg_name (i := 2) nd rfl (.inl rfl)) (pgs_cons (pg_name (i := 3) nd rfl (.inl rfl)) pgs_nil)))
        (pss_cons (ps_if (pt_not (pt_val (pe_fn (ok_table T) hr pass0 (pa_cons (pv 3) (pa_cons (pv 1) pa_nil))))) (pss_one (ps_ret (pe_tup (pa_cons pe_str (pa_cons (pv 2) pa_nil))))) pss_nil)
        (pss_one (ps_expr (pe_bm PySem.F.plainAttrs_list PySem.F.slot_list_append PySem.F.type_list_append app_ok (pv 1) (pa_cons (pe_ix T.ixT (pv 3) pe_int (fun _ _ => rfl)) pa_nil))))))
      (pss_cons (ps_for PassesOwn.never rfl (pi_enT (by rfl) T.enu (pa_cons (pe_ix T.ixT (pv 0) pe_int (fun _ _ => rfl)) pa_nil)) (pg_tup rfl (pgs_cons (pg_name (i := 2) nd rfl (.inl rfl)) (pgs_cons (pg_name (i := 4) nd rfl (.inl rfl)) pgs_nil)))
        (pss_cons (ps_if (pt_not (pt_val (pe_fn (ok_view T) (hr.mono (by decide)) pass0 (pa_cons (pv 4) (pa_cons (pv 1) pa_nil))))) (pss_one (ps_ret (pe_tup (pa_cons pe_str (pa_cons (pv 2) pa_nil))))) pss_nil)
        (pss_one (ps_expr (pe_bm PySem.F.plainAttrs_list PySem.F.slot_list_append PySem.F.type_list_append app_ok (pv 1) (pa_cons (pe_ix T.ixT (pv 4) pe_int (fun _ _ => rfl)) pa_nil))))))
      (pss_one (ps_ret pe_non))))), ?_⟩
    rcases h with ⟨hn, q⟩ | ⟨W, hW, g, q⟩
    · refine ⟨_, rfl, p, xs, rfl, hp, .inl ⟨hn, false, rfl, iteT ?_⟩⟩
      exact ⟨by show 1 ≤ sizeLine; decide, fun a na => q a _ (same_upd na) upd_same⟩
    · obtain ⟨p2, t, u, ts, us, e, hp2, ht, hu, pt, pu⟩ := hW
      obtain rfl : p = p2 := by injection e
      have lt : ts.length = W.tabs.length := Paired.length pt
      have lu : us.length = W.views.length := Paired.length pu
      refine ⟨_, rfl, p, _, rfl, hp2, .inr ⟨t, u, ts, us, rfl, ht, hu, by rw [lt]; exact g.lo, by rw [lt]; exact g.hi, by rw [lu]; exact g.vi, fun H1 s1 => ⟨true, rfl, iteF ?_⟩⟩⟩
      refine ⟨Nat.zero_le _, fun d nd1 => ?_⟩
      have nd : H d = none := s1.free nd1
      have s2 : Same H (upd H1 d (.lst [])) := Same.new s1 nd1
      refine ⟨_, rfl, r_ixT 0 (s2 _ _ hp2) rfl ⟨t, ts, rfl, .of (s2 _ _ ht), for_it walk_enT (fun i σ H3 => ∃ y2 y3, σ = [some (.ref p), some (.ref d), y2, y3, none] ∧ Same H H3 ∧ H3 d = some (.lst (txs ((W.tabs.take i).map (·.1)))))
        ⟨none, none, rfl, s2, upd_same⟩ (fun i σ H3 _ ⟨_, _, _, s3, _⟩ => .of (s3 _ _ ht)) ?_ ?_⟩⟩
      · rintro i x σ H3 H4 hi ⟨y2, y3, rfl, s3, hd⟩ ⟨Tp, x1, x2, rfl, nT, rfl, e1, e2⟩
        obtain rfl : V.int (i : Nat) = x1 := Option.some.inj e1
        obtain ⟨tb, htb, hta⟩ := paired_get pt e2
        have hmem : tb ∈ W.tabs := List.mem_of_getElem? htb
        have hil : i < W.tabs.length := (List.getElem?_eq_some_iff.mp htb).1
        obtain ⟨gw, gl⟩ := g.tab _ hmem
        have s4 : Same H (upd H3 Tp (.tup [.int (i : Nat), x2])) := Same.new s3 nT
        have hd4 : (upd H3 Tp (.tup [.int (i : Nat), x2])) d = some (.lst (txs ((W.tabs.take i).map (·.1)))) := (same_upd nT) _ _ hd
        refine ⟨Tp, _, rfl, .of upd_same, rfl, _, _, rfl, _, _, rfl, rfl, ?_⟩
        refine ⟨_, rfl, _, rfl, _, d, tb, _, rfl, TabAt.kt (.of s4) hta, gw, gl, hd4, g.tnew htb, fun H5 s5 => ⟨true, rfl, iteF ?_⟩⟩
        have s6 := s4.trans s5
        obtain ⟨pp, ll, rfl, hpp, _⟩ := id hta
        refine ⟨_, rfl, .inl ⟨rfl, _, .of (s5 _ _ hd4)⟩, _, rfl, r_ixT 0 (s6 _ _ hpp) rfl (r_app (s5 _ _ hd4) ?_ ⟨_, _, rfl, Same.mut s6 nd, ?_⟩)⟩
        · rw [List.length_map, List.length_map, List.length_take]
          exact small100 (by have := g.hi; omega)
        · rw [upd_same]
          show some (HO.lst (List.map V.str _ ++ _)) = some (HO.lst (List.map V.str _))
          rw [take_snoc htb, List.map_append, List.map_append]
          rfl
      · rintro σ H3 ⟨y2, y3, rfl, s3, hd⟩
        have hd : H3 d = some (.lst (txs W.tn)) := by
          rw [hd, List.take_of_length_le (by omega)]
          rfl
        refine ⟨_, rfl, r_ixT 1 (s3 _ _ hp2) rfl ⟨u, us, rfl, .of (s3 _ _ hu), for_it walk_enT (fun i σ H4 => ∃ y2 y4, σ = [some (.ref p), some (.ref d), y2, y3, y4] ∧ Same H H4 ∧ H4 d = some (.lst (txs (W.tn ++ (W.views.take i).map VW.name))))
          ⟨_, none, rfl, s3, by rw [hd]; simp⟩ (fun i σ H4 _ ⟨_, _, _, s4, _⟩ => .of (s4 _ _ hu)) ?_ ?_⟩⟩
        · rintro i x σ H4 H5 hi ⟨y2, y4, rfl, s4, hd4⟩ ⟨Tp, x1, x2, rfl, nT, rfl, e1, e2⟩
          obtain rfl : V.int (i : Nat) = x1 := Option.some.inj e1
          obtain ⟨vw, hvw, hva⟩ := paired_get pu e2
          have hmem : vw ∈ W.views := List.mem_of_getElem? hvw
          obtain ⟨gw, gb⟩ := g.view _ hmem
          have s5 : Same H (upd H4 Tp (.tup [.int (i : Nat), x2])) := Same.new s4 nT
          have hd5 : (upd H4 Tp (.tup [.int (i : Nat), x2])) d = some (.lst (txs (W.tn ++ (W.views.take i).map VW.name))) := (same_upd nT) _ _ hd4
          refine ⟨Tp, _, rfl, .of upd_same, rfl, _, _, rfl, _, _, rfl, rfl, ?_⟩
          refine ⟨_, rfl, _, rfl, _, d, vw, _, rfl, ViewAt.kt (.of s5) hva, gw, gb, g.srcs i vw hvw, hd5, g.vnew hvw, fun H6 s6 => ⟨true, rfl, iteF ?_⟩⟩
          have s7 := s5.trans s6
          obtain ⟨pp, bb, ss, rfl, hpp, _, _⟩ := id hva
          refine ⟨_, rfl, .inl ⟨rfl, _, .of (s6 _ _ hd5)⟩, _, rfl, r_ixT 0 (s7 _ _ hpp) rfl (r_app (s6 _ _ hd5) ?_ ⟨_, _, rfl, Same.mut s7 nd, ?_⟩)⟩
          · rw [List.length_map, List.length_append, List.length_map, List.length_take]
            have e : W.tn.length = W.tabs.length := List.length_map ..
            exact small100 (by have := g.hi; have := g.vi; omega)
          · rw [upd_same]
            show some (HO.lst (List.map V.str _ ++ _)) = some (HO.lst (List.map V.str _))
            rw [take_snoc hvw, List.map_append (l₁ := List.take i W.views), ← List.append_assoc, List.map_append (l₁ := W.tn ++ _)]
            rfl
        · rintro σ H4 ⟨y2, y4, rfl, s4, hd4⟩
          exact q H4 s4
theorem sc_need : FnScope ["thing", "fault"] ["thing"] (defScope (topS 30)) := ⟨rfl, rfl, rfl, by decide +kernel, rfl, by decide +kernel, by decide +kernel⟩
def spNeed (C : Addr) : Sp := fun vs H Q E => ∃ p xs, vs = [.ref p] ∧ H p = some (.tup xs) ∧ ((xs.length ≠ 2 ∧ ∀ a d H2, Same H H2 → H2 a = some (.tup [.str "form"]) → H2 d = some (.xd [("place", .ref a)]) → E (.ref C) (some d) H2) ∨ ∃ W, WebAt H (.ref p) W ∧ GoodWeb W ∧ ∀ H2, Same H H2 → Q (.ref p) H2)
theorem ok_need (T : Top K mg) {C : Addr} (TX : ExX K mg "BadWeb" "place" C) : Ok P w K mg base (L2.CX P w) 7 "need_web" ["thing"] (spNeed C) := by
  obtain ⟨f, fd, F⟩ := T.at 10
  refine F.okX sc_need (fun vs H Q E h => ?_) (fun cdv A outer s H vs Q E hr h => ?_)
  · obtain ⟨x, l, rfl, _⟩ := h
    rfl
  · obtain ⟨p, xs, rfl, hp, h⟩ := h
    refine ⟨_, pss_cons (ps_set (i := 1) sc_need.nd rfl (.inl rfl) (pe_fn (ok_fault T) hr pass0 (pa_cons (pv 0) pa_nil)))
      (pss_cons (ps_if (pt_cmpR op_notN (pv 1) pe_non (nomark _)) (pss_one (ps_raiseE (W := fun cls d _ H2 => E cls d H2) rfl TX hr (takes_of rfl rfl rfl rfl) (pa_cons (pv 1) pa_nil))) pss_nil)
      (pss_one (ps_ret (pv 0)))), ?_⟩
    rcases h with ⟨hn, q⟩ | ⟨W, hW, g, q⟩
    · refine ⟨_, rfl, p, xs, rfl, hp, .inl ⟨hn, fun a H1 s1 ha => ?_⟩⟩
      refine ⟨_, rfl, rfl, true, rfl, iteT ⟨_, rfl, _, rfl, fun d nd => ?_⟩⟩
      exact q a d _ (Same.new s1 nd) ((same_upd nd) _ _ ha) upd_same
    · refine ⟨_, rfl, p, xs, rfl, hp, .inr ⟨W, hW, g, fun H1 s1 => ?_⟩⟩
      exact ⟨_, rfl, rfl, false, rfl, iteF ⟨_, rfl, q H1 s1⟩⟩
end
end VS

/-! all_names, names_of, sources_in, is_name_of. -/
namespace VS
open PySem PySem.Spec PyProof.Rows L2
@[irreducible] def vCat : R2 := rCat
@[irreducible] def vTupL : List V → Hp → VK → Prop := fun xs H Q => ∃ p ys, xs = [.ref p] ∧ H p = some (.lst ys) ∧ ∀ l, H l = none → Q (.ref l) (upd H l (.tup ys))
theorem cat_ok {X : Cx} : OpR X (binaryOp .Add) vCat := by
  unfold vCat
  exact op_cat
theorem tupL_ok {X : Cx} : CallR X (.type "tuple") vTupL := by
  intro pins s σ H xs us Q I r h
  unfold vTupL at h
  obtain ⟨p, ys, e, hp, q⟩ := h
  exact call_tuple_of pins s σ H xs us Q I r ⟨p, ys, e, .inl ⟨.of hp, q⟩⟩
section
variable {H : Hp} {a b : Addr} {xs ys : List V} {Q : VK}
theorem r_cat (ha : H a = some (.lst xs)) (hb : H b = some (.lst ys)) (hz : xs.length + ys.length ≤ 1000) (q : ∀ p, H p = none → Q (.ref p) (upd H p (.lst (xs ++ ys)))) : vCat (.ref a) (.ref b) H Q := by
  unfold vCat
  exact ⟨a, b, xs, ys, rfl, rfl, ha, hb, Nat.le_trans hz (by decide), q⟩
theorem r_tupL (ha : H a = some (.lst xs)) (q : ∀ p, H p = none → Q (.ref p) (upd H p (.tup xs))) : vTupL [.ref a] H Q := by
  unfold vTupL
  exact ⟨a, xs, rfl, ha, q⟩
end
section
variable {P : Program} {w : World} {K : PySem.W.Frag} {mg : Str → Option Value} {base : Heap}
theorem sc_all : FnScope ["web", "table", "view"] ["web"] (defScope (topS 31)) := ⟨rfl, rfl, rfl, by decide +kernel, rfl, by decide +kernel, by decide +kernel⟩
def spNames : Sp := fun vs H Q _ => ∃ v W, vs = [v] ∧ WebAt H v W ∧ GoodWeb W ∧ ∀ a H2, Same H H2 → H a = none → H2 a = some (.tup (txs W.names)) → Q (.ref a) H2
theorem ok_all (T : Top K mg) : Ok P w K mg base CX0 1 "all_names" ["web"] spNames := by
  obtain ⟨f, fd, F⟩ := T.at 11
  refine F.ok0 sc_all (fun vs H Q E h => ?_) (fun cdv A outer s H vs Q E hr h => ?_)
  · obtain ⟨x, l, rfl, _⟩ := h
    rfl
  · obtain ⟨v, W, rfl, ⟨p, t, u, ts, us, rfl, hp, ht, hu, pt, pu⟩, g, q⟩ := h
    have nd := sc_all.nd
    have lt : ts.length = W.tabs.length := Paired.length pt
    have lu : us.length = W.views.length := Paired.length pu
    refine ⟨_, pss_one (ps_ret (pe_callTy tupL_ok (by rfl) T.tup b_tup (pa_cons (pe_op cat_ok
        (pe_lc (own := [("table", 1)]) (g := gName 1) (tt := tYes) rfl nd (pi_tup (pe_ix T.ixT (pv 0) pe_int (fun _ _ => rfl))) (blkOk_by (N := ["web", "table", "view"]) (sc := defScope (topS 31)) (by decide +kernel))
          (fun _ _ _ _ _ => pg_name (i := 1) nd rfl (.inl rfl)) (fun _ _ _ _ _ => pts_nil) (fun _ _ _ _ _ => pe_ix T.ixT (pv 1) pe_int (fun _ _ => rfl)))
        (pe_lc (own := [("view", 2)]) (g := gName 2) (tt := tYes) rfl nd (pi_tup (pe_ix T.ixT (pv 0) pe_int (fun _ _ => rfl))) (blkOk_by (N := ["web", "table", "view"]) (sc := defScope (topS 31)) (by decide +kernel))
          (fun _ _ _ _ _ => pg_name (i := 2) nd rfl (.inl rfl)) (fun _ _ _ _ _ => pts_nil) (fun _ _ _ _ _ => pe_ix T.ixT (pv 2) pe_int (fun _ _ => rfl)))) pa_nil))), ?_⟩
    refine ⟨_, rfl, r_ixT 0 hp rfl ⟨t, rfl, ⟨_, .of ht⟩, fun D nD => ?_⟩⟩
    refine lc_it (walk_tup (xs := ts)) (fun i H2 => Same H H2 ∧ H2 D = some (.lst (txs ((W.tabs.take i).map (·.1))))) ⟨same_upd nD, upd_same⟩ (fun i H2 _ hq => .of (hq.1 _ _ ht)) ?_ ?_
    · rintro i y H1 H2 hi ⟨sm, hD⟩ ⟨rfl, hy⟩
      obtain ⟨tb, htb, pp, ll, rfl, hpp, _⟩ := paired_get pt hy
      refine ⟨rfl, tyes ⟨_, rfl, r_ixT 0 (sm _ _ hpp) rfl ⟨_, hD, ?_, Same.mut sm nD, ?_⟩⟩⟩
      · rw [List.length_map, List.length_map, List.length_take]
        exact small100 (by have := g.hi; omega)
      · rw [upd_same]
        show some (HO.lst (List.map V.str _ ++ _)) = some (HO.lst (List.map V.str _))
        rw [take_snoc htb, List.map_append, List.map_append]
        rfl
    · rintro H1 ⟨s1, hD⟩
      have hD : H1 D = some (.lst (txs W.tn)) := by
        rw [hD, List.take_of_length_le (by omega)]
        rfl
      refine ⟨_, rfl, r_ixT 1 (s1 _ _ hp) rfl ⟨u, rfl, ⟨_, .of (s1 _ _ hu)⟩, fun D2 nD2 => ?_⟩⟩
      have nH : H D2 = none := s1.free nD2
      have neD : D ≠ D2 := ne_of_none hD nD2
      refine lc_it (walk_tup (xs := us)) (fun i H2 => Same H H2 ∧ H2 D = some (.lst (txs W.tn)) ∧ H2 D2 = some (.lst (txs ((W.views.take i).map VW.name)))) ⟨Same.new s1 nD2, (same_upd nD2) _ _ hD, upd_same⟩ (fun i H2 _ hq => .of (hq.1 _ _ hu)) ?_ ?_
      · rintro i y H2 H3 hi ⟨sm, hd, hd2⟩ ⟨rfl, hy⟩
        obtain ⟨vw, hvw, pp, bb, ss, rfl, hpp, _, _⟩ := paired_get pu hy
        refine ⟨rfl, tyes ⟨_, rfl, r_ixT 0 (sm _ _ hpp) rfl ⟨_, hd2, ?_, Same.mut sm nH, ?_, ?_⟩⟩⟩
        · rw [List.length_map, List.length_map, List.length_take]
          exact small100 (by have := g.vi; omega)
        · rw [upd_ne neD]
          exact hd
        · rw [upd_same]
          show some (HO.lst (List.map V.str _ ++ _)) = some (HO.lst (List.map V.str _))
          rw [take_snoc hvw, List.map_append, List.map_append]
          rfl
      · rintro H2 ⟨s2, hd, hd2⟩
        have hd2 : H2 D2 = some (.lst (txs W.vn)) := by
          rw [hd2, List.take_of_length_le (by omega)]
          rfl
        refine r_cat hd hd2 ?_ fun l nl => ?_
        · rw [List.length_map, List.length_map]
          have e1 : W.tn.length = W.tabs.length := List.length_map ..
          have e2 : W.vn.length = W.views.length := List.length_map ..
          have := g.hi
          have := g.vi
          omega
        · refine r_tupL upd_same fun a na => ?_
          refine q a _ (Same.new (Same.new s2 nl) na) (s2.free ((same_upd nl).free na)) ?_
          rw [upd_same, ← List.map_append]
          rfl
theorem sc_names : FnScope ["web"] ["web"] (defScope (topS 32)) := ⟨rfl, rfl, rfl, by decide +kernel, rfl, by decide +kernel, by decide +kernel⟩
/-- of what is no web by its parts -/
def spNamesOf (C : Addr) : Sp := fun vs H Q E => ∃ p xs, vs = [.ref p] ∧ H p = some (.tup xs) ∧ xs.length ≠ 2 ∧ ∀ a d H2, Same H H2 → H2 a = some (.tup [.str "form"]) → H2 d = some (.xd [("place", .ref a)]) → E (.ref C) (some d) H2
theorem ok_names (T : Top K mg) {C : Addr} (TX : ExX K mg "BadWeb" "place" C) : Ok P w K mg base (L2.CX P w) 8 "names_of" ["web"] (spNamesOf C) := by
  obtain ⟨f, fd, F⟩ := T.at 12
  refine F.okX sc_names (fun vs H Q E h => ?_) (fun cdv A outer s H vs Q E hr h => ?_)
  · obtain ⟨x, l, rfl, _⟩ := h
    rfl
  · obtain ⟨p, xs, rfl, hp, hn, q⟩ := h
    refine ⟨_, pss_one (ps_ret (pe_fn (ok_all T) (hr.mono (by decide)) pass0 (pa_cons (pe_fn (E := E) (ok_need T TX) hr (passes_call (W := fun cls d _ H2 => E cls d H2) (takes_of rfl rfl rfl rfl) (fun _ _ _ _ z => z)) (pa_cons (pv 0) pa_nil)) pa_nil))), ?_⟩
    exact ⟨_, rfl, p, xs, rfl, hp, .inl ⟨hn, fun a d H2 s2 ha hd => q a d H2 s2 ha hd⟩⟩
theorem sc_src : FnScope ["web", "name", "beat", "sources"] ["web"] (defScope (topS 33)) := ⟨rfl, rfl, rfl, by decide +kernel, rfl, by decide +kernel, by decide +kernel⟩
/-- what the dict of the sources holds -/
def KvAt (H : Hp) (kv : Key × V) (u : VW) : Prop := kv.1 = Sum.inr u.name ∧ SrcsAt H kv.2 u.srcs
def DictAt (H : Hp) (d : Addr) (l : List VW) : Prop := ∃ kvs : List (Key × V), H d = some (.dK kvs) ∧ Paired (KvAt H) kvs l
theorem KvAt.kt {H H2 : Hp} (k : KT H H2) {kv : Key × V} {u : VW} (h : KvAt H kv u) : KvAt H2 kv u := ⟨h.1, SrcsAt.kt k h.2⟩
theorem val_none {H : Hp} {x : Str} : ∀ {kvs : List (Key × V)} {l : List VW}, Paired (KvAt H) kvs l → x ∉ l.map VW.name → valV kvs (Sum.inr x : Key) = none
  | _, _, .nil, _ => rfl
  | _, _, .cons (a := kv) (b := u) r t, h => by
    have h1 : ¬ x = u.name := fun e => h (by rw [e]; exact List.mem_cons_self)
    have h2 : x ∉ _ := fun e => h (List.mem_cons_of_mem _ e)
    have ih := val_none t h2
    unfold valV at ih ⊢
    rw [List.find?_cons, r.1]
    have e : decide ((Sum.inr u.name : Key) = Sum.inr x) = false := decide_eq_false fun z => h1 (Sum.inr.inj z).symm
    rw [e]
    exact ih
def spSrc : Sp := fun vs H Q _ => ∃ v W, vs = [v] ∧ WebAt H v W ∧ GoodWeb W ∧ ∀ d H2, Same H H2 → H d = none → DictAt H2 d W.views → Q (.ref d) H2
theorem ok_src (T : Top K mg) : Ok P w K mg base CX0 1 "sources_in" ["web"] spSrc := by
  obtain ⟨f, fd, F⟩ := T.at 13
  refine F.ok0 sc_src (fun vs H Q E h => ?_) (fun cdv A outer s H vs Q E hr h => ?_)
  · obtain ⟨x, l, rfl, _⟩ := h
    rfl
  · obtain ⟨v, W, rfl, ⟨p, t, u, ts, us, rfl, hp, ht, hu, pt, pu⟩, g, q⟩ := h
    have nd := sc_src.nd
    have lu : us.length = W.views.length := Paired.length pu
    refine ⟨_, pss_one (ps_ret (pe_dc (own := [("name", 1), ("beat", 2), ("sources", 3)]) (g := gTup K 3 (gCons (gName 1) (gCons (gName 2) (gCons (gName 3) gNil)))) (tt := tYes) rfl nd (pi_tup (pe_ix T.ixT (pv 0) pe_int (fun _ _ => rfl)))
        (blkOk_by (N := ["web", "name", "beat", "sources"]) (sc := defScope (topS 33)) (by decide +kernel))
        (fun _ _ _ _ _ => pg_tup rfl (pgs_cons (pg_name (i := 1) nd rfl (.inl rfl)) (pgs_cons (pg_name (i := 2) nd rfl (.inl rfl)) (pgs_cons (pg_name (i := 3) nd rfl (.inl rfl)) pgs_nil)))) (fun _ _ _ _ _ => pts_nil)
        (fun _ _ _ _ _ => pv 1) (fun _ _ _ _ _ => pv 3))), ?_⟩
    refine ⟨_, rfl, r_ixT 1 hp rfl ⟨u, rfl, ⟨_, .of hu⟩, fun D nD => ?_⟩⟩
    refine dc_tup (K := K) (a := u) (xs := us) (fun i H2 => Same H H2 ∧ DictAt H2 D (W.views.take i)) ⟨same_upd nD, [], upd_same, by rw [List.take_zero]; exact .nil⟩ (fun i H2 _ hq => .of (hq.1 _ _ hu)) ?_ ?_
    · rintro i y H2 hy ⟨sm, kvs, hD, hk⟩
      obtain ⟨vw, hvw, pp, bb, ss, rfl, hpp, hb, hs⟩ := paired_get pu hy
      refine ⟨pp, _, rfl, .of (sm _ _ hpp), rfl, _, _, rfl, _, _, rfl, _, _, rfl, rfl, rfl, tyes ⟨_, rfl, _, rfl, kvs, Sum.inr vw.name, rfl, hD, ?_, Same.mut sm nD, ?_⟩⟩
      · have e := Paired.length hk
        rw [e, List.length_take]
        exact small100 (by have := g.vi; omega)
      · have kt : KT H2 (upd H2 D (.dK (putK kvs (Sum.inr vw.name) ss))) := fun b xs z => by
          rw [upd_ne (ne_of z hD (by intro q; cases q))]
          exact z
        have nw : vw.name ∉ (W.views.take i).map VW.name := fun z => g.vnew hvw (List.mem_append_right _ z)
        have kt2 : KT H (upd H2 D (.dK (putK kvs (Sum.inr vw.name) ss))) := (KT.of sm).trans kt
        refine ⟨_, upd_same, ?_⟩
        rw [take_snoc hvw]
        rw [putK_new _ (val_none hk nw)] at kt kt2 ⊢
        exact paired_snoc (L2.Paired.mapP hk fun _ _ => KvAt.kt kt) ⟨rfl, SrcsAt.kt kt2 hs⟩
    · rintro H2 ⟨s2, hd⟩
      rw [List.take_of_length_le (by omega)] at hd
      exact q D H2 s2 nD hd
theorem sc_isn : FnScope ["web", "thing"] ["web", "thing"] (defScope (topS 35)) := ⟨rfl, rfl, rfl, by decide +kernel, rfl, by decide +kernel, by decide +kernel⟩
/-- of a text; of what is none -/
def spIsn (K : PySem.W.Frag) : Sp := fun vs H Q _ => ∃ v u W, vs = [v, u] ∧ WebAt H v W ∧ GoodWeb W ∧ ((∃ x, u = .str x ∧ ∀ H2, Same H H2 → Q (.bl (decide (x ∈ W.names))) H2) ∨ ∃ t, TyX K H u (.type t) ∧ kitB t "str" = some false ∧ Q (.bl false) H)
theorem ok_isn (T : Top K mg) : Ok P w K mg base CX0 2 "is_name_of" ["web", "thing"] (spIsn K) := by
  obtain ⟨f, fd, F⟩ := T.at 15
  refine F.ok0 sc_isn (fun vs H Q E h => ?_) (fun cdv A outer s H vs Q E hr h => ?_)
  · obtain ⟨x, l, W, rfl, _⟩ := h
    rfl
  · obtain ⟨v, u, W, rfl, hW, g, h⟩ := h
    refine ⟨_, pss_one (ps_ret (pe_and (pe_isi T T.str b_str (pv 1)) (pe_one (pe_cmpR T.inq (pv 1) (pe_fn (ok_all T) hr pass0 (pa_cons (pv 0) pa_nil)) (by rfl))))), ?_⟩
    rcases h with ⟨x, rfl, q⟩ | ⟨t, ty, hk, q⟩
    · refine ⟨_, rfl, r_isi "str" true (.base (.str x)) (by decide +kernel) ⟨true, rfl, iteT ?_⟩⟩
      exact ⟨_, rfl, _, rfl, v, W, rfl, hW, g, fun a H2 s2 _ ha => r_inT (.of ha) rfl (q H2 s2)⟩
    · exact ⟨_, rfl, r_isi t false ty hk ⟨false, rfl, iteF q⟩⟩
end
end VS

/-! The mathematics of paths, in plain Lean. -/
namespace VM
section
variable {N α : Type} [DecidableEq N]
/-- a fold over the views behind one another, the last one first: leaf at what is no view -/
def fR (leaf : N → α) (node : N → List α → α) : List (N × List N) → N → α
  | [], n => leaf n
  | v :: r, n => if n = v.1 then node n (v.2.map (fR leaf node r)) else fR leaf node r n
/-- each view has a name of its own, and sources that stand ahead of it -/
def WFR (tn : List N) : List (N × List N) → Prop
  | [] => True
  | v :: r => v.1 ∉ tn ++ r.map (·.1) ∧ (∀ s ∈ v.2, s ∈ tn ++ r.map (·.1)) ∧ WFR tn r
variable {leaf : N → α} {node : N → List α → α} {tn : List N}
theorem fR_leaf : ∀ {r : List (N × List N)} {n : N}, n ∉ r.map (·.1) → fR leaf node r n = leaf n
  | [], _, _ => rfl
  | v :: r, n, h => by
    have h1 : ¬ n = v.1 := fun e => h (by rw [e]; exact List.mem_cons_self)
    have h2 : n ∉ r.map (·.1) := fun e => h (List.mem_cons_of_mem _ e)
    show (if n = v.1 then _ else fR leaf node r n) = leaf n
    rw [if_neg h1]
    exact fR_leaf h2
theorem fR_keep {v : N × List N} {r : List (N × List N)} {s : N} (h : v.1 ∉ tn ++ r.map (·.1)) (hs : s ∈ tn ++ r.map (·.1)) : fR leaf node (v :: r) s = fR leaf node r s := by
  have h1 : ¬ s = v.1 := fun e => h (by rw [← e]; exact hs)
  show (if s = v.1 then _ else fR leaf node r s) = _
  rw [if_neg h1]
theorem WFR.src : ∀ {r : List (N × List N)} {v : N × List N}, WFR tn r → v ∈ r → ∀ s ∈ v.2, s ∈ tn ++ r.map (·.1)
  | u :: r, v, w, hv, s, hs => by
    obtain ⟨w1, w2, w3⟩ := w
    have up : ∀ {x : N}, x ∈ tn ++ r.map (·.1) → x ∈ tn ++ (u :: r).map (·.1) := fun {x} hx => by
      rcases List.mem_append.mp hx with h | h
      · exact List.mem_append_left _ h
      · exact List.mem_append_right _ (List.mem_cons_of_mem _ h)
    rcases List.mem_cons.mp hv with e | hv
    · subst e
      exact up (w2 s hs)
    · exact up (WFR.src w3 hv s hs)
theorem fR_node : ∀ {r : List (N × List N)} {v : N × List N}, WFR tn r → v ∈ r → fR leaf node r v.1 = node v.1 (v.2.map (fR leaf node r))
  | u :: r, v, w, hv => by
    obtain ⟨w1, w2, w3⟩ := w
    rcases List.mem_cons.mp hv with e | hv
    · subst e
      show (if v.1 = v.1 then node v.1 (v.2.map (fR leaf node r)) else _) = _
      rw [if_pos rfl]
      congr 1
      exact List.map_congr_left fun s hs => (fR_keep w1 (w2 s hs)).symm
    · have hm : v.1 ∈ r.map (·.1) := List.mem_map.mpr ⟨v, hv, rfl⟩
      rw [fR_keep w1 (List.mem_append_right _ hm), fR_node w3 hv]
      congr 1
      exact List.map_congr_left fun s hs => (fR_keep w1 (WFR.src w3 hv s hs)).symm
/-- in the order of the views -/
theorem wfr_of {tn : List N} {l : List (N × List N)} (h1 : ∀ i v, l[i]? = some v → v.1 ∉ tn ++ (l.take i).map (·.1)) (h2 : ∀ i v, l[i]? = some v → ∀ s ∈ v.2, s ∈ tn ++ (l.take i).map (·.1)) : WFR tn l.reverse := by
  have key : ∀ i, i ≤ l.length → WFR tn (l.take i).reverse := by
    intro i
    induction i with
    | zero =>
      intro _
      rw [List.take_zero]
      trivial
    | succ i ih =>
      intro hi
      have e : l[i]? = some l[i] := List.getElem?_eq_getElem (by omega)
      have e2 : l.take (i + 1) = l.take i ++ [l[i]] := by rw [List.take_succ, e]; rfl
      rw [e2, List.reverse_append]
      have same : ∀ x : N, x ∈ tn ++ (l.take i).reverse.map (·.1) ↔ x ∈ tn ++ (l.take i).map (·.1) := fun x => by simp
      refine ⟨fun z => h1 i _ e ((same _).mp z), fun s hs => (same _).mpr (h2 i _ e s hs), ih (by omega)⟩
  have := key l.length (Nat.le_refl _)
  rwa [List.take_length] at this
end
section
variable {N : Type} [DecidableEq N] {tn : List N}
/-- the paths of a name -/
abbrev P (r : List (N × List N)) : N → List (List N) := fR (fun n => [[n]]) (fun n cs => cs.flatten.map (n :: ·)) r
/-- how much of work a name is -/
abbrev sz (r : List (N × List N)) : N → Nat := fR (fun _ => 1) (fun _ cs => 1 + cs.sum) r
def mx : List Nat → Nat
  | [] => 0
  | a :: l => max a (mx l)
theorem mx_le {l : List Nat} {a : Nat} (h : a ∈ l) : a ≤ mx l := by
  induction l with
  | nil => cases h
  | cons b l ih =>
    show a ≤ max b (mx l)
    rcases List.mem_cons.mp h with e | h
    · subst e
      exact Nat.le_max_left _ _
    · exact Nat.le_trans (ih h) (Nat.le_max_right _ _)
theorem mx_bd {l : List Nat} {n : Nat} (h : ∀ a ∈ l, a ≤ n) : mx l ≤ n := by
  induction l with
  | nil => exact Nat.zero_le _
  | cons b l ih =>
    show max b (mx l) ≤ n
    have h1 := h b List.mem_cons_self
    have h2 := ih fun a ha => h a (List.mem_cons_of_mem _ ha)
    omega
/-- how deep a name is -/
abbrev rk (r : List (N × List N)) : N → Nat := fR (fun _ => 0) (fun _ cs => 1 + mx cs) r
theorem rk_bd : ∀ (r : List (N × List N)) (n : N), rk r n ≤ r.length
  | [], _ => Nat.le_refl 0
  | v :: r, n => by
    show (if n = v.1 then 1 + mx (v.2.map (rk r)) else rk r n) ≤ r.length + 1
    split
    · have h := mx_bd (l := v.2.map (rk r)) (n := r.length) fun a ha => by
        obtain ⟨s, _, rfl⟩ := List.mem_map.mp ha
        exact rk_bd r s
      omega
    · exact Nat.le_succ_of_le (rk_bd r n)
theorem rk_src {r : List (N × List N)} {v : N × List N} (w : WFR tn r) (hv : v ∈ r) {s : N} (hs : s ∈ v.2) : rk r s < rk r v.1 := by
  have e : rk r v.1 = 1 + mx (v.2.map (rk r)) := fR_node w hv
  rw [e]
  have := mx_le (l := v.2.map (rk r)) (List.mem_map.mpr ⟨s, hs, rfl⟩)
  omega
theorem P_node {r : List (N × List N)} {v : N × List N} (w : WFR tn r) (hv : v ∈ r) : P r v.1 = v.2.flatMap fun s => (P r s).map (v.1 :: ·) := by
  have e : P r v.1 = ((v.2.map (P r)).flatten).map (v.1 :: ·) := fR_node w hv
  rw [e, List.map_flatten, List.map_map, List.flatMap]
  rfl
theorem P_leaf {r : List (N × List N)} {n : N} (h : n ∉ r.map (·.1)) : P r n = [[n]] := fR_leaf h
theorem sz_node {r : List (N × List N)} {v : N × List N} (w : WFR tn r) (hv : v ∈ r) : sz r v.1 = 1 + (v.2.map (sz r)).sum := fR_node w hv
theorem sz_pos : ∀ (r : List (N × List N)) (n : N), 1 ≤ sz r n
  | [], _ => Nat.le_refl 1
  | v :: r, n => by
    show 1 ≤ (if n = v.1 then 1 + (v.2.map (sz r)).sum else sz r n)
    split
    · omega
    · exact sz_pos r n
theorem P_ne : ∀ {r : List (N × List N)} (_ : ∀ v ∈ r, v.2 ≠ []) (n : N), P r n ≠ []
  | [], _, n => by
    show [[n]] ≠ []
    exact List.cons_ne_nil _ _
  | v :: r, h, n => by
    have ih := fun m => P_ne (r := r) (fun u hu => h u (List.mem_cons_of_mem _ hu)) m
    show (if n = v.1 then ((v.2.map (P r)).flatten).map (n :: ·) else P r n) ≠ []
    split
    · have h2 := h v List.mem_cons_self
      cases e : v.2 with
      | nil => exact absurd e h2
      | cons s l =>
        have h3 := ih s
        cases e2 : P r s with
        | nil => exact absurd e2 h3
        | cons q qs =>
          simp [e2]
    · exact ih n
/-- each path begins with its name -/
theorem P_head : ∀ (r : List (N × List N)) (n : N) (q : List N), q ∈ P r n → ∃ t, q = n :: t
  | [], n, q, h => by
    have h2 : q ∈ [[n]] := h
    exact ⟨[], List.mem_singleton.mp h2⟩
  | v :: r, n, q, h => by
    have h2 : q ∈ (if n = v.1 then ((v.2.map (P r)).flatten).map (n :: ·) else P r n) := h
    split at h2
    · obtain ⟨t, _, e⟩ := List.mem_map.mp h2
      exact ⟨t, e.symm⟩
    · exact P_head r n q h2
/-! ### the walk with a stack -/
/-- what a waiting path will give -/
def ex (r : List (N × List N)) (q : List N) : List (List N) := match q.getLast? with
  | some n => (P r n).map (q.dropLast ++ ·)
  | none => []
theorem ex_snoc (r : List (N × List N)) (p : List N) (n : N) : ex r (p ++ [n]) = (P r n).map (p ++ ·) := by
  unfold ex
  rw [List.getLast?_concat, List.dropLast_concat]
theorem ex_node {r : List (N × List N)} {v : N × List N} (w : WFR tn r) (hv : v ∈ r) (p : List N) : ex r (p ++ [v.1]) = (v.2.map fun s => (p ++ [v.1]) ++ [s]).flatMap (ex r) := by
  rw [ex_snoc, P_node w hv, List.flatMap_map, List.map_flatMap]
  congr 1
  funext s
  rw [ex_snoc, List.map_map]
  congr 1
  funext q
  simp
theorem ex_leaf {r : List (N × List N)} {n : N} (h : n ∉ r.map (·.1)) (p : List N) : ex r (p ++ [n]) = [p ++ [n]] := by
  rw [ex_snoc, P_leaf h]
  rfl
theorem ex_ne {r : List (N × List N)} (h : ∀ v ∈ r, v.2 ≠ []) (p : List N) (n : N) : 1 ≤ (ex r (p ++ [n])).length := by
  rw [ex_snoc, List.length_map]
  have := P_ne h n
  cases e : P r n with
  | nil => exact absurd e this
  | cons _ _ => simp
/-- the paths that wait, each not empty -/
def Wt (q : List N) : Prop := ∃ p n, q = p ++ [n]
theorem wt_len {r : List (N × List N)} (h : ∀ v ∈ r, v.2 ≠ []) : ∀ {l : List (List N)}, (∀ q ∈ l, Wt q) → l.length ≤ (l.flatMap (ex r)).length
  | [], _ => Nat.le_refl _
  | q :: l, hq => by
    obtain ⟨p, n, rfl⟩ := hq q List.mem_cons_self
    have ih := wt_len h (l := l) fun x hx => hq x (List.mem_cons_of_mem _ hx)
    have := ex_ne h p n
    rw [List.flatMap_cons, List.length_append, List.length_cons]
    omega
def szq (r : List (N × List N)) (q : List N) : Nat := match q.getLast? with
  | some n => sz r n
  | none => 0
theorem szq_snoc (r : List (N × List N)) (p : List N) (n : N) : szq r (p ++ [n]) = sz r n := by
  unfold szq
  rw [List.getLast?_concat]
def mu (r : List (N × List N)) (l : List (List N)) : Nat := (l.map (szq r)).sum
theorem mu_snoc (r : List (N × List N)) (l : List (List N)) (q : List N) : mu r (l ++ [q]) = mu r l + szq r q := by
  unfold mu
  rw [List.map_append, List.sum_append]
  simp
theorem mu_node {r : List (N × List N)} {v : N × List N} (w : WFR tn r) (hv : v ∈ r) (p : List N) (l : List (List N)) :
    mu r (l ++ (v.2.map fun s => (p ++ [v.1]) ++ [s]).reverse) < mu r (l ++ [p ++ [v.1]]) := by
  rw [mu_snoc, szq_snoc, sz_node w hv]
  unfold mu
  rw [List.map_append, List.sum_append, List.map_reverse, List.sum_reverse, List.map_map]
  have e : (szq r ∘ fun s => (p ++ [v.1]) ++ [s]) = sz r := by
    funext s
    exact szq_snoc r _ s
  rw [e]
  omega
theorem mu_leaf {r : List (N × List N)} (p : List N) (n : N) (l : List (List N)) : mu r l < mu r (l ++ [p ++ [n]]) := by
  rw [mu_snoc, szq_snoc]
  have := sz_pos r n
  omega
end
end VM

/-! Paths in the heap; small rules for paths_from. -/
namespace VS
open PySem PySem.Spec PyProof.Rows L2
/-- a path as it stands: a tuple of texts -/
def PathAt (H : Hp) (v : V) (q : List Str) : Prop := ∃ a, v = .ref a ∧ H a = some (.tup (txs q))
theorem PathAt.kt {H H2 : Hp} (k : KT H H2) {v : V} {q : List Str} (h : PathAt H v q) : PathAt H2 v q := by
  obtain ⟨a, e, h⟩ := h
  exact ⟨a, e, k _ _ h⟩
theorem paths_kt {H H2 : Hp} (k : KT H H2) {vs : List V} {l : List (List Str)} (h : Paired (PathAt H) vs l) : Paired (PathAt H2) vs l := L2.Paired.mapP h fun _ _ => PathAt.kt k
theorem lay_lets : ∀ c ∈ letters.cps.toList, c < 0x110000 := by decide +kernel
theorem GoodW.lay {x : Str} (g : GoodW x) : (PyData.str x).canLay0 = true := by
  show x.cps.all (· < 0x110000) = true
  rw [← Array.all_toList, List.all_eq_true]
  intro c hc
  exact decide_eq_true (lay_lets c (g.let_ c hc))
/-- the data of a path, of paths -/
abbrev dPath (q : List Str) : PyData := .tuple (q.map PyData.str)
theorem dp_txs {K : PySem.W.Frag} {H : Hp} : ∀ q : List Str, DpAll K H (txs q) (q.map PyData.str)
  | [] => .nil
  | x :: q => .cons (.str x) (dp_txs q)
theorem dp_path {K : PySem.W.Frag} {H : Hp} {v : V} {q : List Str} (h : PathAt H v q) : Dp K H v (dPath q) := by
  obtain ⟨a, rfl, ha⟩ := h
  exact .tup (.of ha) (dp_txs q)
theorem dp_paths {K : PySem.W.Frag} {H : Hp} : ∀ {vs : List V} {l : List (List Str)}, Paired (PathAt H) vs l → DpAll K H vs (l.map dPath)
  | _, _, .nil => .nil
  | _, _, .cons r t => .cons (dp_path r) (dp_paths t)
def LayP (l : List (List Str)) : Prop := ∀ q ∈ l, ∀ x ∈ q, (PyData.str x).canLay0 = true
theorem lay_path : ∀ {q : List Str}, (∀ x ∈ q, (PyData.str x).canLay0 = true) → PyData.canLayAll0 (q.map PyData.str) = true ∧ PyData.depthAll (q.map PyData.str) = 0
  | [], _ => ⟨rfl, rfl⟩
  | x :: q, h => by
    obtain ⟨h1, h2⟩ := lay_path (q := q) fun y hy => h y (List.mem_cons_of_mem _ hy)
    have h0 := h x List.mem_cons_self
    refine ⟨?_, ?_⟩
    · rw [List.map_cons, PyData.canLayAll0, h0, h1]
      rfl
    · rw [List.map_cons, PyData.depthAll, h2, PyData.depth]
      rfl
theorem lay_paths : ∀ {l : List (List Str)}, LayP l → PyData.canLayAll0 (l.map dPath) = true ∧ PyData.depthAll (l.map dPath) ≤ 1
  | [], _ => ⟨rfl, Nat.zero_le _⟩
  | q :: l, h => by
    obtain ⟨h1, h2⟩ := lay_paths (l := l) fun y hy => h y (List.mem_cons_of_mem _ hy)
    obtain ⟨g1, g2⟩ := lay_path (h q List.mem_cons_self)
    refine ⟨?_, ?_⟩
    · rw [List.map_cons, PyData.canLayAll0, h1]
      show (PyData.canLay0 (.tuple _) && true) = true
      rw [PyData.canLay0, g1]
      rfl
    · rw [List.map_cons, PyData.depthAll]
      have : (dPath q).depth = 1 := by
        show PyData.depth (.tuple _) = 1
        rw [PyData.depth, g2]
      rw [this]
      omega
theorem shaped_paths {l : List (List Str)} (h : LayP l) : SeqAt.shaped (.list (l.map dPath)) = true := by
  obtain ⟨h1, h2⟩ := lay_paths h
  unfold SeqAt.shaped
  rw [PyData.canLay0, h1, PyData.depth]
  simp
  omega
theorem eqv_nil (l : List (List Str)) : PyData.eqv (.list (l.map dPath)) (.list []) = l.isEmpty := by
  cases l with
  | nil => rfl
  | cons q l => rfl
/-- a list of paths != [] -/
@[irreducible] def vNeE : R2 := fun x y H Q => ∃ a b ws l, x = .ref a ∧ y = .ref b ∧ H a = some (.lst ws) ∧ Paired (PathAt H) ws l ∧ LayP l ∧ H b = some (.lst []) ∧ Q (.bl (!l.isEmpty)) H
@[irreducible] def vExt : V → List V → Hp → VK → Prop := rExtend
@[irreducible] def vPop : V → List V → Hp → VK → Prop := rPop
@[irreducible] def vLstT (K : PySem.W.Frag) : List V → Hp → VK → Prop := fun xs H Q => ∃ p ys, xs = [.ref p] ∧ H p = some (.tup ys) ∧ ∀ l, H l = none → Q (.ref l) (upd H l (.lst ys))
section
variable {X : Cx}
theorem neE_ok (hu : X.A.units + 64 < cLine) : OpR X (compareOp .NotEq) vNeE := by
  intro pins s σ H x y v u Q I rx ry h
  unfold vNeE at h
  obtain ⟨a, b, ws, l, rfl, rfl, ha, hl, hy, hb, q⟩ := h
  refine op_neD hu pins s σ H _ _ v u Q I rx ry ⟨.list (l.map dPath), .list [], .lst (.of ha) (dp_paths hl), .lst (.of hb) .nil, shaped_paths hy, rfl, ?_⟩
  rw [eqv_nil]
  exact q
theorem ext_ok : MtM X "list.extend" vExt := by
  unfold vExt
  exact mt_extend
theorem pop_ok : MtM X "list.pop" vPop := by
  unfold vPop
  exact mt_pop
variable {K : PySem.W.Frag} {mg : Str → Option Value}
theorem Top.lstT (T : Top K mg) (hK : X.K = K := by rfl) : CallR X (.type "list") (vLstT K) := by
  subst hK
  intro pins s σ H xs us Q I r h
  unfold vLstT at h
  obtain ⟨p, ys, e, hp, q⟩ := h
  exact call_list_of pins s σ H xs us Q I r ⟨p, ys, e, .inr (.of hp), q⟩
theorem Top.star (T : Top K mg) {e : Expr} {es : List Expr} {te : TE} {t : TA} {p : Pos} (he : PE X e te) (hr : PA X es t) (hK : X.K = K := by rfl) (hs : starEach (.Starred e p :: es) X.env = (true, eval e X.env) :: starEach es X.env := by rfl) : PA X (.Starred e p :: es) (StX.tStar K te t) := by
  subst hK
  exact StX.pa_star he hr hs
end
section
variable {K : PySem.W.Frag} {H : Hp} {a b : Addr} {xs ys : List V} {Q : VK}
theorem r_neE {ws : List V} {l : List (List Str)} {c : Bool} (ha : H a = some (.lst ws)) (hl : Paired (PathAt H) ws l) (hy : LayP l) (hb : H b = some (.lst [])) (hc : (!l.isEmpty) = c) (q : Q (.bl c) H) : vNeE (.ref a) (.ref b) H Q := by
  unfold vNeE
  exact ⟨a, b, ws, l, rfl, rfl, ha, hl, hy, hb, by rw [hc]; exact q⟩
theorem r_ext (ha : H a = some (.lst xs)) (hb : H b = some (.lst ys)) (hz : xs.length + ys.length ≤ 1000) (q : Q .non (upd H a (.lst (xs ++ ys)))) : vExt (.ref a) [.ref b] H Q := by
  unfold vExt
  exact ⟨a, b, xs, ys, rfl, rfl, ha, hb, Nat.le_trans hz (by decide), q⟩
theorem r_pop {y : V} (ha : H a = some (.lst (xs ++ [y]))) (q : Q y (upd H a (.lst xs))) : vPop (.ref a) [] H Q := by
  unfold vPop
  refine ⟨a, xs ++ [y], y, rfl, rfl, ha, by simp, ?_⟩
  rw [List.dropLast_concat]
  exact q
theorem r_lstT (ha : H a = some (.tup xs)) (q : ∀ l, H l = none → Q (.ref l) (upd H l (.lst xs))) : vLstT K [.ref a] H Q := by
  unfold vLstT
  exact ⟨a, xs, rfl, ha, q⟩
theorem r_last {p : List Str} {n : Str} (ha : H a = some (.tup (txs (p ++ [n])))) (q : Q (.str n) H) : vIxT K (.ref a) (.int (-1)) H Q := by
  unfold vIxT
  refine ⟨a, _, -1, .str n, rfl, rfl, .of ha, ?_, q⟩
  show atI (List.map V.str (p ++ [n])) (-1) = some (.str n)
  rw [List.map_append]
  exact atI_last _ _
end
theorem paired_snoc_inv {α β : Type} {R : α → β → Prop} : ∀ {xs : List α} {ys : List β} {y : β}, Paired R xs (ys ++ [y]) → ∃ xs2 x, xs = xs2 ++ [x] ∧ Paired R xs2 ys ∧ R x y
  | _, [], y, .cons r t => by
    cases t
    exact ⟨[], _, rfl, .nil, r⟩
  | _, z :: ys, y, .cons r t => by
    obtain ⟨xs2, x, e, a, b⟩ := paired_snoc_inv t
    subst e
    exact ⟨_ :: xs2, x, rfl, .cons r a, b⟩
theorem paired_app {α β : Type} {R : α → β → Prop} : ∀ {xs xs2 : List α} {ys ys2 : List β}, Paired R xs ys → Paired R xs2 ys2 → Paired R (xs ++ xs2) (ys ++ ys2)
  | _, _, _, _, .nil, s => s
  | _, _, _, _, .cons r t, s => .cons r (paired_app t s)
/-! ### a web's views for the mathematics -/
def WB.sv (W : WB) : List (Str × List Str) := W.views.map fun u => (u.name, u.srcs.map (·.1))
def WB.rv (W : WB) : List (Str × List Str) := W.sv.reverse
theorem sv_take (W : WB) (i : Nat) : (W.sv.take i).map (·.1) = (W.views.take i).map VW.name := by
  unfold WB.sv
  rw [← List.map_take, List.map_map]
  rfl
theorem GoodWeb.wf {W : WB} (g : GoodWeb W) : VM.WFR W.tn W.rv := by
  refine VM.wfr_of (fun i v e => ?_) (fun i v e s hs => ?_)
  · unfold WB.sv at e
    rw [List.getElem?_map] at e
    cases h : W.views[i]? with
    | none =>
      rw [h] at e
      cases e
    | some u =>
      rw [h] at e
      obtain rfl : (u.name, u.srcs.map (·.1)) = v := Option.some.inj e
      rw [sv_take]
      exact g.vnew h
  · unfold WB.sv at e
    rw [List.getElem?_map] at e
    cases h : W.views[i]? with
    | none =>
      rw [h] at e
      cases e
    | some u =>
      rw [h] at e
      obtain rfl : (u.name, u.srcs.map (·.1)) = v := Option.some.inj e
      rw [sv_take]
      obtain ⟨sr, hm, rfl⟩ := List.mem_map.mp hs
      exact (g.srcs i u h).ahead _ hm
theorem rv_names (W : WB) (x : Str) : x ∈ W.rv.map (·.1) ↔ x ∈ W.vn := by
  unfold WB.rv WB.sv WB.vn
  simp
theorem rv_mem {W : WB} {u : VW} (h : u ∈ W.views) : (u.name, u.srcs.map (·.1)) ∈ W.rv := by
  unfold WB.rv WB.sv
  rw [List.mem_reverse]
  exact List.mem_map.mpr ⟨u, h, rfl⟩
theorem GoodWeb.good {W : WB} (g : GoodWeb W) {u : VW} (h : u ∈ W.views) : ∃ ns, GoodS ns u.srcs ∧ ∀ x ∈ ns, x ∈ W.names := by
  obtain ⟨i, hi, e⟩ := List.mem_iff_getElem.mp h
  refine ⟨_, g.srcs i u (by rw [List.getElem?_eq_getElem hi, e]), fun x hx => ?_⟩
  unfold WB.names WB.vn
  rcases List.mem_append.mp hx with h1 | h1
  · exact List.mem_append_left _ h1
  · obtain ⟨y, hy, rfl⟩ := List.mem_map.mp h1
    exact List.mem_append_right _ (List.mem_map.mpr ⟨y, List.mem_of_mem_take hy, rfl⟩)
theorem GoodWeb.srcne {W : WB} (g : GoodWeb W) : ∀ v ∈ W.rv, v.2 ≠ [] := by
  intro v hv
  unfold WB.rv WB.sv at hv
  rw [List.mem_reverse] at hv
  obtain ⟨u, hu, rfl⟩ := List.mem_map.mp hv
  obtain ⟨ns, gs, _⟩ := g.good hu
  intro e
  have e2 : u.srcs.length = 0 := by
    have := congrArg List.length e
    simpa using this
  have := gs.lo
  omega
theorem GoodWeb.word {W : WB} (g : GoodWeb W) {x : Str} (h : x ∈ W.names) : GoodW x := by
  unfold WB.names WB.tn WB.vn at h
  rcases List.mem_append.mp h with h1 | h1
  · obtain ⟨t, ht, rfl⟩ := List.mem_map.mp h1
    exact (g.tab t ht).1
  · obtain ⟨u, hu, rfl⟩ := List.mem_map.mp h1
    exact (g.view u hu).1
theorem val_some {H : Hp} : ∀ {kvs : List (Key × V)} {l : List VW} {u : VW}, Paired (KvAt H) kvs l → (l.map VW.name).Nodup → u ∈ l → ∃ v, valV kvs (Sum.inr u.name : Key) = some v ∧ SrcsAt H v u.srcs
  | _, _, u, .nil, _, h => by cases h
  | _, _, u, .cons (a := kv) (b := u2) r t, nd, h => by
    rw [List.map_cons, List.nodup_cons] at nd
    unfold valV
    rw [List.find?_cons, r.1]
    by_cases e : u2.name = u.name
    · have e1 : decide ((Sum.inr u2.name : Key) = Sum.inr u.name) = true := decide_eq_true (by rw [e])
      rw [e1]
      refine ⟨kv.2, rfl, ?_⟩
      rcases List.mem_cons.mp h with z | z
      · rw [z]
        exact r.2
      · exact absurd (List.mem_map.mpr ⟨u, z, e.symm⟩) nd.1
    · have e1 : decide ((Sum.inr u2.name : Key) = Sum.inr u.name) = false := decide_eq_false fun z => e (Sum.inr.inj z)
      rw [e1]
      rcases List.mem_cons.mp h with z | z
      · exact absurd (by rw [z]) e
      · obtain ⟨v, a, b⟩ := val_some t nd.2 z
        exact ⟨v, a, b⟩
theorem GoodWeb.vnd {W : WB} (g : GoodWeb W) : (W.views.map VW.name).Nodup := g.nd.sublist (List.sublist_append_right _ _)
end VS

/-! paths_from. -/
namespace VS
open PySem PySem.Spec PyProof.Rows L2
section
variable {P : Program} {w : World} {K : PySem.W.Frag} {mg : Str → Option Value} {base : Heap}
theorem sc_pf : FnScope ["sources", "name", "found", "waiting", "path", "other", "mode"] ["sources", "name"] (defScope (topS 34)) := ⟨rfl, rfl, rfl, by decide +kernel, rfl, by decide +kernel, by decide +kernel⟩
def spPF (C : Addr) : Sp := fun vs H Q E => ∃ d n W, vs = [.ref d, .str n] ∧ DictAt H d W.views ∧ GoodWeb W ∧ n ∈ W.names ∧
  ((VM.P W.rv n).length ≤ 200 → ∀ a fs H2, Same H H2 → H a = none → H2 a = some (.lst fs) → Paired (PathAt H2) fs (VM.P W.rv n) → Q (.ref a) H2) ∧
  (200 < (VM.P W.rv n).length → ∀ dx H2, Same H H2 → H2 dx = some (.xd [("most", .int 200)]) → E (.ref C) (some dx) H2)
/-- a waiting path -/
structure WaitP (W : WB) (q : List Str) : Prop where
  wt : ∃ p n, q = p ++ [n] ∧ q.length + VM.rk W.rv n ≤ 9
  nm : ∀ x ∈ q, x ∈ W.names
theorem WaitP.to {W : WB} {q : List Str} (h : WaitP W q) : VM.Wt q := by
  obtain ⟨p, n, e, _⟩ := h.wt
  exact ⟨p, n, e⟩
theorem ok_pf (T : Top K mg) {C : Addr} (TX : ExX K mg "TooGreat" "most" C) : Ok P w K mg base (L2.CX P w) 2 "paths_from" ["sources", "name"] (spPF C) := by
  obtain ⟨f, fd, F⟩ := T.at 14
  refine F.okX sc_pf (fun vs H Q E h => ?_) (fun cdv A outer s H vs Q E hr h => ?_)
  · obtain ⟨x, l, W, rfl, _⟩ := h
    rfl
  · obtain ⟨d, n0, W, rfl, hdict, g, hn0, qok, qbad⟩ := h
    obtain ⟨tm, mm⟩ := T.mPat
    have nd := sc_pf.nd
    have hu := hu_of hr
    have wf := g.wf
    refine ⟨_, pss_cons (ps_set (i := 2) nd rfl (.inl rfl) (pe_lst pa_nil))
      (pss_cons (ps_set (i := 3) nd rfl (.inl rfl) (pe_lst (pa_cons (pe_tup (pa_cons (pv 1) pa_nil)) pa_nil)))
      (pss_cons (ps_while PassesOwn.leaving (pt_cmpR (neE_ok hr.units) (pv 3) (pe_lst pa_nil) (nomark _))
        (pss_cons (ps_set (i := 4) nd rfl (.inr rfl) (pe_bm0 PySem.F.plainAttrs_list PySem.F.slot_list_pop PySem.F.type_list_pop pop_ok (pv 3)))
        (pss_cons (ps_if (pt_cmp (pc_din hu (pe_ix T.ixT (pv 4) (pe_un un_neg pe_int) (fun _ _ => rfl)) (pv 0)))
          (pss_one (ps_expr (pe_bm PySem.F.plainAttrs_list PySem.F.slot_list_extend PySem.F.type_list_extend ext_ok (pv 3) (pa_cons
            (pe_lc (own := [("other", 5), ("mode", 6)]) (g := gTup K 2 (gCons (gName 5) (gCons (gName 6) gNil))) (tt := tYes) rfl nd
              (pi_reversed (by rfl) T.rev (pa_cons (pe_callTy (T.lstT) (by rfl) T.lst b_lst (pa_cons (pe_dget hu (pv 0) (pe_ix T.ixT (pv 4) (pe_un un_neg pe_int) (fun _ _ => rfl)) (fun _ _ => rfl)) pa_nil)) pa_nil))
              (blkOk_by (N := ["sources", "name", "found", "waiting", "path", "other", "mode"]) (sc := defScope (topS 34)) (by decide +kernel))
              (fun _ _ _ _ _ => pg_tup rfl (pgs_cons (pg_name (i := 5) nd rfl (.inl rfl)) (pgs_cons (pg_name (i := 6) nd rfl (.inl rfl)) pgs_nil))) (fun _ _ _ _ _ => pts_nil)
              (fun _ _ _ _ _ => pe_tup (T.star (pv 4) (pa_cons (pv 5) pa_nil)))) pa_nil))))
          (pss_one (ps_expr (pe_bm PySem.F.plainAttrs_list PySem.F.slot_list_append PySem.F.type_list_append app_ok (pv 2) (pa_cons (pv 4) pa_nil)))))
        (pss_one (ps_if (pt_cmpR gt_ok (pe_op add_ok (pe_len T (pv 2)) (pe_len T (pv 3))) (pe_glob (v := .int 200) rfl mm ⟨_, rfl⟩) (nomark _))
          (pss_one (ps_raiseE (W := fun cls d _ H2 => E cls d H2) rfl TX hr (takes_of rfl rfl rfl rfl) (pa_cons (pe_glob (v := .int 200) rfl mm ⟨_, rfl⟩) pa_nil))) pss_nil)))))
      (pss_one (ps_ret (pv 2))))), ?_⟩
    refine ⟨Nat.zero_le _, fun fa nf => ?_⟩
    have s0 : Same H (upd H fa (.lst [])) := same_upd nf
    refine ⟨_, rfl, by show 1 ≤ sizeLine; decide, fun tp nt => ⟨by show 1 ≤ sizeLine; decide, fun wa nw => ?_⟩⟩
    have s1 : Same H (upd (upd H fa (.lst [])) tp (.tup [.str n0])) := Same.new s0 nt
    have s2 : Same H (upd (upd (upd H fa (.lst [])) tp (.tup [.str n0])) wa (.lst [.ref tp])) := Same.new s1 nw
    have nwH : H wa = none := s1.free nw
    have hfa0 : (upd (upd (upd H fa (.lst [])) tp (.tup [.str n0])) wa (.lst [.ref tp])) fa = some (.lst []) := (same_upd nw) _ _ ((same_upd nt) _ _ upd_same)
    have htp0 : (upd (upd (upd H fa (.lst [])) tp (.tup [.str n0])) wa (.lst [.ref tp])) tp = some (.tup (txs [n0])) := (same_upd nw) _ _ upd_same
    have rk0 : VM.rk W.rv n0 ≤ 8 := by
      have h1 := VM.rk_bd W.rv n0
      have h2 : W.rv.length = W.views.length := by simp [WB.rv, WB.sv]
      have := g.vi
      omega
    refine ⟨fun m σ H3 => ∃ (found waiting : List (List Str)) (fs ws : List V) (y4 y5 y6 : Option V), σ = [some (.ref d), some (.str n0), some (.ref fa), some (.ref wa), y4, y5, y6] ∧ Same H H3 ∧ fa ≠ wa ∧ H3 fa = some (.lst fs) ∧ H3 wa = some (.lst ws) ∧
      Paired (PathAt H3) fs found ∧ Paired (PathAt H3) ws waiting ∧ (∀ q ∈ waiting, WaitP W q) ∧ found ++ waiting.reverse.flatMap (VM.ex W.rv) = VM.P W.rv n0 ∧ found.length + waiting.length ≤ 200 ∧ m = VM.mu W.rv waiting,
      ⟨_, [], [[n0]], [], [.ref tp], none, none, none, rfl, s2, ne_of_none (by rw [upd_ne (ne_of_none (upd_same (H := H) (a := fa)) nt), upd_same]) nw, hfa0, upd_same, .nil, .cons ⟨tp, rfl, htp0⟩ .nil, fun q hq => ?_, ?_, (show (0 : Nat) + 1 ≤ 200 by decide), rfl⟩, fun m σ H3 hW => ?_⟩
    · obtain rfl := List.mem_singleton.mp hq
      exact ⟨⟨[], n0, rfl, by show 1 + _ ≤ 9; omega⟩, fun x hx => by rw [List.mem_singleton.mp hx]; exact hn0⟩
    · have e := VM.ex_snoc W.rv [] n0
      simp only [List.nil_append] at e
      simp [e]
    · obtain ⟨found, waiting, fs, ws, y4, y5, y6, rfl, s3, nfw, hf, hw, pf, pw, hwt, heq, hcnt, rfl⟩ := hW
      have layw : LayP waiting := fun q hq x hx => (g.word ((hwt q hq).nm x hx)).lay
      refine ⟨_, rfl, Nat.zero_le _, fun em ne => ?_⟩
      have s4 : Same H3 (upd H3 em (.lst [])) := same_upd ne
      refine r_neE (s4 _ _ hw) (paths_kt (.of s4) pw) layw upd_same rfl ⟨_, rfl, ?_⟩
      rcases List.eq_nil_or_concat waiting with e0 | ⟨wt, q, e0⟩
      · -- the end
        subst e0
        refine iteF ⟨_, rfl, ?_⟩
        have e1 : found = VM.P W.rv n0 := by
          rw [← heq]
          simp
        have hle : (VM.P W.rv n0).length ≤ 200 := by
          rw [← e1]
          have : found.length + 0 ≤ 200 := hcnt
          omega
        exact qok hle fa fs _ (s3.trans s4) nf (s4 _ _ hf) (by rw [← e1]; exact paths_kt (.of s4) pf)
      · rw [List.concat_eq_append] at e0
        subst e0
        have hne : (!(wt ++ [q]).isEmpty) = true := by simp
        rw [hne]
        refine iteT ⟨_, fun σ2 H4 hN => hN, ?_⟩
        obtain ⟨ws2, x, rfl, pw2, ⟨qa, rfl, hqa⟩⟩ := paired_snoc_inv pw
        obtain ⟨⟨p, n, rfl, hrk⟩, hnm⟩ := hwt q (List.mem_append_right _ List.mem_cons_self)
        have hn : n ∈ W.names := hnm n (List.mem_append_right _ List.mem_cons_self)
        have hwt2 : ∀ q ∈ wt, WaitP W q := fun q hq => hwt q (List.mem_append_left _ hq)
        have lenw : wt.length + 1 + found.length ≤ 200 := by
          rw [List.length_append] at hcnt
          have : [p ++ [n]].length = 1 := rfl
          omega
        have lw2 : ws2.length = wt.length := Paired.length pw2
        have lf : fs.length = found.length := Paired.length pf
        -- path = waiting.pop()
        refine ⟨_, rfl, .inl ⟨rfl, _, .of (s4 _ _ hw)⟩, r_pop (s4 _ _ hw) ?_⟩
        generalize hH5 : upd (upd H3 em (.lst [])) wa (.lst ws2) = H5
        have s5 : Same H H5 := by
          rw [← hH5]
          exact Same.mut (s3.trans s4) nwH
        have k5 : KT H3 H5 := by
          rw [← hH5]
          exact (KT.of s4).trans fun b xs z => by
            rw [upd_ne (ne_of z (s4 _ _ hw) (by intro q; cases q))]
            exact z
        have hw5 : H5 wa = some (.lst ws2) := by rw [← hH5]; exact upd_same
        have hf5 : H5 fa = some (.lst fs) := by
          rw [← hH5, upd_ne nfw]
          exact s4 _ _ hf
        have hq5 : H5 qa = some (.tup (txs (p ++ [n]))) := k5 _ _ hqa
        obtain ⟨kvs, hd, hkv⟩ := id hdict
        -- if path[-1] in sources
        refine ⟨_, rfl, _, rfl, r_last hq5 ⟨_, rfl, d, _, rfl, DGet.k (k := Sum.inr n) (s5 _ _ hd), _, rfl, ?_⟩⟩
        have tail : ∀ (H6 : Hp) (found2 waiting2 : List (List Str)) (fs2 ws3 : List V), Same H H6 → H6 fa = some (.lst fs2) → H6 wa = some (.lst ws3) → Paired (PathAt H6) fs2 found2 → Paired (PathAt H6) ws3 waiting2 → (∀ q ∈ waiting2, WaitP W q) →
            found2 ++ waiting2.reverse.flatMap (VM.ex W.rv) = VM.P W.rv n0 → VM.mu W.rv waiting2 < VM.mu W.rv (wt ++ [p ++ [n]]) → True := fun _ _ _ _ _ _ _ _ _ _ _ _ _ => trivial
        clear tail
        by_cases hv : n ∈ W.vn
        · obtain ⟨u, hum, eu⟩ : ∃ u ∈ W.views, u.name = n := by
            obtain ⟨u, a, b⟩ := List.mem_map.mp hv
            exact ⟨u, a, b⟩
          obtain ⟨sv, hval, sp, sxs, esv, hsp, hsx⟩ := val_some hkv g.vnd hum
          subst esv
          subst eu
          obtain ⟨ns, gs, hns⟩ := g.good hum
          rw [hval]
          refine iteT ?_
          have hsp5 : H5 sp = some (.tup sxs) := s5 _ _ hsp
          have lsx : sxs.length = u.srcs.length := Paired.length hsx
          refine ⟨_, rfl, .inl ⟨rfl, _, .of hw5⟩, _, rfl, _, rfl, _, rfl, r_last hq5 ⟨d, .ref sp, rfl, by rw [← hval]; exact DGet.k (k := Sum.inr u.name) (s5 _ _ hd), r_lstT hsp5 fun l nl => ?_⟩⟩
          have s6 : Same H5 (upd H5 l (.lst sxs)) := same_upd nl
          refine ⟨l, sxs, rfl, .of upd_same, fun D nD => ?_⟩
          have s7 : Same H5 (upd (upd H5 l (.lst sxs)) D (.lst [])) := Same.new s6 nD
          have nD5 : H5 D = none := s6.free nD
          have hlD : l ≠ D := ne_of_none upd_same nD
          have hnd : (gCons (gName 5) (gCons (gName 6) gNil)) = (gCons (gName 5) (gCons (gName 6) gNil)) := rfl
          refine lc_it (walk_rev (xs := sxs)) (fun i H6 => Same H5 H6 ∧ H6 l = some (.lst sxs) ∧ ∃ acc, H6 D = some (.lst acc) ∧ Paired (PathAt H6) acc ((u.srcs.reverse.take i).map fun z => (p ++ [u.name]) ++ [z.1]))
            ⟨s7, (same_upd nD) _ _ upd_same, [], upd_same, by rw [List.take_zero]; exact .nil⟩ (fun i H6 _ hq => .of hq.2.1) ?_ ?_
          · rintro i y H6 H7 hi ⟨s8, hl6, acc, hD6, pacc⟩ ⟨rfl, hy⟩
            obtain ⟨sr, hsr, ea, rfl, hea⟩ := paired_get hsx hy
            have hsr2 : u.srcs.reverse[i]? = some sr := by
              rw [List.getElem?_reverse (by omega), ← lsx]
              exact hsr
            have s9 := s5.trans s8
            have lacc : acc.length ≤ 4 := by
              have e := Paired.length pacc
              rw [e, List.length_map, List.length_take]
              have := gs.hi
              have := List.length_reverse (as := u.srcs)
              omega
            refine r_pair (X := cxOf (L2.CX P w) P w K mg base [] "" (defScope (topS 34)) f cdv A outer s H E) (s9 _ _ hea) ⟨rfl, tyes ?_⟩
            refine ⟨_, rfl, qa, _, rfl, .inl (.of (s8 _ _ hq5)), _, rfl, ?_, fun t nt2 => ?_⟩
            · rw [List.length_append, List.length_map]
              exact Nat.le_of_lt (small100 (by show (p ++ [u.name]).length + 1 ≤ 100; omega))
            · have s10 : Same H5 (upd H7 t (.tup (List.map V.str (p ++ [u.name]) ++ [.str sr.1]))) := Same.new s8 nt2
              have ktD : KT H7 (upd (upd H7 t (.tup (List.map V.str (p ++ [u.name]) ++ [.str sr.1]))) D (.lst (acc ++ [.ref t]))) := (KT.of (same_upd nt2)).trans fun b xs z => by
                rw [upd_ne (ne_of z ((same_upd nt2) _ _ hD6) (by intro q; cases q))]
                exact z
              refine ⟨acc, (same_upd nt2) _ _ hD6, small100 (by omega), Same.mut s10 nD5, ?_, _, upd_same, ?_⟩
              · rw [upd_ne hlD]
                exact (same_upd nt2) _ _ hl6
              · rw [take_snoc hsr2, List.map_append]
                refine paired_snoc (paths_kt ktD pacc) ⟨t, rfl, ?_⟩
                rw [upd_ne (ne_of_none hD6 nt2).symm, upd_same]
                show some (HO.tup (List.map V.str (p ++ [u.name]) ++ List.map V.str [sr.1])) = _
                rw [← List.map_append]
          · rintro H6 ⟨s8, hl6, acc, hD6, pacc⟩
            rw [List.take_of_length_le (by rw [List.length_reverse]; omega)] at pacc
            have lacc : acc.length = u.srcs.length := by
              have e := Paired.length pacc
              rw [e, List.length_map, List.length_reverse]
            have s9 := s5.trans s8
            have hw6 : H6 wa = some (.lst ws2) := s8 _ _ hw5
            have hf6 : H6 fa = some (.lst fs) := s8 _ _ hf5
            have lsr : u.srcs.length ≤ 4 := gs.hi
            refine r_ext hw6 hD6 (by omega) ?_
            have k7 : KT H6 (upd H6 wa (.lst (ws2 ++ acc))) := fun b xs z => by
              rw [upd_ne (ne_of z hw6 (by intro q; cases q))]
              exact z
            have k37 : KT H3 (upd H6 wa (.lst (ws2 ++ acc))) := k5.trans ((KT.of s8).trans k7)
            have s7b : Same H (upd H6 wa (.lst (ws2 ++ acc))) := Same.mut s9 nwH
            have hf7 : (upd H6 wa (.lst (ws2 ++ acc))) fa = some (.lst fs) := by
              rw [upd_ne nfw]
              exact hf6
            have emap : (u.srcs.reverse.map fun z => (p ++ [u.name]) ++ [z.1]) = ((u.srcs.map (·.1)).map fun z => (p ++ [u.name]) ++ [z]).reverse := by
              rw [List.map_map, List.map_reverse]
              rfl
            have pw7 : Paired (PathAt (upd H6 wa (.lst (ws2 ++ acc)))) (ws2 ++ acc) (wt ++ ((u.srcs.map (·.1)).map fun z => (p ++ [u.name]) ++ [z]).reverse) := by
              rw [← emap]
              exact paired_app (paths_kt k37 pw2) (paths_kt k7 pacc)
            have hwt7 : ∀ q ∈ wt ++ ((u.srcs.map (·.1)).map fun z => (p ++ [u.name]) ++ [z]).reverse, WaitP W q := by
              intro q hq
              rcases List.mem_append.mp hq with h1 | h1
              · exact hwt2 q h1
              · rw [List.mem_reverse] at h1
                obtain ⟨z, hz, rfl⟩ := List.mem_map.mp h1
                obtain ⟨sr, hsm, rfl⟩ := List.mem_map.mp hz
                have hrs := VM.rk_src wf (rv_mem hum) hz
                refine ⟨⟨p ++ [u.name], sr.1, rfl, ?_⟩, fun x hx => ?_⟩
                · rw [List.length_append]
                  show (p ++ [u.name]).length + 1 + _ ≤ 9
                  have : VM.rk W.rv u.name = VM.rk W.rv (u.name, u.srcs.map (·.1)).1 := rfl
                  omega
                · rcases List.mem_append.mp hx with h2 | h2
                  · exact hnm x h2
                  · rw [List.mem_singleton.mp h2]
                    exact hns _ (gs.ahead sr hsm)
            have heq7 : found ++ (wt ++ ((u.srcs.map (·.1)).map fun z => (p ++ [u.name]) ++ [z]).reverse).reverse.flatMap (VM.ex W.rv) = VM.P W.rv n0 := by
              rw [← heq, List.reverse_append, List.reverse_reverse, List.flatMap_append, List.reverse_append, List.flatMap_append]
              have e1 := VM.ex_node wf (rv_mem hum) p
              congr 2
              show _ = [p ++ [u.name]].flatMap _
              rw [List.flatMap_cons, List.flatMap_nil, List.append_nil]
              exact e1.symm
            have hmu := VM.mu_node wf (rv_mem hum) p wt
            refine ⟨_, rfl, r_lnL hf7 ⟨_, rfl, r_lnL upd_same (r_i rfl (r_i rfl ⟨_, rfl, ?_⟩))⟩⟩
            have elen : ((ws2 ++ acc).length : Int) = ((wt ++ ((u.srcs.map (·.1)).map fun z => (p ++ [u.name]) ++ [z]).reverse).length : Int) := by
              rw [Paired.length pw7]
            rw [elen]
            have tot : found.length + (wt ++ ((u.srcs.map (·.1)).map fun z => (p ++ [u.name]) ++ [z]).reverse).length ≤ (VM.P W.rv n0).length := by
              have h2 := congrArg List.length heq7
              have h3 : ∀ a b : List (List Str), (a ++ b).length = a.length + b.length := fun a b => List.length_append
              rw [h3 found] at h2
              have h1 := VM.wt_len g.srcne (l := (wt ++ ((u.srcs.map (·.1)).map fun z => (p ++ [u.name]) ++ [z]).reverse).reverse) fun q hq => (hwt7 q (List.mem_reverse.mp hq)).to
              rw [List.length_reverse] at h1
              omega
            by_cases hc : (200 : Int) < (fs.length : Int) + ((wt ++ ((u.srcs.map (·.1)).map fun z => (p ++ [u.name]) ++ [z]).reverse).length : Int)
            · rw [decide_eq_true hc]
              refine iteT ⟨_, rfl, fun dx ndx => ?_⟩
              exact qbad (by omega) dx _ (Same.new s7b ndx) upd_same
            · rw [decide_eq_false hc]
              refine iteF ⟨_, hmu, found, _, fs, _, _, _, _, rfl, s7b, nfw, hf7, upd_same, paths_kt k37 pf, pw7, hwt7, heq7, by omega, rfl⟩
        · -- a table
          rw [val_none hkv hv]
          refine iteF ?_
          have k6 : KT H5 (upd H5 fa (.lst (fs ++ [.ref qa]))) := fun b xs z => by
            rw [upd_ne (ne_of z hf5 (by intro q; cases q))]
            exact z
          have k36 := k5.trans k6
          refine ⟨_, rfl, .inl ⟨rfl, _, .of hf5⟩, _, rfl, r_app hf5 (small1000 (by omega)) ?_⟩
          have s6 : Same H (upd H5 fa (.lst (fs ++ [.ref qa]))) := Same.mut s5 nf
          have hw6 : (upd H5 fa (.lst (fs ++ [.ref qa]))) wa = some (.lst ws2) := by
            rw [upd_ne nfw.symm]
            exact hw5
          have pf6 : Paired (PathAt (upd H5 fa (.lst (fs ++ [.ref qa])))) (fs ++ [.ref qa]) (found ++ [p ++ [n]]) := paired_snoc (paths_kt k36 pf) ⟨qa, rfl, k6 _ _ hq5⟩
          have heq6 : (found ++ [p ++ [n]]) ++ wt.reverse.flatMap (VM.ex W.rv) = VM.P W.rv n0 := by
            rw [← heq, List.reverse_append, List.flatMap_append]
            have e1 := VM.ex_leaf (r := W.rv) (fun z => hv ((rv_names W n).mp z)) p
            show _ = found ++ ([p ++ [n]].flatMap _ ++ _)
            rw [List.flatMap_cons, List.flatMap_nil, List.append_nil, e1, List.append_assoc]
          refine ⟨_, rfl, r_lnL upd_same ⟨_, rfl, r_lnL hw6 (r_i rfl (r_i rfl ⟨_, rfl, ?_⟩))⟩⟩
          have tot : (fs ++ [V.ref qa]).length + ws2.length ≤ (VM.P W.rv n0).length := by
            rw [← heq6, List.length_append, List.length_append, List.length_append]
            have h1 := VM.wt_len g.srcne (l := wt.reverse) fun q hq => (hwt2 q (List.mem_reverse.mp hq)).to
            rw [List.length_reverse] at h1
            have : [V.ref qa].length = 1 := rfl
            have : [p ++ [n]].length = 1 := rfl
            omega
          by_cases hc : (200 : Int) < ((fs ++ [V.ref qa]).length : Int) + (ws2.length : Int)
          · rw [decide_eq_true hc]
            refine iteT ⟨_, rfl, fun dx ndx => ?_⟩
            exact qbad (by omega) dx _ (Same.new s6 ndx) upd_same
          · rw [decide_eq_false hc]
            have hc2 : (found ++ [p ++ [n]]).length + wt.length ≤ 200 := by
              have e1 := Paired.length pf6
              omega
            refine iteF ⟨_, VM.mu_leaf p n wt, found ++ [p ++ [n]], wt, _, ws2, _, _, _, rfl, s6, nfw, upd_same, hw6, pf6, paths_kt k36 pw2, hwt2, heq6, hc2, rfl⟩
end
end VS

/-! paths; the law's own paths and names. -/
namespace VS
open PySem PySem.Spec PyProof.Rows L2
section
variable {P : Program} {w : World} {K : PySem.W.Frag} {mg : Str → Option Value} {base : Heap}
theorem sc_paths : FnScope ["web", "name"] ["web", "name"] (defScope (topS 36)) := ⟨rfl, rfl, rfl, by decide +kernel, rfl, by decide +kernel, by decide +kernel⟩
/-- what is no name: a text that is none, a thing of another kind -/
def NoName (K : PySem.W.Frag) (H : Hp) (W : WB) (u : V) : Prop := (∃ x, u = .str x ∧ x ∉ W.names) ∨ ∃ t, (∀ H1, Same H H1 → TyX K H1 u (.type t)) ∧ kitB t "str" = some false
def spPaths (K : PySem.W.Frag) (CB CT CM : Addr) : Sp := fun vs H Q E => ∃ p u, vs = [.ref p, u] ∧
  ((∃ xs, H p = some (.tup xs) ∧ xs.length ≠ 2 ∧ ∀ a d H2, Same H H2 → H2 a = some (.tup [.str "form"]) → H2 d = some (.xd [("place", .ref a)]) → E (.ref CB) (some d) H2) ∨
   ∃ W, WebAt H (.ref p) W ∧ GoodWeb W ∧
    ((∃ n, u = .str n ∧ n ∈ W.names ∧ ((VM.P W.rv n).length ≤ 200 → ∀ a fs H2, Same H H2 → H2 a = some (.tup fs) → Paired (PathAt H2) fs (VM.P W.rv n) → Q (.ref a) H2) ∧
        (200 < (VM.P W.rv n).length → ∀ dx H2, Same H H2 → H2 dx = some (.xd [("most", .int 200)]) → E (.ref CT) (some dx) H2)) ∨
      NoName K H W u ∧ ∀ d H2, Same H H2 → H2 d = some (.xd [("name", u)]) → E (.ref CM) (some d) H2))
theorem ok_paths (T : Top K mg) {CB CT CM : Addr} (TB : ExX K mg "BadWeb" "place" CB) (TT : ExX K mg "TooGreat" "most" CT) (TM : ExX K mg "Missing" "name" CM) : Ok P w K mg base (L2.CX P w) 8 "paths" ["web", "name"] (spPaths K CB CT CM) := by
  obtain ⟨f, fd, F⟩ := T.at 16
  refine F.okX sc_paths (fun vs H Q E h => ?_) (fun cdv A outer s H vs Q E hr h => ?_)
  · obtain ⟨x, l, rfl, _⟩ := h
    rfl
  · obtain ⟨p, u, rfl, h⟩ := h
    have px : Passes (L2.CX P w) (cxOf (L2.CX P w) P w K mg base ["web", "name"] "paths" (defScope (topS 36)) f cdv A outer s H E) E := passes_call (W := fun cls d _ H2 => E cls d H2) (takes_of rfl rfl rfl rfl) (fun _ _ _ _ z => z)
    refine ⟨_, pss_cons (ps_expr (pe_fn (E := E) (ok_need T TB) hr px (pa_cons (pv 0) pa_nil)))
      (pss_cons (ps_if (pt_not (pt_val (pe_fn (ok_isn T) (hr.mono (by decide)) pass0 (pa_cons (pv 0) (pa_cons (pv 1) pa_nil))))) (pss_one (ps_raiseE (W := fun cls d _ H2 => E cls d H2) rfl TM hr (takes_of rfl rfl rfl rfl) (pa_cons (pv 1) pa_nil))) pss_nil)
      (pss_one (ps_ret (pe_callTy tupL_ok (by rfl) T.tup b_tup (pa_cons (pe_fn (E := E) (ok_pf T TT) (hr.mono (by decide)) px (pa_cons (pe_fn (ok_src T) (hr.mono (by decide)) pass0 (pa_cons (pv 0) pa_nil)) (pa_cons (pv 1) pa_nil))) pa_nil))))), ?_⟩
    rcases h with ⟨xs, hp, hn, q⟩ | ⟨W, hW, g, h⟩
    · exact ⟨_, rfl, p, xs, rfl, hp, .inl ⟨hn, fun a d H2 s2 ha hd => q a d H2 s2 ha hd⟩⟩
    · obtain ⟨p2, t, us, ts, vs, e, hp, _⟩ := id hW
      obtain rfl : p = p2 := by injection e
      refine ⟨_, rfl, p, _, rfl, hp, .inr ⟨W, hW, g, fun H1 s1 => ?_⟩⟩
      have hW1 : WebAt H1 (.ref p) W := WebAt.kt (.of s1) hW
      rcases h with ⟨n, rfl, hn, q1, q2⟩ | ⟨hno, q⟩
      · refine ⟨_, rfl, _, rfl, _, _, W, rfl, hW1, g, .inl ⟨n, rfl, fun H2 s2 => ⟨_, rfl, ?_⟩⟩⟩
        rw [decide_eq_true hn]
        refine iteF ⟨_, rfl, _, W, rfl, WebAt.kt (.of s2) hW1, g, fun d H3 s3 nd3 hd3 => ⟨_, rfl, d, n, W, rfl, hd3, g, hn, fun hle a fs H4 s4 na ha hfs => ?_, fun hlt dx H4 s4 hdx => ?_⟩⟩
        · have s24 := s1.trans (s2.trans (s3.trans s4))
          exact r_tupL ha fun l nl => q1 hle l fs _ (Same.new s24 nl) upd_same (paths_kt (.of (same_upd nl)) hfs)
        · exact q2 hlt dx H4 (s1.trans (s2.trans (s3.trans s4))) hdx
      · rcases hno with ⟨x, rfl, hx⟩ | ⟨ty, hty, hk⟩
        · refine ⟨_, rfl, _, rfl, _, _, W, rfl, hW1, g, .inl ⟨x, rfl, fun H2 s2 => ⟨_, rfl, ?_⟩⟩⟩
          rw [decide_eq_false hx]
          exact iteT ⟨_, rfl, _, rfl, fun d nd => q d _ (Same.new (s1.trans s2) nd) upd_same⟩
        · refine ⟨_, rfl, _, rfl, _, _, W, rfl, hW1, g, .inr ⟨ty, hty H1 s1, hk, ⟨_, rfl, ?_⟩⟩⟩
          exact iteT ⟨_, rfl, _, rfl, fun d nd => q d _ (Same.new s1 nd) upd_same⟩
/-! ### the law's own names -/
theorem sc_lan : FnScope ["web", "row"] ["web"] (defScope (topS 46)) := ⟨rfl, rfl, rfl, by decide +kernel, rfl, by decide +kernel, by decide +kernel⟩
def spLan : Sp := fun vs H Q _ => ∃ v W, vs = [v] ∧ WebAt H v W ∧ GoodWeb W ∧ ∀ a H2, Same H H2 → H a = none → H2 a = some (.lst (txs W.names)) → Q (.ref a) H2
theorem ok_lan (T : Top K mg) : Ok P w K mg base CX0 1 "_law_all_names" ["web"] spLan := by
  obtain ⟨f, fd, F⟩ := T.at 25
  refine F.ok0 sc_lan (fun vs H Q E h => ?_) (fun cdv A outer s H vs Q E hr h => ?_)
  · obtain ⟨x, l, rfl, _⟩ := h
    rfl
  · obtain ⟨v, W, rfl, ⟨p, t, u, ts, us, rfl, hp, ht, hu, pt, pu⟩, g, q⟩ := h
    have nd := sc_lan.nd
    have lt : ts.length = W.tabs.length := Paired.length pt
    have lu : us.length = W.views.length := Paired.length pu
    refine ⟨_, pss_one (ps_ret (pe_op cat_ok
        (pe_lc (own := [("row", 1)]) (g := gName 1) (tt := tYes) rfl nd (pi_tup (pe_ix T.ixT (pv 0) pe_int (fun _ _ => rfl))) (blkOk_by (N := ["web", "row"]) (sc := defScope (topS 46)) (by decide +kernel))
          (fun _ _ _ _ _ => pg_name (i := 1) nd rfl (.inl rfl)) (fun _ _ _ _ _ => pts_nil) (fun _ _ _ _ _ => pe_ix T.ixT (pv 1) pe_int (fun _ _ => rfl)))
        (pe_lc (own := [("row", 1)]) (g := gName 1) (tt := tYes) rfl nd (pi_tup (pe_ix T.ixT (pv 0) pe_int (fun _ _ => rfl))) (blkOk_by (N := ["web", "row"]) (sc := defScope (topS 46)) (by decide +kernel))
          (fun _ _ _ _ _ => pg_name (i := 1) nd rfl (.inl rfl)) (fun _ _ _ _ _ => pts_nil) (fun _ _ _ _ _ => pe_ix T.ixT (pv 1) pe_int (fun _ _ => rfl))))), ?_⟩
    refine ⟨_, rfl, r_ixT 0 hp rfl ⟨t, rfl, ⟨_, .of ht⟩, fun D nD => ?_⟩⟩
    refine lc_it (walk_tup (xs := ts)) (fun i H2 => Same H H2 ∧ H2 D = some (.lst (txs ((W.tabs.take i).map (·.1))))) ⟨same_upd nD, upd_same⟩ (fun i H2 _ hq => .of (hq.1 _ _ ht)) ?_ ?_
    · rintro i y H1 H2 hi ⟨sm, hD⟩ ⟨rfl, hy⟩
      obtain ⟨tb, htb, pp, ll, rfl, hpp, _⟩ := paired_get pt hy
      refine ⟨rfl, tyes ⟨_, rfl, r_ixT 0 (sm _ _ hpp) rfl ⟨_, hD, ?_, Same.mut sm nD, ?_⟩⟩⟩
      · rw [List.length_map, List.length_map, List.length_take]
        exact small100 (by have := g.hi; omega)
      · rw [upd_same]
        show some (HO.lst (List.map V.str _ ++ _)) = some (HO.lst (List.map V.str _))
        rw [take_snoc htb, List.map_append, List.map_append]
        rfl
    · rintro H1 ⟨s1, hD⟩
      have hD : H1 D = some (.lst (txs W.tn)) := by
        rw [hD, List.take_of_length_le (by omega)]
        rfl
      refine ⟨_, rfl, r_ixT 1 (s1 _ _ hp) rfl ⟨u, rfl, ⟨_, .of (s1 _ _ hu)⟩, fun D2 nD2 => ?_⟩⟩
      have nH : H D2 = none := s1.free nD2
      have neD : D ≠ D2 := ne_of_none hD nD2
      refine lc_it (walk_tup (xs := us)) (fun i H2 => Same H H2 ∧ H2 D = some (.lst (txs W.tn)) ∧ H2 D2 = some (.lst (txs ((W.views.take i).map VW.name)))) ⟨Same.new s1 nD2, (same_upd nD2) _ _ hD, upd_same⟩ (fun i H2 _ hq => .of (hq.1 _ _ hu)) ?_ ?_
      · rintro i y H2 H3 hi ⟨sm, hd, hd2⟩ ⟨rfl, hy⟩
        obtain ⟨vw, hvw, pp, bb, ss, rfl, hpp, _, _⟩ := paired_get pu hy
        refine ⟨rfl, tyes ⟨_, rfl, r_ixT 0 (sm _ _ hpp) rfl ⟨_, hd2, ?_, Same.mut sm nH, ?_, ?_⟩⟩⟩
        · rw [List.length_map, List.length_map, List.length_take]
          exact small100 (by have := g.vi; omega)
        · rw [upd_ne neD]
          exact hd
        · rw [upd_same]
          show some (HO.lst (List.map V.str _ ++ _)) = some (HO.lst (List.map V.str _))
          rw [take_snoc hvw, List.map_append, List.map_append]
          rfl
      · rintro H2 ⟨s2, hd, hd2⟩
        have hd2 : H2 D2 = some (.lst (txs W.vn)) := by
          rw [hd2, List.take_of_length_le (by omega)]
          rfl
        refine r_cat hd hd2 ?_ fun l nl => ?_
        · rw [List.length_map, List.length_map]
          have e1 : W.tn.length = W.tabs.length := List.length_map ..
          have e2 : W.vn.length = W.views.length := List.length_map ..
          have := g.hi
          have := g.vi
          omega
        · refine q l _ (Same.new s2 nl) (s2.free nl) ?_
          rw [upd_same, ← List.map_append]
          rfl
end
end VS

/-! _law_paths, a recursion down the sources. -/
namespace VM
section
variable {N : Type} [DecidableEq N]
theorem P_len : ∀ (r : List (N × List N)) (n : N) (q : List N), q ∈ P r n → q.length ≤ r.length + 1
  | [], n, q, h => by
    have h2 : q ∈ [[n]] := h
    rw [List.mem_singleton.mp h2]
    exact Nat.le_refl 1
  | v :: r, n, q, h => by
    have h2 : q ∈ (if n = v.1 then ((v.2.map (P r)).flatten).map (n :: ·) else P r n) := h
    split at h2
    · obtain ⟨t, ht, e⟩ := List.mem_map.mp h2
      subst e
      obtain ⟨l, hl, htl⟩ := List.mem_flatten.mp ht
      obtain ⟨s, _, rfl⟩ := List.mem_map.mp hl
      have := P_len r s t htl
      show t.length + 1 ≤ r.length + 1 + 1
      omega
    · have := P_len r n q h2
      show q.length ≤ r.length + 1 + 1
      omega
theorem len_take_flat {α β : Type} (f : α → List β) : ∀ (l : List α) (i : Nat), ((l.take i).flatMap f).length ≤ (l.flatMap f).length
  | [], i => by simp
  | a :: l, 0 => by simp
  | a :: l, i + 1 => by
    rw [List.take_succ_cons, List.flatMap_cons, List.flatMap_cons, List.length_append, List.length_append]
    have := len_take_flat f l i
    omega
end
end VM
namespace VS
open PySem PySem.Spec PyProof.Rows L2
@[irreducible] def vCatT (K : PySem.W.Frag) : R2 := rCatT K
@[irreducible] def vDictP (K : PySem.W.Frag) : List V → Hp → VK → Prop := fun xs H Q => ∃ (a : Addr) (ps : List Addr) (kvs : List (Key × V)), xs = [.ref a] ∧ SqL K H a (ps.map V.ref) ∧ Paired (fun p kv => SqT K H p [kV kv.1, kv.2]) ps kvs ∧ ∀ p, H p = none → Q (.ref p) (upd H p (.dK (mergeK [] kvs)))
section
variable {X : Cx} {K : PySem.W.Frag} {mg : Str → Option Value}
theorem Top.catT (T : Top K mg) (hK : X.K = K := by rfl) : OpR X (binaryOp .Add) (vCatT K) := by
  subst hK
  unfold vCatT
  exact op_catT
theorem Top.dictP (T : Top K mg) (hc : X.calm = true) (hK : X.K = K := by rfl) : CallR X (.type "dict") (vDictP K) := by
  subst hK
  unfold vDictP
  exact call_dictP hc
end
theorem val_no {k : Key} : ∀ {kvs : List (Key × V)}, k ∉ kvs.map (·.1) → valV kvs k = none
  | [], _ => rfl
  | kv :: kvs, h => by
    have h1 : ¬ kv.1 = k := fun e => h (by rw [← e]; exact List.mem_cons_self)
    have ih := val_no (kvs := kvs) fun e => h (List.mem_cons_of_mem _ e)
    unfold valV at ih ⊢
    rw [List.find?_cons, decide_eq_false h1]
    exact ih
theorem merge_nd : ∀ {more acc : List (Key × V)}, ((acc ++ more).map (·.1)).Nodup → mergeK acc more = acc ++ more
  | [], acc, _ => by simp [mergeK]
  | kv :: more, acc, h => by
    have h1 : kv.1 ∉ acc.map (·.1) := fun hm => by
      rw [List.map_append, List.nodup_append] at h
      exact h.2.2 _ hm _ (by rw [List.map_cons]; exact List.mem_cons_self) rfl
    show mergeK (putK acc kv.1 kv.2) more = acc ++ kv :: more
    rw [putK_new _ (val_no h1)]
    have e : acc ++ kv :: more = (acc ++ [kv]) ++ more := by simp
    have e2 : acc ++ [(kv.1, kv.2)] = acc ++ [kv] := rfl
    rw [e2]
    rw [e] at h ⊢
    exact merge_nd h
theorem kv_keys {H : Hp} : ∀ {kvs : List (Key × V)} {l : List VW}, Paired (KvAt H) kvs l → kvs.map (·.1) = (l.map VW.name).map Sum.inr
  | _, _, .nil => rfl
  | _, _, .cons r t => by
    rw [List.map_cons, List.map_cons, List.map_cons, kv_keys t, r.1]
section
variable {H : Hp} {K : PySem.W.Frag} {a b : Addr} {Q : VK}
theorem r_catT {p q : List Str} (ha : H a = some (.tup (txs p))) (hb : H b = some (.tup (txs q))) (hp : p ≠ []) (hq : q ≠ []) (hz : p.length + q.length ≤ 100) (k : ∀ l, H l = none → Q (.ref l) (upd H l (.tup (txs (p ++ q))))) : vCatT K (.ref a) (.ref b) H Q := by
  unfold vCatT
  have e : ∀ l : List Str, (txs l).length = l.length := fun l => List.length_map ..
  refine ⟨a, b, txs p, txs q, rfl, rfl, .of ha, .of hb, fun z => hp ?_, ?_, fun z => absurd ?_ hq, fun _ l nl => ?_⟩
  · exact List.map_eq_nil_iff.mp z
  · rw [e, e]
    exact Nat.le_of_lt (small100 hz)
  · exact List.map_eq_nil_iff.mp z
  · have := k l nl
    rwa [txs, List.map_append] at this
theorem r_dictP {ps : List Addr} {kvs : List (Key × V)} (ha : H a = some (.lst (ps.map V.ref))) (hp : Paired (fun p kv => H p = some (.tup [kV kv.1, kv.2])) ps kvs) (nd : (kvs.map (·.1)).Nodup) (k : ∀ d, H d = none → Q (.ref d) (upd H d (.dK kvs))) : vDictP K [.ref a] H Q := by
  unfold vDictP
  refine ⟨a, ps, kvs, rfl, .of ha, L2.Paired.mapP hp fun _ _ z => .of z, fun d nd2 => ?_⟩
  rw [merge_nd (acc := []) (by simpa using nd)]
  exact k d nd2
end
section
variable {P : Program} {w : World} {K : PySem.W.Frag} {mg : Str → Option Value} {base : Heap}
theorem sc_lp : FnScope ["web", "name", "sources", "found", "other", "mode", "row", "path"] ["web", "name"] (defScope (topS 45)) := ⟨rfl, rfl, rfl, by decide +kernel, rfl, by decide +kernel, by decide +kernel⟩
def spLP (k : Nat) : Sp := fun vs H Q _ => ∃ v n W, vs = [v, .str n] ∧ WebAt H v W ∧ GoodWeb W ∧ n ∈ W.names ∧ VM.rk W.rv n < k ∧ (VM.P W.rv n).length ≤ 500 ∧ ∀ a fs H2, Same H H2 → H2 a = some (.lst fs) → Paired (PathAt H2) fs (VM.P W.rv n) → Q (.ref a) H2
theorem ok_lp (T : Top K mg) : ∀ k, Ok P w K mg base CX0 (k + 1) "_law_paths" ["web", "name"] (spLP k) := by
  intro k
  obtain ⟨f, fd, F⟩ := T.at 24
  induction k with
  | zero =>
    refine F.ok0 sc_lp (fun vs H Q E h => ?_) (fun cdv A outer s H vs Q E hr h => ?_)
    · obtain ⟨x, l, W, rfl, _⟩ := h
      rfl
    · obtain ⟨v, n, W, rfl, _, _, _, hk, _⟩ := h
      exact absurd hk (Nat.not_lt_zero _)
  | succ k ih =>
    refine F.ok0 sc_lp (fun vs H Q E h => ?_) (fun cdv A outer s H vs Q E hr h => ?_)
    · obtain ⟨x, l, W, rfl, _⟩ := h
      rfl
    · obtain ⟨v, n, W, rfl, hW, g, hn, hk, hz, q⟩ := h
      have nd := sc_lp.nd
      have hu := hu_of hr
      have wf := g.wf
      obtain ⟨p, t, u, ts, us, rfl, hp, ht, hus, pt, pu⟩ := id hW
      have lu : us.length = W.views.length := Paired.length pu
      refine ⟨_, pss_cons (ps_set (i := 2) nd rfl (.inl rfl) (pe_callTy (T.dictP rfl) (by rfl) T.dct b_dct (pa_cons
          (pe_lc (own := [("row", 6)]) (g := gName 6) (tt := tYes) rfl nd (pi_tup (pe_ix T.ixT (pv 0) pe_int (fun _ _ => rfl))) (blkOk_by (N := ["web", "name", "sources", "found", "other", "mode", "row", "path"]) (sc := defScope (topS 45)) (by decide +kernel))
            (fun _ _ _ _ _ => pg_name (i := 6) nd rfl (.inl rfl)) (fun _ _ _ _ _ => pts_nil) (fun _ _ _ _ _ => pe_tup (pa_cons (pe_ix T.ixT (pv 6) pe_int (fun _ _ => rfl)) (pa_cons (pe_ix T.ixT (pv 6) pe_int (fun _ _ => rfl)) pa_nil)))) pa_nil)))
        (pss_cons (ps_if (pt_cmp (pc_dnotin hu (pv 1) (pv 2))) (pss_one (ps_ret (pe_lst (pa_cons (pe_tup (pa_cons (pv 1) pa_nil)) pa_nil)))) pss_nil)
        (pss_cons (ps_set (i := 3) nd rfl (.inl rfl) (pe_lst pa_nil))
        (pss_cons (ps_for PassesOwn.never rfl (pi_tup (pe_dget hu (pv 2) (pv 1) (fun _ _ => rfl))) (pg_tup rfl (pgs_cons (pg_name (i := 4) nd rfl (.inl rfl)) (pgs_cons (pg_name (i := 5) nd rfl (.inl rfl)) pgs_nil)))
          (pss_one (ps_set (i := 3) nd rfl (.inl rfl) (pe_op cat_ok (pv 3)
            (pe_lc (own := [("path", 7)]) (g := gName 7) (tt := tYes) rfl nd (pi_list (pe_fn ih hr pass0 (pa_cons (pv 0) (pa_cons (pv 4) pa_nil)))) (blkOk_by (N := ["web", "name", "sources", "found", "other", "mode", "row", "path"]) (sc := defScope (topS 45)) (by decide +kernel))
              (fun _ _ _ _ _ => pg_name (i := 7) nd rfl (.inl rfl)) (fun _ _ _ _ _ => pts_nil) (fun _ _ _ _ _ => pe_op T.catT (pe_tup (pa_cons (pv 1) pa_nil)) (pv 7)))))))
        (pss_one (ps_ret (pv 3)))))), ?_⟩
      -- sources = dict([..])
      refine ⟨_, rfl, r_ixT 1 hp rfl ⟨u, rfl, ⟨_, .of hus⟩, fun D nD => ?_⟩⟩
      refine lc_it (walk_tup (xs := us)) (fun i H2 => Same H H2 ∧ ∃ ps kvs, H2 D = some (.lst (ps.map V.ref)) ∧ Paired (fun p kv => H2 p = some (.tup [kV kv.1, kv.2])) ps kvs ∧ Paired (KvAt H2) kvs (W.views.take i))
        ⟨same_upd nD, [], [], upd_same, .nil, by rw [List.take_zero]; exact .nil⟩ (fun i H2 _ hq => .of (hq.1 _ _ hus)) ?_ ?_
      · rintro i y H1 H2 hi ⟨sm, ps, kvs, hD, hps, hkv⟩ ⟨rfl, hy⟩
        obtain ⟨vw, hvw, pp, bb, ss, rfl, hpp, hb, hs⟩ := paired_get pu hy
        refine ⟨rfl, tyes ⟨_, rfl, r_ixT 0 (sm _ _ hpp) rfl ⟨_, rfl, r_ixT 2 (sm _ _ hpp) rfl ⟨by show 2 ≤ sizeLine; decide, fun tp ntp => ?_⟩⟩⟩⟩
        have s1 := same_upd (o := .tup [.str vw.name, ss]) ntp
        have hD1 := s1 _ _ hD
        have ktD : ∀ xs, KT H2 (upd (upd H2 tp (.tup [.str vw.name, ss])) D (.lst xs)) := fun xs => (KT.of s1).trans fun b ys z => by
          rw [upd_ne (ne_of z hD1 (by intro q; cases q))]
          exact z
        have neT : tp ≠ D := (ne_of_none hD ntp).symm
        refine ⟨_, hD1, ?_, Same.mut (sm.trans s1) nD, ps ++ [tp], kvs ++ [(Sum.inr vw.name, ss)], ?_, ?_, ?_⟩
        · have e1 := Paired.length hps
          have e2 := Paired.length hkv
          rw [List.length_take] at e2
          rw [List.length_map]
          exact small100 (by have := g.vi; omega)
        · rw [upd_same, List.map_append]
          rfl
        · exact paired_snoc (L2.Paired.mapP hps fun _ _ z => ktD _ _ _ z) (by rw [upd_ne neT, upd_same]; rfl)
        · rw [take_snoc hvw]
          exact paired_snoc (L2.Paired.mapP hkv fun _ _ => KvAt.kt (ktD _)) ⟨rfl, SrcsAt.kt ((KT.of sm).trans (ktD _)) hs⟩
      · rintro H1 ⟨s1, ps, kvs, hD, hps, hkv⟩
        rw [List.take_of_length_le (by omega)] at hkv
        refine r_dictP hD hps (by rw [kv_keys hkv]; exact List.Pairwise.map _ (fun a b h z => h (Sum.inr.inj z)) g.vnd) fun d nd1 => ?_
        have s2 := Same.new (o := .dK kvs) s1 nd1
        have hkv2 : Paired (KvAt (upd H1 d (.dK kvs))) kvs W.views := L2.Paired.mapP hkv fun _ _ => KvAt.kt (.of (same_upd nd1))
        refine ⟨_, rfl, _, rfl, d, _, rfl, DGet.k (k := Sum.inr n) upd_same, _, rfl, ?_⟩
        by_cases hv : n ∈ W.vn
        · obtain ⟨vw, hum, rfl⟩ : ∃ u ∈ W.views, u.name = n := by
            obtain ⟨u, a, b⟩ := List.mem_map.mp hv
            exact ⟨u, a, b⟩
          obtain ⟨sv, hval, sp, sxs, rfl, hsp, hsx⟩ := val_some hkv2 g.vnd hum
          obtain ⟨ns, gs, hns⟩ := g.good hum
          have lsx : sxs.length = vw.srcs.length := Paired.length hsx
          rw [hval]
          refine iteF ⟨Nat.zero_le _, fun fa nfa => ?_⟩
          have s3 : Same (upd H1 d (.dK kvs)) (upd (upd H1 d (.dK kvs)) fa (.lst [])) := same_upd nfa
          have hd3 := s3 _ _ (upd_same (H := H1) (a := d) (o := .dK kvs))
          refine ⟨_, rfl, _, rfl, d, .ref sp, rfl, by rw [← hval]; exact DGet.k (k := Sum.inr vw.name) hd3, sp, rfl, ⟨_, .of (s3 _ _ hsp)⟩, ?_⟩
          refine for_it (walk_tup (xs := sxs)) (fun i σ H4 => ∃ fi fs y4 y5, σ = [some (.ref p), some (.str vw.name), some (.ref d), some (.ref fi), y4, y5, none, none] ∧ Same (upd H1 d (.dK kvs)) H4 ∧ H4 fi = some (.lst fs) ∧ Paired (PathAt H4) fs ((vw.srcs.take i).flatMap fun z => (VM.P W.rv z.1).map (vw.name :: ·)))
            ⟨fa, [], none, none, rfl, s3, upd_same, by rw [List.take_zero]; exact .nil⟩ (fun i σ H4 _ ⟨_, _, _, _, _, s4, _⟩ => .of (s4 _ _ hsp)) ?_ ?_
          · rintro i x σ H4 H5 hi ⟨fi, fs, y4, y5, rfl, s4, hfi, pfs⟩ ⟨rfl, hx⟩
            obtain ⟨sr, hsr, ea, rfl, hea⟩ := paired_get hsx hx
            have hsm : sr ∈ vw.srcs := List.mem_of_getElem? hsr
            have hsn : sr.1 ∈ W.names := hns _ (gs.ahead sr hsm)
            have hrk : VM.rk W.rv sr.1 < VM.rk W.rv vw.name := VM.rk_src wf (rv_mem hum) (List.mem_map.mpr ⟨sr, hsm, rfl⟩)
            have s5 := s2.trans s4
            have hall : (vw.srcs.flatMap fun z => (VM.P W.rv z.1).map (vw.name :: ·)) = VM.P W.rv vw.name := by
              rw [VM.P_node wf (rv_mem hum), List.flatMap_map]
            have hpre := VM.len_take_flat (fun z : Str × Str => (VM.P W.rv z.1).map (vw.name :: ·)) vw.srcs (i + 1)
            rw [hall, take_snoc hsr, List.flatMap_append, List.length_append] at hpre
            have hone : ([sr].flatMap fun z => (VM.P W.rv z.1).map (vw.name :: ·)) = (VM.P W.rv sr.1).map (vw.name :: ·) := by
              rw [List.flatMap_cons, List.flatMap_nil, List.append_nil]
            rw [hone, List.length_map] at hpre
            have lfs : fs.length = ((vw.srcs.take i).flatMap fun z => (VM.P W.rv z.1).map (vw.name :: ·)).length := Paired.length pfs
            refine r_pair (X := cxOf CX0 P w K mg base [] "" (defScope (topS 45)) f cdv A outer s H E) (s4 _ _ hea) ?_
            refine ⟨_, rfl, ⟨_, rfl, _, rfl, .ref p, sr.1, W, rfl, WebAt.kt (.of s5) hW, g, hsn, by omega, by omega, fun a fs2 H6 s6 ha pfs2 => ?_⟩⟩
            refine ⟨a, rfl, ⟨_, .of ha⟩, fun D2 nD2 => ?_⟩
            have lfs2 : fs2.length = (VM.P W.rv sr.1).length := Paired.length pfs2
            have haD : a ≠ D2 := ne_of_none ha nD2
            refine lc_it (walk_list (xs := fs2)) (fun j H7 => Same H6 H7 ∧ ∃ acc, H7 D2 = some (.lst acc) ∧ Paired (PathAt H7) acc (((VM.P W.rv sr.1).take j).map (vw.name :: ·)))
              ⟨same_upd nD2, [], upd_same, by rw [List.take_zero]; exact .nil⟩ (fun j H7 _ hq => .of (hq.1 _ _ ha)) ?_ ?_
            · rintro j y H7 H8 hj ⟨s7, acc, hD2, pacc⟩ ⟨rfl, hy⟩
              obtain ⟨q2, hq2, qa, rfl, hqa⟩ := paired_get pfs2 hy
              have hqm : q2 ∈ VM.P W.rv sr.1 := List.mem_of_getElem? hq2
              obtain ⟨q3, e3⟩ := VM.P_head W.rv sr.1 q2 hqm
              have hql := VM.P_len W.rv sr.1 q2 hqm
              have hrl : W.rv.length ≤ 8 := by
                have e : W.rv.length = W.views.length := by simp [WB.rv, WB.sv]
                have := g.vi
                omega
              refine ⟨rfl, tyes ⟨_, rfl, by show 1 ≤ sizeLine; decide, fun tp ntp => ⟨_, rfl, ?_⟩⟩⟩
              have s8 : Same H8 (upd H8 tp (.tup (txs [vw.name]))) := same_upd ntp
              refine r_catT (p := [vw.name]) upd_same (s8 _ _ (s7 _ _ hqa)) (List.cons_ne_nil _ _) (by rw [e3]; exact List.cons_ne_nil _ _) (by show 1 + _ ≤ 100; omega) fun l nl => ?_
              have s9 := Same.new (o := .tup (txs ([vw.name] ++ q2))) s8 nl
              have hD9 := s9 _ _ hD2
              have lacc : acc.length ≤ 500 := by
                have e := Paired.length pacc
                rw [e, List.length_map, List.length_take]
                omega
              have ktD : ∀ xs, KT H8 (upd (upd (upd H8 tp (.tup (txs [vw.name]))) l (.tup (txs ([vw.name] ++ q2)))) D2 (.lst xs)) := fun xs => (KT.of s9).trans fun b ys z => by
                rw [upd_ne (ne_of z hD9 (by intro q; cases q))]
                exact z
              have nlD : l ≠ D2 := (ne_of_none (s8 _ _ hD2) nl).symm
              refine ⟨acc, hD9, small1000 (by omega), Same.mut (s7.trans s9) nD2, _, upd_same, ?_⟩
              rw [take_snoc hq2, List.map_append]
              exact paired_snoc (paths_kt (ktD _) pacc) ⟨l, rfl, by rw [upd_ne nlD, upd_same]; rfl⟩
            · rintro H7 ⟨s7, acc, hD2, pacc⟩
              rw [List.take_of_length_le (by omega)] at pacc
              have lacc : acc.length = (VM.P W.rv sr.1).length := by
                have e := Paired.length pacc
                rw [e, List.length_map]
              have s67 := s6.trans s7
              refine r_cat (s67 _ _ hfi) hD2 (by omega) fun l nl => ?_
              have s8 := Same.new (o := .lst (fs ++ acc)) s67 nl
              refine ⟨l, fs ++ acc, _, _, rfl, s4.trans s8, upd_same, ?_⟩
              rw [take_snoc hsr, List.flatMap_append, hone]
              exact paired_app (paths_kt (.of s8) pfs) (paths_kt (.of (same_upd nl)) pacc)
          · rintro σ H4 ⟨fi, fs, y4, y5, rfl, s4, hfi, pfs⟩
            refine ⟨_, rfl, q fi fs H4 (s2.trans s4) hfi ?_⟩
            rw [List.take_of_length_le (by omega)] at pfs
            rw [VM.P_node wf (rv_mem hum), List.flatMap_map]
            exact pfs
        · rw [val_none hkv2 hv]
          refine iteT ⟨_, rfl, by show 1 ≤ sizeLine; decide, fun tp ntp => ⟨by show 1 ≤ sizeLine; decide, fun l nl => ?_⟩⟩
          have s3 := Same.new (o := .tup [.str n]) s2 ntp
          refine q l _ _ (Same.new s3 nl) upd_same ?_
          have hPl : VM.P W.rv n = [[n]] := VM.P_leaf fun z => hv ((rv_names W n).mp z)
          rw [hPl]
          exact .cons ⟨tp, rfl, (same_upd nl) _ _ upd_same⟩ .nil
end
end VS

/-! The draws: _law_begin, _law_draw. -/
namespace VS
open PySem PySem.Spec PyProof.Rows L2
abbrev nums (l : List Int) : List V := l.map V.int
/-- the state of the draws: its dict at d, at most n draws so far -/
def StAt (H : Hp) (d : Addr) (n : Nat) : Prop := ∃ (c l : Addr) (cs ls : List Int) (k : Int), H d = some (.dK [(Sum.inr "cells", .ref c), (Sum.inr "left", .ref l), (Sum.inr "at", .int k)]) ∧
  H c = some (.lst (nums cs)) ∧ H l = some (.lst (nums ls)) ∧ 0 ≤ k ∧ k ≤ n ∧ cs.length ≤ 63 ∧ ls.length ≤ 63
theorem StAt.same {H H2 : Hp} {d : Addr} {n : Nat} (s : Same H H2) (h : StAt H d n) : StAt H2 d n := by
  obtain ⟨c, l, cs, ls, k, h1, h2, h3, h4⟩ := h
  exact ⟨c, l, cs, ls, k, s _ _ h1, s _ _ h2, s _ _ h3, h4⟩
theorem StAt.mono {H : Hp} {d : Addr} {n m : Nat} (h : StAt H d n) (e : n ≤ m) : StAt H d m := by
  obtain ⟨c, l, cs, ls, k, h1, h2, h3, h4, h5, h6⟩ := h
  exact ⟨c, l, cs, ls, k, h1, h2, h3, h4, by omega, h6⟩
theorem StAt.dk {H : Hp} {d : Addr} {n : Nat} (h : StAt H d n) : ∃ kvs, H d = some (.dK kvs) := by
  obtain ⟨c, l, cs, ls, k, h1, _⟩ := h
  exact ⟨_, h1⟩
@[irreducible] def vInt1 : List V → Hp → VK → Prop := fun xs H Q => ∃ i : Int, xs = [.int i] ∧ Q (.int i) H
@[irreducible] def vMul : R2 := rI CMul fun i j => .int (i * j)
@[irreducible] def vFdiv : R2 := rI CDiv fun i j => .int (i / j)
@[irreducible] def vMod : R2 := rI (fun _ j => 0 < j) fun i j => .int (i % j)
@[irreducible] def vPow : R2 := rI CPow fun i j => .int (i ^ j.toNat)
@[irreducible] def vNeI : R2 := fun x y H Q => ∃ a b l, x = .ref a ∧ y = .ref b ∧ H a = some (.lst (nums l)) ∧ H b = some (.lst []) ∧ Q (.bl (!l.isEmpty)) H
@[irreducible] def vSlL (K : PySem.W.Frag) : V → Option Int → Option Int → Hp → VK → Prop := rSlL K
theorem dp_ints {K : PySem.W.Frag} {H : Hp} : ∀ l : List Int, DpAll K H (nums l) (l.map PyData.int)
  | [] => .nil
  | x :: q => .cons (.int x) (dp_ints q)
theorem lay_ints : ∀ l : List Int, PyData.canLayAll0 (l.map PyData.int) = true ∧ PyData.depthAll (l.map PyData.int) = 0
  | [] => ⟨rfl, rfl⟩
  | x :: q => by
    obtain ⟨h1, h2⟩ := lay_ints q
    refine ⟨?_, ?_⟩
    · rw [List.map_cons, PyData.canLayAll0, h1]
      rfl
    · rw [List.map_cons, PyData.depthAll, h2, PyData.depth]
      rfl
theorem shaped_ints (l : List Int) : SeqAt.shaped (.list (l.map PyData.int)) = true := by
  obtain ⟨h1, h2⟩ := lay_ints l
  unfold SeqAt.shaped
  rw [PyData.canLay0, h1, PyData.depth, h2]
  rfl
theorem eqv_nilI (l : List Int) : PyData.eqv (.list (l.map PyData.int)) (.list []) = l.isEmpty := by
  cases l with
  | nil => rfl
  | cons q l => rfl
section
variable {X : Cx}
theorem int1_ok : CallR X (.type "int") vInt1 := by
  intro pins s σ H xs us Q I r h
  unfold vInt1 at h
  obtain ⟨i, e, q⟩ := h
  exact call_int1 pins s σ H xs us Q I r (.inl ⟨i, e, q⟩)
theorem mul_ok : OpR X (binaryOp .Mult) vMul := by
  unfold vMul
  exact op_mul
theorem fdiv_ok : OpR X (binaryOp .FloorDiv) vFdiv := by
  unfold vFdiv
  exact op_fdiv
theorem mod_ok : OpR X (binaryOp .Mod) vMod := by
  unfold vMod
  exact op_mod
theorem pow_ok : OpR X (binaryOp .Pow) vPow := by
  unfold vPow
  exact op_pow
theorem neI_ok (hu : X.A.units + 64 < cLine) : OpR X (compareOp .NotEq) vNeI := by
  intro pins s σ H x y v u Q I rx ry h
  unfold vNeI at h
  obtain ⟨a, b, l, rfl, rfl, ha, hb, q⟩ := h
  refine op_neD hu pins s σ H _ _ v u Q I rx ry ⟨.list (l.map PyData.int), .list [], .lst (.of ha) (dp_ints l), .lst (.of hb) .nil, shaped_ints l, rfl, ?_⟩
  rw [eqv_nilI]
  exact q
theorem Top.slL {K : PySem.W.Frag} {mg : Str → Option Value} (T : Top K mg) (hK : X.K = K := by rfl) : SlR X (vSlL K) := by
  subst hK
  unfold vSlL
  exact sl_list
variable {H : Hp} {a b : Addr} {Q : VK} {i j : Int}
theorem r_int1 (q : Q (.int i) H) : vInt1 [.int i] H Q := by
  unfold vInt1
  exact ⟨i, rfl, q⟩
theorem r_mul (h : CMul i j) (q : Q (.int (i * j)) H) : vMul (.int i) (.int j) H Q := by
  unfold vMul
  exact ⟨i, j, rfl, rfl, h, q⟩
theorem r_fdiv (h : CDiv i j) (q : Q (.int (i / j)) H) : vFdiv (.int i) (.int j) H Q := by
  unfold vFdiv
  exact ⟨i, j, rfl, rfl, h, q⟩
theorem r_mod (h : 0 < j) (q : Q (.int (i % j)) H) : vMod (.int i) (.int j) H Q := by
  unfold vMod
  exact ⟨i, j, rfl, rfl, h, q⟩
theorem r_pow (h : CPow i j) (q : Q (.int (i ^ j.toNat)) H) : vPow (.int i) (.int j) H Q := by
  unfold vPow
  exact ⟨i, j, rfl, rfl, h, q⟩
theorem r_neI {l : List Int} (ha : H a = some (.lst (nums l))) (hb : H b = some (.lst [])) (q : Q (.bl (!l.isEmpty)) H) : vNeI (.ref a) (.ref b) H Q := by
  unfold vNeI
  exact ⟨a, b, l, rfl, rfl, ha, hb, q⟩
theorem r_add (q : Q (.int (i + j)) H) : vI (fun i j => .int (i + j)) (.int i) (.int j) H Q := r_i rfl q
theorem r_cut1 {K : PySem.W.Frag} {xs : List V} (ha : H a = some (.lst xs)) (q : ∀ p, H p = none → Q (.ref p) (upd H p (.lst (xs.drop 1)))) : vSlL K (.ref a) (some 1) none H Q := by
  unfold vSlL
  have e : cutV xs (some 1) none = xs.drop 1 := by
    unfold cutV
    rw [show HT.sIx xs.length 0 (some 1) = min 1 xs.length from HT.sIx_nat xs.length 0 1, HT.sIx_none]
    cases xs with
    | nil => rfl
    | cons x r =>
      rw [show min 1 (x :: r).length = 1 by
        rw [List.length_cons]
        omega]
      show (List.take ((x :: r).length - 1) r) = r
      rw [List.length_cons, Nat.add_sub_cancel]
      exact List.take_length
  refine ⟨a, xs, rfl, .of ha, ?_⟩
  rw [e]
  exact q
theorem r_ixI {K : PySem.W.Frag} {xs : List V} {v : V} (ha : H a = some (.lst xs)) (h0 : 0 ≤ i) (e : xs[i.toNat]? = some v) (q : Q v H) : vIxL K (.ref a) (.int i) H Q := by
  have z : ((i.toNat : Nat) : Int) = i := Int.toNat_of_nonneg h0
  have r := r_ixL (K := K) (Q := Q) i.toNat ha e q
  rwa [z] at r
end
end VS

/-! _law_begin, _law_draw. -/
namespace VS
open PySem PySem.Spec PyProof.Rows L2
abbrev stK (c l : Addr) (k : Int) : List (Key × V) := [(Sum.inr "cells", .ref c), (Sum.inr "left", .ref l), (Sum.inr "at", .int k)]
theorem ne_la : ¬ (Sum.inr "cells" : Key) = (Sum.inr "left" : Key) := by decide
theorem ne_ca : ¬ (Sum.inr "cells" : Key) = (Sum.inr "at" : Key) := by decide
theorem ne_lat : ¬ (Sum.inr "left" : Key) = (Sum.inr "at" : Key) := by decide
theorem st_cells (c l : Addr) (k : Int) : valV (stK c l k) (Sum.inr "cells" : Key) = some (.ref c) := valV_pos rfl
theorem st_left (c l : Addr) (k : Int) : valV (stK c l k) (Sum.inr "left" : Key) = some (.ref l) := (valV_neg ne_la).trans (valV_pos rfl)
theorem st_at (c l : Addr) (k : Int) : valV (stK c l k) (Sum.inr "at" : Key) = some (.int k) := (valV_neg ne_ca).trans ((valV_neg ne_lat).trans (valV_pos rfl))
theorem put_left (c l l2 : Addr) (k : Int) : putK (stK c l k) (Sum.inr "left" : Key) (.ref l2) = stK c l2 k := by rfl
theorem put_at (c l : Addr) (k k2 : Int) : putK (stK c l k) (Sum.inr "at" : Key) (.int k2) = stK c l k2 := by rfl
theorem merge_st (c l : Addr) (k : Int) : mergeK [] (stK c l k) = stK c l k := by rfl
/-- a is none of the state's own lists -/
def Ot (H : Hp) (d a : Addr) : Prop := ∃ c l k, H d = some (.dK (stK c l k)) ∧ a ≠ c ∧ a ≠ l
theorem Ot.keep {H : Hp} {d a b : Addr} {o : HO} (h : Ot H d a) (ne : b ≠ d) : Ot (upd H b o) d a := by
  obtain ⟨c, l, k, h1, h2⟩ := h
  exact ⟨c, l, k, by rw [upd_ne ne.symm]; exact h1, h2⟩
theorem Ot.same {H H2 : Hp} {d a : Addr} (s : Same H H2) (h : Ot H d a) : Ot H2 d a := by
  obtain ⟨c, l, k, h1, h2⟩ := h
  exact ⟨c, l, k, s _ _ h1, h2⟩
/-- all but d stays, and what is none of the state's lists stays so -/
structure Bt (d : Addr) (H H2 : Hp) : Prop where
  k : ∀ b o, H b = some o → b ≠ d → H2 b = some o
  o : ∀ a o, H a = some o → a ≠ d → Ot H d a → Ot H2 d a
theorem Bt.refl (d : Addr) (H : Hp) : Bt d H H := ⟨fun _ _ h _ => h, fun _ _ _ _ h => h⟩
theorem Bt.trans {d : Addr} {H H1 H2 : Hp} (a : Bt d H H1) (b : Bt d H1 H2) : Bt d H H2 := ⟨fun c o h n => b.k c o (a.k c o h n) n, fun c o h n z => b.o c o (a.k c o h n) n (a.o c o h n z)⟩
theorem Bt.of {d : Addr} {H H2 : Hp} (e : Same H H2) : Bt d H H2 := ⟨fun b o h _ => e b o h, fun _ _ _ _ h => h.same e⟩
theorem Bt.new {d : Addr} {H H1 : Hp} {p : Addr} {o : HO} (s : Bt d H H1) (h : H1 p = none) : Bt d H (upd H1 p o) := s.trans (.of (same_upd h))
theorem Bt.mut {d : Addr} {H H1 : Hp} {p : Addr} {o : HO} (s : Bt d H H1) (h : H p = none) : Bt d H (upd H1 p o) := ⟨fun b x e n => by
  rw [upd_ne (ne_of_none e h)]
  exact s.k b x e n, fun a x e n z => by
  have ne : p ≠ d := by
    obtain ⟨c, l, k, h1, _⟩ := z
    exact (ne_of_none h1 h).symm
  exact (s.o a x e n z).keep ne⟩
theorem Bt.kt {d : Addr} {H H2 : Hp} {kvs : List (Key × V)} (e : Bt d H H2) (h : H d = some (.dK kvs)) : KT H H2 := fun b xs q => e.k b _ q fun z => by
  rw [z, h] at q
  cases q
theorem Bt.kt2 {d : Addr} {H H2 : Hp} {n : Nat} (e : Bt d H H2) (h : StAt H d n) : KT H H2 := by
  obtain ⟨kvs, hd⟩ := h.dk
  exact e.kt hd
theorem StAt.ot {H : Hp} {d a : Addr} {n : Nat} {o : HO} (st : StAt H d n) (h : H a = none) : Ot (upd H a o) d a := by
  obtain ⟨c, l, cs, ls, k, hd, hc, hl, _⟩ := st
  exact ⟨c, l, k, by rw [upd_ne (ne_of_none hd h)]; exact hd, (ne_of_none hc h).symm, (ne_of_none hl h).symm⟩
theorem Ot.put {H H2 : Hp} {d a c l L : Addr} {k k2 : Int} (hd : H d = some (.dK (stK c l k))) (hd2 : H2 d = some (.dK (stK c L k2))) (hL : H L = none) {o : HO} (e : H a = some o) (z : Ot H d a) : Ot H2 d a := by
  obtain ⟨c2, l2, k3, h1, h2, h3⟩ := z
  rw [hd] at h1
  injection h1 with h1
  injection h1 with h1
  injection h1 with h1 h4
  injection h1 with _ h1
  injection h1 with h1
  exact ⟨c, L, k2, hd2, by rw [h1]; exact h2, ne_of_none e hL⟩
section
variable {H : Hp} {d c l : Addr} {k : Int} (h : H d = some (.dK (stK c l k)))
include h
theorem get_cells : DGet H d (.str "cells") (some (.ref c)) := by
  rw [← st_cells c l k]
  exact DGet.k (k := Sum.inr "cells") h
theorem get_left : DGet H d (.str "left") (some (.ref l)) := by
  rw [← st_left c l k]
  exact DGet.k (k := Sum.inr "left") h
theorem get_at : DGet H d (.str "at") (some (.int k)) := by
  rw [← st_at c l k]
  exact DGet.k (k := Sum.inr "at") h
theorem set_left (l2 : Addr) : DPut H d (.str "left") (.ref l2) (upd H d (.dK (stK c l2 k))) := by
  have z := DPut.k (k := Sum.inr "left") (v := .ref l2) h (by show 3 < sizeLine; decide)
  rwa [put_left] at z
theorem set_at (k2 : Int) : DPut H d (.str "at") (.int k2) (upd H d (.dK (stK c l k2))) := by
  have z := DPut.k (k := Sum.inr "at") (v := .int k2) h (by show 3 < sizeLine; decide)
  rwa [put_at] at z
end
section
variable {P : Program} {w : World} {K : PySem.W.Frag} {mg : Str → Option Value} {base : Heap}
theorem sc_begin : FnScope ["script", "cells", "cell"] ["script"] (defScope (topS 38)) := ⟨rfl, rfl, rfl, by decide +kernel, rfl, by decide +kernel, by decide +kernel⟩
def spBegin (K : PySem.W.Frag) : Sp := fun vs H Q _ => ∃ a l, vs = [.ref a] ∧ SqL K H a (nums l) ∧ (∀ H2, Same H H2 → SqL K H2 a (nums l)) ∧ l.length ≤ 63 ∧ ∀ d H2, Same H H2 → H d = none → StAt H2 d 0 → Q (.ref d) H2
theorem filt_snoc {α : Type} {p : α → Bool} {l : List α} {i : Nat} {x : α} {b : Bool} (h : l[i]? = some x) (hb : p x = b) : (l.take (i + 1)).filter p = if b = true then (l.take i).filter p ++ [x] else (l.take i).filter p := by
  rw [take_snoc h, List.filter_append]
  cases b with
  | true => simp [hb]
  | false => simp [hb]
theorem filt_len {α : Type} (p : α → Bool) (l : List α) (i : Nat) : ((l.take i).filter p).length ≤ l.length := by
  have h1 := List.length_filter_le p (l.take i)
  have h2 := List.length_take_le' i l
  omega
theorem ok_begin (T : Top K mg) : Ok P w K mg base CX0 1 "_law_begin" ["script"] (spBegin K) := by
  obtain ⟨f, fd, F⟩ := T.at 17
  refine F.ok0 sc_begin (fun vs H Q E h => ?_) (fun cdv A outer s H vs Q E hr h => ?_)
  · obtain ⟨a, l, rfl, _⟩ := h
    rfl
  · obtain ⟨a, l, rfl, hl, hl2, hz, q⟩ := h
    have nd := sc_begin.nd
    refine ⟨_, pss_cons (ps_setLc (i := 1) (own := [("cell", 2)]) (g := gName 2) (tt := tYes) rfl nd rfl rfl (sw_true rfl rfl rfl (by decide +kernel)) (pi_list (pv 0)) (blkOk_by (N := ["script", "cells", "cell"]) (sc := defScope (topS 38)) (by decide +kernel))
          (fun _ _ _ _ _ => pg_name (i := 2) nd rfl (.inl rfl)) (fun _ _ _ _ _ => pts_nil) (fun _ _ _ _ _ => pe_callTy int1_ok (by rfl) T.int b_int (pa_cons (pv 2) pa_nil)))
      (pss_one (ps_ret (pe_disp (pps_cons pe_str (pv 1) (pps_cons pe_str
        (pe_lc (own := [("cell", 2)]) (g := gName 2) rfl nd (pi_list (pv 1)) (blkOk_by (N := ["script", "cells", "cell"]) (sc := defScope (topS 38)) (by decide +kernel))
          (fun _ _ _ _ _ => pg_name (i := 2) nd rfl (.inl rfl)) (fun _ _ _ _ _ => pts_one (pt_cmpR ge_ok (pv 2) (pe_op pow_ok pe_int pe_int) (nomark _))) (fun _ _ _ _ _ => pv 2)) (pps_cons pe_str pe_int pps_nil)))
        (by rfl) (by rfl) (fun z => by cases z) (by decide)))), ?_⟩
    refine ⟨_, rfl, a, rfl, ⟨_, hl⟩, fun D nD => ?_⟩
    refine lc_it (walk_list (xs := nums l)) (fun i H2 => Same H H2 ∧ H2 D = some (.lst (nums (l.take i)))) ⟨same_upd nD, upd_same⟩ (fun i H2 _ hq => hl2 _ hq.1) ?_ ?_
    · rintro i y H1 H2 hi ⟨sm, hD⟩ ⟨rfl, hy⟩
      rw [List.getElem?_map] at hy
      obtain ⟨x, hx, rfl⟩ := Option.map_eq_some_iff.mp hy
      refine ⟨rfl, tyes ⟨_, rfl, r_int1 ⟨_, hD, ?_, Same.mut sm nD, ?_⟩⟩⟩
      · rw [List.length_map, List.length_take]
        exact small100 (by omega)
      · rw [upd_same, take_snoc hx]
        show _ = some (HO.lst (List.map V.int _))
        rw [List.map_append]
        rfl
    · rintro H1 ⟨s1, hD⟩
      have hD : H1 D = some (.lst (nums l)) := by
        rw [hD, List.take_of_length_le (by rw [List.length_map]; omega)]
      intro d nd1
      have nDd : D ≠ d := ne_of_none hD nd1
      have s2 : Same H (upd H1 d (.dK [])) := Same.new s1 nd1
      have hD2 := (same_upd (o := .dK []) nd1) _ _ hD
      refine ⟨_, rfl, _, rfl, D, rfl, ⟨_, .of hD2⟩, fun L nL => ?_⟩
      have nLH : H L = none := s2.free nL
      have ndH : H d = none := s1.free nd1
      have nDL : D ≠ L := ne_of_none hD2 nL
      have ndL : d ≠ L := ne_of_none (upd_same (H := H1) (a := d) (o := .dK [])) nL
      refine lc_it (walk_list (xs := nums l)) (fun i H2 => Same H H2 ∧ H2 D = some (.lst (nums l)) ∧ H2 d = some (.dK []) ∧ H2 L = some (.lst (nums ((l.take i).filter fun x => decide ((10 : Int) ^ (18 : Int).toNat ≤ x))))) ⟨Same.new s2 nL, (same_upd nL) _ _ hD2, (same_upd nL) _ _ upd_same, upd_same⟩ (fun i H2 _ hq => .of hq.2.1) ?_ ?_
      · rintro i y H3 H4 hi ⟨sm, hc, hd, hL⟩ ⟨rfl, hy⟩
        rw [List.getElem?_map] at hy
        obtain ⟨x, hx, rfl⟩ := Option.map_eq_some_iff.mp hy
        refine ⟨rfl, _, rfl, r_pow ⟨by decide, by decide, by decide⟩ (r_i rfl ⟨_, rfl, ?_⟩)⟩
        have e := filt_snoc (p := fun x => decide ((10 : Int) ^ (18 : Int).toNat ≤ x)) hx rfl
        have lf := filt_len (fun x => decide ((10 : Int) ^ (18 : Int).toNat ≤ x)) l i
        generalize hb : decide ((10 : Int) ^ (18 : Int).toNat ≤ x) = b at e
        cases b with
        | false =>
          refine iteF ⟨sm, hc, hd, ?_⟩
          rw [e, hL]
          rfl
        | true =>
          refine iteT ⟨_, rfl, _, hL, ?_, Same.mut sm nLH, ?_, ?_, ?_⟩
          · rw [List.length_map]
            exact small100 (by omega)
          · rw [upd_ne nDL]
            exact hc
          · rw [upd_ne ndL]
            exact hd
          · rw [upd_same, e]
            show _ = some (HO.lst (List.map V.int ((l.take i).filter _ ++ [x])))
            rw [List.map_append]
            rfl
      · rintro H3 ⟨sm, hc, hd, hL⟩
        refine ⟨hd, stK D L 0, rfl, (by show 3 ≤ 15; decide), ?_⟩
        rw [merge_st]
        refine q d _ (Same.mut sm ndH) ndH ⟨D, L, l, (l.take (nums l).length).filter fun x => decide ((10 : Int) ^ (18 : Int).toNat ≤ x), 0, upd_same, ?_, ?_, Int.le_refl 0, Int.le_refl 0, hz, ?_⟩
        · rw [upd_ne nDd]
          exact hc
        · rw [upd_ne ndL.symm]
          exact hL
        · have := filt_len (fun x => decide ((10 : Int) ^ (18 : Int).toNat ≤ x)) l (nums l).length
          omega
theorem cm_mod (a b : Int) : CMul (a % 2147483647) b := .inl ⟨by omega, by omega⟩
theorem sc_draw : FnScope ["state", "many", "cell", "left", "k", "cells", "mixed"] ["state", "many"] (defScope (topS 39)) := ⟨rfl, rfl, rfl, by decide +kernel, rfl, by decide +kernel, by decide +kernel⟩
def spDraw : Sp := fun vs H Q _ => ∃ (d : Addr) (m : Int) (n : Nat), vs = [.ref d, .int m] ∧ StAt H d n ∧ 1 ≤ m ∧ m ≤ 1000000 ∧ n ≤ 1000000 ∧ ∀ r H2, Bt d H H2 → StAt H2 d (n + 1) → 0 ≤ r → r < m → Q (.int r) H2
theorem ok_draw (T : Top K mg) : Ok P w K mg base CX0 1 "_law_draw" ["state", "many"] spDraw := by
  obtain ⟨f, fd, F⟩ := T.at 18
  refine F.ok0 sc_draw (fun vs H Q E h => ?_) (fun cdv A outer s H vs Q E hr h => ?_)
  · obtain ⟨d, m, n, rfl, _⟩ := h
    rfl
  · obtain ⟨d, m, n, rfl, hst, hm1, hm2, hn, q⟩ := h
    have nd := sc_draw.nd
    have hu := hu_of hr
    obtain ⟨c, l, cs, ls, k, hd, hc, hl, k0, kn, zc, zl⟩ := hst
    refine ⟨_, pss_cons (ps_setLc (i := 3) (own := [("cell", 2)]) (g := gName 2) rfl nd rfl rfl (sw_true rfl rfl rfl (by decide +kernel)) (pi_list (pe_dget hu (pv 0) pe_str (fun _ _ => rfl))) (blkOk_by (N := ["state", "many", "cell", "left", "k", "cells", "mixed"]) (sc := defScope (topS 39)) (by decide +kernel))
          (fun _ _ _ _ _ => pg_name (i := 2) nd rfl (.inl rfl)) (fun _ _ _ _ _ => pts_one (pt_cmpR gt_ok (pv 2) pe_int (nomark _))) (fun _ _ _ _ _ => pv 2))
      (pss_cons (ps_if (pt_cmpR (neI_ok hr.units) (pv 3) (pe_lst pa_nil) (nomark _))
        (pss_cons (ps_dput hu (pv 0) pe_str (pe_op cat_ok (pe_lst (pa_cons (pe_op fdiv_ok (pe_ix T.ixL (pv 3) pe_int (fun _ _ => rfl)) (pv 1)) pa_nil)) (pe_slice T.slL (pv 3) (po_some pe_int) po_none)) (by rfl))
          (pss_one (ps_ret (pe_op mod_ok (pe_callTy int1_ok (by rfl) T.int b_int (pa_cons (pe_ix T.ixL (pv 3) pe_int (fun _ _ => rfl)) pa_nil)) (pv 1))))) pss_nil)
      (pss_cons (ps_set (i := 4) nd rfl (.inl rfl) (pe_op add_ok (pe_dget hu (pv 0) pe_str (fun _ _ => rfl)) pe_int))
      (pss_cons (ps_asg (pe_tup (pa_cons (pv 4) (pa_cons (pe_lst pa_nil) pa_nil))) (pg_tup rfl (pgs_cons (pg_sub (pv 0) pe_str (set_dict hu)) (pgs_cons (pg_sub (pv 0) pe_str (set_dict hu)) pgs_nil))))
      (pss_cons (ps_set (i := 5) nd rfl (.inl rfl) (pe_dget hu (pv 0) pe_str (fun _ _ => rfl)))
      (pss_cons (ps_set (i := 2) nd rfl (.inl rfl) (pe_ifExp (pt_cmpR (neI_ok hr.units) (pv 5) (pe_lst pa_nil) (nomark _))
          (pe_ix T.ixL (pv 5) (pe_op mod_ok (pe_callTy int1_ok (by rfl) T.int b_int (pa_cons (pv 4) pa_nil)) (pe_len T (pv 5))) (fun _ _ => rfl)) pe_int))
      (pss_cons (ps_set (i := 6) nd rfl (.inl rfl) (pe_op mod_ok (pe_op mul_ok (pe_callTy int1_ok (by rfl) T.int b_int (pa_cons (pe_op add_ok (pe_op add_ok (pe_op mod_ok (pe_callTy int1_ok (by rfl) T.int b_int (pa_cons (pv 2) pa_nil)) pe_int)
          (pe_op mul_ok pe_int (pv 4))) (pe_op mul_ok (pe_op mul_ok pe_int (pv 4)) (pv 4))) pa_nil)) pe_int) pe_int))
      (pss_cons (ps_set (i := 6) nd rfl (.inl rfl) (pe_op mod_ok (pe_op mul_ok (pe_op mod_ok (pe_callTy int1_ok (by rfl) T.int b_int (pa_cons (pe_op add_ok (pe_op add_ok (pe_op mul_ok (pv 6) (pv 6)) (pe_op mul_ok pe_int (pv 4))) pe_int) pa_nil)) pe_int) pe_int) pe_int))
      (pss_one (ps_ret (pe_op mod_ok (pe_callTy int1_ok (by rfl) T.int b_int (pa_cons (pe_op fdiv_ok (pv 6) pe_int) pa_nil)) (pv 1))))))))))), ?_⟩
    have hdc : d ≠ c := fun z => by rw [z, hc] at hd; cases hd
    have hdl : d ≠ l := fun z => by rw [z, hl] at hd; cases hd
    refine ⟨_, rfl, d, .ref l, rfl, get_left hd, l, rfl, ⟨_, .of hl⟩, fun D nD => ?_⟩
    have nDd : d ≠ D := ne_of_none hd nD
    have ncD : c ≠ D := ne_of_none hc nD
    refine lc_it (walk_list (xs := nums ls)) (fun i H2 => Same H H2 ∧ H2 D = some (.lst (nums ((ls.take i).filter fun x => decide ((0 : Int) < x))))) ⟨same_upd nD, upd_same⟩ (fun i H2 _ hq => .of (hq.1 _ _ hl)) ?_ ?_
    · rintro i y H3 H4 hi ⟨sm, hD⟩ ⟨rfl, hy⟩
      rw [List.getElem?_map] at hy
      obtain ⟨x, hx, rfl⟩ := Option.map_eq_some_iff.mp hy
      refine ⟨rfl, _, rfl, r_i rfl ⟨_, rfl, ?_⟩⟩
      have e := filt_snoc (p := fun x => decide ((0 : Int) < x)) hx rfl
      have lf := filt_len (fun x => decide ((0 : Int) < x)) ls i
      generalize hb : decide ((0 : Int) < x) = b at e
      cases b with
      | false =>
        refine iteF ⟨sm, ?_⟩
        rw [e, hD]
        rfl
      | true =>
        refine iteT ⟨_, rfl, _, hD, ?_, Same.mut sm nD, ?_⟩
        · rw [List.length_map]
          exact small100 (by omega)
        · rw [upd_same, e]
          show _ = some (HO.lst (List.map V.int ((ls.take i).filter _ ++ [x])))
          rw [List.map_append]
          rfl
    rintro H1 ⟨s1, hD⟩
    have lf := filt_len (fun x => decide ((0 : Int) < x)) ls (nums ls).length
    generalize hfl : (ls.take (nums ls).length).filter (fun x => decide ((0 : Int) < x)) = fl at hD lf
    refine ⟨_, rfl, Nat.zero_le _, fun em nem => ?_⟩
    have s2 : Same H (upd H1 em (.lst [])) := Same.new s1 nem
    have hD2 := (same_upd (o := .lst []) nem) _ _ hD
    refine r_neI hD2 upd_same ⟨_, rfl, ?_⟩
    cases fl with
    | cons x fr =>
      refine iteT ?_
      refine ⟨_, rfl, r_ixL 0 hD2 rfl ⟨_, rfl, r_fdiv ⟨by omega, by omega⟩ ⟨by show 1 ≤ sizeLine; decide, fun L1 n1 => ?_⟩⟩⟩
      have hD3 := (same_upd (o := .lst [.int (x / m)]) n1) _ _ hD2
      refine ⟨_, rfl, _, rfl, r_cut1 hD3 fun L2 n2 => ?_⟩
      have h1 := (same_upd (o := .lst ((nums (x :: fr)).drop 1)) n2) _ _ (upd_same (H := upd H1 em (.lst [])) (a := L1) (o := .lst [.int (x / m)]))
      have lfr : fr.length + 1 ≤ 63 := by
        have : (x :: fr).length = fr.length + 1 := rfl
        omega
      refine r_cat h1 upd_same ?_ fun L3 n3 => ?_
      · show 1 + (List.map V.int fr).length ≤ 1000
        rw [List.length_map]
        omega
      have s5 : Same H (upd (upd (upd (upd H1 em (.lst [])) L1 (.lst [.int (x / m)])) L2 (.lst ((nums (x :: fr)).drop 1))) L3 (.lst ([.int (x / m)] ++ (nums (x :: fr)).drop 1))) := Same.new (Same.new (Same.new s2 n1) n2) n3
      have nL3 : H L3 = none := (Same.new (Same.new s2 n1) n2).free n3
      have hD5 := (same_upd (o := .lst ([.int (x / m)] ++ (nums (x :: fr)).drop 1)) n3) _ _ ((same_upd (o := .lst ((nums (x :: fr)).drop 1)) n2) _ _ hD3)
      have hL5 := upd_same (H := upd (upd (upd H1 em (.lst [])) L1 (.lst [.int (x / m)])) L2 (.lst ((nums (x :: fr)).drop 1))) (a := L3) (o := .lst ([.int (x / m)] ++ (nums (x :: fr)).drop 1))
      generalize upd (upd (upd (upd H1 em (.lst [])) L1 (.lst [.int (x / m)])) L2 (.lst ((nums (x :: fr)).drop 1))) L3 (.lst ([.int (x / m)] ++ (nums (x :: fr)).drop 1)) = H5 at s5 hD5 hL5 ⊢
      have hd5 := s5 _ _ hd
      refine ⟨_, rfl, d, _, rfl, set_left hd5 L3, ?_⟩
      have ne3 : L3 ≠ d := fun z => by rw [z, hd5] at hL5; cases hL5
      have b5 : Bt d H (upd H5 d (.dK (stK c L3 k))) := ⟨fun b o e ne => by
        rw [upd_ne ne]
        exact s5 _ _ e, fun a o e ne z => Ot.put hd upd_same nL3 e z⟩
      refine ⟨_, rfl, r_ixL 0 (a := D) (xs := nums (x :: fr)) (by rw [upd_ne nDd.symm]; exact hD5) rfl (r_int1 ⟨_, rfl, r_mod (by omega) (q _ _ b5 ?_ (Int.emod_nonneg _ (by omega)) (Int.emod_lt_of_pos _ (by omega)))⟩)⟩
      refine ⟨c, L3, cs, x / m :: fr, k, upd_same, ?_, ?_, k0, by omega, zc, lfr⟩
      · rw [upd_ne hdc.symm]
        exact s5 _ _ hc
      · rw [upd_ne ne3]
        exact hL5
    | nil =>
      refine iteF ?_
      have hd2 := s2 _ _ hd
      refine ⟨_, rfl, d, .int k, rfl, get_at hd2, r_add ?_⟩
      refine ⟨_, rfl, Nat.zero_le _, fun L1 n1 => ⟨by show 2 ≤ sizeLine; decide, fun tp n2 => ?_⟩⟩
      have s3 : Same H (upd (upd H1 em (.lst [])) L1 (.lst [])) := Same.new s2 n1
      have s4 : Same H (upd (upd (upd H1 em (.lst [])) L1 (.lst [])) tp (.tup [.int (k + 1), .ref L1])) := Same.new s3 n2
      have hL4 := (same_upd (o := .tup [.int (k + 1), .ref L1]) n2) _ _ (upd_same (H := upd H1 em (.lst [])) (a := L1) (o := .lst []))
      have ht4 := upd_same (H := upd (upd H1 em (.lst [])) L1 (.lst [])) (a := tp) (o := .tup [.int (k + 1), .ref L1])
      generalize upd (upd (upd H1 em (.lst [])) L1 (.lst [])) tp (.tup [.int (k + 1), .ref L1]) = H4 at s4 hL4 ht4 ⊢
      have hd4 := s4 _ _ hd
      have nL : L1 ≠ d := fun z => by rw [z, hd4] at hL4; cases hL4
      refine ⟨tp, _, rfl, .of ht4, rfl, _, _, rfl, ⟨_, rfl, d, _, rfl, set_at hd4 (k + 1), _, _, rfl, ⟨_, rfl, d, _, rfl, set_left upd_same L1, rfl, ?_⟩⟩⟩
      have b5 : Bt d H (upd (upd H4 d (.dK (stK c l (k + 1)))) d (.dK (stK c L1 (k + 1)))) := ⟨fun b o e ne => by
        rw [upd_ne ne, upd_ne ne]
        exact s4 _ _ e, fun a o e ne z => Ot.put hd upd_same (s2.free n1) e z⟩
      have hd5 := upd_same (H := upd H4 d (.dK (stK c l (k + 1)))) (a := d) (o := .dK (stK c L1 (k + 1)))
      have hL5 : (upd (upd H4 d (.dK (stK c l (k + 1)))) d (.dK (stK c L1 (k + 1)))) L1 = some (.lst (nums [])) := by
        rw [upd_ne nL, upd_ne nL]
        exact hL4
      generalize upd (upd H4 d (.dK (stK c l (k + 1)))) d (.dK (stK c L1 (k + 1))) = H5 at b5 hd5 hL5 ⊢
      have hc5 := b5.k _ _ hc hdc.symm
      refine ⟨_, rfl, d, _, rfl, get_cells hd5, ?_⟩
      refine ⟨_, rfl, Nat.zero_le _, fun em2 n3 => ?_⟩
      have s6 : Same H5 (upd H5 em2 (.lst [])) := same_upd n3
      refine r_neI (s6 _ _ hc5) upd_same ⟨_, rfl, ?_⟩
      have q6 : ∀ r : Int, 0 ≤ r → r < m → Q (.int r) (upd H5 em2 (.lst [])) := fun r r0 r1 => q r _ (b5.trans (.of s6)) ⟨c, L1, cs, [], k + 1, s6 _ _ hd5, s6 _ _ hc5, s6 _ _ hL5, by omega, by omega, zc, Nat.zero_le _⟩ r0 r1
      have hc6 := s6 _ _ hc5
      generalize upd H5 em2 (.lst []) = H6 at q6 hc6 ⊢
      rcases cs with _ | ⟨y, ys⟩
      · refine iteF ?_
        refine ⟨_, rfl, r_int1 (r_mod (by decide) ⟨_, rfl, r_mul (.inl ⟨by decide, by decide⟩) (r_add ⟨_, rfl, r_mul (.inl ⟨by decide, by decide⟩) ⟨_, rfl, r_mul (.inr ⟨by omega, by omega⟩) (r_add (r_int1 (r_mul (.inr ⟨by decide, by decide⟩) (r_mod (by decide) ?_))))⟩⟩)⟩)⟩
        refine ⟨_, rfl, _, rfl, r_mul (cm_mod _ _) ⟨_, rfl, r_mul (.inl ⟨by decide, by decide⟩) (r_add (r_add (r_int1 (r_mod (by decide) (r_mul (.inr ⟨by decide, by decide⟩) (r_mod (by decide) ?_))))))⟩⟩
        exact ⟨_, rfl, r_fdiv ⟨by decide, by decide⟩ (r_int1 ⟨_, rfl, r_mod (by omega) (q6 _ (Int.emod_nonneg _ (by omega)) (Int.emod_lt_of_pos _ (by omega)))⟩)⟩
      · refine iteT ?_
        have hpos : (0 : Int) < ((nums (y :: ys)).length : Int) := by
          rw [List.length_map, List.length_cons]
          omega
        have hlt : ((k + 1) % ((nums (y :: ys)).length : Int)).toNat < (y :: ys).length := by
          have e1 := Int.emod_lt_of_pos (k + 1) hpos
          rw [List.length_map] at e1 ⊢
          have e0 := Int.emod_nonneg (k + 1) (b := ((y :: ys).length : Int)) (by rw [List.length_cons]; omega)
          omega
        refine ⟨_, rfl, _, rfl, r_int1 ⟨_, rfl, r_lnL hc6 (r_mod hpos (r_ixI hc6 (Int.emod_nonneg _ (by omega)) (v := .int ((y :: ys)[((k + 1) % ((nums (y :: ys)).length : Int)).toNat])) ?_ ?_))⟩⟩
        · rw [List.getElem?_map, List.getElem?_eq_getElem hlt]
          rfl
        · refine ⟨_, rfl, r_int1 (r_mod (by decide) ⟨_, rfl, r_mul (.inl ⟨by decide, by decide⟩) (r_add ⟨_, rfl, r_mul (.inl ⟨by decide, by decide⟩) ⟨_, rfl, r_mul (.inr ⟨by omega, by omega⟩) (r_add (r_int1 (r_mul (.inr ⟨by decide, by decide⟩) (r_mod (by decide) ?_))))⟩⟩)⟩)⟩
          refine ⟨_, rfl, _, rfl, r_mul (cm_mod _ _) ⟨_, rfl, r_mul (.inl ⟨by decide, by decide⟩) (r_add (r_add (r_int1 (r_mod (by decide) (r_mul (.inr ⟨by decide, by decide⟩) (r_mod (by decide) ?_))))))⟩⟩
          exact ⟨_, rfl, r_fdiv ⟨by decide, by decide⟩ (r_int1 ⟨_, rfl, r_mod (by omega) (q6 _ (Int.emod_nonneg _ (by omega)) (Int.emod_lt_of_pos _ (by omega)))⟩)⟩
end
end VS

/-! _law_of, _law_beat, _law_load, _law_names. -/
namespace VS
open PySem PySem.Spec PyProof.Rows L2
section
variable {P : Program} {w : World} {K : PySem.W.Frag} {mg : Str → Option Value} {base : Heap}
theorem StAt.ne {H : Hp} {d : Addr} {n : Nat} (h : StAt H d n) {a : Addr} {o : HO} (ha : H a = some o) (hn : ∀ kvs, o ≠ .dK kvs) : a ≠ d := by
  obtain ⟨kvs, hd⟩ := h.dk
  intro z
  rw [z, hd] at ha
  exact hn kvs (Option.some.inj ha).symm
theorem sc_of : FnScope ["state", "some"] ["state", "some"] (defScope (topS 40)) := ⟨rfl, rfl, rfl, by decide +kernel, rfl, by decide +kernel, by decide +kernel⟩
def spOf : Sp := fun vs H Q _ => ∃ (d a : Addr) (l : List Str) (n : Nat), vs = [.ref d, .ref a] ∧ StAt H d n ∧ H a = some (.lst (txs l)) ∧ 1 ≤ l.length ∧ l.length ≤ 100 ∧ n ≤ 10000 ∧ ∀ x H2, Bt d H H2 → StAt H2 d (n + 1) → x ∈ l → Q (.str x) H2
theorem ok_of (T : Top K mg) : Ok P w K mg base CX0 2 "_law_of" ["state", "some"] spOf := by
  obtain ⟨f, fd, F⟩ := T.at 19
  refine F.ok0 sc_of (fun vs H Q E h => ?_) (fun cdv A outer s H vs Q E hr h => ?_)
  · obtain ⟨d, a, l, n, rfl, _⟩ := h
    rfl
  · obtain ⟨d, a, l, n, rfl, hst, ha, z1, z2, hn, q⟩ := h
    refine ⟨_, pss_one (ps_ret (pe_ix T.ixL (pv 1) (pe_fn (ok_draw T) hr pass0 (pa_cons (pv 0) (pa_cons (pe_len T (pv 1)) pa_nil))) (fun _ _ => rfl))), ?_⟩
    have lt : (txs l).length = l.length := List.length_map ..
    refine ⟨_, rfl, _, rfl, _, rfl, r_lnL ha ⟨d, _, n, rfl, hst, by omega, by omega, by omega, fun r H2 b2 s2 r0 r1 => ?_⟩⟩
    have hlt : r.toNat < l.length := by omega
    refine r_ixI (b2.k _ _ ha (hst.ne ha (fun _ z => by cases z))) r0 (v := .str l[r.toNat]) ?_ (q _ _ b2 s2 (List.getElem_mem hlt))
    rw [List.getElem?_map, List.getElem?_eq_getElem hlt]
    rfl
theorem sc_lbeat : FnScope ["state", "size", "period"] ["state", "size"] (defScope (topS 41)) := ⟨rfl, rfl, rfl, by decide +kernel, rfl, by decide +kernel, by decide +kernel⟩
def spLBeat : Sp := fun vs H Q _ => ∃ (d : Addr) (z : Int) (n : Nat), vs = [.ref d, .int z] ∧ StAt H d n ∧ 1 ≤ z ∧ z ≤ 100 ∧ n ≤ 10000 ∧ ∀ v b H2, Bt d H H2 → StAt H2 d (n + 4) → BeatAt H2 v b → GoodBeat b → Q v H2
theorem ok_lbeat (T : Top K mg) : Ok P w K mg base CX0 2 "_law_beat" ["state", "size"] spLBeat := by
  obtain ⟨f, fd, F⟩ := T.at 20
  refine F.ok0 sc_lbeat (fun vs H Q E h => ?_) (fun cdv A outer s H vs Q E hr h => ?_)
  · obtain ⟨d, z, n, rfl, _⟩ := h
    rfl
  · obtain ⟨d, z, n, rfl, hst, z1, z2, hn, q⟩ := h
    have nd := sc_lbeat.nd
    refine ⟨_, pss_cons (ps_set (i := 2) nd rfl (.inl rfl) (pe_op add_ok pe_int (pe_fn (ok_draw T) hr pass0 (pa_cons (pv 0) (pa_cons (pv 1) pa_nil)))))
      (pss_one (ps_ret (pe_tup (pa_cons (pv 2) (pa_cons (pe_fn (ok_draw T) hr pass0 (pa_cons (pv 0) (pa_cons (pv 2) pa_nil)))
        (pa_cons (pe_ifExp (pt_cmpR eq_ok (pe_fn (ok_draw T) hr pass0 (pa_cons (pv 0) (pa_cons pe_int pa_nil))) pe_int (nomark _)) (pe_fn (ok_draw T) hr pass0 (pa_cons (pv 0) (pa_cons (pe_op mul_ok pe_int (pv 1)) pa_nil))) pe_int) pa_nil)))))), ?_⟩
    refine ⟨_, rfl, _, rfl, d, _, n, rfl, hst, z1, by omega, by omega, fun r1 H1 b1 s1 r10 r11 => r_add ?_⟩
    refine ⟨_, rfl, _, rfl, _, rfl, d, _, _, rfl, s1, by omega, by omega, by omega, fun r2 H2 b2 s2 r20 r21 => ?_⟩
    refine ⟨_, rfl, d, _, _, rfl, s2, by decide, by decide, by omega, fun r3 H3 b3 s3 r30 r31 => r_eq rfl rfl ⟨_, rfl, ?_⟩⟩
    have b123 := (b1.trans b2).trans b3
    cases hb : decide (V.int r3 = V.int 0) with
    | true =>
      refine iteT ⟨_, rfl, _, rfl, r_mul (.inl ⟨by decide, by decide⟩) ⟨d, _, _, rfl, s3, by omega, by omega, by omega, fun r4 H4 b4 s4 r40 r41 => ⟨by show 3 ≤ sizeLine; decide, fun tp nt => ?_⟩⟩⟩
      have st := StAt.same (same_upd (o := .tup [.int (1 + r1), .int r2, .int r4]) nt) s4
      exact q _ (1 + r1, r2, r4) _ (Bt.new (b123.trans b4) nt) st ⟨tp, rfl, upd_same⟩ ⟨by show 1 ≤ 1 + r1; omega, by show 1 + r1 ≤ 1000000; omega, r20, by show r2 ≤ 1 + r1 - 1; omega, r40, by show r4 ≤ 1000000; omega⟩
    | false =>
      refine iteF ⟨by show 3 ≤ sizeLine; decide, fun tp nt => ?_⟩
      have st := StAt.same (same_upd (o := .tup [.int (1 + r1), .int r2, .int 0]) nt) s3
      exact q _ (1 + r1, r2, 0) _ (Bt.new b123 nt) (st.mono (by omega)) ⟨tp, rfl, upd_same⟩ ⟨by show 1 ≤ 1 + r1; omega, by show 1 + r1 ≤ 1000000; omega, r20, by show r2 ≤ 1 + r1 - 1; omega, Int.le_refl 0, (by decide : (0 : Int) ≤ 1000000)⟩
theorem sc_lload : FnScope ["state", "size", "beat"] ["state", "size"] (defScope (topS 43)) := ⟨rfl, rfl, rfl, by decide +kernel, rfl, by decide +kernel, by decide +kernel⟩
def spLLoad : Sp := fun vs H Q _ => ∃ (d : Addr) (z : Int) (n : Nat), vs = [.ref d, .int z] ∧ StAt H d n ∧ 1 ≤ z ∧ z ≤ 100 ∧ n ≤ 9000 ∧ ∀ v b H2, Bt d H H2 → StAt H2 d (n + 5) → LoadAt H2 v b → GoodL b → Q v H2
theorem ok_lload (T : Top K mg) : Ok P w K mg base CX0 3 "_law_load" ["state", "size"] spLLoad := by
  obtain ⟨f, fd, F⟩ := T.at 22
  refine F.ok0 sc_lload (fun vs H Q E h => ?_) (fun cdv A outer s H vs Q E hr h => ?_)
  · obtain ⟨d, z, n, rfl, _⟩ := h
    rfl
  · obtain ⟨d, z, n, rfl, hst, z1, z2, hn, q⟩ := h
    have nd := sc_lload.nd
    refine ⟨_, pss_cons (ps_set (i := 2) nd rfl (.inl rfl) (pe_fn (ok_lbeat T) hr pass0 (pa_cons (pv 0) (pa_cons (pv 1) pa_nil))))
      (pss_one (ps_ret (pe_ifExp (pt_cmpR eq_ok (pe_fn (ok_draw T) (hr.mono (by decide)) pass0 (pa_cons (pv 0) (pa_cons pe_int pa_nil))) pe_int (nomark _)) pe_non
        (pe_tup (pa_cons (pe_ix T.ixT (pv 2) pe_int (fun _ _ => rfl)) (pa_cons (pe_ix T.ixT (pv 2) pe_int (fun _ _ => rfl)) pa_nil)))))), ?_⟩
    refine ⟨_, rfl, _, rfl, d, _, n, rfl, hst, z1, z2, by omega, fun v b H1 b1 s1 hb gb => ?_⟩
    obtain ⟨p, rfl, hp⟩ := id hb
    refine ⟨_, rfl, d, _, _, rfl, s1, by decide, by decide, by omega, fun r3 H3 b3 s3 r30 r31 => r_eq rfl rfl ⟨_, rfl, ?_⟩⟩
    have hp3 := b3.k _ _ hp (s1.ne hp (fun _ z => by cases z))
    cases hb : decide (V.int r3 = V.int 0) with
    | true => exact iteT (q .non none H3 (b1.trans b3) s3 rfl True.intro)
    | false =>
      refine iteF ⟨_, rfl, r_ixT 0 hp3 rfl ⟨_, rfl, r_ixT 1 hp3 rfl ⟨by show 2 ≤ sizeLine; decide, fun tp nt => ?_⟩⟩⟩
      obtain ⟨g1, g2, g3, g4, g5, g6⟩ := gb
      exact q _ (some (b.1, b.2.1)) _ (Bt.new (b1.trans b3) nt) (StAt.same (same_upd nt) s3) ⟨tp, rfl, upd_same⟩ ⟨g1, g2, g3, g4⟩
def pool1 : List Str := ["a", "b", "table", "view", "period", "with", "ahead", "whole", "torn", "live", "none"]
def pool2 : List Str := ["zzzzzzzz", "q", "ab", "ba", "c"]
def pool : List Str := pool1 ++ pool2
def nmL (a s : Nat) : List Str := (List.range 9).map fun k => pool.getD ((a + s * k) % 16) "a"
theorem nm_nd : ∀ a < 16, ∀ s ∈ [1, 3, 5, 7], (nmL a s).Nodup := by decide +kernel
theorem pool_good : ∀ x ∈ pool, 1 ≤ x.length ∧ x.length ≤ 8 ∧ ∀ c ∈ x.cps.toList, c ∈ letters.cps.toList := by decide +kernel
theorem getD_of {l : List Str} {i : Nat} {d : Str} (h : i < l.length) : l.getD i d = l[i] := by
  rw [List.getD_eq_getElem?_getD, List.getElem?_eq_getElem h]
  rfl
theorem nm_good {a s : Nat} : ∀ x ∈ nmL a s, x ∈ pool := by
  intro x hx
  obtain ⟨k, _, rfl⟩ := List.mem_map.mp hx
  have hl : (a + s * k) % 16 < pool.length := Nat.mod_lt _ (by decide)
  rw [getD_of hl]
  exact List.getElem_mem hl
theorem pool_w : ∀ x ∈ pool, GoodW x := fun x hx => by
  obtain ⟨h1, h2, h3⟩ := pool_good x hx
  exact ⟨h1, h2, h3⟩
theorem nm_get {a s k : Nat} (h : k < 9) : (nmL a s)[k]? = some (pool.getD ((a + s * k) % 16) "a") := by
  unfold nmL
  rw [List.getElem?_map, List.getElem?_range h]
  rfl
theorem nm_pool {a s k : Nat} : (txs pool)[(a + s * k) % 16]? = some (V.str (pool.getD ((a + s * k) % 16) "a")) := by
  have hl : (a + s * k) % 16 < pool.length := Nat.mod_lt _ (by decide)
  rw [List.getElem?_map, getD_of hl, List.getElem?_eq_getElem hl]
  rfl
theorem nm_int (a s k : Nat) : ((a : Int) + (s : Int) * (0 + (k : Int))) % 16 = (((a + s * k) % 16 : Nat) : Int) := by
  rw [Int.zero_add]
  push_cast
  rfl
theorem sc_lnames : FnScope ["state", "many", "pool", "at", "step", "k"] ["state", "many"] (defScope (topS 42)) := ⟨rfl, rfl, rfl, by decide +kernel, rfl, by decide +kernel, by decide +kernel⟩
def spLNames : Sp := fun vs H Q _ => ∃ (d : Addr) (n : Nat), vs = [.ref d, .int 9] ∧ StAt H d n ∧ n ≤ 10000 ∧ ∀ a ns H2, Bt d H H2 → StAt H2 d (n + 2) → H a = none → H2 a = some (.lst (txs ns)) → ns.length = 9 → ns.Nodup → (∀ x ∈ ns, x ∈ pool) → Q (.ref a) H2
theorem ok_lnames (T : Top K mg) : Ok P w K mg base CX0 2 "_law_names" ["state", "many"] spLNames := by
  obtain ⟨f, fd, F⟩ := T.at 21
  refine F.ok0 sc_lnames (fun vs H Q E h => ?_) (fun cdv A outer s H vs Q E hr h => ?_)
  · obtain ⟨d, n, rfl, _⟩ := h
    rfl
  · obtain ⟨d, n, rfl, hst, hn, q⟩ := h
    have nd := sc_lnames.nd
    refine ⟨_, pss_cons (ps_set (i := 2) nd rfl (.inr rfl) (pe_lst (pa_cons pe_str (pa_cons pe_str (pa_cons pe_str (pa_cons pe_str (pa_cons pe_str (pa_cons pe_str (pa_cons pe_str (pa_cons pe_str (pa_cons pe_str (pa_cons pe_str (pa_cons pe_str pa_nil)))))))))))))
      (pss_cons (ps_set (i := 2) nd rfl (.inr rfl) (pe_op cat_ok (pv 2) (pe_lst (pa_cons pe_str (pa_cons pe_str (pa_cons pe_str (pa_cons pe_str (pa_cons pe_str pa_nil))))))))
      (pss_cons (ps_asg (pe_tup (pa_cons (pe_fn (ok_draw T) hr pass0 (pa_cons (pv 0) (pa_cons pe_int pa_nil))) (pa_cons (pe_ix T.ixL (pe_lst (pa_cons pe_int (pa_cons pe_int (pa_cons pe_int (pa_cons pe_int pa_nil)))))
          (pe_fn (ok_draw T) hr pass0 (pa_cons (pv 0) (pa_cons pe_int pa_nil))) (fun _ _ => rfl)) pa_nil))) (pg_tup rfl (pgs_cons (pg_name (i := 3) nd rfl (.inr rfl)) (pgs_cons (pg_name (i := 4) nd rfl (.inr rfl)) pgs_nil))))
      (pss_one (ps_ret (pe_lc (own := [("k", 5)]) (g := gName 5) (tt := tYes) rfl nd (pi_range1 (by rfl) T.rng (pa_cons (pv 1) pa_nil)) (blkOk_by (N := ["state", "many", "pool", "at", "step", "k"]) (sc := defScope (topS 42)) (by decide +kernel))
          (fun _ _ _ _ _ => pg_name (i := 5) nd rfl (.inl rfl)) (fun _ _ _ _ _ => pts_nil) (fun _ _ _ _ _ => pe_ix T.ixL (pv 2) (pe_op mod_ok (pe_callTy int1_ok (by rfl) T.int b_int (pa_cons (pe_op add_ok (pv 3) (pe_op mul_ok (pv 4) (pv 5))) pa_nil)) pe_int) (fun _ _ => rfl))))))), ?_⟩
    refine ⟨by show 11 ≤ sizeLine; decide, fun p1 n1 => ⟨_, rfl, by show 5 ≤ sizeLine; decide, fun p2 n2 => ?_⟩⟩
    have nd1 : p1 ≠ d := by
      obtain ⟨kvs, hd⟩ := hst.dk
      exact (ne_of_none hd n1).symm
    have s1 : Same H (upd H p1 (.lst (txs pool1))) := same_upd n1
    have s2 : Same H (upd (upd H p1 (.lst (txs pool1))) p2 (.lst (txs pool2))) := Same.new s1 n2
    have h1 := (same_upd (o := .lst (txs pool2)) n2) _ _ (upd_same (H := H) (a := p1) (o := .lst (txs pool1)))
    refine r_cat h1 upd_same (by show 11 + 5 ≤ 1000; decide) fun p3 n3 => ?_
    have s3 : Same H (upd (upd (upd H p1 (.lst (txs pool1))) p2 (.lst (txs pool2))) p3 (.lst (txs pool))) := Same.new s2 n3
    have h3 := upd_same (H := upd (upd H p1 (.lst (txs pool1))) p2 (.lst (txs pool2))) (a := p3) (o := .lst (txs pool))
    have n3H : H p3 = none := s2.free n3
    show gName 2 (.ref p3) _ (upd (upd (upd H p1 (.lst (txs pool1))) p2 (.lst (txs pool2))) p3 (.lst (txs pool))) _
    generalize upd (upd (upd H p1 (.lst (txs pool1))) p2 (.lst (txs pool2))) p3 (.lst (txs pool)) = H3 at s3 h3 ⊢
    have st3 := StAt.same s3 hst
    refine ⟨_, rfl, d, _, n, rfl, st3, by decide, by decide, by omega, fun r1 H4 b4 st4 r10 r11 => ?_⟩
    refine ⟨by show 4 ≤ sizeLine; decide, fun p4 n4 => ⟨_, rfl, d, _, _, rfl, StAt.same (same_upd n4) st4, by decide, by decide, by omega, fun r2 H5 b5 st5 r20 r21 => ?_⟩⟩
    have h45 := b5.k _ _ upd_same ((StAt.same (same_upd (o := .lst [.int 1, .int 3, .int 5, .int 7]) n4) st4).ne upd_same (fun _ z => by cases z))
    have b05 : Bt d H3 H5 := (Bt.new b4 n4).trans b5
    have h35 := b05.k _ _ h3 (st3.ne h3 (fun _ z => by cases z))
    obtain ⟨a, rfl⟩ : ∃ a : Nat, r1 = (a : Int) := ⟨r1.toNat, by omega⟩
    have ha : a < 16 := by omega
    obtain ⟨sp, hsp, hget⟩ : ∃ sp : Nat, sp ∈ [1, 3, 5, 7] ∧ [V.int 1, .int 3, .int 5, .int 7][r2.toNat]? = some (.int (sp : Int)) := by
      obtain rfl | rfl | rfl | rfl : r2 = 0 ∨ r2 = 1 ∨ r2 = 2 ∨ r2 = 3 := by omega
      · exact ⟨1, by decide, rfl⟩
      · exact ⟨3, by decide, rfl⟩
      · exact ⟨5, by decide, rfl⟩
      · exact ⟨7, by decide, rfl⟩
    refine r_ixI h45 r20 hget ⟨by show 2 ≤ sizeLine; decide, fun tp n6 => ⟨tp, _, rfl, .of upd_same, rfl, _, _, rfl, _, _, rfl, rfl, ?_⟩⟩
    have b06 := Bt.new (o := .tup [.int (a : Int), .int (sp : Int)]) b05 n6
    have h36 := (same_upd (o := .tup [.int (a : Int), .int (sp : Int)]) n6) _ _ h35
    have st6 := StAt.same (same_upd (o := .tup [.int (a : Int), .int (sp : Int)]) n6) st5
    have b6 : Bt d H (upd H5 tp (.tup [.int (a : Int), .int (sp : Int)])) := (Bt.of s3).trans b06
    generalize upd H5 tp (.tup [.int (a : Int), .int (sp : Int)]) = H6 at b6 h36 st6 ⊢
    refine ⟨_, rfl, 9, rfl, by decide, by decide, fun D nD => ?_⟩
    refine lc_it (walk_range (n := 9)) (fun i H2 => Same H6 H2 ∧ H2 D = some (.lst (txs ((nmL a sp).take i)))) ⟨same_upd nD, upd_same⟩ (fun _ _ _ _ => True.intro) ?_ ?_
    · rintro i y H7 H8 hi ⟨sm, hD⟩ ⟨rfl, rfl⟩
      refine ⟨rfl, tyes ⟨_, rfl, _, rfl, _, rfl, _, rfl, r_mul (.inl ⟨?_, ?_⟩) (r_add (r_int1 (r_mod (by decide) ?_)))⟩⟩
      · have : sp ≤ 7 := by simp at hsp; omega
        omega
      · have : sp ≤ 7 := by simp at hsp; omega
        omega
      · rw [nm_int]
        refine r_ixL _ (sm _ _ h36) nm_pool ⟨_, hD, ?_, Same.mut sm nD, ?_⟩
        · rw [List.length_map, List.length_take]
          exact small100 (by omega)
        · rw [upd_same, take_snoc (nm_get hi)]
          show _ = some (HO.lst (List.map V.str _))
          rw [List.map_append]
          rfl
    · rintro H7 ⟨sm, hD⟩
      refine q D (nmL a sp) H7 (b6.trans (.of sm)) (StAt.same sm st6) ?_ ?_ rfl (nm_nd a ha sp hsp) nm_good
      · cases e : H D with
        | none => rfl
        | some o =>
          by_cases hz : D = d
          · obtain ⟨kvs, hd⟩ := st6.dk
            rw [← hz, nD] at hd
            cases hd
          · rw [b6.k _ _ e hz] at nD
            cases nD
      · exact hD
end
end VS

/-! How many paths a drawn web has. -/
namespace VM
section
variable {N : Type} [DecidableEq N]
theorem sum_le (f : N → Nat) (C : Nat) : ∀ l : List N, (∀ s ∈ l, f s ≤ C) → (l.map f).sum ≤ l.length * C
  | [], _ => Nat.zero_le _
  | a :: t, h => by
    have h1 := h a List.mem_cons_self
    have h2 := sum_le f C t fun s hs => h s (List.mem_cons_of_mem _ hs)
    rw [List.map_cons, List.sum_cons, List.length_cons, Nat.add_mul]
    omega
theorem sum_one (f : N → Nat) (h : N) (B C : Nat) (hC : ∀ s, s ≠ h → f s ≤ C) (hB : f h ≤ B) (hCB : C ≤ B) : ∀ l : List N, l.Nodup → (l.map f).sum + C ≤ B + l.length * C
  | [], _ => by simp; omega
  | a :: t, nd => by
    rw [List.nodup_cons] at nd
    rw [List.map_cons, List.sum_cons, List.length_cons, Nat.add_mul]
    by_cases e : a = h
    · subst e
      have h2 := sum_le f C t fun s hs => hC s fun z => nd.1 (z ▸ hs)
      omega
    · have h1 := hC a e
      have h2 := sum_one f h B C hC hB hCB t nd.2
      omega
def bd : Nat → Nat
  | 0 => 1
  | 1 => 3
  | n + 2 => bd (n + 1) + 2 * bd n
theorem bd_step : ∀ n, bd n ≤ bd (n + 1)
  | 0 => by decide
  | 1 => by decide
  | n + 2 => by
    show bd (n + 2) ≤ bd (n + 2) + 2 * bd (n + 1)
    omega
theorem P_count : ∀ (r : List (N × List N)) (n : N), (∀ v ∈ r, v.2.Nodup ∧ v.2.length ≤ 3) → (P r n).length ≤ bd r.length
  | [], n, _ => Nat.le_refl 1
  | v :: r, n, h => by
    have e : P (v :: r) n = if n = v.1 then ((v.2.map (P r)).flatten).map (n :: ·) else P r n := rfl
    have hr : ∀ v ∈ r, v.2.Nodup ∧ v.2.length ≤ 3 := fun u hu => h u (List.mem_cons_of_mem _ hu)
    have ih := fun s => P_count r s hr
    obtain ⟨nd, l3⟩ := h v List.mem_cons_self
    rw [e]
    split
    · rw [List.length_map, List.length_flatten, List.map_map]
      show (v.2.map fun s => (P r s).length).sum ≤ bd (r.length + 1)
      cases r with
      | nil =>
        have h1 := sum_le (fun s => (P [] s).length) 1 v.2 fun s _ => ih s
        show _ ≤ 3
        omega
      | cons u r =>
        have h1 := sum_one (fun s => (P (u :: r) s).length) u.1 (bd (r.length + 1)) (bd r.length) (fun s hs => by
          have e2 : P (u :: r) s = if s = u.1 then ((u.2.map (P r)).flatten).map (s :: ·) else P r s := rfl
          show (P (u :: r) s).length ≤ _
          rw [e2, if_neg hs]
          exact P_count r s fun x hx => hr x (List.mem_cons_of_mem _ hx)) (ih u.1) (bd_step _) v.2 nd
        show _ ≤ bd (r.length + 1) + 2 * bd r.length
        have h2 : v.2.length * bd r.length ≤ 3 * bd r.length := Nat.mul_le_mul_right _ l3
        omega
    · exact Nat.le_trans (ih n) (bd_step _)
theorem bd_le : ∀ n ≤ 5, bd n ≤ 43 := by decide
end
end VM

/-! _law_web: what it draws is a good web. -/
namespace VS
open PySem PySem.Spec PyProof.Rows L2
/-- a web that is being drawn, from the names ns, with m tables -/
structure Prog (ns : List Str) (m : Nat) (W : WB) : Prop where
  tn : W.tn = ns.take m
  vn : W.vn = (ns.drop 4).take W.views.length
  tab : ∀ t ∈ W.tabs, GoodL t.2
  view : ∀ (i : Nat) (u : VW), W.views[i]? = some u → GoodBeat u.beat ∧ GoodS (W.tn ++ (W.views.take i).map VW.name) u.srcs ∧ u.srcs.length ≤ 3
theorem Prog.snoc {ns : List Str} {m : Nat} {W : WB} (p : Prog ns m W) {u : VW} (hn : ns[4 + W.views.length]? = some u.name) (gb : GoodBeat u.beat) (gs : GoodS (W.tn ++ W.vn) u.srcs) (l3 : u.srcs.length ≤ 3) : Prog ns m ⟨W.tabs, W.views ++ [u]⟩ := by
  refine ⟨p.tn, ?_, p.tab, fun i v h => ?_⟩
  · show (W.views ++ [u]).map VW.name = (ns.drop 4).take (W.views ++ [u]).length
    rw [List.length_append, List.map_append]
    have h1 : (ns.drop 4)[W.views.length]? = some u.name := by
      rw [List.getElem?_drop]
      exact hn
    show _ = (ns.drop 4).take (W.views.length + 1)
    rw [take_snoc h1, ← p.vn]
    rfl
  · have e : (WB.mk W.tabs (W.views ++ [u])).views = W.views ++ [u] := rfl
    rw [e] at h
    by_cases hi : i < W.views.length
    · rw [List.getElem?_append_left hi] at h
      rw [e, List.take_append_of_le_length (Nat.le_of_lt hi)]
      exact p.view i v h
    · have hl : i < (W.views ++ [u]).length := (List.getElem?_eq_some_iff.mp h).1
      rw [List.length_append] at hl
      have hi2 : i = W.views.length := by
        have : [u].length = 1 := rfl
        omega
      subst hi2
      rw [List.getElem?_append_right (Nat.le_refl _), Nat.sub_self] at h
      obtain rfl : u = v := Option.some.inj h
      rw [e, List.take_left' rfl]
      exact ⟨gb, gs, l3⟩
theorem Prog.good {ns : List Str} {m : Nat} {W : WB} (p : Prog ns m W) (m1 : 1 ≤ m) (m4 : m ≤ 4) (l9 : ns.length = 9) (nd : ns.Nodup) (gw : ∀ x ∈ ns, GoodW x) (hv : W.views.length ≤ 5) : GoodWeb W := by
  have lt : W.tabs.length = m := by
    have h1 : W.tn.length = W.tabs.length := List.length_map ..
    rw [← h1, p.tn, List.length_take]
    omega
  refine ⟨by omega, by omega, by omega, fun t ht => ⟨gw _ ?_, p.tab t ht⟩, fun u hu => ⟨gw _ ?_, ?_⟩, ?_, fun i u h => (p.view i u h).2.1⟩
  · have h1 : t.1 ∈ W.tn := List.mem_map.mpr ⟨t, ht, rfl⟩
    rw [p.tn] at h1
    exact List.mem_of_mem_take h1
  · have h1 : u.name ∈ W.vn := List.mem_map.mpr ⟨u, hu, rfl⟩
    rw [p.vn] at h1
    exact List.mem_of_mem_drop (List.mem_of_mem_take h1)
  · obtain ⟨i, hi, e⟩ := List.mem_iff_getElem.mp hu
    exact (p.view i u (by rw [List.getElem?_eq_getElem hi, e])).1
  · unfold WB.names
    rw [p.tn, p.vn]
    have h1 : (ns.take m ++ (ns.drop 4).take W.views.length).Sublist ns := by
      have h2 : ns = ns.take 4 ++ ns.drop 4 := (List.take_append_drop 4 ns).symm
      have h3 : (ns.take m).Sublist (ns.take 4) := by
        have : ns.take m = (ns.take 4).take m := by rw [List.take_take, Nat.min_eq_left m4]
        rw [this]
        exact List.take_sublist _ _
      have h4 := h3.append (List.take_sublist W.views.length (ns.drop 4))
      rwa [← h2] at h4
    exact nd.sublist h1
theorem Prog.count {ns : List Str} {m : Nat} {W : WB} (p : Prog ns m W) (hv : W.views.length ≤ 5) (n : Str) : (VM.P W.rv n).length ≤ 43 := by
  have hl : W.rv.length = W.views.length := by simp [WB.rv, WB.sv]
  have h := VM.P_count W.rv n fun v hv => by
    unfold WB.rv WB.sv at hv
    rw [List.mem_reverse] at hv
    obtain ⟨u, hu, rfl⟩ := List.mem_map.mp hv
    obtain ⟨i, hi, e⟩ := List.mem_iff_getElem.mp hu
    obtain ⟨_, gs, l3⟩ := p.view i u (by rw [List.getElem?_eq_getElem hi, e])
    exact ⟨gs.nd, by rw [List.length_map]; exact l3⟩
  exact Nat.le_trans h (VM.bd_le _ (by omega))
theorem Bt.free {d : Addr} {H H1 : Hp} {n : Nat} {p : Addr} (b : Bt d H H1) (st : StAt H1 d n) (h : H1 p = none) : H p = none := by
  cases e : H p with
  | none => rfl
  | some o =>
    by_cases hz : p = d
    · obtain ⟨kvs, hd⟩ := st.dk
      rw [← hz, h] at hd
      cases hd
    · rw [b.k _ _ e hz] at h
      cases h
theorem Bt.li {d : Addr} {H H1 : Hp} {n : Nat} {a : Addr} {xs : List V} (b : Bt d H H1) (st : StAt H d n) (h : H a = some (.lst xs)) : H1 a = some (.lst xs) := b.k _ _ h (st.ne h fun _ z => by cases z)
theorem Bt.ti {d : Addr} {H H1 : Hp} {n : Nat} {a : Addr} {xs : List V} (b : Bt d H H1) (st : StAt H d n) (h : H a = some (.tup xs)) : H1 a = some (.tup xs) := b.k _ _ h (st.ne h fun _ z => by cases z)
/-- a change of a list of ours keeps the tuples -/
theorem kt_lst {H : Hp} {a : Addr} {xs : List V} {o : HO} (h : H a = some (.lst xs)) : KT H (upd H a o) := fun b ys z => by
  rw [upd_ne (ne_of z h (by intro q; cases q))]
  exact z
theorem StAt.li {H : Hp} {d : Addr} {n : Nat} {a : Addr} {xs : List V} {o : HO} (st : StAt H d n) (h : H a = some (.lst xs)) (hc : Ot H d a) : StAt (upd H a o) d n := by
  have ne := st.ne h fun _ z => by cases z
  obtain ⟨c, l, cs, ls, k, hd, h1, h2, h3⟩ := st
  obtain ⟨c2, l2, k2, hd2, n1, n2⟩ := hc
  rw [hd] at hd2
  injection hd2 with e
  injection e with e
  injection e with e1 e
  injection e1 with _ e1
  injection e1 with e1
  injection e with e2 e
  injection e2 with _ e2
  injection e2 with e2
  subst e1 e2
  exact ⟨c, l, cs, ls, k, by rw [upd_ne ne.symm]; exact hd, by rw [upd_ne n1.symm]; exact h1, by rw [upd_ne n2.symm]; exact h2, h3⟩
end VS

/-! _law_web: the walk. -/
namespace VS
open PySem PySem.Spec PyProof.Rows L2
section
variable {P : Program} {w : World} {K : PySem.W.Frag} {mg : Str → Option Value} {base : Heap}
abbrev NW : List Str := ["state", "size", "tables", "views", "names", "k", "some", "ahead", "found", "sources", "j", "name", "row"]
theorem sc_lweb : FnScope NW ["state", "size", "tables", "views"] (defScope (topS 44)) := ⟨rfl, rfl, rfl, by decide +kernel, rfl, by decide +kernel, by decide +kernel⟩
/-- the bound of the paths of every web that is drawn -/
structure Few (W : WB) : Prop where
  cnt : ∀ n, (VM.P W.rv n).length ≤ 43
  pool : ∀ x ∈ W.names, x ∈ pool
def spLWeb : Sp := fun vs H Q _ => ∃ (d : Addr) (n : Nat), vs = [.ref d, .int 6, .int 4, .int 5] ∧ StAt H d n ∧ n ≤ 5000 ∧ ∀ v W H2, Bt d H H2 → StAt H2 d (n + 100) → WebAt H2 v W → GoodWeb W → Few W → Q v H2
/-- the sources of a view that is being drawn -/
structure SrcIn (an : List Str) (l : List (Str × Str)) : Prop where
  nd : (l.map (·.1)).Nodup
  ahead : ∀ s ∈ l, s.1 ∈ an
  mode : ∀ s ∈ l, s.2 ∈ modes
theorem Prog.mem {ns : List Str} {m : Nat} {W : WB} (p : Prog ns m W) {x : Str} (h : x ∈ W.names) : x ∈ ns := by
  unfold WB.names at h
  rw [p.tn, p.vn] at h
  rcases List.mem_append.mp h with z | z
  · exact List.mem_of_mem_take z
  · exact List.mem_of_mem_drop (List.mem_of_mem_take z)
theorem SrcIn.good {an : List Str} {l : List (Str × Str)} (p : SrcIn an l) (gw : ∀ x ∈ an, GoodW x) (l1 : 1 ≤ l.length) (l3 : l.length ≤ 3) : GoodS an l := ⟨l1, by omega, fun s hs => gw _ (p.ahead s hs), p.ahead, p.nd, p.mode⟩
theorem SrcIn.snoc {an : List Str} {l : List (Str × Str)} (p : SrcIn an l) {x m : Str} (hx : x ∈ an) (hm : m ∈ modes) (hn : x ∉ l.map (·.1)) : SrcIn an (l ++ [(x, m)]) := by
  refine ⟨?_, fun s hs => ?_, fun s hs => ?_⟩
  · rw [List.map_append, List.nodup_append]
    refine ⟨p.nd, (List.nodup_cons.mpr ⟨List.not_mem_nil, List.nodup_nil⟩), fun a ha b hb e => hn ?_⟩
    have hb2 : b = x := List.mem_singleton.mp hb
    rw [← hb2, ← e]
    exact ha
  · rcases List.mem_append.mp hs with h | h
    · exact p.ahead s h
    · rw [List.mem_singleton.mp h]
      exact hx
  · rcases List.mem_append.mp hs with h | h
    · exact p.mode s h
    · rw [List.mem_singleton.mp h]
      exact hm
theorem ok_lweb (T : Top K mg) : Ok P w K mg base CX0 4 "_law_web" ["state", "size", "tables", "views"] spLWeb := by
  obtain ⟨f, fd, F⟩ := T.at 23
  refine F.ok0 sc_lweb (fun vs H Q E h => ?_) (fun cdv A outer s H vs Q E hr h => ?_)
  · obtain ⟨d, n, rfl, _⟩ := h
    rfl
  · obtain ⟨d, n, rfl, hst, hn, q⟩ := h
    have nd := sc_lweb.nd
    have hr1 : Room 1 _ := hr.mono (by decide)
    have hr2 : Room 2 _ := hr.mono (by decide)
    refine ⟨_, pss_cons (ps_set (i := 4) nd rfl (.inr rfl) (pe_fn (ok_lnames T) hr2 pass0 (pa_cons (pv 0) (pa_cons (pe_op add_ok (pv 2) (pv 3)) pa_nil))))
      (pss_cons (ps_setLc (i := 6) (own := [("k", 5)]) (g := gName 5) (tt := tYes) rfl nd rfl rfl (sw_true rfl rfl rfl (by decide +kernel)) (pi_range1 (by rfl) T.rng (pa_cons (pe_op add_ok pe_int (pe_fn (ok_draw T) hr1 pass0 (pa_cons (pv 0) (pa_cons (pv 2) pa_nil)))) pa_nil))
          (blkOk_by (N := NW) (sc := defScope (topS 44)) (by decide +kernel)) (fun _ _ _ _ _ => pg_name (i := 5) nd rfl (.inl rfl)) (fun _ _ _ _ _ => pts_nil)
          (fun _ _ _ _ _ => pe_tup (pa_cons (pe_ix T.ixL (pv 4) (pv 5) (fun _ _ => rfl)) (pa_cons (pe_fn (ok_lload T) hr pass0 (pa_cons (pv 0) (pa_cons (pv 1) pa_nil))) pa_nil))))
      (pss_cons (ps_par (i := 7) (j := 8) rfl nd rfl rfl (by decide) rfl rfl (pa_cons (pe_lc (own := [("row", 12)]) (g := gName 12) (tt := tYes) rfl nd (pi_list (pv 6)) (blkOk_by (N := NW) (sc := defScope (topS 44)) (by decide +kernel))
          (fun _ _ _ _ _ => pg_name (i := 12) nd rfl (.inl rfl)) (fun _ _ _ _ _ => pts_nil) (fun _ _ _ _ _ => pe_ix T.ixT (pv 12) pe_int (fun _ _ => rfl))) (pa_cons (pe_lst pa_nil) pa_nil)) (by rfl))
      (pss_cons (ps_for PassesOwn.never rfl (pi_range1 (by rfl) T.rng (pa_cons (pe_fn (ok_draw T) hr1 pass0 (pa_cons (pv 0) (pa_cons (pe_op add_ok (pv 3) pe_int) pa_nil))) pa_nil)) (pg_name (i := 5) nd rfl (.inl rfl))
        (pss_cons (ps_set (i := 9) nd rfl (.inl rfl) (pe_lst pa_nil))
        (pss_cons (ps_for PassesOwn.never rfl (pi_range1 (by rfl) T.rng (pa_cons (pe_op add_ok pe_int (pe_fn (ok_draw T) hr1 pass0 (pa_cons (pv 0) (pa_cons pe_int pa_nil)))) pa_nil)) (pg_name (i := 10) nd rfl (.inl rfl))
          (pss_cons (ps_set (i := 11) nd rfl (.inl rfl) (pe_fn (ok_of T) hr2 pass0 (pa_cons (pv 0) (pa_cons (pv 7) pa_nil))))
          (pss_one (ps_if (pt_cmpR T.ninq (pv 11) (pe_lc (own := [("row", 12)]) (g := gName 12) (tt := tYes) rfl nd (pi_list (pv 9)) (blkOk_by (N := NW) (sc := defScope (topS 44)) (by decide +kernel))
              (fun _ _ _ _ _ => pg_name (i := 12) nd rfl (.inl rfl)) (fun _ _ _ _ _ => pts_nil) (fun _ _ _ _ _ => pe_ix T.ixT (pv 12) pe_int (fun _ _ => rfl))) (by rfl))
            (pss_one (ps_expr (pe_bm PySem.F.plainAttrs_list PySem.F.slot_list_append PySem.F.type_list_append app_ok (pv 9) (pa_cons (pe_tup (pa_cons (pv 11) (pa_cons (pe_ix T.ixL (pe_lst (pa_cons pe_str (pa_cons pe_str pa_nil)))
              (pe_fn (ok_draw T) hr1 pass0 (pa_cons (pv 0) (pa_cons pe_int pa_nil))) (fun _ _ => rfl)) pa_nil))) pa_nil)))) pss_nil))))
        (pss_cons (ps_expr (pe_bm PySem.F.plainAttrs_list PySem.F.slot_list_append PySem.F.type_list_append app_ok (pv 8) (pa_cons (pe_tup (pa_cons (pe_ix T.ixL (pv 4) (pe_op add_ok (pv 2) (pv 5)) (fun _ _ => rfl))
            (pa_cons (pe_fn (ok_lbeat T) hr2 pass0 (pa_cons (pv 0) (pa_cons (pv 1) pa_nil))) (pa_cons (pe_callTy tupL_ok (by rfl) T.tup b_tup (pa_cons (pv 9) pa_nil)) pa_nil)))) pa_nil)))
        (pss_one (ps_set (i := 7) nd rfl (.inl rfl) (pe_op cat_ok (pv 7) (pe_lst (pa_cons (pe_ix T.ixL (pv 4) (pe_op add_ok (pv 2) (pv 5)) (fun _ _ => rfl)) pa_nil)))))))))
      (pss_one (ps_ret (pe_tup (pa_cons (pe_callTy tupL_ok (by rfl) T.tup b_tup (pa_cons (pv 6) pa_nil)) (pa_cons (pe_callTy tupL_ok (by rfl) T.tup b_tup (pa_cons (pv 8) pa_nil)) pa_nil)))))))), ?_⟩
    -- names
    refine ⟨_, rfl, _, rfl, _, rfl, r_add ⟨d, n, rfl, hst, by omega, fun na ns H1 b1 st1 nna hna l9 ndn gp => ?_⟩⟩
    have gw : ∀ x ∈ ns, GoodW x := fun x hx => pool_w x (gp x hx)
    -- some = [..]
    refine ⟨_, rfl, _, rfl, d, _, _, rfl, st1, by decide, by decide, by omega, fun r H2 b2 st2 r0 r1 => r_add ⟨1 + r, rfl, by omega, by omega, fun D nD => ?_⟩⟩
    have hna2 := b2.li st1 hna
    have b02 := b1.trans b2
    obtain ⟨m, hm⟩ : ∃ m : Nat, m = (1 + r).toNat := ⟨_, rfl⟩
    have m1 : 1 ≤ m := by omega
    have m4 : m ≤ 4 := by omega
    rw [← hm]
    have sD : Same H2 (upd H2 D (.lst [])) := same_upd nD
    refine lc_it (walk_range (n := m)) (fun i H3 => Bt d H2 H3 ∧ StAt H3 d (n + 3 + 5 * i) ∧ Ot H3 d D ∧ ∃ ts tabs, H3 D = some (.lst ts) ∧ Paired (TabAt H3) ts tabs ∧ tabs.map (·.1) = ns.take i ∧ ∀ t ∈ tabs, GoodL t.2)
      ⟨.of sD, StAt.same sD (st2.mono (by omega)), st2.ot nD, [], [], upd_same, .nil, by rw [List.take_zero]; rfl, fun t ht => by cases ht⟩ (fun _ _ _ _ => True.intro) ?_ ?_
    · rintro i y H3 H4 hi ⟨b3, st3, o3, ts, tabs, hD, pt, et, gt⟩ ⟨rfl, rfl⟩
      have hi9 : i < ns.length := by omega
      have lts : ts.length = i := by
        have e1 := Paired.length pt
        have e2 := congrArg List.length et
        rw [List.length_map, List.length_take] at e2
        omega
      refine ⟨rfl, tyes ⟨_, rfl, _, rfl, r_ixI (b3.li st2 hna2) (by omega) (v := .str ns[i]) ?_ ⟨_, rfl, _, rfl, d, _, _, rfl, st3, by decide, by decide, by omega, fun v b H5 b5 st5 hl gl => ⟨by show 2 ≤ sizeLine; decide, fun tp nt => ?_⟩⟩⟩⟩
      · rw [show (0 + (i : Int)).toNat = i by omega, List.getElem?_map, List.getElem?_eq_getElem hi9]
        rfl
      · have hD5 := b5.li st3 hD
        have dD : D ≠ d := st3.ne hD fun _ z => by cases z
        have s6 : Same H5 (upd H5 tp (.tup [.str ns[i], v])) := same_upd nt
        have st6 := StAt.same s6 st5
        have hD6 := s6 _ _ hD5
        have o6 := Ot.same s6 (b5.o _ _ hD dD o3)
        have neT : tp ≠ D := (ne_of_none hD5 nt).symm
        have k36 := ((b5.kt2 st3).trans (.of s6)).trans (kt_lst (o := .lst (ts ++ [.ref tp])) hD6)
        refine ⟨_, hD6, small100 (by omega), ((b3.trans b5).new nt).mut nD, (st6.li hD6 o6).mono (by omega), o6.keep dD, ts ++ [.ref tp], tabs ++ [(ns[i], b)], upd_same, paired_snoc (L2.Paired.mapP pt fun _ _ => TabAt.kt k36) ⟨tp, v, rfl, ?_, LoadAt.kt ((KT.of s6).trans (kt_lst hD6)) hl⟩, ?_, fun t ht => ?_⟩
        · rw [upd_ne neT, upd_same]
        · rw [List.map_append, et, take_snoc (List.getElem?_eq_getElem hi9)]
          rfl
        · rcases List.mem_append.mp ht with z | z
          · exact gt t z
          · rw [List.mem_singleton.mp z]
            exact gl
    rintro H3 ⟨b3, st3, _, ts, tabs, hD, pt, et, gt⟩
    have b03 := b02.trans b3
    have hna3 := b3.li st2 hna2
    have lt : ts.length = m := by
      have e1 := Paired.length pt
      have e2 := congrArg List.length et
      rw [List.length_map, List.length_take] at e2
      omega
    -- ahead, found = [..], []
    refine ⟨_, rfl, D, rfl, ⟨_, .of hD⟩, fun D2 nD2 => ?_⟩
    refine lc_it (walk_list (xs := ts)) (fun i H4 => Same H3 H4 ∧ H4 D2 = some (.lst (txs ((tabs.map (·.1)).take i)))) ⟨same_upd nD2, upd_same⟩ (fun i H4 _ hq => .of (hq.1 _ _ hD)) ?_ ?_
    · rintro i y H4 H5 hi ⟨sm, hD2⟩ ⟨rfl, hy⟩
      obtain ⟨tb, htb, pp, ll, rfl, hpp, _⟩ := paired_get pt hy
      have htb2 : (tabs.map (·.1))[i]? = some tb.1 := by
        rw [List.getElem?_map, htb]
        rfl
      refine ⟨rfl, tyes ⟨_, rfl, r_ixT 0 (sm _ _ hpp) rfl ⟨_, hD2, ?_, Same.mut sm nD2, ?_⟩⟩⟩
      · rw [List.length_map, List.length_take]
        exact small100 (by omega)
      · rw [upd_same, take_snoc htb2]
        show _ = some (HO.lst (List.map V.str _))
        rw [List.map_append]
        rfl
    rintro H4 ⟨s4, hD2⟩
    have hD2 : H4 D2 = some (.lst (txs (ns.take m))) := by
      rw [hD2, lt, et, List.take_take, Nat.min_self]
    refine ⟨Nat.zero_le _, fun fa nfa => ⟨_, _, rfl, ?_⟩⟩
    have s5 : Same H3 (upd H4 fa (.lst [])) := Same.new s4 nfa
    have hfa5 := upd_same (H := H4) (a := fa) (o := .lst [])
    have o5 : Ot (upd H4 fa (.lst [])) d fa := (StAt.same s4 st3).ot nfa
    have hD25 := (same_upd (o := .lst []) nfa) _ _ hD2
    have st5 := StAt.same s5 st3
    have b05 := b03.trans (.of s5)
    have nfH : H fa = none := (b03.trans (.of s4)).free (StAt.same s4 st3) nfa
    have ne1 : na ≠ fa := ne_of_none (s4 _ _ hna3) nfa
    have ne2 : D ≠ fa := ne_of_none (s4 _ _ hD) nfa
    have ne3 : D2 ≠ fa := ne_of_none hD2 nfa
    have hna5 := s5 _ _ hna3
    have hD5 := s5 _ _ hD
    have pt5 := L2.Paired.mapP pt fun _ _ => TabAt.kt (KT.of s5)
    generalize upd H4 fa (.lst []) = H5 at hfa5 o5 hD25 st5 b05 hna5 hD5 pt5 ⊢
    -- the views
    refine ⟨_, rfl, _, rfl, r_add ⟨d, _, _, rfl, st5, by decide, by decide, by omega, fun r6 H6 b6 st6 r60 r61 => ⟨r6, rfl, by omega, by omega, ?_⟩⟩⟩
    obtain ⟨mv, hmv⟩ : ∃ mv : Nat, mv = r6.toNat := ⟨_, rfl⟩
    have mv5 : mv ≤ 5 := by omega
    rw [← hmv]
    have dfa : fa ≠ d := st5.ne hfa5 fun _ z => by cases z
    refine for_it (walk_range (n := mv)) (fun i σ H7 => ∃ aa us W y5 y9 y10 y11, σ = [some (.ref d), some (.int 6), some (.int 4), some (.int 5), some (.ref na), y5, some (.ref D), some (.ref aa), some (.ref fa), y9, y10, y11, none] ∧ Bt d H H7 ∧ StAt H7 d (n + 24 + 11 * i) ∧
        H7 na = some (.lst (txs ns)) ∧ H7 D = some (.lst ts) ∧ H7 fa = some (.lst us) ∧ Ot H7 d fa ∧ aa ≠ fa ∧ H7 aa = some (.lst (txs (W.tn ++ W.vn))) ∧ Paired (TabAt H7) ts W.tabs ∧ Paired (ViewAt H7) us W.views ∧ Prog ns m W ∧ W.views.length = i)
      ⟨D2, [], ⟨tabs, []⟩, none, none, none, none, rfl, b05.trans b6, st6.mono (by omega), b6.li st5 hna5, b6.li st5 hD5, b6.li st5 hfa5, b6.o _ _ hfa5 dfa o5, ne3, ?_, L2.Paired.mapP pt5 fun _ _ => TabAt.kt (b6.kt2 st5), .nil, ⟨et, rfl, gt, fun i u z => by cases z⟩, rfl⟩ (fun _ _ _ _ _ => True.intro) ?_ ?_
    · rw [b6.li st5 hD25]
      show _ = some (HO.lst (txs (tabs.map (·.1) ++ [])))
      rw [et, List.append_nil]
    · rintro i x σ H7' H7 hi ⟨aa, us, W, y5, y9, y10, y11, rfl, b7, st7, hna7, hD7, hfa7, o7, naf, haa7, pt7, pu7, pg, hlen⟩ ⟨rfl, rfl⟩
      have lus : us.length = i := by
        have e1 := Paired.length pu7
        omega
      have lan : (W.tn ++ W.vn).length ≤ 9 ∧ 1 ≤ (W.tn ++ W.vn).length := by
        rw [List.length_append, pg.tn, pg.vn, List.length_take, List.length_take, List.length_drop]
        omega
      have gan : ∀ x ∈ W.tn ++ W.vn, GoodW x := fun x hx => by
        rw [pg.tn, pg.vn] at hx
        rcases List.mem_append.mp hx with z | z
        · exact gw x (List.mem_of_mem_take z)
        · exact gw x (List.mem_of_mem_drop (List.mem_of_mem_take z))
      refine ⟨Nat.zero_le _, fun so nso => ?_⟩
      have s8 : Same H7 (upd H7 so (.lst [])) := same_upd nso
      have hso8 := upd_same (H := H7) (a := so) (o := .lst [])
      have st8 := StAt.same s8 st7
      have o8 : Ot (upd H7 so (.lst [])) d so := st7.ot nso
      have nefs : fa ≠ so := ne_of_none hfa7 nso
      have nens : na ≠ so := ne_of_none hna7 nso
      have neds : D ≠ so := ne_of_none hD7 nso
      have neas : aa ≠ so := ne_of_none haa7 nso
      generalize upd H7 so (.lst []) = H8 at s8 hso8 st8 o8 ⊢
      have dso : so ≠ d := st8.ne hso8 fun _ z => by cases z
      refine ⟨_, rfl, d, _, _, rfl, st8, by decide, by decide, by omega, fun r9 H9 b9 st9 r90 r91 => r_add ⟨1 + r9, rfl, by omega, by omega, ?_⟩⟩
      obtain ⟨mj, hmj⟩ : ∃ mj : Nat, mj = (1 + r9).toNat := ⟨_, rfl⟩
      have mj1 : 1 ≤ mj := by omega
      have mj3 : mj ≤ 3 := by omega
      rw [← hmj]
      refine for_it (walk_range (n := mj)) (fun j σ H10 => ∃ ss srcs y10 y11, σ = [some (.ref d), some (.int 6), some (.int 4), some (.int 5), some (.ref na), some (.int (0 + (i : Int))), some (.ref D), some (.ref aa), some (.ref fa), some (.ref so), y10, y11, none] ∧ Bt d H7 H10 ∧ StAt H10 d (n + 25 + 11 * i + 2 * j) ∧
          H10 so = some (.lst ss) ∧ Ot H10 d so ∧ Paired (SrcAt H10) ss srcs ∧ SrcIn (W.tn ++ W.vn) srcs ∧ srcs.length ≤ j ∧ (1 ≤ j → 1 ≤ srcs.length))
        ⟨[], [], y10, y11, rfl, (Bt.of s8).trans b9, st9.mono (by omega), b9.li st8 hso8, b9.o _ _ hso8 dso o8, .nil, ⟨List.nodup_nil, fun s z => (by cases z), fun s z => (by cases z)⟩, Nat.zero_le _, fun z => absurd z (Nat.not_succ_le_zero 0)⟩ (fun _ _ _ _ _ => True.intro) ?_ ?_
      · rintro j x σ H10' H10 hj ⟨ss, srcs, y10, y11, rfl, b10, st10, hso, o10, ps, si, hl, hl1⟩ ⟨rfl, rfl⟩
        have lss : ss.length = srcs.length := Paired.length ps
        refine ⟨_, rfl, _, rfl, d, aa, _, _, rfl, st10, b10.li st7 haa7, lan.2, by omega, by omega, fun x H11 b11 st11 hx => ?_⟩
        have hso11 := b11.li st10 hso
        have ps11 := L2.Paired.mapP ps fun _ _ => SrcAt.kt (b11.kt2 st10)
        have o11 := b11.o _ _ hso dso o10
        have b711 := b10.trans b11
        refine ⟨_, rfl, _, rfl, so, rfl, ⟨_, .of hso11⟩, fun D3 nD3 => ?_⟩
        refine lc_it (walk_list (xs := ss)) (fun i H4 => Same H11 H4 ∧ H4 D3 = some (.lst (txs ((srcs.map (·.1)).take i)))) ⟨same_upd nD3, upd_same⟩ (fun i H4 _ hq => .of (hq.1 _ _ hso11)) ?_ ?_
        · rintro i2 y H12 H13 hi2 ⟨sm, hD3⟩ ⟨rfl, hy⟩
          obtain ⟨tb, htb, pp, rfl, hpp⟩ := paired_get ps11 hy
          have htb2 : (srcs.map (·.1))[i2]? = some tb.1 := by
            rw [List.getElem?_map, htb]
            rfl
          refine ⟨rfl, tyes ⟨_, rfl, r_ixT 0 (sm _ _ hpp) rfl ⟨_, hD3, ?_, Same.mut sm nD3, ?_⟩⟩⟩
          · rw [List.length_map, List.length_take]
            exact small100 (by omega)
          · rw [upd_same, take_snoc htb2]
            show _ = some (HO.lst (List.map V.str _))
            rw [List.map_append]
            rfl
        rintro H12 ⟨s12, hD3⟩
        rw [List.take_of_length_le (by rw [List.length_map]; omega)] at hD3
        have b712 := b711.trans (.of s12)
        have st12 := StAt.same s12 st11
        have hso12 := s12 _ _ hso11
        have o12 := Ot.same s12 o11
        have ps12 := L2.Paired.mapP ps11 fun _ _ => SrcAt.kt (KT.of s12)
        cases hb : decide (x ∈ srcs.map (·.1)) with
        | true =>
          have hm : x ∈ srcs.map (·.1) := of_decide_eq_true hb
          have hpos : 1 ≤ srcs.length := by
            cases srcs with
            | nil => cases hm
            | cons a l => exact Nat.succ_le_succ (Nat.zero_le _)
          exact r_ninL hD3 hb ⟨_, rfl, iteF ⟨ss, srcs, _, _, rfl, b712, st12.mono (by omega), hso12, o12, ps12, si, by omega, fun _ => hpos⟩⟩
        | false =>
          have hm : x ∉ srcs.map (·.1) := of_decide_eq_false hb
          refine r_ninL hD3 hb ⟨_, rfl, iteT ⟨_, rfl, .inl ⟨rfl, _, .of hso12⟩, _, rfl, ⟨by show 2 ≤ sizeLine; decide, fun L nL => ⟨_, rfl, d, _, _, rfl, StAt.same (same_upd nL) st12, by decide, by decide, by omega, fun r13 H13 b13 st13 r130 r131 => ?_⟩⟩⟩⟩
          have sL := same_upd (o := .lst [.str "with", .str "ahead"]) nL
          have stL := StAt.same sL st12
          have b1213 := (Bt.of sL).trans b13
          have hL13 := b13.li stL upd_same
          obtain ⟨md, hmd, hget⟩ : ∃ md : Str, md ∈ modes ∧ [V.str "with", .str "ahead"][r13.toNat]? = some (.str md) := by
            obtain rfl | rfl : r13 = 0 ∨ r13 = 1 := by omega
            · exact ⟨"with", List.mem_cons_self, rfl⟩
            · exact ⟨"ahead", List.mem_cons_of_mem _ List.mem_cons_self, rfl⟩
          refine r_ixI hL13 r130 hget ⟨by show 2 ≤ sizeLine; decide, fun tp nt => ?_⟩
          have s14 := same_upd (o := .tup [.str x, .str md]) nt
          have hso13 := b1213.li st12 hso12
          have hso14 := s14 _ _ hso13
          have st14 := StAt.same s14 st13
          have o14 := Ot.same s14 (b1213.o _ _ hso12 dso o12)
          have neT : tp ≠ so := (ne_of_none hso13 nt).symm
          have k14 := ((b1213.kt2 st12).trans (.of s14)).trans (kt_lst (o := .lst (ss ++ [.ref tp])) hso14)
          refine r_app hso14 (small100 (by omega)) ⟨ss ++ [.ref tp], srcs ++ [(x, md)], _, _, rfl, ((b712.trans b1213).new nt).mut nso, (st14.li hso14 o14).mono (by omega), upd_same, o14.keep dso, paired_snoc (L2.Paired.mapP ps12 fun _ _ => SrcAt.kt k14) ⟨tp, rfl, ?_⟩, si.snoc hx hmd hm, ?_, fun _ => ?_⟩
          · rw [upd_ne neT, upd_same]
          · rw [List.length_append]
            show _ + 1 ≤ _
            omega
          · rw [List.length_append]
            show 1 ≤ _ + 1
            omega
      · rintro σ H10 ⟨ss, srcs, y10, y11, rfl, b10, st10, hso, o10, ps, si, hl, hl1⟩
        have hin : (4 + (0 + (i : Int))).toNat = 4 + i := by omega
        have hi9 : 4 + i < ns.length := by omega
        have hget : (txs ns)[(4 + (0 + (i : Int))).toNat]? = some (.str ns[4 + i]) := by
          rw [hin, List.getElem?_map, List.getElem?_eq_getElem hi9]
          rfl
        have hfa10 := b10.li st7 hfa7
        have hna10 := b10.li st7 hna7
        have of10 := b10.o _ _ hfa7 dfa o7
        -- found.append(..)
        refine ⟨_, rfl, .inl ⟨rfl, _, .of hfa10⟩, _, rfl, _, rfl, _, rfl, r_add (r_ixI hna10 (by omega) hget ⟨_, rfl, _, rfl, d, _, _, rfl, st10, by decide, by decide, by omega, fun vb bt H11 b11 st11 hbt gbt => ⟨_, rfl, r_tupL (b11.li st10 hso) fun tl ntl => ⟨by show 3 ≤ sizeLine; decide, fun tp ntp => ?_⟩⟩⟩)⟩
        have s12 := same_upd (o := .tup ss) ntl
        have s13 := Same.new (o := .tup [.str ns[4 + i], vb, .ref tl]) s12 ntp
        have htl := (same_upd (o := .tup [.str ns[4 + i], vb, .ref tl]) ntp) _ _ (upd_same (H := H11) (a := tl) (o := .tup ss))
        have htp := upd_same (H := upd H11 tl (.tup ss)) (a := tp) (o := .tup [.str ns[4 + i], vb, .ref tl])
        have hfa11 := b11.li st10 hfa10
        have hfa13 := s13 _ _ hfa11
        have st13 := StAt.same s13 st11
        have of13 := Ot.same s13 (b11.o _ _ hfa10 dfa of10)
        have k13 : KT H10 (upd (upd H11 tl (.tup ss)) tp (.tup [.str ns[4 + i], vb, .ref tl])) := (b11.kt2 st10).trans (.of s13)
        have hbt13 := BeatAt.kt (KT.of s13) hbt
        have b713 := (b10.trans b11).trans (.of s13)
        generalize upd (upd H11 tl (.tup ss)) tp (.tup [.str ns[4 + i], vb, .ref tl]) = H13 at s13 htl htp hfa13 st13 of13 k13 hbt13 b713 ⊢
        refine r_app hfa13 (small100 (by omega)) ?_
        have k14 := kt_lst (o := .lst (us ++ [.ref tp])) hfa13
        have st14 := st13.li hfa13 (o := .lst (us ++ [.ref tp])) of13
        have hna14 : (upd H13 fa (.lst (us ++ [.ref tp]))) na = some (.lst (txs ns)) := by
          rw [upd_ne ne1]
          exact b713.li st7 hna7
        have hD14 : (upd H13 fa (.lst (us ++ [.ref tp]))) D = some (.lst ts) := by
          rw [upd_ne ne2]
          exact b713.li st7 hD7
        have haa14 : (upd H13 fa (.lst (us ++ [.ref tp]))) aa = some (.lst (txs (W.tn ++ W.vn))) := by
          rw [upd_ne naf]
          exact b713.li st7 haa7
        have b014 : Bt d H (upd H13 fa (.lst (us ++ [.ref tp]))) := (b7.trans b713).mut nfH
        have o14 := of13.keep (o := .lst (us ++ [.ref tp])) dfa
        have hfa14 := upd_same (H := H13) (a := fa) (o := .lst (us ++ [.ref tp]))
        have k714 := (b713.kt2 st7).trans k14
        have htp14 := k14 _ _ htp
        have htl14 := k14 _ _ htl
        have ps14 := L2.Paired.mapP ps fun _ _ => SrcAt.kt (k13.trans k14)
        have hbt14 := BeatAt.kt k14 hbt13
        generalize upd H13 fa (.lst (us ++ [.ref tp])) = H14 at st14 hna14 hD14 haa14 b014 o14 hfa14 k714 htp14 htl14 ps14 hbt14 ⊢
        -- ahead = ahead + [..]
        refine ⟨_, rfl, _, rfl, _, rfl, _, rfl, r_add (r_ixI hna14 (by omega) hget ⟨by show 1 ≤ sizeLine; decide, fun L nL => ?_⟩)⟩
        have s15 := same_upd (o := .lst [.str ns[4 + i]]) nL
        refine r_cat (s15 _ _ haa14) upd_same ?_ fun l nl => ?_
        · rw [List.length_map]
          show _ + 1 ≤ 1000
          omega
        have s16 := Same.new (o := .lst (txs (W.tn ++ W.vn) ++ [.str ns[4 + i]])) s15 nl
        have hl16 := upd_same (H := upd H14 L (.lst [.str ns[4 + i]])) (a := l) (o := .lst (txs (W.tn ++ W.vn) ++ [.str ns[4 + i]]))
        refine ⟨l, us ++ [.ref tp], ⟨W.tabs, W.views ++ [⟨ns[4 + i], bt, srcs⟩]⟩, _, _, _, _, rfl, b014.trans (.of s16), (StAt.same s16 st14).mono (by omega), s16 _ _ hna14, s16 _ _ hD14, s16 _ _ hfa14, Ot.same s16 o14, (ne_of_none (s15 _ _ hfa14) nl).symm, ?_,
          L2.Paired.mapP pt7 fun _ _ => TabAt.kt (k714.trans (.of s16)), paired_snoc (L2.Paired.mapP pu7 fun _ _ => ViewAt.kt (k714.trans (.of s16))) (ViewAt.kt (.of s16) ⟨tp, vb, .ref tl, rfl, htp14, hbt14, tl, ss, rfl, htl14, ps14⟩), ?_, ?_⟩
        · rw [hl16]
          show _ = some (HO.lst (List.map V.str (W.tn ++ (W.views ++ [_]).map VW.name)))
          rw [List.map_append (l₁ := W.views), ← List.append_assoc, List.map_append (l₁ := W.tn ++ _)]
          rfl
        · exact pg.snoc (by rw [hlen]; exact List.getElem?_eq_getElem hi9) gbt (si.good gan (hl1 mj1) (by omega)) (by show srcs.length ≤ 3; omega)
        · show (W.views ++ [_]).length = i + 1
          rw [List.length_append, hlen]
          rfl
    · rintro σ H7 ⟨aa, us, W, y5, y9, y10, y11, rfl, b7, st7, hna7, hD7, hfa7, o7, naf, haa7, pt7, pu7, pg, hlen⟩
      refine ⟨_, rfl, r_tupL hD7 fun t1 n1 => ?_⟩
      have s8 := same_upd (o := .tup ts) n1
      refine ⟨_, rfl, r_tupL (s8 _ _ hfa7) fun t2 n2 => ⟨by show 2 ≤ sizeLine; decide, fun tp n3 => ?_⟩⟩
      have s9 := Same.new (o := .tup us) s8 n2
      have s10 := Same.new (o := .tup [.ref t1, .ref t2]) s9 n3
      have h1 := (same_upd (o := .tup [.ref t1, .ref t2]) n3) _ _ ((same_upd (o := .tup us) n2) _ _ (upd_same (H := H7) (a := t1) (o := .tup ts)))
      have h2 := (same_upd (o := .tup [.ref t1, .ref t2]) n3) _ _ (upd_same (H := upd H7 t1 (.tup ts)) (a := t2) (o := .tup us))
      exact q _ W _ (b7.trans (.of s10)) ((StAt.same s10 st7).mono (by omega)) ⟨tp, t1, t2, ts, us, rfl, upd_same, h1, h2, L2.Paired.mapP pt7 fun _ _ => TabAt.kt (KT.of s10), L2.Paired.mapP pu7 fun _ _ => ViewAt.kt (KT.of s10)⟩
        (pg.good m1 m4 l9 ndn gw (by omega)) ⟨pg.count (by omega), fun x hx => gp x (pg.mem hx)⟩
end
end VS

/-! _law_wide: its web, known but for the beats and the modes. -/
namespace VS
open PySem PySem.Spec PyProof.Rows L2
/-- the signs of a text, as texts -/
def chs (z : Str) : List Str := z.cps.toList.map fun c => ⟨#[c]⟩
def rowsW (last : Str) : List Str := ["abc", "eabc", "feab", "gfea", "hgfe", "ihgf", "jihg", last]
def letsW : Str := "efghijkl"
def nmW : List Str := ["e", "f", "g", "h", "i", "j", "k", "l"]
def tabW : List (Str × Option (Int × Int)) := [("a", none), ("b", none), ("c", none), ("d", none)]
def wideS (last : Str) : List (Str × List Str) := nmW.zip ((rowsW last).map chs)
structure Wide (last : Str) (W : WB) : Prop where
  tabs : W.tabs = tabW
  sv : W.sv = wideS last
  beat : ∀ u ∈ W.views, GoodBeat u.beat
  mode : ∀ u ∈ W.views, ∀ s ∈ u.srcs, s.2 ∈ modes
def lastW : List Str := ["kifa", "kife"]
def wordB (x : Str) : Bool := decide (1 ≤ x.length) && (decide (x.length ≤ 8) && x.cps.toList.all fun c => decide (c ∈ letters.cps.toList))
theorem wordB_ok {x : Str} (h : wordB x = true) : GoodW x := by
  unfold wordB at h
  rw [Bool.and_eq_true, Bool.and_eq_true] at h
  exact ⟨of_decide_eq_true h.1, of_decide_eq_true h.2.1, fun c hc => of_decide_eq_true (List.all_eq_true.mp h.2.2 c hc)⟩
def wideB (last : Str) : Bool := (List.range 8).all fun i =>
  let sn := ((wideS last).getD i ("", [])).2
  decide (1 ≤ sn.length) && (decide (sn.length ≤ 4) && (sn.all wordB && ((sn.all fun x => decide (x ∈ tabW.map (·.1) ++ nmW.take i)) && decide sn.Nodup)))
theorem wideB_ok : ∀ l ∈ lastW, wideB l = true := by decide +kernel
theorem namesB_ok : (tabW.map (·.1) ++ nmW).all wordB = true := by decide +kernel
theorem namesB_nd : (tabW.map (·.1) ++ nmW).Nodup := by decide +kernel
theorem wide_len (l : Str) : (wideS l).length = 8 := by rfl
theorem wide_nm (l : Str) : (wideS l).map (·.1) = nmW := by rfl
section
variable {last : Str} {W : WB} (h : Wide last W)
include h
theorem Wide.vn : W.vn = nmW := by
  have e : W.sv.map (·.1) = W.vn := by
    unfold WB.sv WB.vn
    rw [List.map_map]
    rfl
  rw [← e, h.sv]
  rfl
theorem Wide.tn : W.tn = tabW.map (·.1) := by
  unfold WB.tn
  rw [h.tabs]
theorem Wide.len : W.views.length = 8 := by
  have e : W.sv.length = W.views.length := List.length_map ..
  rw [← e, h.sv]
  rfl
theorem Wide.good (hl : last ∈ lastW) : GoodWeb W := by
  have ln := h.len
  have tl : W.tabs.length = 4 := by
    rw [h.tabs]
    rfl
  have gw : ∀ x ∈ tabW.map (·.1) ++ nmW, GoodW x := fun x hx => wordB_ok (List.all_eq_true.mp namesB_ok x hx)
  refine ⟨by omega, by omega, by omega, fun t ht => ⟨?_, ?_⟩, fun u hu => ⟨?_, h.beat u hu⟩, ?_, fun i u hu => ?_⟩
  · rw [h.tabs] at ht
    exact gw _ (List.mem_append_left _ (List.mem_map.mpr ⟨t, ht, rfl⟩))
  · rw [h.tabs] at ht
    have : ∀ t ∈ tabW, t.2 = none := by decide +kernel
    rw [this t ht]
    exact True.intro
  · have h1 : u.name ∈ W.vn := List.mem_map.mpr ⟨u, hu, rfl⟩
    rw [h.vn] at h1
    exact gw _ (List.mem_append_right _ h1)
  · unfold WB.names
    rw [h.tn, h.vn]
    exact namesB_nd
  · have hi : i < 8 := by
      have := (List.getElem?_eq_some_iff.mp hu).1
      omega
    have e1 : (wideS last)[i]? = some (u.name, u.srcs.map (·.1)) := by
      rw [← h.sv]
      unfold WB.sv
      rw [List.getElem?_map, hu]
      rfl
    have e2 : ((wideS last).getD i ("", [])).2 = u.srcs.map (·.1) := by
      rw [List.getD_eq_getElem?_getD, e1]
      rfl
    have b := List.all_eq_true.mp (wideB_ok last hl) i (List.mem_range.mpr hi)
    simp only [e2, Bool.and_eq_true, decide_eq_true_eq] at b
    obtain ⟨b1, b2, b3, b4, b5⟩ := b
    rw [List.length_map] at b1 b2
    have en : W.tn ++ (W.views.take i).map VW.name = tabW.map (·.1) ++ nmW.take i := by
      rw [h.tn, ← h.vn]
      unfold WB.vn
      rw [List.map_take]
    rw [en]
    refine ⟨b1, b2, fun s hs => wordB_ok (List.all_eq_true.mp b3 s.1 (List.mem_map.mpr ⟨s, hs, rfl⟩)), fun s hs => ?_, b5, fun s hs => h.mode u (List.mem_of_getElem? hu) s hs⟩
    exact of_decide_eq_true (List.all_eq_true.mp b4 s.1 (List.mem_map.mpr ⟨s, hs, rfl⟩))
theorem Wide.rv : W.rv = (wideS last).reverse := by
  unfold WB.rv
  rw [h.sv]
end
theorem cnt_k : ∀ l ∈ lastW, (VM.P (wideS l).reverse ("k" : Str)).length = 152 := by decide +kernel
theorem cnt_j : ∀ l ∈ lastW, (VM.P (wideS l).reverse ("j" : Str)).length = 79 := by decide +kernel
theorem cnt_a : (VM.P (wideS "kifa").reverse ("l" : Str)).length = 200 := by decide +kernel
theorem cnt_e : (VM.P (wideS "kife").reverse ("l" : Str)).length = 202 := by decide +kernel
end VS

/-! _law_wide: the walk. -/
namespace VS
open PySem PySem.Spec PyProof.Rows L2
@[irreducible] def vIxS : R2 := rIxS
theorem ixS_ok {X : Cx} : IxR X vIxS := by
  unfold vIxS
  exact ix_str
theorem r_ixS {z : Str} {j : Nat} {c : Nat} {H : Hp} {Q : VK} (hz : z.length ≤ 100) (e : z.cps.toList[j]? = some c) (q : Q (.str ⟨#[c]⟩) H) : vIxS (.str z) (.int (j : Int)) H Q := by
  unfold vIxS
  refine ⟨z, j, c, rfl, rfl, ?_, atI_nat e, q⟩
  first
    | exact Nat.le_of_lt (small100 hz)
    | exact small100 hz
theorem r_ixSI {z : Str} {i : Int} {c : Nat} {H : Hp} {Q : VK} (hz : z.length ≤ 100) (h0 : 0 ≤ i) (e : z.cps.toList[i.toNat]? = some c) (q : Q (.str ⟨#[c]⟩) H) : vIxS (.str z) (.int i) H Q := by
  have y : ((i.toNat : Nat) : Int) = i := Int.toNat_of_nonneg h0
  have r := r_ixS (Q := Q) hz e q
  rwa [y] at r
section
variable {P : Program} {w : World} {K : PySem.W.Frag} {mg : Str → Option Value} {base : Heap}
abbrev NI : List Str := ["state", "last", "rows", "views", "k", "sources", "name"]
theorem sc_lwide : FnScope NI ["state", "last"] (defScope (topS 47)) := ⟨rfl, rfl, rfl, by decide +kernel, rfl, by decide +kernel, by decide +kernel⟩
def spLWide : Sp := fun vs H Q _ => ∃ (d : Addr) (n : Nat) (l : Str), vs = [.ref d, .str l] ∧ l ∈ lastW ∧ StAt H d n ∧ n ≤ 5000 ∧ ∀ v W H2, Bt d H H2 → StAt H2 d (n + 64) → WebAt H2 v W → Wide l W → Q v H2
theorem row_len : ∀ l ∈ lastW, ∀ i < 8, ((rowsW l).getD i "").cps.size ≤ 4 := by decide +kernel
theorem sv_snoc {l : Str} {vs : List VW} {i : Nat} (hi : i < 8) (e : vs.map (fun u => (u.name, u.srcs.map (·.1))) = (wideS l).take i) {u : VW} (hn : nmW[i]? = some u.name) (hs : chs ((rowsW l).getD i "") = u.srcs.map (·.1)) :
    (vs ++ [u]).map (fun u => (u.name, u.srcs.map (·.1))) = (wideS l).take (i + 1) := by
  have h1 : (wideS l)[i]? = some (u.name, u.srcs.map (·.1)) := by
    unfold wideS
    rw [List.getElem?_zip_eq_some]
    refine ⟨hn, ?_⟩
    have h2 : i < (rowsW l).length := hi
    show ((rowsW l).map chs)[i]? = some (u.srcs.map (·.1))
    rw [List.getElem?_map, List.getElem?_eq_getElem h2, ← hs, List.getD_eq_getElem?_getD, List.getElem?_eq_getElem h2]
    rfl
  rw [take_snoc h1, List.map_append, e]
  rfl
theorem ok_lwide (T : Top K mg) : Ok P w K mg base CX0 3 "_law_wide" ["state", "last"] spLWide := by
  obtain ⟨f, fd, F⟩ := T.at 26
  refine F.ok0 sc_lwide (fun vs H Q E h => ?_) (fun cdv A outer s H vs Q E hr h => ?_)
  · obtain ⟨d, n, l, rfl, _⟩ := h
    rfl
  · obtain ⟨d, n, l, rfl, hl, hst, hn, q⟩ := h
    have nd := sc_lwide.nd
    have hr1 : Room 1 _ := hr.mono (by decide)
    refine ⟨_, pss_cons (ps_par (i := 2) (j := 3) rfl nd rfl rfl (by decide) rfl rfl (pa_cons (pe_lst (pa_cons pe_str (pa_cons pe_str (pa_cons pe_str (pa_cons pe_str (pa_cons pe_str (pa_cons pe_str (pa_cons pe_str (pa_cons (pv 1) pa_nil))))))))) (pa_cons (pe_lst pa_nil) pa_nil)) (by rfl))
      (pss_cons (ps_for PassesOwn.never rfl (pi_range1 (by rfl) T.rng (pa_cons pe_int pa_nil)) (pg_name (i := 4) nd rfl (.inl rfl))
        (pss_cons (ps_set (i := 5) nd rfl (.inl rfl) (pe_callTy tupL_ok (by rfl) T.tup b_tup (pa_cons (pe_lc (own := [("name", 6)]) (g := gName 6) (tt := tYes) rfl nd (pi_str (pe_ix T.ixL (pv 2) (pv 4) (fun _ _ => rfl))) (blkOk_by (N := NI) (sc := defScope (topS 47)) (by decide +kernel))
            (fun _ _ _ _ _ => pg_name (i := 6) nd rfl (.inl rfl)) (fun _ _ _ _ _ => pts_nil) (fun _ _ _ _ _ => pe_tup (pa_cons (pv 6) (pa_cons (pe_ix T.ixL (pe_lst (pa_cons pe_str (pa_cons pe_str pa_nil)))
              (pe_fn (ok_draw T) hr1 pass0 (pa_cons (pv 0) (pa_cons pe_int pa_nil))) (fun _ _ => rfl)) pa_nil)))) pa_nil)))
        (pss_one (ps_expr (pe_bm PySem.F.plainAttrs_list PySem.F.slot_list_append PySem.F.type_list_append app_ok (pv 3) (pa_cons (pe_tup (pa_cons (pe_ix ixS_ok pe_str (pv 4) (fun _ _ => rfl))
            (pa_cons (pe_fn (ok_lbeat T) hr pass0 (pa_cons (pv 0) (pa_cons pe_int pa_nil))) (pa_cons (pv 5) pa_nil)))) pa_nil))))))
      (pss_one (ps_ret (pe_tup (pa_cons (pe_callTy tupL_ok (by rfl) T.tup b_tup (pa_cons (pe_lc (own := [("name", 6)]) (g := gName 6) (tt := tYes) rfl nd (pi_str pe_str) (blkOk_by (N := NI) (sc := defScope (topS 47)) (by decide +kernel))
            (fun _ _ _ _ _ => pg_name (i := 6) nd rfl (.inl rfl)) (fun _ _ _ _ _ => pts_nil) (fun _ _ _ _ _ => pe_tup (pa_cons (pv 6) (pa_cons pe_non pa_nil)))) pa_nil))
        (pa_cons (pe_callTy tupL_ok (by rfl) T.tup b_tup (pa_cons (pv 3) pa_nil)) pa_nil)))))), ?_⟩
    refine ⟨_, rfl, by show 8 ≤ sizeLine; decide, fun ra nra => ⟨Nat.zero_le _, fun va nva => ⟨_, _, rfl, ?_⟩⟩⟩
    have s0 : Same H (upd H ra (.lst (txs (rowsW l)))) := same_upd nra
    have nva0 : (upd H ra (.lst (txs (rowsW l)))) va = none := nva
    have s1 : Same H (upd (upd H ra (.lst (txs (rowsW l)))) va (.lst [])) := Same.new s0 nva0
    have nvH : H va = none := s0.free nva0
    have hra := (same_upd (o := .lst []) nva0) _ _ (upd_same (H := H) (a := ra) (o := .lst (txs (rowsW l))))
    have hva := upd_same (H := upd H ra (.lst (txs (rowsW l)))) (a := va) (o := .lst [])
    have st1 := StAt.same s1 hst
    have o1 : Ot (upd (upd H ra (.lst (txs (rowsW l)))) va (.lst [])) d va := (StAt.same s0 hst).ot nva0
    have nrv : ra ≠ va := ne_of_none (upd_same (H := H) (a := ra) (o := .lst (txs (rowsW l)))) nva0
    have b1 : Bt d H (upd (upd H ra (.lst (txs (rowsW l)))) va (.lst [])) := .of s1
    show tSeq _ _ _ _ (upd (upd H ra (.lst (txs (rowsW l)))) va (.lst []))
    generalize upd (upd H ra (.lst (txs (rowsW l)))) va (.lst []) = H1 at hra hva st1 o1 b1 ⊢
    have dva : va ≠ d := st1.ne hva fun _ z => by cases z
    refine ⟨8, rfl, by decide, by decide, ?_⟩
    refine for_it (walk_range (n := 8)) (fun i σ H2 => ∃ us ws y4 y5, σ = [some (.ref d), some (.str l), some (.ref ra), some (.ref va), y4, y5, none] ∧ Bt d H H2 ∧ StAt H2 d (n + 8 * i) ∧ H2 ra = some (.lst (txs (rowsW l))) ∧ H2 va = some (.lst us) ∧ Ot H2 d va ∧
        Paired (ViewAt H2) us ws ∧ ws.map (fun u => (u.name, u.srcs.map (·.1))) = (wideS l).take i ∧ (∀ u ∈ ws, GoodBeat u.beat) ∧ ∀ u ∈ ws, ∀ s ∈ u.srcs, s.2 ∈ modes)
      ⟨[], [], none, none, rfl, b1, st1, hra, hva, o1, .nil, rfl, fun u z => (by cases z), fun u z => (by cases z)⟩ (fun _ _ _ _ _ => True.intro) ?_ ?_
    · rintro i x σ H2' H2 hi ⟨us, ws, y4, y5, rfl, b2, st2, hra2, hva2, o2, pu, ew, gb, gm⟩ ⟨rfl, rfl⟩
      have lus : us.length = i := by
        have e1 := Paired.length pu
        have e2 := congrArg List.length ew
        rw [List.length_map, List.length_take, wide_len] at e2
        omega
      have hi2 : i < (rowsW l).length := hi
      obtain ⟨z, hz⟩ : ∃ z, z = (rowsW l).getD i "" := ⟨_, rfl⟩
      have zl : z.cps.size ≤ 4 := by
        rw [hz]
        exact row_len l hl i hi
      have hget : (txs (rowsW l))[(0 + (i : Int)).toNat]? = some (.str z) := by
        rw [show (0 + (i : Int)).toNat = i by omega, List.getElem?_map, List.getElem?_eq_getElem hi2, hz, List.getD_eq_getElem?_getD, List.getElem?_eq_getElem hi2]
        rfl
      refine ⟨_, rfl, _, rfl, r_ixI hra2 (by omega) hget ⟨z, rfl, fun D nD => ?_⟩⟩
      have sD : Same H2 (upd H2 D (.lst [])) := same_upd nD
      refine lc_it walk_str (fun j H3 => Bt d H2 H3 ∧ StAt H3 d (n + 8 * i + j) ∧ Ot H3 d D ∧ ∃ ss srcs, H3 D = some (.lst ss) ∧ Paired (SrcAt H3) ss srcs ∧ srcs.map (·.1) = (chs z).take j ∧ ∀ s ∈ srcs, s.2 ∈ modes)
        ⟨.of sD, StAt.same sD st2, st2.ot nD, [], [], upd_same, .nil, by rw [List.take_zero]; rfl, fun s z => (by cases z)⟩ (fun _ _ _ _ => True.intro) ?_ ?_
      · rintro j y H3' H3 hj ⟨b3, st3, o3, ss, srcs, hD, ps, es, ms⟩ ⟨rfl, c, hc, rfl⟩
        have hcj : (chs z)[j]? = some ⟨#[c]⟩ := by
          unfold chs
          rw [List.getElem?_map, Array.getElem?_toList, hc]
          rfl
        have lss : ss.length = j := by
          have e1 := Paired.length ps
          have e2 := congrArg List.length es
          have e3 : (chs z).length = z.cps.size := by
            unfold chs
            rw [List.length_map, Array.length_toList]
          rw [List.length_map, List.length_take, e3] at e2
          omega
        refine ⟨rfl, tyes ⟨_, rfl, by show 2 ≤ sizeLine; decide, fun L nL => ⟨_, rfl, d, _, _, rfl, StAt.same (same_upd nL) st3, by decide, by decide, by omega, fun r4 H4 b4 st4 r40 r41 => ?_⟩⟩⟩
        have sL := same_upd (o := .lst [.str "with", .str "ahead"]) nL
        have stL := StAt.same sL st3
        have b34 := (Bt.of sL).trans b4
        obtain ⟨md, hmd, hgetm⟩ : ∃ md : Str, md ∈ modes ∧ [V.str "with", .str "ahead"][r4.toNat]? = some (.str md) := by
          obtain rfl | rfl : r4 = 0 ∨ r4 = 1 := by omega
          · exact ⟨"with", List.mem_cons_self, rfl⟩
          · exact ⟨"ahead", List.mem_cons_of_mem _ List.mem_cons_self, rfl⟩
        refine r_ixI (b4.li stL upd_same) r40 hgetm ⟨by show 2 ≤ sizeLine; decide, fun tp nt => ?_⟩
        have dD : D ≠ d := st3.ne hD fun _ z => by cases z
        have s5 := same_upd (o := .tup [.str ⟨#[c]⟩, .str md]) nt
        have hD4 := b34.li st3 hD
        have hD5 := s5 _ _ hD4
        have st5 := StAt.same s5 st4
        have o5 := Ot.same s5 (b34.o _ _ hD dD o3)
        have neT : tp ≠ D := (ne_of_none hD4 nt).symm
        have k35 := ((b34.kt2 st3).trans (.of s5)).trans (kt_lst (o := .lst (ss ++ [.ref tp])) hD5)
        refine ⟨_, hD5, small100 (by omega), ((b3.trans b34).new nt).mut nD, (st5.li hD5 o5).mono (by omega), o5.keep dD, ss ++ [.ref tp], srcs ++ [(⟨#[c]⟩, md)], upd_same, paired_snoc (L2.Paired.mapP ps fun _ _ => SrcAt.kt k35) ⟨tp, rfl, ?_⟩, ?_, fun s hs => ?_⟩
        · rw [upd_ne neT, upd_same]
        · rw [List.map_append, es, take_snoc hcj]
          rfl
        · rcases List.mem_append.mp hs with q1 | q1
          · exact ms s q1
          · rw [List.mem_singleton.mp q1]
            exact hmd
      rintro H3 ⟨b3, st3, _, ss, srcs, hD, ps, es, ms⟩
      rw [List.take_of_length_le (by unfold chs; rw [List.length_map, Array.length_toList]; exact Nat.le_refl _)] at es
      refine r_tupL hD fun tl ntl => ?_
      have s4 := same_upd (o := .tup ss) ntl
      have b24 := b3.trans (.of s4)
      have st4 := StAt.same s4 st3
      have htl := upd_same (H := H3) (a := tl) (o := .tup ss)
      have ps4 := L2.Paired.mapP ps fun _ _ => SrcAt.kt (KT.of s4)
      generalize upd H3 tl (.tup ss) = H4 at b24 st4 htl ps4 ⊢
      have hva4 := b24.li st2 hva2
      have hnm : nmW[i]? = some ⟨#[letsW.cps.toList.getD i 0]⟩ := by
        have : ∀ i < 8, nmW[i]? = some (⟨#[letsW.cps.toList.getD i 0]⟩ : Str) := by decide +kernel
        exact this i hi
      have hlc : letsW.cps.toList[i]? = some (letsW.cps.toList.getD i 0) := by
        have : ∀ i < 8, letsW.cps.toList[i]? = some (letsW.cps.toList.getD i 0) := by decide +kernel
        exact this i hi
      refine ⟨_, rfl, .inl ⟨rfl, _, .of hva4⟩, _, rfl, ?_⟩
      refine r_ixSI (by decide) (by omega) (by rw [show (0 + (i : Int)).toNat = i by omega]; exact hlc) ⟨_, rfl, d, _, _, rfl, st4, by decide, by decide, by omega, fun vb bt H5 b5 st5 hbt gbt => ⟨_, rfl, by show 3 ≤ sizeLine; decide, fun tp ntp => ?_⟩⟩
      have s6 := same_upd (o := .tup [.str ⟨#[letsW.cps.toList.getD i 0]⟩, vb, .ref tl]) ntp
      have hva6 := s6 _ _ (b5.li st4 hva4)
      have htp := upd_same (H := H5) (a := tp) (o := .tup [.str ⟨#[letsW.cps.toList.getD i 0]⟩, vb, .ref tl])
      have st6 := StAt.same s6 st5
      have o6 := Ot.same s6 ((b24.trans b5).o _ _ hva2 dva o2)
      have k7 := kt_lst (o := .lst (us ++ [.ref tp])) hva6
      have k46 := ((b5.kt2 st4).trans (.of s6)).trans k7
      have k26 := (b24.kt2 st2).trans k46
      refine r_app hva6 (small100 (by omega)) ⟨us ++ [.ref tp], ws ++ [⟨⟨#[letsW.cps.toList.getD i 0]⟩, bt, srcs⟩], _, _, rfl, (((b2.trans b24).trans b5).new ntp).mut nvH, (st6.li hva6 o6).mono (by omega), ?_, upd_same, o6.keep dva,
        paired_snoc (L2.Paired.mapP pu fun _ _ => ViewAt.kt k26) ⟨tp, vb, .ref tl, rfl, k7 _ _ htp, BeatAt.kt ((KT.of s6).trans k7) hbt, tl, ss, rfl, k46 _ _ htl, L2.Paired.mapP ps4 fun _ _ => SrcAt.kt k46⟩, sv_snoc hi ew hnm (by rw [← hz]; exact es.symm), fun u hu => ?_, fun u hu => ?_⟩
      · rw [upd_ne nrv]
        exact s6 _ _ ((b24.trans b5).li st2 hra2)
      · rcases List.mem_append.mp hu with q1 | q1
        · exact gb u q1
        · rw [List.mem_singleton.mp q1]
          exact gbt
      · rcases List.mem_append.mp hu with q1 | q1
        · exact gm u q1
        · rw [List.mem_singleton.mp q1]
          exact ms
    · rintro σ H2 ⟨us, ws, y4, y5, rfl, b2, st2, hra2, hva2, o2, pu, ew, gb, gm⟩
      refine ⟨_, rfl, fun D nD => ?_⟩
      refine lc_it walk_str (fun j H3 => Same H2 H3 ∧ ∃ ts, H3 D = some (.lst ts) ∧ Paired (TabAt H3) ts (tabW.take j))
        ⟨same_upd nD, [], upd_same, by rw [List.take_zero]; exact .nil⟩ (fun _ _ _ _ => True.intro) ?_ ?_
      · rintro j y H3' H3 hj ⟨s3, ts, hD, pt⟩ ⟨rfl, c, hc, rfl⟩
        have hj4 : j < 4 := hj
        have hcj : tabW[j]? = some (⟨#[c]⟩, none) := by
          have h1 : ∀ j < 4, tabW[j]? = some ((⟨#[("abcd" : Str).cps.getD j 0]⟩ : Str), none) := by decide +kernel
          have h2 : ("abcd" : Str).cps.getD j 0 = c := by
            rw [Array.getD_eq_getD_getElem?, hc]
            rfl
          rw [h1 j hj4, h2]
        have lts : ts.length ≤ 4 := by
          have e1 := Paired.length pt
          rw [List.length_take] at e1
          omega
        refine ⟨rfl, tyes ⟨_, rfl, by show 2 ≤ sizeLine; decide, fun tp nt => ?_⟩⟩
        have s5 := same_upd (o := .tup [.str ⟨#[c]⟩, .non]) nt
        have hD5 := s5 _ _ hD
        have neT : tp ≠ D := (ne_of_none hD nt).symm
        have k5 := (KT.of s5).trans (kt_lst (o := .lst (ts ++ [.ref tp])) hD5)
        refine ⟨_, hD5, small100 (by omega), Same.mut (Same.new s3 nt) nD, ts ++ [.ref tp], upd_same, ?_⟩
        rw [take_snoc hcj]
        exact paired_snoc (L2.Paired.mapP pt fun _ _ => TabAt.kt k5) ⟨tp, .non, rfl, by rw [upd_ne neT, upd_same], rfl⟩
      rintro H3 ⟨s3, ts, hD, pt⟩
      have pt : Paired (TabAt H3) ts tabW := pt
      refine r_tupL hD fun t1 n1 => ?_
      have s4 := Same.new (o := .tup ts) s3 n1
      refine ⟨_, rfl, r_tupL (s4 _ _ hva2) fun t2 n2 => ⟨by show 2 ≤ sizeLine; decide, fun tp n3 => ?_⟩⟩
      have s5 := Same.new (o := .tup us) s4 n2
      have s6 := Same.new (o := .tup [.ref t1, .ref t2]) s5 n3
      have s36 : Same H3 (upd (upd (upd H3 t1 (.tup ts)) t2 (.tup us)) tp (.tup [.ref t1, .ref t2])) := Same.new (Same.new (same_upd n1) n2) n3
      have h1 := (same_upd (o := .tup [.ref t1, .ref t2]) n3) _ _ ((same_upd (o := .tup us) n2) _ _ (upd_same (H := H3) (a := t1) (o := .tup ts)))
      have h2 := (same_upd (o := .tup [.ref t1, .ref t2]) n3) _ _ (upd_same (H := upd H3 t1 (.tup ts)) (a := t2) (o := .tup us))
      refine q _ ⟨tabW, ws⟩ _ (b2.trans (.of s6)) ((StAt.same s6 st2).mono (by omega)) ⟨tp, t1, t2, ts, us, rfl, upd_same, h1, h2, L2.Paired.mapP pt fun _ _ => TabAt.kt (KT.of s36), L2.Paired.mapP pu fun _ _ => ViewAt.kt (KT.of s6)⟩ ⟨rfl, ?_, gb, gm⟩
      show ws.map _ = _
      rw [ew]
      rfl
end
end VS

/-! A caught exception that is kept: the except clause with a tuple of classes, the tracked exception. -/
namespace VX
open PySem PySem.Spec PySem.Calls PyProof.Rows
section
variable {M : Model} {A : Around} {E : Value → Shared → Prop} {s : Shared}
theorem loop_skip {f : Value → PUnit → Sem (ForInStep PUnit)} {Q : PUnit → Shared → Prop} : ∀ {cs : List Value}, (∀ c ∈ cs, ∀ R : ForInStep PUnit → Shared → Prop, R (.yield ⟨⟩) s → wpAny M A (f c ⟨⟩) R E s) → Q ⟨⟩ s → wpAny M A (forIn cs ⟨⟩ f) Q E s
  | [], _, q => by
    rw [List.forIn_nil]
    exact wpAny_pure q
  | c :: r, h, q => by
    rw [List.forIn_cons]
    refine wpAny_bind (h c List.mem_cons_self _ ?_)
    exact loop_skip (fun c' hc => h c' (List.mem_cons_of_mem _ hc)) q
theorem loop_find {β : Type} {f : Value → β → Sem (ForInStep β)} {b0 bt : β} {Q : β → Shared → Prop} {w : Value → Bool} : ∀ {cs : List Value}, (∀ c ∈ cs, ∀ R : ForInStep β → Shared → Prop, R (if w c = true then .done bt else .yield b0) s → wpAny M A (f c b0) R E s) → Q (if cs.any w = true then bt else b0) s → wpAny M A (forIn cs b0 f) Q E s
  | [], _, q => by
    rw [List.forIn_nil]
    exact wpAny_pure q
  | c :: r, h, q => by
    rw [List.forIn_cons]
    refine wpAny_bind (h c List.mem_cons_self _ ?_)
    cases hw : w c with
    | true =>
      have e : (c :: r).any w = true := by simp [hw]
      rw [e] at q
      exact wpAny_pure q
    | false =>
      have e : (c :: r).any w = r.any w := by simp [hw]
      rw [e] at q
      exact loop_find (fun c' hc => h c' (List.mem_cons_of_mem _ hc)) q
end
section
variable {M : Model} {K : PySem.W.Frag}
theorem exmAny_bits {cls : Value} : ∀ {cs : List Value} {b : Bool}, PySem.W.exmAny K cls cs = some b → (∀ c ∈ cs, ∃ v, PySem.W.exmOne K cls c = some v) ∧ b = cs.any fun c => (PySem.W.exmOne K cls c).getD false
  | [], b, h => by
    have h2 : some false = some b := h
    cases h2
    exact ⟨fun c hc => (by cases hc), rfl⟩
  | c :: r, b, h => by
    obtain ⟨b1, d1, h1, h2, e⟩ := PySem.W.exmAny_cons h
    obtain ⟨k1, k2⟩ := exmAny_bits h2
    refine ⟨fun c' hc => ?_, ?_⟩
    · rcases List.mem_cons.mp hc with z | z
      · rw [z]
        exact ⟨b1, h1⟩
      · exact k1 c' z
    · rw [List.any_cons, h1, e, k2]
      rfl
/-- except (C, ..) -/
theorem exm_tupN {cls : Value} {cs : List Value} {tp e : Addr} {b : Bool} {h : Heap} (X : K.In h) (LT : PySem.W.Looks M h (typeOf (.ref e)) cls) (hp : h.get? tp = some { cls := .type "tuple", data := .seq cs.toArray }) (hx : PySem.W.exmAny K cls cs = some b) :
    PySem.W.Looks M h (excMatches (.ref e) (.ref tp)) b := by
  intro A Q E s k₀ q
  obtain ⟨hh, g, d, tk, os⟩ := s
  have k : ∀ b o, h.get? b = some o → hh.get? b = some o := k₀
  have LT0 : PySem.W.Looks M h (isInstance (.ref tp) (.type "tuple")) true := ((PySem.W.Looks.ld hp).andThen .now).andThen (PySem.W.Looks.of_pure isSubtype_tuple_tuple)
  obtain ⟨hb, eb⟩ := exmAny_bits hx
  have LT := LT.keeps k
  have LT0 := LT0.keeps k
  have hp' := k _ _ hp
  unfold excMatches
  refine wpAny_bind (LT0.at ?_)
  dsimp only
  rw [if_pos rfl]
  first
    | refine wpAny_bind (wpAny_seqItems hp' rfl ?_)
    | refine wpAny_bind (wpAny_bind (wpAny_seqItems hp' rfl (wpAny_pure ?_)))
  dsimp only [Option.getD_some, Option.getD]
  refine wpAny_bind (wpAny_pure (wpAny_bind (loop_skip (fun c hc R hR => ?_) ?_)))
  rotate_left
  · refine wpAny_bind (LT.at (wpAny_bind (loop_find (bt := (some true, ())) (w := fun c => (PySem.W.exmOne K cls c).getD false) (fun c hc R hR => ?_) ?_)))
    · obtain ⟨v, hv⟩ := hb c hc
      refine wpAny_bind (((PySem.W.exm_cls (M := M) X hv).2.keeps k).at ?_)
      have e1 : (PySem.W.exmOne K cls c).getD false = v := by rw [hv]; rfl
      rw [e1] at hR
      cases v with
      | true =>
        rw [if_pos rfl] at hR ⊢
        exact wpAny_pure hR
      | false =>
        rw [if_neg Bool.false_ne_true] at hR ⊢
        exact wpAny_pure hR
    · rw [← eb]
      cases b with
      | true => exact wpAny_pure q
      | false => exact wpAny_pure q
  · obtain ⟨v, hv⟩ := hb c hc
    refine wpAny_bind (((PySem.W.exm_cls (M := M) X hv).1.keeps k).at ?_)
    rw [if_neg (by decide)]
    exact wpAny_pure hR
end
end VX
namespace VS
open PySem PySem.Spec PyProof.Rows L2
/-- a caught exception that is kept: its class, its dict -/
def ExP (a : Addr) (cls : Value) (d : Option Addr) : Heap → Prop := fun h => ∃ (oe : Obj) (vs : Array Value), h.get? a = some oe ∧ Zc cls d oe ∧ oe.data = .fields vs
theorem fly_grow {B h h' : Heap} {l : List Env} {a : Addr} {Z : Obj → Prop} (f : HandSPX.FlyingZ B l a Z h) (k : ∀ b o, h.get? b = some o → h'.get? b = some o) : HandSPX.FlyingZ B l a Z h' := by
  obtain ⟨f1, f2, f3, oe, vs, T, oT, ts, he, hz, hd, h1, hn, hne, hT, hdT, h3⟩ := f
  exact ⟨fun b o e => k b o (f1 b o e), f2, f3.of_keeps fun b o e _ => ⟨o, k b o e, rfl⟩, oe, vs, T, oT, ts, k _ _ he, hz, hd, h1, hn, hne, k _ _ hT, hdT, h3⟩
section
variable {X : Cx} {pins pins' : List (Addr × Obj)} {σ σ' : L2.St} {H H' : Hp} {s sI : Shared} {a : Addr} {oe : Obj} {cls : Value} {d : Option Addr}
/-- the exception is tracked from now on; J: the state before it was -/
theorem inv_track (I : Inv X ((a, oe) :: pins) σ H s) (hz : Zc cls d oe) (hd : ∃ vs, oe.data = .fields vs) (J : Inv X pins σ' H' sI) (na : sI.heap.get? a = none) : Inv X pins σ (upd H a (.ext (ExP a cls d))) s := by
  obtain ⟨ha, hH, nL, nF, _⟩ := I.pin (a, oe) (List.mem_append_right _ List.mem_cons_self)
  have ne : ∀ {b : Addr} {o : Obj}, sI.heap.get? b = some o → b ≠ a := fun {b o} e z => by
    rw [z, na] at e
    cases e
  have neH : ∀ {b : Addr} {o : HO}, H b = some o → b ≠ a := fun {b o} e z => by
    rw [z] at e
    rw [hH] at e
    cases e
  obtain ⟨vs, hd⟩ := hd
  refine ⟨I.ok, I.os, I.bare, ⟨I.base.keep, I.base.slot, fun b o e n hx => ?_, I.base.there, fun b xs e => ?_, fun b o u e => ?_, fun b ps e => ?_⟩, I.loc, I.cell, ?_, fun x c e => ?_, fun p hp => ?_, fun b o e => ?_, I.len⟩
  · obtain ⟨o2, e2⟩ := J.base.there b o e hx
    rw [upd_ne (ne e2)]
    exact I.base.free b o e n hx
  · have e2 := I.base.tups b xs e
    rw [upd_ne (neH e2)]
    exact e2
  · have e2 := I.base.frzs b o u e
    rw [upd_ne (neH e2)]
    exact e2
  · obtain ⟨more, e2⟩ := I.base.tbls b ps e
    exact ⟨more, by rw [upd_ne (neH e2)]; exact e2⟩
  · rw [upd_ne nL.symm]
    exact I.free
  · obtain ⟨v, o, ho, _⟩ := J.cell x c e
    rw [upd_ne (ne ho)]
    exact I.freeC x c e
  · have hp2 : p ∈ X.pn ++ pins := hp
    obtain ⟨e1, _⟩ := J.pin p hp2
    obtain ⟨q1, q2, q3⟩ := I.pin p (by
      rcases List.mem_append.mp hp2 with z | z
      · exact List.mem_append_left _ z
      · exact List.mem_append_right _ (List.mem_cons_of_mem _ z))
    exact ⟨q1, by rw [upd_ne (ne e1)]; exact q2, q3⟩
  · by_cases hb : b = a
    · subst hb
      rw [upd_same] at e
      obtain rfl := Option.some.inj e
      exact ⟨⟨oe, vs, ha, hz, hd⟩, ⟨oe, ha⟩, fun h1 h2 ⟨oe, vs, q1, q2, q3⟩ st => ⟨oe, vs, st _ q1, q2, q3⟩⟩
    · rw [upd_ne hb] at e
      exact (I.hok b o e).stay (fun _ _ _ q => q) (fun c q => by rw [upd_ne (neH q)]; exact q) fun c xs q => by rw [upd_ne (neH q)]; exact q
end
end VS

/-! try: body / except (C, ..) as n: suite; the exception is kept behind the suite. -/
namespace VS
open PySem PySem.Spec PyProof.Rows L2
/-- a tuple of names of classes -/
inductive CNames (X : Cx) : List Expr → List Value → Prop
  | nil : CNames X [] []
  | cons {x : Str} {c : Value} {p : Pos} {es : List Expr} {cs : List Value} (hg : Gl X x) (hm : X.mg x = some c) (hd : (x == ("__debug__" : Str)) = false) (r : CNames X es cs) : CNames X (.Name x p :: es) (c :: cs)
theorem cnames_run {X : Cx} {Y : Cx} {pins : List (Addr × Obj)} {σ : L2.St} {H : Hp} {s : Shared} {E : Value → Shared → Prop} {pos : Pos} (I : Inv Y pins σ H s) (he : Y.env = X.env) (hp : Y.prog = X.prog) (hw : Y.w = X.w) (hm : Y.mg = X.mg) :
    ∀ {es : List Expr} {cs : List Value} {A : Around} {Q : List Value → Shared → Prop}, CNames X es cs → Q cs s → wpAny (model X.prog X.w) A (spliced (backTo pos (starEach es X.env))) Q E s
  | _, _, _, _, .nil, q => Calls.spliced_nil q
  | _, _, A, Q, .cons (x := x) (c := c) (p := p) (es := es) hg hmx hd r, q => by
    show wpAny _ _ (spliced ((false, eval (.Name x p) X.env) :: backTo pos (starEach es X.env))) _ _ _
    refine Calls.spliced_cons ?_
    rw [← hp, ← hw, ← he]
    refine Calls.Name_function_global I.ok.kind (by rw [he]; exact hg) (Calls.loadGlobal_global (by rw [I.ok.glob]; exact I.mod.glob.keeps I.bk) (by rw [hm]; exact hmx) ?_) hd
    rw [hp, hw, he]
    exact cnames_run I he hp hw hm r q
/-- the wish of the clause -/
def wHeld (K : PySem.W.Frag) (cs : List Value) (i : Nat) (ts : Addr → Value → Option Addr → TS) (D : Ends) : WX := fun cls d σ H => PySem.W.exmAny K cls cs = some true ∧
  ∀ a, H a = none → ts a cls d { nx := fun σ' H' => H' a = none → D.nx (σ'.set i none) (upd H' a (.ext (ExP a cls d))), rt := fun _ _ => False, bk := fun _ _ => False, ct := fun _ _ => False } (σ.set i (some (.ref a))) H
/-- an exception is no frame -/
theorem off_frames {h B : Heap} {l : List Env} {a : Addr} {o : Obj} {us : Array Value} (ff : h.FunFrames B l) (e : h.get? a = some o) (dd : o.data = .fields us) : a ∉ frs l := fun hm => by
  obtain ⟨_, o2, e2, no⟩ := ff.mem hm
  have z : o = o2 := Option.some.inj (e.symm.trans e2)
  exact no us (z ▸ dd)
section
variable {X : Cx} {n : Str} {cs : List Value} {i : Nat} {es : List Expr} {kk : Nat} {body suite : List Stmt} {b₀ : Stmt} {tpos pos pos' : Pos} {tb : WX → TS} {ts : Addr → Value → Option Addr → TS}
/-- what the suite of the clause keeps -/
def SuiteOk (X : Cx) (b₀ : Stmt) (suite : List Stmt) (ts : Addr → Value → Option Addr → TS) : Prop := ∀ (a : Addr) (oe : Obj) (cls : Value) (d : Option Addr) (pn : List (Addr × Obj)), Zc cls d oe → (∃ us, oe.data = .fields us) → PSs (X.suite a ((a, oe) :: pn)) (b₀ :: suite) (ts a cls d)
/-- the clause at an exception a that landed; sI: the state without it -/
theorem held_clause (hN : X.N.Nodup) (hi : X.N[i]? = some n) (hln : X.env.kindOf n = some .local) (hc : CNames X es cs) (hlc : cs.length ≤ 100) (hsu : SuiteOk X b₀ suite ts)
    {pins : List (Addr × Obj)} {τ : L2.St} {G : Hp} {sI s' : Shared} {B h : Heap} {a : Addr} {cls : Value} {d : Option Addr} {D : Ends} (J : Inv X pins τ G sI) (hs : X.stack = X.env :: X.outer) (hf : X.env.frame = some X.env.locals)
    (nb : ∀ b o, sI.heap.get? b = some o → b ∉ frs X.stack → B.get? b = some o) (up : sI.heap.UpToSlots h) (fl : HandSPX.FlyingZ B (X.env :: X.outer) a (Zc cls d) h) (os : s'.os = sI.os) (ag : AllBare s'.gens) (na : G a = none) (w : wHeld X.K cs i ts D cls d τ G) :
    wpAny (model X.prog X.w) X.A (handleBy (.ref a) X.env [.ExceptHandler (some (.Tuple es kk tpos)) (some n) (b₀ :: suite) pos']) (SP X pins D) X.xe { s' with heap := h } := by
  obtain ⟨hm, wish⟩ := w
  have J1 : Inv X pins τ G { s' with heap := h } := J.landed nb fl.1 up os ag
  obtain ⟨o1, us1, at1, z1, d1⟩ := fl.there
  have out := off_frames fl.2.2.1 at1 d1
  have outL : a ≠ X.env.locals := fun z => out (List.mem_filterMap.mpr ⟨X.env, List.mem_cons_self, hf.trans (congrArg some z.symm)⟩)
  have outF : a ∉ X.fs := fun z => by
    obtain ⟨en, q1, q2⟩ := List.mem_filterMap.mp z
    exact out (List.mem_filterMap.mpr ⟨en, List.mem_cons_of_mem _ q1, q2⟩)
  have fresh : sI.heap.get? a = none := by
    cases q : sI.heap.get? a with
    | none => rfl
    | some o =>
      have z := nb a o q (hs ▸ out)
      rw [fl.2.1] at z
      cases z
  -- the test: the tuple of the classes is new
  refine wpAny_handleBy_cons (codeAny_handlers_test (wpAny_Tuple_spliced (cnames_run (X := X) (J1.suite at1 d1 na outL outF) rfl rfl rfl rfl hc ⟨Nat.le_of_lt (small100 hlc), ?_⟩))) (fun z => by cases z)
  obtain ⟨h2, eh2⟩ : ∃ h2, h2 = h.push { cls := .type "tuple", data := .seq cs.toArray } := ⟨_, rfl⟩
  have grow : ∀ b o, h.get? b = some o → h2.get? b = some o := fun b o e => by
    rw [eh2]
    exact Heap.get?_push_of_some _ e
  have tup : h2.get? h.objs.size = some { cls := .type "tuple", data := .seq cs.toArray } := by
    rw [eh2]
    exact Heap.get?_push_size _ rfl
  rw [← eh2]
  have kind : PySem.W.Looks (model X.prog X.w) h2 (typeOf (.ref a)) cls := fun _ _ _ _ k q => wpAny_typeOf_ref (k _ _ (grow _ _ at1)) (by rw [z1.1]; exact q)
  refine (VX.exm_tupN (M := model X.prog X.w) (J1.kIn.keeps grow) kind tup hm).here (codeAny_handlers_suite_as ?_)
  -- the suite
  refine HandSPX.lands_againZ (fly_grow fl grow) fun h3 fl3 up3 => ?_
  have J3 : Inv X pins τ G { s' with heap := h3 } := J.landed nb fl3.1 ((up.trans fun b o e _ => ⟨o.slots, grow b o e⟩).trans up3) os ag
  obtain ⟨o3, us3, at3, z3, d3⟩ := fl3.there
  refine store_ok (X := X.suite a ((a, o3) :: (X.pn ++ pins))) (v := .ref a) (J3.suite at3 d3 na outL outF) hN hi (.inl hln) rfl (fun s4 S4 => ?_) (.inr hln)
  refine wpAny_mono ((hsu a o3 cls d (X.pn ++ pins) z3 ⟨_, d3⟩).run [] s4 _ G _ S4 (wish a na)) (fun fl5 s5 end5 => ?_) (fun _ _ z => z.elim)
  match fl5, end5 with
  | .brk, ⟨_, _, _, q5⟩ => exact q5.elim
  | .cont, ⟨_, _, _, q5⟩ => exact q5.elim
  | .ret _, ⟨_, _, _, _, _, q5⟩ => exact q5.elim
  | .next, ⟨τ5, G5, S5, q5⟩ =>
    have own := S5.pin (a, o3) (List.mem_append_left _ List.mem_cons_self)
    have back := S5.unsuite J.ok
    have J5 : Inv X ((a, o3) :: pins) τ5 G5 s5 := back.pins_of fun p hp => (List.mem_cons.mp hp).elim (fun z => z ▸ own) fun z => back.pin p (List.mem_append_right _ z)
    exact gone_ok J5 hN hi hln fun s6 J6 => ⟨_, _, inv_track J6 z3 ⟨_, d3⟩ J fresh, q5 own.2.1⟩
theorem ps_try_held (hs : X.stack = X.env :: X.outer) (hf : X.env.frame = some X.env.locals) (hN : X.N.Nodup) (hi : X.N[i]? = some n) (hln : X.env.kindOf n = some .local) (hc : CNames X es cs) (hlc : cs.length ≤ 100)
    (run : ∀ (W : WX) (pn : List (Addr × Obj)) (xe : Value → Shared → Prop), Takes (X.tr pn xe) W → PSs (X.tr pn xe) body (tb W)) (hsu : SuiteOk X b₀ suite ts) :
    PS X (.Try body [.ExceptHandler (some (.Tuple es kk tpos)) (some n) (b₀ :: suite) pos'] [] [] pos) (fun D σ H => tb (wHeld X.K cs i ts D) D σ H) := by
  refine ⟨fun pins s σ H D I want => wpAny_Try_except ?_⟩
  have there : X.A.frames = some (X.env :: X.outer) := I.ok.frames.trans (by rw [hs])
  refine wpAny_mono ((run (wHeld X.K cs i ts D) (X.pn ++ pins) _ fun u s' air => ?_).run [] s σ H D (I.toTry _) want) (fun fin s1 ended => ?_) (fun _ _ air => air)
  · obtain ⟨a, B, sI, _, τ, G, cls, d, rfl, JT, nb, up, sky, na, os, ag, w⟩ := air
    rw [show (X.tr (X.pn ++ pins) _).stack = X.env :: X.outer from hs] at sky
    exact Sky.land Zc.steady there hf sky fun h fl up2 => held_clause hN hi hln hc hlc hsu (JT.ofTry I.ok) hs hf nb (up.trans up2) fl os ag na w
  · match fin, ended with
    | .next, ⟨τ, G, JT, q⟩ => exact wpAny_execs_nil ⟨τ, G, JT.ofTry I.ok, q⟩
    | .brk, ⟨τ, G, JT, q⟩ => exact ⟨τ, G, JT.ofTry I.ok, q⟩
    | .cont, ⟨τ, G, JT, q⟩ => exact ⟨τ, G, JT.ofTry I.ok, q⟩
    | .ret _, ⟨v, τ, G, JT, r, q⟩ => exact ⟨v, τ, G, JT.ofTry I.ok, r, q⟩
end
end VS

/-! isinstance and fields of a kept exception. -/
namespace VX
open PySem PySem.Spec PySem.Calls PySem.W PyProof.Rows
section
variable {prog : Program} {w : World} {A : Around} {E : Value → Shared → Prop} {s : Shared} {K : Frag} {x D : Addr} {ox : Obj} {od : Option Obj}
abbrev gaB : Value := .builtin "BaseException.__getattribute__"
abbrev clB : Value := .builtin "object.__class__"
abbrev gsB : Value := .builtin "getset_descriptor.__get__"
/-- __class__ is found at the class, whatever the object's own dict holds -/
theorem cls_found (C : L2.ExcC K D) : findObj K D od "__class__" = some (.bind gsB clB) := by
  obtain ⟨cd, e, _⟩ := any_some C.hd
  unfold findObj
  simp [e, C.ha, C.hn, C.ht]
/-- the slot of the exceptions asked for __class__ -/
theorem cls_slot (C : L2.ExcC K D) {R : Result → Shared → Prop} {tk : Tok} (X : K.In s.heap) (I : InstAt s.heap x ox D od) (h : R (.ok (.ret (.ref D))) s) : codeAny (model prog w) A (.call gaB ⟨[.ref x, .str "__class__" tk], []⟩) R s := by
  obtain ⟨hp, g, dr, n, os⟩ := s
  have ty := I.type (M := model prog w)
  have fo := looks_find (M := model prog w) X I (cls_found C)
  have isB : Looks (model prog w) hp (isInstance (.ref x) (.type "BaseException")) true := ty.andThen (looks_subIn X C.hs)
  refine codeAny_call_builtin PySem.F.excAttr_ValueError.ga.plain PySem.F.entry_bexc_ga
    (@check_slot (model prog w) _ _ ⟨hp, g, dr, n, os⟩ "BaseException.__getattribute__" "BaseException" "__getattribute__" (.ref x) [.str "__class__" tk] [] _ (by decide +kernel) (by decide +kernel) isB (PySem.F.args_bexc_ga _ _) ?_)
  unfold Builtin.«object.__getattribute__»
  refine wpAny_bind (wpAny_of_eq (a := ((.ref x : Value), [Value.str "__class__" tk])) (by first | rfl | (simp only [slotArgs]; rfl))
    (wpAny_bind (wpAny_pure (wpAny_bind (ty.at (wpAny_bind (fo.at ?_)))))))
  refine wpAny_bind (m := holding [clB] (call gsB [clB, .ref x, .ref D])) (wpAny_holding (wpAny_call (class_get (s := ⟨hp, g, dr, n, os⟩) (ox := ox) (od := od) X I C.hm (wpAny_pure ?_))))
  exact h
theorem kin_classD (C : L2.ExcC K D) {Q : Option Value → Shared → Prop} (X : K.In s.heap) (I : InstAt s.heap x ox D od) (h : Q (some (.ref D)) { s with toks := s.toks + 1 }) : wpAny (model prog w) A (getAttr? (.ref x) "__class__") Q E s := by
  obtain ⟨hp, g, dr, n, os⟩ := s
  have ty := I.type (M := model prog w)
  have other : (onTheHeap (.ref D) && gaB == .builtin "object.__getattribute__") = false := by
    rw [show (gaB == .builtin "object.__getattribute__") = false by decide +kernel]
    rfl
  unfold getAttr? getAttrBy? getAttrBy
  refine wpAny_bind (wpAny_mkText (wpAny_bind (wpAny_attempt (wpAny_holding (wpAny_bind (ty.at (wpAny_bind ((looks_findIn X C.hg).at ?_))))))))
  show wpAny _ _ (if (onTheHeap (.ref D) && gaB == .builtin "object.__getattribute__") = true then _ else _) _ _ _
  rw [other, if_neg (by decide)]
  unfold getAttrByItsOwn hookBefore
  refine wpAny_bind ?_
  rw [if_pos (by rfl)]
  refine (looks_findIn X C.hk).at (wpAny_bind (wpAny_attempt (wpAny_holding ?_)))
  unfold callGetattribute
  rw [if_neg (show ¬ (false && onTheHeap gaB) = true by decide)]
  unfold boundAndCalled
  rw [PySem.F.excAttr_ValueError.ga.bind]
  refine wpAny_bind (wpAny_pure (wpAny_call (cls_slot (s := ⟨hp, g, dr, n + 1, os⟩) C X I ?_)))
  show wpAny _ _ (handedOut (.ref D)) _ _ _
  rw [handedOut_of (by rfl)]
  first
    | exact wpAny_pure h
    | exact h
    | exact wpAny_pure (wpAny_bind (wpAny_pure h))
    | exact wpAny_pure (wpAny_bind (wpAny_pure (wpAny_pure h)))
/-- what the class of a kept exception must say for isinstance -/
theorem kitx_dict (C : L2.ExcC K D) : KitX K (.ref x) (.ref D) (fun h => InstAt h x ox D od) where
  ty := fun _ _ _ I => I.type
  it := fun _ _ X _ => by
    obtain ⟨cd, hc, _⟩ := any_some C.hd
    unfold clsIn at hc
    split at hc
    · rename_i ho
      intro A' Q' E' s' k q
      unfold isType loadHead
      exact wpAny_bind (wpAny_loadPart (k _ _ (X _ _ ho)) (wpAny_pure q))
    · cases hc
  ne := fun h tp dd its n sl X htp => by
    obtain ⟨cd, hc, _⟩ := any_some C.hd
    cases e : (Value.ref D == Value.ref tp) with
    | false => rfl
    | true =>
      obtain rfl : D = tp := Value.ref.inj (beq_iff_eq.mp e)
      unfold clsIn at hc
      split at hc
      · rename_i ho
        have z := (X _ _ ho).symm.trans htp
        cases z
      · cases hc
  ca := fun X I k => kin_classD C X I k
end
end VX
namespace VS
open PySem PySem.Spec PyProof.Rows L2
/-- the kept exception at a: of the class C, its field f holding v -/
def ExHas (H : Hp) (a C : Addr) (f : Str) (v : V) : Prop := ∃ dd, H a = some (.ext (ExP a (.ref C) (some dd))) ∧ H dd = some (.xd [(f, v)])
theorem ExHas.same {H H2 : Hp} {a C : Addr} {f : Str} {v : V} (s : Same H H2) (h : ExHas H a C f v) : ExHas H2 a C f v := by
  obtain ⟨dd, h1, h2⟩ := h
  exact ⟨dd, s _ _ h1, s _ _ h2⟩
section
variable {X : Cx} {pins : List (Addr × Obj)} {σ : L2.St} {H : Hp} {s : Shared} {a C : Addr} {f : Str} {v : V}
theorem ex_inst (I : Inv X pins σ H s) (h : ExHas H a C f v) : ∃ (oe od : Obj) (u : Value), PySem.W.InstAt s.heap a oe C (some od) ∧ PySem.W.lookIn f od = some (some u) ∧ RelV v u := by
  obtain ⟨dd, h1, h2⟩ := h
  obtain ⟨⟨oe, vs, ha, hz, hd⟩, _, _⟩ := I.hok a _ h1
  obtain ⟨mA, hns, hr⟩ := I.hok dd _ h2
  obtain ⟨od, ho, hl⟩ := lookIn_ns hns
  have e : List.lookup f [(f, v)] = some v := by simp [List.lookup]
  have q := hr f
  rw [e] at q
  obtain ⟨u, hu, ru⟩ := RelO.some_of q
  refine ⟨oe, od, u, ⟨ha, hz.1, ?_, ?_⟩, (hl f).trans (by rw [hu]), ru⟩
  · unfold PySem.W.notCls
    rw [hd] <;> rfl
  · rw [hz.2]
    exact ho
/-- isinstance(e, C2), e a kept exception -/
def rIsX (K : PySem.W.Frag) : List V → Hp → VK → Prop := fun xs H Q => ∃ (a C C2 : Addr) (f : Str) (v : V) (b : Bool), xs = [.ref a, .ref C2] ∧ ExHas H a C f v ∧ ExcC K C ∧ PySem.W.kitOne K (.ref C) (.ref C2) = some b ∧ Q (.bl b) H
@[irreducible] def vIsX (K : PySem.W.Frag) : List V → Hp → VK → Prop := rIsX K
theorem isX_ok {K : PySem.W.Frag} (hK : X.K = K := by rfl) : CallR X (.builtin "isinstance") (vIsX K) := by
  subst hK
  intro pins s σ H xs us Q I r h
  unfold vIsX at h
  obtain ⟨a, C, C2, f, v, b, rfl, hx, hc, e, q⟩ := h
  obtain ⟨oe, od, u, J, _⟩ := ex_inst I hx
  have eu : us = [.ref a, .ref C2] := by
    cases r with
    | cons r1 r2 =>
      cases r1
      cases r2 with
      | cons r3 r4 =>
        cases r3
        cases r4
        rfl
  rw [eu]
  exact PySem.W.kia_one (VX.kitx_dict hc) I.kIn J e (fun z => nomatch z) fun tk => ⟨.bl b, H, I.kept (t' := tk) fun _ _ z => z, rfl, q⟩
theorem r_isX {K : PySem.W.Frag} {C2 : Addr} {Q : VK} (b : Bool) (hx : ExHas H a C f v) (hc : ExcC K C) (e : PySem.W.kitOne K (.ref C) (.ref C2) = some b) (q : Q (.bl b) H) : vIsX K [.ref a, .ref C2] H Q := by
  unfold vIsX
  exact ⟨a, C, C2, f, v, b, rfl, hx, hc, e, q⟩
/-- e.f, e a kept exception -/
def tXh (K : PySem.W.Frag) (f : Str) (te : TE) : TE := fun σ H Q => te σ H fun x H1 => ∃ (a C : Addr) (v : V), x = .ref a ∧ ExHas H1 a C f v ∧ XfC K C ∧ PySem.W.findIn K (.ref C) f = some none ∧ Q v H1
theorem pe_xh {e : Expr} {te : TE} {pos : Pos} (he : PE X e te) (hb : attributeBase e f X.env (eval e X.env) = eval e X.env := by rfl) : PE X (.Attribute e f pos) (tXh X.K f te) := by
  refine ⟨fun pins s σ H Q I h => attr_of hb (thn (he.run pins s σ H _ I h) fun u s1 ⟨x, H1, I1, rx, a, C, v, ex, hx, T, hno, q⟩ => ?_)⟩
  subst ex
  obtain rfl : u = Value.ref a := rx
  obtain ⟨oe, od, u, J, hl, ru⟩ := ex_inst I1 hx
  exact HandSPX.exc_get I1.kIn J T.ga T.gg T.exC (PySem.W.findObj_own T.hdC hno rfl hl) (handed_of ru) ⟨v, H1, I1.tok _, ru, q⟩
end
end VS

/-! _law_raised, of a lambda that raises. -/
namespace VS
open PySem PySem.Spec PyProof.Rows L2
/-- the classes of the except clause, in order -/
def excs : List Str := ["BadStair", "BadWeb", "BadReads", "BadPaper", "BadText", "OutOfPlace", "TooGreat", "Missing"]
def kinds : List (Str × Str × Str) := [("BadWeb", "place", "web"), ("TooGreat", "most", "great"), ("Missing", "name", "missing")]
structure Excs (K : PySem.W.Frag) (mg : Str → Option Value) (cl : Str → Addr) : Prop where
  g : ∀ y ∈ excs, mg y = some (.ref (cl y))
  web : ExX K mg "BadWeb" "place" (cl "BadWeb")
  great : ExX K mg "TooGreat" "most" (cl "TooGreat")
  miss : ExX K mg "Missing" "name" (cl "Missing")
  ec : ∀ k ∈ kinds, ExcC K (cl k.1)
  exm : ∀ k ∈ kinds, ∀ y ∈ excs, PySem.W.exmOne K (.ref (cl k.1)) (.ref (cl y)) = some (decide (k.1 = y))
  kit : ∀ k ∈ kinds, ∀ y ∈ excs, PySem.W.kitOne K (.ref (cl k.1)) (.ref (cl y)) = some (decide (k.1 = y))
theorem exm_all {K : PySem.W.Frag} {cl : Str → Addr} {x : Str} : ∀ {l : List Str}, (∀ y ∈ l, PySem.W.exmOne K (.ref (cl x)) (.ref (cl y)) = some (decide (x = y))) → PySem.W.exmAny K (.ref (cl x)) (l.map fun y => .ref (cl y)) = some (decide (x ∈ l))
  | [], _ => by
    rw [decide_eq_false List.not_mem_nil]
    rfl
  | y :: l, h => by
    have h1 := h y List.mem_cons_self
    have ih := exm_all (l := l) fun z hz => h z (List.mem_cons_of_mem _ hz)
    rw [List.map_cons, PySem.W.exmAny, h1, ih]
    by_cases e : x = y
    · simp [e]
    · by_cases e2 : x ∈ l <;> simp [e, e2]
/-- what a lambda's exception comes back as -/
def RaisedK (cl : Str → Addr) (Q : VK) : XK := fun cls d H => ∃ (dd : Addr) (v : V) (k : Str × Str × Str), d = some dd ∧ k ∈ kinds ∧ cls = .ref (cl k.1) ∧ H dd = some (.xd [(k.2.1, v)]) ∧ ∀ t H2, Same H H2 → H2 t = some (.tup [.str k.2.2, v]) → Q (.ref t) H2
def TTRaised (cl : Str → Addr) : (XK → Hp → VK → Prop) → Hp → VK → Prop := fun tl H Q => tl (RaisedK cl Q) H (fun _ _ => False)
theorem Excs.no {K : PySem.W.Frag} {mg : Str → Option Value} {cl : Str → Addr} (EX : Excs K mg cl) {k : Str × Str × Str} (hk : k ∈ kinds) (y : Str) (hy : y ∈ excs) (ne : k.1 ≠ y) : PySem.W.kitOne K (.ref (cl k.1)) (.ref (cl y)) = some false := by
  rw [EX.kit k hk y hy, decide_eq_false ne]
theorem Excs.yes {K : PySem.W.Frag} {mg : Str → Option Value} {cl : Str → Addr} (EX : Excs K mg cl) {k : Str × Str × Str} (hk : k ∈ kinds) (hy : k.1 ∈ excs) : PySem.W.kitOne K (.ref (cl k.1)) (.ref (cl k.1)) = some true := by
  rw [EX.kit k hk k.1 hy, decide_eq_true rfl]
theorem Excs.xf {K : PySem.W.Frag} {mg : Str → Option Value} {cl : Str → Addr} (EX : Excs K mg cl) {k : Str × Str × Str} (hk : k ∈ kinds) : XfC K (cl k.1) ∧ PySem.W.findIn K (.ref (cl k.1)) k.2.1 = some none ∧ k.1 ∈ excs := by
  rcases List.mem_cons.mp hk with rfl | hk
  · exact ⟨EX.web.xf, EX.web.nof, by decide⟩
  · rcases List.mem_cons.mp hk with rfl | hk
    · exact ⟨EX.great.xf, EX.great.nof, by decide⟩
    · rcases List.mem_cons.mp hk with rfl | hk
      · exact ⟨EX.miss.xf, EX.miss.nof, by decide⟩
      · cases hk
theorem takes_len {X : Cx} {W : WX} (tk : Takes X W) : Takes X (fun cls d σ H => σ.length = X.N.length → W cls d σ H) := fun u s' ⟨a, B, sI, pins, σ, H, cls, d, e, I, nb, up, sky, na, os, ag, w⟩ =>
  tk u s' ⟨a, B, sI, pins, σ, H, cls, d, e, I, nb, up, sky, na, os, ag, w I.len⟩
theorem pe_gone {X : Cx} {e : Expr} {te : TE} (hp : PE X e te) : PE X e (fun σ H _ => te σ H (fun _ _ => False)) := ⟨fun pins s σ H Q I h => thn (hp.run pins s σ H (fun _ _ => False) I h) fun u s1 ⟨x, H1, I1, r1, q1⟩ => q1.elim⟩
abbrev NR : List Str := ["asked", "caught", "e"]
theorem sc_raised : FnScope NR ["asked"] (defScope (topS 48)) := ⟨rfl, rfl, rfl, by decide +kernel, rfl, by decide +kernel, by decide +kernel⟩
section
variable {X : Cx} {cl : Str → Addr}
theorem raised_gives (T : Top X.K X.mg) (EX : Excs X.K X.mg cl) (g : Addr) (cdg : Value) (q : Str) : LamX.GivesTo X NR "_law_raised" (defScope (topS 48)) g cdg (defBody (topS 48)) "asked" q (TTRaised cl) := by
  intro f c' s H Q tl act hc h
  have nd : NR.Nodup := sc_raised.nd
  have hg := fun y (hy : y ∈ excs) => EX.g y hy
  refine ⟨_, pss_cons (ps_set (i := 1) nd rfl (.inl rfl) pe_non)
    (pss_cons (ps_try_held (cs := excs.map fun y => .ref (cl y)) (ts := fun _ _ _ => tSeq (tAsg (tVar 2) (gName 1)) tNext) (tb := fun W D σ H => ∃ Ech : XK, (∀ cls d σ' H', σ'.length = 3 → Ech cls d H' → W cls d σ' H') ∧ σ[0]? = some (some (.ref f)) ∧ H c' = some (LamX.CodeO c' q) ∧ tl Ech H (fun _ _ => False)) rfl rfl nd (i := 2) rfl rfl
        (.cons rfl (hg _ (by decide)) (by decide) (.cons rfl (hg _ (by decide)) (by decide) (.cons rfl (hg _ (by decide)) (by decide) (.cons rfl (hg _ (by decide)) (by decide) (.cons rfl (hg _ (by decide)) (by decide) (.cons rfl (hg _ (by decide)) (by decide) (.cons rfl (hg _ (by decide)) (by decide) (.cons rfl (hg _ (by decide)) (by decide) .nil)))))))) (by rw [List.length_map]; decide)
        (fun W pn xe tk => ?_) (fun a oe cls d pn _ _ => pss_one (ps_set (i := 1) nd rfl (.inl rfl) (pv 2))))
    (pss_cons (ps_if (pt_cmpR op_isN (pv 1) pe_non (nomark _)) (pss_one (ps_ret (pe_tup pa_nil))) pss_nil)
    (pss_cons (ps_if (pt_val (pe_callB isX_ok (by rfl) T.isi b_isi (pa_cons (pv 1) (pa_cons (pe_glob (v := .ref (cl "BadStair")) rfl (hg _ (by decide)) rfl) pa_nil)))) (pss_one (ps_ret (pe_tup (pa_cons pe_str (pa_cons (pe_xh (pv 1)) pa_nil))))) pss_nil)
    (pss_cons (ps_if (pt_val (pe_callB isX_ok (by rfl) T.isi b_isi (pa_cons (pv 1) (pa_cons (pe_glob (v := .ref (cl "BadWeb")) rfl (hg _ (by decide)) rfl) pa_nil)))) (pss_one (ps_ret (pe_tup (pa_cons pe_str (pa_cons (pe_xh (pv 1)) pa_nil))))) pss_nil)
    (pss_cons (ps_if (pt_val (pe_callB isX_ok (by rfl) T.isi b_isi (pa_cons (pv 1) (pa_cons (pe_glob (v := .ref (cl "BadReads")) rfl (hg _ (by decide)) rfl) pa_nil)))) (pss_one (ps_ret (pe_tup (pa_cons pe_str (pa_cons (pe_xh (pv 1)) pa_nil))))) pss_nil)
    (pss_cons (ps_if (pt_val (pe_callB isX_ok (by rfl) T.isi b_isi (pa_cons (pv 1) (pa_cons (pe_glob (v := .ref (cl "BadPaper")) rfl (hg _ (by decide)) rfl) pa_nil)))) (pss_one (ps_ret (pe_tup (pa_cons pe_str (pa_cons (pe_xh (pv 1)) pa_nil))))) pss_nil)
    (pss_cons (ps_if (pt_val (pe_callB isX_ok (by rfl) T.isi b_isi (pa_cons (pv 1) (pa_cons (pe_glob (v := .ref (cl "BadText")) rfl (hg _ (by decide)) rfl) pa_nil)))) (pss_one (ps_ret (pe_tup (pa_cons pe_str (pa_cons (pe_xh (pv 1)) (pa_cons (pe_xh (pv 1)) pa_nil)))))) pss_nil)
    (pss_cons (ps_if (pt_val (pe_callB isX_ok (by rfl) T.isi b_isi (pa_cons (pv 1) (pa_cons (pe_glob (v := .ref (cl "TooGreat")) rfl (hg _ (by decide)) rfl) pa_nil)))) (pss_one (ps_ret (pe_tup (pa_cons pe_str (pa_cons (pe_xh (pv 1)) pa_nil))))) pss_nil)
    (pss_one (ps_ret (pe_ifExp (pt_val (pe_callB isX_ok (by rfl) T.isi b_isi (pa_cons (pv 1) (pa_cons (pe_glob (v := .ref (cl "Missing")) rfl (hg _ (by decide)) rfl) pa_nil)))) (pe_tup (pa_cons pe_str (pa_cons (pe_xh (pv 1)) pa_nil))) (pe_tup (pa_cons pe_str pa_nil))))))))))))), ?_⟩
  · refine ⟨fun pins s' σ H' D I h' => ?_⟩
    obtain ⟨Ech, hW, h1, h2, h3⟩ := h'
    exact (pss_one (ps_expr (pe_gone (act (fun cls d σ H => σ.length = 3 → W cls d σ H) pn xe Ech _ _ (takes_len tk) (fun cls d σ' H' z hl => hW cls d σ' H' hl z))))).run pins s' σ H' D I ⟨h1, h2, h3⟩
  · refine ⟨RaisedK cl Q, fun cls d σ' H' hl hk => ?_, rfl, hc, h⟩
    obtain ⟨dd, v, k, rfl, hk, rfl, hx, hq⟩ := hk
    obtain ⟨x0, x1, x2, rfl⟩ : ∃ x0 x1 x2, σ' = [x0, x1, x2] := by
      match σ', hl with
      | [x0, x1, x2], _ => exact ⟨x0, x1, x2, rfl⟩
    obtain ⟨xf, nof, hke⟩ := EX.xf hk
    refine ⟨?_, fun a na => ⟨_, rfl, fun nH => ?_⟩⟩
    · show PySem.W.exmAny X.K (.ref (cl k.1)) (excs.map fun y => .ref (cl y)) = some true
      rw [exm_all fun y hy => EX.exm k hk y hy, decide_eq_true hke]
    · have s1 : Same H' (upd H' a (.ext (ExP a (.ref (cl k.1)) (some dd)))) := same_upd nH
      have hE : ExHas (upd H' a (.ext (ExP a (.ref (cl k.1)) (some dd)))) a (cl k.1) k.2.1 v := ⟨dd, upd_same, s1 _ _ hx⟩
      have ec := EX.ec k hk
      generalize upd H' a (.ext (ExP a (.ref (cl k.1)) (some dd))) = H2 at s1 hE ⊢
      refine ⟨_, rfl, rfl, false, rfl, iteF ?_⟩
      have fin : ∀ t, H2 t = none → Q (.ref t) (upd H2 t (.tup [.str k.2.2, v])) := fun t nt => hq t _ (Same.new s1 nt) upd_same
      have two : 2 ≤ sizeLine := by decide
      rcases List.mem_cons.mp hk with rfl | hk2
      · refine ⟨_, rfl, r_isX false hE ec (EX.no hk "BadStair" (by decide) (by decide)) ⟨false, rfl, iteF ?_⟩⟩
        exact ⟨_, rfl, r_isX true hE ec (EX.yes hk hke) ⟨true, rfl, iteT ⟨_, rfl, a, _, v, rfl, hE, xf, nof, two, fin⟩⟩⟩
      · rcases List.mem_cons.mp hk2 with rfl | hk3
        · refine ⟨_, rfl, r_isX false hE ec (EX.no hk "BadStair" (by decide) (by decide)) ⟨false, rfl, iteF ?_⟩⟩
          refine ⟨_, rfl, r_isX false hE ec (EX.no hk "BadWeb" (by decide) (by decide)) ⟨false, rfl, iteF ?_⟩⟩
          refine ⟨_, rfl, r_isX false hE ec (EX.no hk "BadReads" (by decide) (by decide)) ⟨false, rfl, iteF ?_⟩⟩
          refine ⟨_, rfl, r_isX false hE ec (EX.no hk "BadPaper" (by decide) (by decide)) ⟨false, rfl, iteF ?_⟩⟩
          refine ⟨_, rfl, r_isX false hE ec (EX.no hk "BadText" (by decide) (by decide)) ⟨false, rfl, iteF ?_⟩⟩
          exact ⟨_, rfl, r_isX true hE ec (EX.yes hk hke) ⟨true, rfl, iteT ⟨_, rfl, a, _, v, rfl, hE, xf, nof, two, fin⟩⟩⟩
        · obtain rfl := List.mem_singleton.mp hk3
          refine ⟨_, rfl, r_isX false hE ec (EX.no hk "BadStair" (by decide) (by decide)) ⟨false, rfl, iteF ?_⟩⟩
          refine ⟨_, rfl, r_isX false hE ec (EX.no hk "BadWeb" (by decide) (by decide)) ⟨false, rfl, iteF ?_⟩⟩
          refine ⟨_, rfl, r_isX false hE ec (EX.no hk "BadReads" (by decide) (by decide)) ⟨false, rfl, iteF ?_⟩⟩
          refine ⟨_, rfl, r_isX false hE ec (EX.no hk "BadPaper" (by decide) (by decide)) ⟨false, rfl, iteF ?_⟩⟩
          refine ⟨_, rfl, r_isX false hE ec (EX.no hk "BadText" (by decide) (by decide)) ⟨false, rfl, iteF ?_⟩⟩
          refine ⟨_, rfl, r_isX false hE ec (EX.no hk "TooGreat" (by decide) (by decide)) ⟨false, rfl, iteF ?_⟩⟩
          exact ⟨_, rfl, r_isX true hE ec (EX.yes hk hke) ⟨true, rfl, iteT ⟨_, rfl, a, _, v, rfl, hE, xf, nof, two, fin⟩⟩⟩
end
end VS

/-! == and != of pairs, repr of paths. -/
namespace VS
open PySem PySem.Spec PyProof.Rows L2
/-- the same object, or equal data -/
def EqI (K : PySem.W.Frag) (H : Hp) (x y : V) : Prop := (∃ a, x = .ref a ∧ y = .ref a) ∨ ∃ d, Dp K H x d ∧ Dp K H y d ∧ d.canLay0 = true ∧ d.depth ≤ 10 ∧ PyData.eqv d d = true
section
variable {X : Cx} {pins : List (Addr × Obj)} {σ : L2.St} {H : Hp} {s : Shared}
theorem EqI.at {A : Around} (I : Inv X pins σ H s) (hu : A.units + 60 < cLine) {x y : V} {u v : Value} (h : EqI X.K H x y) (rx : RelV x u) (ry : RelV y v) : SeqAt.EqAt A s u v true := by
  rcases h with ⟨a, rfl, rfl⟩ | ⟨d, h1, h2, lay, dep, ev⟩
  · cases rx
    cases ry
    exact SeqAt.EqAt.same _
  · obtain ⟨as, r1⟩ := Dp.reads I d x u h1 rx
    obtain ⟨bs, r2⟩ := Dp.reads I d y v h2 ry
    have z := SeqAt.eqAt_reads d d A s u v as bs r1 r2 lay lay (by
      rw [Nat.min_self]
      omega)
    rwa [ev] at z
theorem EqI.all {A : Around} (I : Inv X pins σ H s) (hu : A.units + 60 < cLine) : ∀ {xs ys : List V} {us vs : List Value}, Paired (EqI X.K H) xs ys → Vals xs us → Vals ys vs → us.length = vs.length ∧ ∀ (j : Nat) (h1 : j < us.length) (h2 : j < vs.length), SeqAt.EqAt A s us[j] vs[j] true
  | _, _, _, _, .nil, r1, r2 => by
    cases r1
    cases r2
    exact ⟨rfl, fun j h => absurd h (Nat.not_lt_zero j)⟩
  | _, _, _, _, .cons e t, r1, r2 => by
    cases r1 with
    | cons p1 q1 =>
      cases r2 with
      | cons p2 q2 =>
        obtain ⟨l, f⟩ := EqI.all I hu t q1 q2
        refine ⟨by rw [List.length_cons, List.length_cons, l], fun j h1 h2 => ?_⟩
        cases j with
        | zero => exact EqI.at I hu e p1 p2
        | succ j => exact f j (Nat.lt_of_succ_lt_succ h1) (Nat.lt_of_succ_lt_succ h2)
/-- two tuples with equal items -/
def SameT (K : PySem.W.Frag) (H : Hp) (x y : V) : Prop := ∃ (a b : Addr) (xs ys : List V), x = .ref a ∧ y = .ref b ∧ H a = some (.tup xs) ∧ H b = some (.tup ys) ∧ Paired (EqI K H) xs ys
@[irreducible] def vNeT (K : PySem.W.Frag) : R2 := fun x y H Q => SameT K H x y ∧ Q (.bl false) H
@[irreducible] def vEqT (K : PySem.W.Frag) : R2 := fun x y H Q => SameT K H x y ∧ Q (.bl true) H
theorem bits_true (n m : Nat) (h : n = m) : ((List.range (min n m)).all (fun _ => true) && n == m) = true := by
  subst h
  simp
theorem neT_ok {K : PySem.W.Frag} (hu : X.A.units + 64 < cLine) (hK : X.K = K := by rfl) : OpR X (compareOp .NotEq) (vNeT K) := by
  subst hK
  intro pins s σ H x y v u Q I rx ry h
  unfold vNeT at h
  obtain ⟨⟨a, b, xs, ys, rfl, rfl, ha, hb, hp⟩, q⟩ := h
  cases rx
  cases ry
  obtain ⟨us, r1, t1, _⟩ := I.tuple (.of ha)
  obtain ⟨vs, r2, t2, _⟩ := I.tuple (.of hb)
  obtain ⟨hl, he⟩ := EqI.all (A := X.A.in1) I (by show X.A.units + 1 + 60 < cLine; omega) hp r1 r2
  refine SeqAt.RcNeAt.tuples (e := fun _ => true) t1 t2 (by omega) (fun j h1 h2 => by simpa using he j (by simpa using h1) (by simpa using h2)) X.prog X.w _ _ ?_
  rw [bits_true _ _ (by simpa using hl)]
  exact ⟨.bl false, H, I, rfl, q⟩
theorem eqT_ok {K : PySem.W.Frag} (hu : X.A.units + 64 < cLine) (hK : X.K = K := by rfl) : OpR X (compareOp .Eq) (vEqT K) := by
  subst hK
  intro pins s σ H x y v u Q I rx ry h
  unfold vEqT at h
  obtain ⟨⟨a, b, xs, ys, rfl, rfl, ha, hb, hp⟩, q⟩ := h
  cases rx
  cases ry
  obtain ⟨us, r1, t1, _⟩ := I.tuple (.of ha)
  obtain ⟨vs, r2, t2, _⟩ := I.tuple (.of hb)
  obtain ⟨hl, he⟩ := EqI.all (A := X.A.in1) I (by show X.A.units + 1 + 60 < cLine; omega) hp r1 r2
  refine SeqAt.RcAt.tuples (e := fun _ => true) t1 t2 (by omega) (fun j h1 h2 => by simpa using he j (by simpa using h1) (by simpa using h2)) X.prog X.w _ _ ?_
  rw [bits_true _ _ (by simpa using hl)]
  exact ⟨.bl true, H, I, rfl, q⟩
theorem r_neT {K : PySem.W.Frag} {a b : Addr} {xs ys : List V} {Q : VK} (ha : H a = some (.tup xs)) (hb : H b = some (.tup ys)) (hp : Paired (EqI K H) xs ys) (q : Q (.bl false) H) : vNeT K (.ref a) (.ref b) H Q := by
  unfold vNeT
  exact ⟨⟨a, b, xs, ys, rfl, rfl, ha, hb, hp⟩, q⟩
theorem r_eqT {K : PySem.W.Frag} {a b : Addr} {xs ys : List V} {Q : VK} (ha : H a = some (.tup xs)) (hb : H b = some (.tup ys)) (hp : Paired (EqI K H) xs ys) (q : Q (.bl true) H) : vEqT K (.ref a) (.ref b) H Q := by
  unfold vEqT
  exact ⟨⟨a, b, xs, ys, rfl, rfl, ha, hb, hp⟩, q⟩
theorem eqi_str {K : PySem.W.Frag} (x : Str) (h : (PyData.str x).canLay0 = true) : EqI K H (.str x) (.str x) := .inr ⟨.str x, .str x, .str x, h, Nat.zero_le _, by simp [PyData.eqv]⟩
theorem eqi_int {K : PySem.W.Frag} (i : Int) : EqI K H (.int i) (.int i) := .inr ⟨.int i, .int i, .int i, rfl, Nat.zero_le _, by simp [PyData.eqv]⟩
/-- the text of paths -/
def shP (l : List (List Str)) : Str := (PyData.tuple (l.map dPath)).shown
theorem show_path : ∀ q : List Str, PyData.showableAll (q.map PyData.str) = true
  | [] => by simp [PyData.showableAll]
  | x :: q => by
    rw [List.map_cons, PyData.showableAll, show_path q]
    simp [PyData.showable]
theorem show_paths : ∀ l : List (List Str), PyData.showableAll (l.map dPath) = true
  | [] => by simp [PyData.showableAll]
  | q :: l => by
    rw [List.map_cons, PyData.showableAll, show_paths l, Bool.and_true]
    show PyData.showable (.tuple _) = true
    rw [PyData.showable]
    exact show_path q
/-- repr of a tuple of paths -/
@[irreducible] def vRepP : List V → Hp → VK → Prop := fun xs H Q => ∃ a vs l, xs = [.ref a] ∧ H a = some (.tup vs) ∧ Paired (PathAt H) vs l ∧ LayP l ∧ (shP l).length ≤ sizeLine ∧ Q (.str (shP l)) H
theorem repP_ok (hg : X.A.guards = some []) (hu : X.A.units + 64 < cLine) : CallR X (.builtin "repr") vRepP := by
  intro pins s σ H xs us Q I r h
  unfold vRepP at h
  obtain ⟨a, vs, l, rfl, ha, hp, hy, hz, q⟩ := h
  rw [Vals.ref1 r]
  obtain ⟨as, rd⟩ := Dp.reads I (.tuple (l.map dPath)) (.ref a) (.ref a) (.tup (.of ha) (dp_paths hp)) rfl
  obtain ⟨h1, h2⟩ := lay_paths hy
  have hs : (PyData.tuple (l.map dPath)).showable = true := by
    rw [PyData.showable]
    exact show_paths l
  have hdp : (PyData.tuple (l.map dPath)).depth ≤ 2 := by
    rw [PyData.depth]
    omega
  exact repr_of_reads' rd hs (PyData.noDict_hsm (PyData.hasDict_of_canLay _ (by rw [PyData.canLay0]; exact h1))) hg (by omega) (fun _ _ e => e) (fun h' u tk k => ⟨.str (shP l), H, I.kept (t' := tk) k, ⟨u, rfl⟩, q⟩) hz
theorem r_repP {a : Addr} {vs : List V} {l : List (List Str)} {Q : VK} (ha : H a = some (.tup vs)) (hp : Paired (PathAt H) vs l) (hy : LayP l) (hz : (shP l).length ≤ sizeLine) (q : Q (.str (shP l)) H) : vRepP [.ref a] H Q := by
  unfold vRepP
  exact ⟨a, vs, l, rfl, ha, hp, hy, hz, q⟩
theorem sum_bd {l : List Nat} {B : Nat} (h : ∀ a ∈ l, a ≤ B) : l.sum ≤ l.length * B := by
  induction l with
  | nil => exact Nat.zero_le _
  | cons a l ih =>
    have h1 := h a List.mem_cons_self
    have h2 := ih fun b hb => h b (List.mem_cons_of_mem _ hb)
    rw [List.sum_cons, List.length_cons, Nat.add_mul]
    omega
theorem shown_map : ∀ l : List PyData, PyData.shownAll l = l.map PyData.shown
  | [] => by simp [PyData.shownAll]
  | x :: l => by rw [PyData.shownAll, shown_map l, List.map_cons]
theorem shown_path {q : List Str} (hq : ∀ x ∈ q, GoodW x) (hl : q.length ≤ 9) : (dPath q).shown.length ≤ 1000 := by
  show (PyData.shown (.tuple _)).length ≤ 1000
  rw [PyData.shown, shown_map]
  have h := tupleText_len_le ((q.map PyData.str).map PyData.shown)
  have hs : (((q.map PyData.str).map PyData.shown).map (·.length)).sum ≤ 9 * 82 := by
    refine Nat.le_trans (sum_bd (B := 82) ?_) ?_
    · intro a ha
      simp only [List.mem_map] at ha
      obtain ⟨t, ⟨d, ⟨x, hx, rfl⟩, rfl⟩, rfl⟩ := ha
      have g := hq x hx
      have e := StrLaws.reprText_len x fun c hc => Nat.lt_of_lt_of_le (lay_lets c (g.let_ c hc)) (by decide)
      have := g.hi
      show (PyData.shown (.str x)).length ≤ 82
      rw [PyData.shown]
      omega
    · rw [List.length_map, List.length_map, List.length_map]
      exact Nat.mul_le_mul_right _ hl
  have hn : ((q.map PyData.str).map PyData.shown).length ≤ 9 := by
    rw [List.length_map, List.length_map]
    exact hl
  omega
theorem shP_len {l : List (List Str)} (hq : ∀ q ∈ l, (∀ x ∈ q, GoodW x) ∧ q.length ≤ 9) (hl : l.length ≤ 500) : (shP l).length ≤ sizeLine := by
  unfold shP
  rw [PyData.shown, shown_map]
  have h := tupleText_len_le ((l.map dPath).map PyData.shown)
  have hs : (((l.map dPath).map PyData.shown).map (·.length)).sum ≤ 500 * 1000 := by
    refine Nat.le_trans (sum_bd (B := 1000) ?_) ?_
    · intro a ha
      simp only [List.mem_map] at ha
      obtain ⟨t, ⟨d, ⟨x, hx, rfl⟩, rfl⟩, rfl⟩ := ha
      exact shown_path (hq x hx).1 (hq x hx).2
    · rw [List.length_map, List.length_map, List.length_map]
      exact Nat.mul_le_mul_right _ hl
  have hn : ((l.map dPath).map PyData.shown).length ≤ 500 := by
    rw [List.length_map, List.length_map]
    exact hl
  refine Nat.le_trans h (Nat.le_trans (m := 600000) (by omega) (by decide))
end
end VS

/-! The law called by the claim's caller: its body at that very place; a call of a def of the module at a given place. -/
namespace VS
open PySem PySem.Spec PyProof.Rows L2
section
variable {P : Program} {w : World} {K : PySem.W.Frag} {mg mb : Str → Option Value} {fa a : Addr} {cs : List (Addr × Addr)} {s : Shared} {vs : List Value} {ns : List Int}
abbrev lo (vs : List Value) : Obj := { cls := .type "list", data := .seq vs.toArray }
abbrev te : Obj := { cls := .none, data := .fields #[] }
/-- what is tracked at the law's entry: the script, the empty tables -/
def trH (K : PySem.W.Frag) (a : Addr) (ts : List Addr) (vs : List Value) (ns : List Int) : Hp := fun b =>
  if b = a then (if (K.lookup a).isSome = true then none else some (.frz (lo vs) (.lst (nums ns)))) else if b ∈ ts then some (.tbl #[]) else none
theorem trH_a {ts : List Addr} (h : K.lookup a = none) : trH K a ts vs ns a = some (.frz (lo vs) (.lst (nums ns))) := by
  unfold trH
  rw [if_pos rfl, h, if_neg (by decide)]
theorem trH_a2 {ts : List Addr} {o : Obj} (h : K.lookup a = some o) : trH K a ts vs ns a = none := by
  unfold trH
  rw [if_pos rfl, h]
  exact if_pos rfl
theorem trH_t {ts : List Addr} {b : Addr} (h : b ∈ ts) (hn : b ≠ a) : trH K a ts vs ns b = some (.tbl #[]) := by
  unfold trH
  rw [if_neg hn, if_pos h]
theorem trH_n {ts : List Addr} {b : Addr} (h : b ∉ ts) (hn : b ≠ a) : trH K a ts vs ns b = none := by
  unfold trH
  rw [if_neg hn, if_neg h]
theorem law_at (KX : K.In s.heap) (hns : s.heap.Ns mainGlobals mg) (hb : s.heap.Ns builtinsNs mb) (hbb : ∀ x : Str, x ≠ "__name__" → mb x = bootBuiltins x) (hlim : s.heap.NoLimit) (hg : s.gens = #[])
    (hT : ∀ p ∈ cs, s.heap.get? p.2 = some te) (nT : ∀ p ∈ cs, K.lookup p.2 = none) (C : ∀ p ∈ cs, PySem.W.CodeHd s.heap p.1 p.2)
    (hmod : ∃ (bm : Addr) (ob : Obj), mg "__builtins__" = some (.ref bm) ∧ bm ≠ builtinsNs ∧ s.heap.get? bm = some ob ∧ ob.cls = .type "module" ∧ ob.dict = some builtinsNs ∧ ob.data = .plain)
    (ha : s.heap.get? a = some (lo vs)) (hi : IntsAre vs ns) (hl : ns.length ≤ sizeLine)
    (F : ∀ (base : Heap) (H : Hp), Env0 P w K mg base callerA [] s H → (∀ p ∈ cs, LamX.TabB base mg p.1 p.2) → (∀ p ∈ cs, H p.2 = some (.tbl #[])) → SqL K H a (nums ns) → (∀ H2, Same H H2 → SqL K H2 a (nums ns)) →
      codeAny (model P w) callerA (.call (.ref fa) ⟨[.ref a], []⟩) (CR CX0 [] P w H s (fun v _ => v = .bl true) E0) s) :
    codeAny (model P w) callerA (.call (.ref fa) ⟨[.ref a], []⟩) (fun r s' => r = .ok (.ret (.bool true)) ∧ OldK s.heap s'.heap ∧ s'.os = s.os ∧ AllBare s'.gens) s := by
  obtain ⟨ts, ets⟩ : ∃ ts, ts = cs.map (·.2) := ⟨_, rfl⟩
  have tab : ∀ b ∈ ts, s.heap.get? b = some te ∧ K.lookup b = none := fun b hb => by
    rw [ets] at hb
    obtain ⟨p, hp, rfl⟩ := List.mem_map.mp hb
    exact ⟨hT p hp, nT p hp⟩
  have mem : ∀ p ∈ cs, p.2 ∈ ts := fun p hp => by
    rw [ets]
    exact List.mem_map.mpr ⟨p, hp, rfl⟩
  have anT : ∀ b ∈ ts, b ≠ a := fun b hb z => by
    have e := (tab b hb).1
    rw [z, ha] at e
    cases e
  have tnA : a ∉ ts := fun z => anT a z rfl
  obtain ⟨H, eH⟩ : ∃ H, H = trH K a ts vs ns := ⟨_, rfl⟩
  have free : ∀ {b : Addr} {o : Obj}, s.heap.get? b = some o → o ≠ lo vs → o ≠ te → H b = none := fun {b o} e n1 n2 => by
    rw [eH]
    refine trH_n (fun z => n2 ?_) (fun z => n1 ?_)
    · rw [(tab b z).1] at e
      exact (Option.some.inj e).symm
    · rw [z, ha] at e
      exact (Option.some.inj e).symm
  have fdict : ∀ {b : Addr} {m : Str → Option Value}, s.heap.Ns b m → (hidT s.heap H).Ns b m := fun {b m} h => by
    obtain ⟨o, es, ep, e, d, r⟩ := h
    exact ⟨o, es, ep, hidT_get e (free e (fun z => by rw [z] at d; cases d) fun z => by rw [z] at d; cases d), d, r⟩
  have hH : ∀ p ∈ cs, H p.2 = some (.tbl #[]) := fun p hp => by
    rw [eH]
    exact trH_t (mem p hp) (anT _ (mem p hp))
  have hin : K.In (hidT s.heap H) := fun b o e => hidT_get (KX b o e) (by
    rw [eH]
    by_cases hb : b = a
    · subst hb
      exact trH_a2 e
    · refine trH_n (fun z => ?_) hb
      rw [(tab b z).2] at e
      cases e)
  have rv := vals_ints hi
  have hok : HOk P w H s.heap := fun b u e => by
    rw [eH] at e
    by_cases hb : b = a
    · subst hb
      cases hk : K.lookup b with
      | some o =>
        rw [trH_a2 hk] at e
        cases e
      | none =>
        rw [trH_a hk] at e
        obtain rfl := Option.some.inj e
        exact ⟨ha, by rw [List.length_map]; exact hl, vs, _, rv, ha⟩
    · by_cases ht : b ∈ ts
      · rw [trH_t ht hb] at e
        obtain rfl := Option.some.inj e
        exact (tab b ht).1
      · rw [trH_n ht hb] at e
        cases e
  have sq : ∀ H2, (∀ o, H a = some o → H2 a = some o) → SqL K H2 a (nums ns) := fun H2 k => by
    cases hk : K.lookup a with
    | some o =>
      have e := KX a o hk
      rw [ha] at e
      obtain rfl := Option.some.inj e
      exact .inr ⟨_, vs.toArray, _, hk, rfl, rfl, rfl, by rw [List.size_toArray, hi.length]; exact hl, by simpa using rv⟩
    | none => exact .inl (.inr ⟨lo vs, k _ (by rw [eH]; exact trH_a hk)⟩)
  have gl : mainGlobals ∉ ts := fun z => by
    obtain ⟨o, es, ep, e, d, _⟩ := hns
    rw [(tab _ z).1] at e
    cases e
    cases d
  have tabs : ∀ p ∈ cs, LamX.TabB (hidT s.heap H) mg p.1 p.2 := fun p hp => by
    refine ⟨?_, ?_, fun z => gl (by rw [z]; exact mem p hp)⟩
    · obtain ⟨o, us, file, tf, flags, tg, inF, text, tt, e1, r1, r2, r3, rest⟩ := C p hp
      refine ⟨o, us, file, tf, flags, tg, inF, text, tt, hidT_get e1 (free e1 (fun z => ?_) fun z => ?_), r1, r2, r3, rest⟩
      · rw [z] at r2
        cases r2
      · rw [z] at r2
        cases r2
        simp at r3
    · obtain ⟨bm, ob, b1, b2, b3, b4, b5, b6⟩ := hmod
      have nG : bm ≠ mainGlobals := fun z => by
        obtain ⟨o, es, ep, e, d, _⟩ := hns
        rw [z, e] at b3
        cases b3
        rw [d] at b6
        cases b6
      have nP : bm ≠ p.2 := fun z => by
        rw [z, hT p hp] at b3
        cases b3
        cases b6
      exact ⟨bm, ob, b1, b2, nG, nP, hidT_get b3 (free b3 (fun z => by rw [z] at b6; cases b6) fun z => by rw [z] at b6; cases b6), b4, b5, b6⟩
  have e0 : Env0 P w K mg (hidT s.heap H) callerA [] s H := ⟨rfl, ⟨hin, fdict hns, ⟨mb, fdict hb, hbb⟩, let ⟨mc, h1, h2⟩ := hlim; ⟨mc, fdict h1, h2⟩⟩, fun b o e => of_hidT e, Nat.le_of_eq (hidT_size _ _), trivial, fun b hb => (nomatch (show b ∈ ([] : List Addr) from hb)), hok, .of_eq hg⟩
  refine codeAny_mono (F _ H e0 tabs hH (sq H fun _ e => e) fun H2 k => sq H2 fun o e => k a o e) fun r s' h => ?_
  match r, h with
  | .error e, h => exact (show False from h).elim
  | .ok .next, h => exact False.elim h
  | .ok .brk, h => exact False.elim h
  | .ok .cont, h => exact False.elim h
  | .ok (.ret u), h =>
    obtain ⟨v, H', oss, bar, uu, hok2, rr, q⟩ := h
    obtain rfl : v = .bl true := q
    obtain rfl : u = Value.bool true := rr
    have longer : ∀ p ∈ cs, ∃ more : Array Value, s'.heap.get? p.2 = some { cls := .none, data := .fields more } := fun p hp => by
      obtain ⟨more, z⟩ := uu.tbls p.2 #[] (hH p hp)
      exact ⟨_, hok2 p.2 _ z⟩
    have kept : ∀ b o, b ∉ ts → s.heap.get? b = some o → s'.heap.get? b = some o := fun b o nb e => by
      by_cases hb : b = a
      · subst hb
        cases hk : K.lookup b with
        | some o2 => exact uu.keep b o e (by rw [eH]; exact trH_a2 hk) (by intro z; exact (nomatch (show b ∈ ([] : List Addr) from z))) (by simp)
        | none =>
          obtain ⟨e2, _⟩ := hok2 b _ (uu.frzs b (lo vs) _ (by rw [eH]; exact trH_a hk))
          rw [ha] at e
          rw [← Option.some.inj e]
          exact e2
      · exact uu.keep b o e (by rw [eH]; exact trH_n nb hb) (by intro z; exact (nomatch (show b ∈ ([] : List Addr) from z))) (by simp)
    refine ⟨rfl, ⟨fun b o e => ?_, fun b o e => ?_⟩, oss, bar⟩
    · by_cases hb : b ∈ ts
      · have e2 := (tab b hb).1
        rw [ets] at hb
        obtain ⟨p, hp, rfl⟩ := List.mem_map.mp hb
        obtain ⟨more, hm⟩ := longer p hp
        rw [e2] at e
        obtain rfl := Option.some.inj e
        exact .inr (.inl ⟨((C p hp).tab (hT p hp)).isCodeTable, rfl, #[], more, rfl, by rw [Array.empty_append]; exact hm⟩)
      · exact .inl (kept b o hb e)
    · by_cases hb : b ∈ ts
      · rw [ets] at hb
        obtain ⟨p, hp, rfl⟩ := List.mem_map.mp hb
        obtain ⟨more, hm⟩ := longer p hp
        exact ⟨_, hm⟩
      · exact ⟨o, kept b o hb e⟩
end
end VS

/-! A def run at a given place; _law_raised(lambda: ..); readings for the law's own body. -/
namespace VS
open PySem PySem.Spec PyProof.Rows L2
/-- the code object of the def x -/
def CodeK (K : PySem.W.Frag) (mg : Str → Option Value) (x : Str) (c : Addr) : Prop := ∀ (f : Addr) (oc : Value) (od : Option Addr) (fd : FuncData) (osl : Array (Option Value)), mg x = some (.ref f) → K.lookup f = some ⟨oc, od, .func fd, osl⟩ → fd.code = .ref c
section
variable {P : Program} {w : World} {K : PySem.W.Frag} {mg : Str → Option Value} {base : Heap}
theorem run_at {x : Str} {st : Stmt} {ps N : List Str} {k : Nat} {f c : Addr} {fd : FuncData} (F : Fn K mg x st ps f fd) (S : FnScope N ps (defScope st)) (hc : CodeK K mg x c) {A : Around} {outer : List Env} {s : Shared} {H : Hp} {us : List Value} {vs : List V} {Q : VK}
    (hr : Room (k + 1) A) (e0 : Env0 P w K mg base A outer s H) (r : Vals vs us) (hl : vs.length = ps.length)
    (body : Room k (A.deeper (envOfC x (defScope st) s.heap.objs.size f (.ref c))) → ∃ t, PSs (cxOf CX0 P w K mg base N x (defScope st) f (.ref c) A outer s H E0).nox (defBody st) t ∧ t { nx := fun _ H2 => Q .non H2, rt := Q } (start N vs) H) :
    codeAny (model P w) A (.call (.ref f) ⟨us, []⟩) (CR CX0 outer P w H s Q E0) s := by
  obtain ⟨oc, od, dV, kV, doc, pm, an, cdv, ct, osl, rfl, lk, hcd, _, _⟩ := F.d.ex
  have ec : cdv = .ref c := hc f oc od _ osl F.g lk
  subst ec
  have KX : K.In s.heap := e0.mod.kin.keeps fun b o e => (e0.bs b o e).1
  have hl2 : (us ++ ([] : List Value)).length = ps.length := by rw [List.append_nil, ← r.length]; exact hl
  have hb := F.b s us KX hl2
  rw [List.append_nil] at hb
  refine LamX.run_ofS (N := N) (ps := ps) (us := us) (vs := vs) lk hcd S hr e0 hb r hl fun hr' => ?_
  obtain ⟨t, a, b⟩ := body hr'
  exact ⟨t, a.nox, b⟩
end
section
variable {X : Cx} {x : Str} {st : Stmt} {ps N : List Str} {k : Nat} {f c : Addr} {fd : FuncData} {sp : List V → Hp → VK → Prop} {e : Expr} {es : List Expr} {t : TA} {p pos : Pos}
/-- a call, the def's body told at this very place -/
theorem pe_fnG (F : Fn X.K X.mg x st ps f fd) (S : FnScope N ps (defScope st)) (hc : CodeK X.K X.mg x c) (hr : Room (k + 1) X.A) (len : ∀ vs H Q, sp vs H Q → vs.length = ps.length)
    (body : ∀ (s : Shared) (H : Hp) (vs : List V) (Q : VK), Room k (X.A.deeper (envOfC x (defScope st) s.heap.objs.size f (.ref c))) → sp vs H Q → ∃ t, PSs (cxOf CX0 X.prog X.w X.K X.mg X.base N x (defScope st) f (.ref c) X.A X.stack s H E0).nox (defBody st) t ∧ t { nx := fun _ H2 => Q .non H2, rt := Q } (start N vs) H)
    (ha : PA X (e :: es) t) (hg : Gl X x := by rfl) (hdb : (x == ("__debug__" : Str)) = false := by decide)
    (he : starEach (e :: es) X.env = (false, eval e X.env) :: starEach es X.env := by rfl) (hpl : (backTo pos (starEach es X.env)).any (·.1) = false := by rfl) :
    PE X (.Call (.Name x p) (e :: es) [] pos) (tCB sp t) := by
  refine ⟨fun pins s σ H Q I h => wpAny_Call_Name_kw (ld_glob I hg F.g ?_ hdb)⟩
  refine PySem.W.callWith_K (h₀ := X.base) I.ok.mod.kin F.d.kp (thn (ha.run pos pins s σ H _ I h) fun us s1 ⟨vs, H1, I1, r, q⟩ => ⟨I1.kIn, ?_⟩) he hpl
  show wpAny _ _ (call (.ref f) us) _ _ _
  have rc := run_at F S hc hr I1.env0 r (len _ _ _ q) fun hr' => body s1 H1 vs Q hr' q
  refine wpAny_call (codeAny_mono rc fun r s' hq => ?_)
  match r, hq with
  | .error e, hq => exact (show False from hq).elim
  | .ok (.ret u), hq => exact I1.after hq
  | .ok .next, hq => exact False.elim hq
  | .ok .brk, hq => exact False.elim hq
  | .ok .cont, hq => exact False.elim hq
end
/-! ### what stays when a lambda is made -/
section
variable {H H2 : Hp} {d : Addr} {n : Nat}
theorem kt_ext (e : LamX.ExtN H H2) : KT H H2 := fun b xs h => e b _ h fun ps z => by cases z
theorem StAt.ext (e : LamX.ExtN H H2) (h : StAt H d n) : StAt H2 d n := by
  obtain ⟨c, l, cs, ls, k, h1, h2, h3, h4⟩ := h
  exact ⟨c, l, cs, ls, k, e _ _ h1 fun ps z => (by cases z), e _ _ h2 fun ps z => (by cases z), e _ _ h3 fun ps z => (by cases z), h4⟩
theorem tabs_bt {T : List (Addr × Str)} (b : Bt d H H2) (st : StAt H d n) (h : LamX.Tabs T H) : LamX.Tabs T H2 := fun p hp => by
  obtain ⟨ps, e1, e2, e3⟩ := h p hp
  refine ⟨ps, b.k _ _ e1 (st.ne e1 fun _ z => by cases z), e2, fun pos cv hc => ?_⟩
  obtain ⟨c, e4, e5⟩ := e3 pos cv hc
  exact ⟨c, e4, b.k _ _ e5 (st.ne e5 fun _ z => by unfold LamX.CodeO at z; cases z)⟩
end
/-! ### readings -/
@[irreducible] def vMin : List V → Hp → VK → Prop := fun xs H Q => ∃ i j, xs = [.int i, .int j] ∧ Q (.int (if j < i then j else i)) H
@[irreducible] def vSlA (K : PySem.W.Frag) : V → Option Int → Option Int → Hp → VK → Prop := rSlA K
section
variable {X : Cx} {K : PySem.W.Frag} {mg : Str → Option Value}
theorem min_ok (hc : X.calm = true) : CallR X (.builtin "min") vMin := by
  unfold vMin
  exact call_min2 hc
theorem Top.slA (T : Top K mg) (hK : X.K = K := by rfl) : SlR X (vSlA K) := by
  subst hK
  unfold vSlA
  exact sl_tupA
theorem r_min {H : Hp} {Q : VK} {i j : Int} (q : Q (.int (if j < i then j else i)) H) : vMin [.int i, .int j] H Q := by
  unfold vMin
  exact ⟨i, j, rfl, q⟩
/-- t[:1] of what is not empty: one item -/
theorem r_slA1 {H : Hp} {Q : VK} {a : Addr} {xs : List V} (ha : H a = some (.tup xs)) (h1 : 1 ≤ xs.length) (q : ∀ p ys H2, Same H H2 → H2 p = some (.tup ys) → ys.length ≠ 2 → Q (.ref p) H2) : vSlA K (.ref a) none (some 1) H Q := by
  unfold vSlA
  have e0 : HT.sIx xs.length 0 none = 0 := HT.sIx_none ..
  have e1 : HT.sIx xs.length xs.length (some 1) = 1 := by
    have z := HT.sIx_nat xs.length xs.length 1
    rw [show min 1 xs.length = 1 by omega] at z
    exact z
  refine ⟨a, xs, rfl, .of ha, fun h => ?_, fun h p np => ?_⟩
  · rw [e1] at h
    exact q a xs H (Same.refl H) ha (by omega)
  · refine q p _ _ (same_upd np) upd_same ?_
    unfold cutV
    rw [e0, e1, List.length_take]
    omega
end
/-! ### _law_raised(lambda: ..) -/
section
variable {X : Cx} {cl : Str → Addr} {g c P : Addr} {fd : FuncData} {k : Nat} {T2 : List (Addr × Str)} {params : Arguments} {body : Expr} {scope : Scope} {t : XK → TE} {p lpos pos : Pos}
theorem pe_raised (T : Top X.K X.mg) (EX : Excs X.K X.mg cl) (F : Fn X.K X.mg "_law_raised" (topS 48) ["asked"] g fd) (TB : LamX.TabB X.base X.mg c P) (hcode : X.env.code = .ref c) {q ql : Str} (hql : ql = q ++ "<lambda>") (hq : X.env.qual = q) (hmT : (P, ql) ∈ T2) (hu : ∀ p ∈ T2, p.1 = P → p.2 = ql)
    (hr : Room (k + 2) X.A) (L : LamX.LamS X.env.scope scope) (hdef : defaultsOf params X.env = ([], []))
    (hbind : ∀ (q : Str) (cl : List (Str × Addr)) (pm cv ctv : Value), bindArgs (PySem.W.kla_fn "<lambda>" q params body scope cl pm cv ctv) ⟨[], []⟩ = pure [])
    (hbody : ∀ (A : Around) (outer : List Env) (s : Shared) (H : Hp) (E : XK) (f c' : Addr), Room k (A.deeper (LamX.lamEnv X scope s.heap.objs.size f c')) → PE (LamX.lamCx X A outer s H E scope f c') body (t E)) (hg : Gl X "_law_raised" := by rfl) :
    PE X (.Call (.Name "_law_raised" p) [.Lambda params body scope lpos] [] pos) (LamX.tLam T2 (TTRaised cl) t) := by
  subst hq hql
  obtain ⟨oc, od, dV, kV, doc, pm, an, cdv, ct, osl, rfl, lk, hcd, _, _⟩ := F.d.ex
  exact LamX.pe_lamcall hg F.g F.d.kp lk hcd F.b sc_raised rfl (.inl rfl) (raised_gives T EX g cdv _) TB hcode hmT hu hr L hdef hbind hbody
end
end VS

set_option maxHeartbeats 1000000
/-! _law_wide_right. -/
namespace VS
open PySem PySem.Spec PyProof.Rows L2
theorem P_in {r : List (Str × List Str)} {S : Str → Prop} (hr : ∀ v ∈ r, ∀ s ∈ v.2, S s) : ∀ {n : Str}, S n → ∀ q ∈ VM.P r n, ∀ x ∈ q, S x := by
  induction r with
  | nil =>
    intro n hn q hq x hx
    have h2 : q ∈ [[n]] := hq
    rw [List.mem_singleton.mp h2] at hx
    rw [List.mem_singleton.mp hx]
    exact hn
  | cons v r ih =>
    intro n hn q hq x hx
    have ih2 := fun {m : Str} => ih (fun u hu => hr u (List.mem_cons_of_mem _ hu)) (n := m)
    have h2 : q ∈ (if n = v.1 then ((v.2.map (VM.P r)).flatten).map (n :: ·) else VM.P r n) := hq
    split at h2
    · obtain ⟨t, ht, rfl⟩ := List.mem_map.mp h2
      obtain ⟨l, hl, htl⟩ := List.mem_flatten.mp ht
      obtain ⟨s, hs, rfl⟩ := List.mem_map.mp hl
      rcases List.mem_cons.mp hx with z | z
      · rw [z]
        exact hn
      · exact ih2 (hr v List.mem_cons_self s hs) t htl x z
    · exact ih2 hn q h2 x hx
theorem GoodWeb.paths {W : WB} (g : GoodWeb W) {n : Str} (hn : n ∈ W.names) : ∀ q ∈ VM.P W.rv n, (∀ x ∈ q, GoodW x) ∧ q.length ≤ 9 := by
  intro q hq
  have h1 := P_in (S := fun x => x ∈ W.names) (fun v hv s hs => by
    unfold WB.rv WB.sv at hv
    rw [List.mem_reverse] at hv
    obtain ⟨u, hu, rfl⟩ := List.mem_map.mp hv
    obtain ⟨ns, gs, hns⟩ := g.good hu
    obtain ⟨sr, hsr, rfl⟩ := List.mem_map.mp hs
    exact hns _ (gs.ahead sr hsr)) hn q hq
  refine ⟨fun x hx => g.word (h1 x hx), ?_⟩
  have h2 := VM.P_len W.rv n q hq
  have h3 : W.rv.length = W.views.length := by simp [WB.rv, WB.sv]
  have := g.vi
  omega
theorem GoodWeb.layP {W : WB} (g : GoodWeb W) {n : Str} (hn : n ∈ W.names) : LayP (VM.P W.rv n) := fun q hq x hx => (((g.paths hn) q hq).1 x hx).lay
theorem GoodWeb.rk8 {W : WB} (g : GoodWeb W) (n : Str) : VM.rk W.rv n < 9 := by
  have h1 := VM.rk_bd W.rv n
  have h3 : W.rv.length = W.views.length := by simp [WB.rv, WB.sv]
  have := g.vi
  omega
theorem wide_names {l : Str} {W : WB} (wd : Wide l W) {x : Str} (h : x ∈ tabW.map (·.1) ++ nmW) : x ∈ W.names := by
  unfold WB.names
  rw [wd.tn, wd.vn]
  exact h
theorem len_ne {fs : List V} {k : Nat} (h : fs.length = k) : (!decide (V.int (fs.length : Int) = V.int (k : Int))) = false := by
  rw [h, decide_eq_true rfl]
  rfl
abbrev NWR : List Str := ["state", "last", "web"]
theorem sc_wr : FnScope NWR ["state"] (defScope (topS 49)) := ⟨rfl, rfl, rfl, by decide +kernel, rfl, by decide +kernel, by decide +kernel⟩
section
variable {P : Program} {w : World} {K : PySem.W.Frag} {mg : Str → Option Value} {base : Heap} {cl : Str → Addr} {A : Around} {outer : List Env} {s : Shared} {H : Hp} {f g c Pt d : Addr} {fdr : FuncData} {T2 : List (Addr × Str)} {n : Nat} {Q : VK}
def qWR0 : Str := ("_law_wide_right" : Str) ++ ".<locals>."
def qWR : Str := qWR0 ++ "<lambda>"
theorem wide_body (T : Top K mg) (EX : Excs K mg cl) (F : Fn K mg "_law_raised" (topS 48) ["asked"] g fdr) (TB : LamX.TabB base mg c Pt) (hmT : (Pt, qWR) ∈ T2) (hu : ∀ p ∈ T2, p.1 = Pt → p.2 = qWR)
    (hg : A.guards = some []) (hr : Room 10 (A.deeper (envOfC "_law_wide_right" (defScope (topS 49)) s.heap.objs.size f (.ref c)))) (st : StAt H d n) (hn : n ≤ 4000) (tb : LamX.Tabs T2 H) (q : ∀ H2, Q (.bl true) H2) :
    ∃ t, PSs (cxOf CX0 P w K mg base NWR "_law_wide_right" (defScope (topS 49)) f (.ref c) A outer s H E0).nox (defBody (topS 49)) t ∧ t { nx := fun _ H2 => Q .non H2, rt := Q } (start NWR [.ref d]) H := by
  have nd := sc_wr.nd
  have hr1 : Room 2 (A.deeper (envOfC "_law_wide_right" (defScope (topS 49)) s.heap.objs.size f (.ref c))) := hr.mono (by decide)
  have hr3 : Room 3 (A.deeper (envOfC "_law_wide_right" (defScope (topS 49)) s.heap.objs.size f (.ref c))) := hr.mono (by decide)
  have hr8 : Room 8 (A.deeper (envOfC "_law_wide_right" (defScope (topS 49)) s.heap.objs.size f (.ref c))) := hr.mono (by decide)
  have px : Passes (L2.CX P w) (cxOf CX0 P w K mg base NWR "_law_wide_right" (defScope (topS 49)) f (.ref c) A outer s H E0).nox (fun _ _ _ => False) := passes_call LamX.takes0 (fun _ _ _ _ z => z)
  have hu64 : (cxOf CX0 P w K mg base NWR "_law_wide_right" (defScope (topS 49)) f (.ref c) A outer s H E0).nox.A.units + 64 < cLine := hr.units
  have hgd : (cxOf CX0 P w K mg base NWR "_law_wide_right" (defScope (topS 49)) f (.ref c) A outer s H E0).nox.A.guards = some [] := hg
  refine ⟨_, pss_cons (ps_set (i := 1) nd rfl (.inl rfl) (pe_fn (ok_of T) hr1 pass0 (pa_cons (pv 0) (pa_cons (pe_lst (pa_cons pe_str (pa_cons pe_str pa_nil))) pa_nil))))
    (pss_cons (ps_set (i := 2) nd rfl (.inr rfl) (pe_fn (ok_lwide T) hr3 pass0 (pa_cons (pv 0) (pa_cons (pv 1) pa_nil))))
    (pss_cons (ps_if (PW.pt (pw_or (pt_cmpR ne_ok (pe_len T (pe_fn (E := fun _ _ _ => False) (ok_paths T EX.web EX.great EX.miss) hr8 px (pa_cons (pv 2) (pa_cons pe_str pa_nil)))) pe_int (nomark _))
        (pw_or1 (pt_cmpR ne_ok (pe_len T (pe_fn (E := fun _ _ _ => False) (ok_paths T EX.web EX.great EX.miss) hr8 px (pa_cons (pv 2) (pa_cons pe_str pa_nil)))) pe_int (nomark _))))) (pss_one (ps_ret pe_bl)) pss_nil)
    (pss_cons (ps_if (pt_cmpR eq_ok (pv 1) pe_str (nomark _)) (pss_one (ps_ret (pe_cmpR (eqT_ok hu64) (pe_raised (k := 8) (T2 := T2) T EX F TB rfl (q := qWR0) (ql := qWR) rfl rfl hmT hu hr (LamX.lamS_by (sc := defScope (topS 49)) (by decide +kernel)) rfl (fun _ _ _ _ _ => by rfl)
        (fun A2 outer2 s2 H2 E2 f2 c2 hr2 => pe_fn (E := E2) (ok_paths T EX.web EX.great EX.miss) hr2 (passes_call (W := fun cls d _ H => E2 cls d H) (takes_of rfl rfl rfl rfl) (fun _ _ _ _ z => z)) (pa_cons (pv 2) (pa_cons pe_str pa_nil))))
        (pe_tup (pa_cons pe_str (pa_cons pe_int pa_nil))) (nomark _)))) pss_nil)
    (pss_one (ps_ret (pe_cmpR eq_ok (pe_callB (repP_ok hgd hu64) (by rfl) T.rpr b_rpr (pa_cons (pe_fn (E := fun _ _ _ => False) (ok_paths T EX.web EX.great EX.miss) hr8 px (pa_cons (pv 2) (pa_cons pe_str pa_nil))) pa_nil))
        (pe_callB (repP_ok hgd hu64) (by rfl) T.rpr b_rpr (pa_cons (pe_callTy tupL_ok (by rfl) T.tup b_tup (pa_cons (pe_fn (ok_lp T 9) hr pass0 (pa_cons (pv 2) (pa_cons pe_str pa_nil))) pa_nil)) pa_nil)) (by rfl))))))), ?_⟩
  refine ⟨_, rfl, by show 2 ≤ sizeLine; decide, fun L nL => ⟨d, L, lastW, n, rfl, StAt.same (same_upd nL) st, upd_same, by decide, by decide, by omega, fun x H1 b1 st1 hx => ?_⟩⟩
  have b01 : Bt d H H1 := (Bt.of (same_upd nL)).trans b1
  refine ⟨_, rfl, _, rfl, d, n + 1, x, rfl, hx, st1, by omega, fun v W H2 b2 st2 hW wd => ?_⟩
  have tb2 := tabs_bt (b01.trans b2) st tb
  have gw := wd.good hx
  obtain ⟨p, t1, u1, ts, us, rfl, _⟩ := id hW
  have ck : (VM.P W.rv ("k" : Str)).length = 152 := by rw [wd.rv]; exact cnt_k x hx
  have cj : (VM.P W.rv ("j" : Str)).length = 79 := by rw [wd.rv]; exact cnt_j x hx
  refine ⟨_, rfl, p, .str "k", rfl, .inr ⟨W, hW, gw, .inl ⟨"k", rfl, wide_names wd (by decide), fun _ a fs H3 s3 ha pf => ?_, fun z => absurd z (by rw [ck]; decide)⟩⟩⟩
  refine r_lnT ha (r_ne rfl (len_ne ((Paired.length pf).trans ck)) ⟨false, rfl, iteF ?_⟩)
  have hW3 := WebAt.kt (.of s3) hW
  refine ⟨_, rfl, p, .str "j", rfl, .inr ⟨W, hW3, gw, .inl ⟨"j", rfl, wide_names wd (by decide), fun _ a2 fs2 H4 s4 ha2 pf2 => ?_, fun z => absurd z (by rw [cj]; decide)⟩⟩⟩
  refine r_lnT ha2 (r_ne rfl (len_ne ((Paired.length pf2).trans cj)) ⟨false, rfl, iteF ?_⟩)
  have hW4 := WebAt.kt (.of s4) hW3
  have tb4 := tb2.ext (s3.trans s4)
  have hl : ("l" : Str) ∈ W.names := wide_names wd (by decide)
  rcases List.mem_cons.mp hx with rfl | hx2
  · -- 200 paths
    have cn : (VM.P W.rv ("l" : Str)).length = 200 := by rw [wd.rv]; exact cnt_a
    refine ⟨_, rfl, r_eq (b := false) rfl (by decide) ⟨false, rfl, iteF ?_⟩⟩
    refine ⟨_, rfl, p, .str "l", rfl, .inr ⟨W, hW4, gw, .inl ⟨"l", rfl, hl, fun _ a3 fs3 H5 s5 ha3 pf3 => ?_, fun z => absurd z (by rw [cn]; decide)⟩⟩⟩
    have sz := shP_len (gw.paths hl) (by rw [cn]; decide)
    refine r_repP ha3 pf3 (gw.layP hl) sz ?_
    refine ⟨_, rfl, .ref p, "l", W, rfl, WebAt.kt (.of s5) hW4, gw, hl, gw.rk8 _, by rw [cn]; decide, fun a4 fs4 H6 s6 ha4 pf4 => ?_⟩
    refine r_tupL ha4 fun t n => r_repP upd_same (paths_kt (.of (same_upd n)) pf4) (gw.layP hl) sz (r_eq rfl (decide_eq_true rfl) (q _))
  · obtain rfl := List.mem_singleton.mp hx2
    have cn : (VM.P W.rv ("l" : Str)).length = 202 := by rw [wd.rv]; exact cnt_e
    refine ⟨_, rfl, r_eq (b := true) rfl (by decide) ⟨true, rfl, iteT ?_⟩⟩
    refine ⟨tb4, fun H5 eN T5 => ?_⟩
    refine ⟨_, rfl, p, .str "l", rfl, .inr ⟨W, WebAt.kt (kt_ext eN) hW4, gw, .inl ⟨"l", rfl, hl, fun z => absurd z (by rw [cn]; decide), fun _ dx H6 s6 hdx => ?_⟩⟩⟩
    refine ⟨dx, .int 200, ("TooGreat", "most", "great"), rfl, by decide, rfl, hdx, fun t H7 s7 ht => ⟨by show 2 ≤ sizeLine; decide, fun t2 n2 => ?_⟩⟩
    exact r_eqT ((same_upd n2) _ _ ht) upd_same (.cons (eqi_str _ (by decide +kernel)) (.cons (eqi_int _) .nil)) (q _)
end
end VS

/-! The body of law. -/
namespace VS
open PySem PySem.Spec PyProof.Rows L2
abbrev NL : List Str := ["script", "state", "turn", "name", "thing", "web"]
theorem sc_law : FnScope NL ["script"] (defScope (topS 50)) := ⟨rfl, rfl, rfl, by decide +kernel, rfl, by decide +kernel, by decide +kernel⟩
def qL0 : Str := ("law" : Str) ++ ".<locals>."
def qL : Str := qL0 ++ "<lambda>"
/-- the promise of _law_wide_right, told by its tables -/
def spWR (T2 : List (Addr × Str)) : List V → Hp → VK → Prop := fun vs H Q => ∃ (d : Addr) (n : Nat), vs = [.ref d] ∧ StAt H d n ∧ n ≤ 4000 ∧ LamX.Tabs T2 H ∧ ∀ H2, Q (.bl true) H2
theorem r_lnQ {K : PySem.W.Frag} {H : Hp} {a : Addr} {xs : List V} {Q : VK} (h : SqL K H a xs) (q : Q (.int xs.length) H) : vLen K [.ref a] H Q := by
  unfold vLen
  exact ⟨a, xs, rfl, .inl h, q⟩
/-- the things that name no view: what they are -/
theorem no_str {K : PySem.W.Frag} {H : Hp} {W : WB} {x : Str} (h : x ∉ pool) (f : Few W) : NoName K H W (.str x) := .inl ⟨x, rfl, fun hx => h (f.pool x hx)⟩
section
variable {P : Program} {w : World} {K : PySem.W.Frag} {mg : Str → Option Value} {base : Heap} {cl : Str → Addr} {A : Around} {outer : List Env} {s : Shared} {H : Hp} {f g fw c c2 Pt P2 a : Addr} {fdr fdw : FuncData} {T2 : List (Addr × Str)} {ns : List Int} {Q : VK}
theorem law_body (T : Top K mg) (EX : Excs K mg cl) (F : Fn K mg "_law_raised" (topS 48) ["asked"] g fdr) (Fw : Fn K mg "_law_wide_right" (topS 49) ["state"] fw fdw) (C2 : CodeK K mg "_law_wide_right" c2)
    (TB : LamX.TabB base mg c Pt) (TB2 : LamX.TabB base mg c2 P2) (hmT : (Pt, qL) ∈ T2) (hu : ∀ p ∈ T2, p.1 = Pt → p.2 = qL) (hmT2 : (P2, qWR) ∈ T2) (hu2 : ∀ p ∈ T2, p.1 = P2 → p.2 = qWR)
    (hg : A.guards = some []) (hr : Room 11 (A.deeper (envOfC "law" (defScope (topS 50)) s.heap.objs.size f (.ref c)))) (hS : SqL K H a (nums ns)) (hS2 : ∀ H2, Same H H2 → SqL K H2 a (nums ns)) (hl : ns.length ≤ 63) (tb : LamX.Tabs T2 H) (q : ∀ H2, Q (.bl true) H2) :
    ∃ t, PSs (cxOf CX0 P w K mg base NL "law" (defScope (topS 50)) f (.ref c) A outer s H E0).nox (defBody (topS 50)) t ∧ t { nx := fun _ H2 => Q .non H2, rt := Q } (start NL [.ref a]) H := by
  have nd := sc_law.nd
  have hr1 : Room 1 (A.deeper (envOfC "law" (defScope (topS 50)) s.heap.objs.size f (.ref c))) := hr.mono (by decide)
  have hr4 : Room 4 (A.deeper (envOfC "law" (defScope (topS 50)) s.heap.objs.size f (.ref c))) := hr.mono (by decide)
  have hr8 : Room 8 (A.deeper (envOfC "law" (defScope (topS 50)) s.heap.objs.size f (.ref c))) := hr.mono (by decide)
  have hr10 : Room 10 (A.deeper (envOfC "law" (defScope (topS 50)) s.heap.objs.size f (.ref c))) := hr.mono (by decide)
  have px : Passes (L2.CX P w) (cxOf CX0 P w K mg base NL "law" (defScope (topS 50)) f (.ref c) A outer s H E0).nox (fun _ _ _ => False) := passes_call LamX.takes0 (fun _ _ _ _ z => z)
  have hu64 : (cxOf CX0 P w K mg base NL "law" (defScope (topS 50)) f (.ref c) A outer s H E0).nox.A.units + 64 < cLine := hr.units
  have hgd : (cxOf CX0 P w K mg base NL "law" (defScope (topS 50)) f (.ref c) A outer s H E0).nox.A.guards = some [] := hg
  refine ⟨_, pss_cons (ps_set (i := 1) nd rfl (.inl rfl) (pe_fn (ok_begin T) hr1 pass0 (pa_cons (pv 0) pa_nil)))
    (pss_cons (ps_for PassesOwn.never rfl (pi_range1 (by rfl) T.rng (pa_cons (pe_op add_ok pe_int (pe_callB (min_ok rfl) (by rfl) T.min b_min (pa_cons pe_int (pa_cons (pe_len T (pv 0)) pa_nil)))) pa_nil)) (pg_name (i := 2) nd rfl (.inl rfl))
      (pss_cons (ps_set (i := 5) nd rfl (.inr rfl) (pe_fn (ok_lweb T) hr4 pass0 (pa_cons (pv 1) (pa_cons pe_int (pa_cons pe_int (pa_cons pe_int pa_nil))))))
      (pss_cons (ps_for PassesOwn.never rfl (pi_list (pe_fn (ok_lan T) hr1 pass0 (pa_cons (pv 5) pa_nil))) (pg_name (i := 3) nd rfl (.inl rfl))
        (pss_one (ps_if (pt_cmpR ne_ok (pe_callB (repP_ok hgd hu64) (by rfl) T.rpr b_rpr (pa_cons (pe_fn (E := fun _ _ _ => False) (ok_paths T EX.web EX.great EX.miss) hr8 px (pa_cons (pv 5) (pa_cons (pv 3) pa_nil))) pa_nil))
          (pe_callB (repP_ok hgd hu64) (by rfl) T.rpr b_rpr (pa_cons (pe_callTy tupL_ok (by rfl) T.tup b_tup (pa_cons (pe_fn (ok_lp T 9) hr10 pass0 (pa_cons (pv 5) (pa_cons (pv 3) pa_nil))) pa_nil)) pa_nil)) (by rfl)) (pss_one (ps_ret pe_bl)) pss_nil)))
      (pss_cons (ps_for PassesOwn.never rfl (pi_tup (pe_tup (pa_cons pe_non (pa_cons pe_int (pa_cons pe_str (pa_cons pe_str (pa_cons (pe_tup (pa_cons pe_str pa_nil)) (pa_cons (pe_lst pa_nil) (pa_cons pe_dnewK (pa_cons pe_bl pa_nil)))))))))) (pg_name (i := 4) nd rfl (.inr rfl))
        (pss_one (ps_if (pt_cmpR (neT_ok hu64) (pe_raised (k := 8) (T2 := T2) T EX F TB rfl (q := qL0) (ql := qL) rfl rfl hmT hu hr10 (LamX.lamS_by (sc := defScope (topS 50)) (by decide +kernel)) rfl (fun _ _ _ _ _ => by rfl)
            (fun A2 outer2 s2 H2 E2 f2 c2 hr2 => pe_fn (E := E2) (ok_paths T EX.web EX.great EX.miss) hr2 (passes_call (W := fun cls d _ H => E2 cls d H) (takes_of rfl rfl rfl rfl) (fun _ _ _ _ z => z)) (pa_cons (pv 5) (pa_cons (pv 4) pa_nil))))
          (pe_tup (pa_cons pe_str (pa_cons (pv 4) pa_nil))) (nomark _)) (pss_one (ps_ret pe_bl)) pss_nil)))
      (pss_cons (ps_if (pt_cmpR (neT_ok hu64) (pe_raised (k := 8) (T2 := T2) T EX F TB rfl (q := qL0) (ql := qL) rfl rfl hmT hu hr10 (LamX.lamS_by (sc := defScope (topS 50)) (by decide +kernel)) rfl (fun _ _ _ _ _ => by rfl)
            (fun A2 outer2 s2 H2 E2 f2 c2 hr2 => pe_fn (E := E2) (ok_paths T EX.web EX.great EX.miss) hr2 (passes_call (W := fun cls d _ H => E2 cls d H) (takes_of rfl rfl rfl rfl) (fun _ _ _ _ z => z)) (pa_cons (pe_tup (pa_cons (pe_ix T.ixT (pv 5) pe_int (fun _ _ => rfl)) pa_nil)) (pa_cons pe_non pa_nil))))
          (pe_tup (pa_cons pe_str (pa_cons (pe_tup (pa_cons pe_str pa_nil)) pa_nil))) (nomark _)) (pss_one (ps_ret pe_bl)) pss_nil)
      (pss_one (ps_if (pt_cmpR (neT_ok hu64) (pe_raised (k := 8) (T2 := T2) T EX F TB rfl (q := qL0) (ql := qL) rfl rfl hmT hu hr10 (LamX.lamS_by (sc := defScope (topS 50)) (by decide +kernel)) rfl (fun _ _ _ _ _ => by rfl)
            (fun A2 outer2 s2 H2 E2 f2 c2 hr2 => pe_fn (E := E2) (ok_names T EX.web) hr2 (passes_call (W := fun cls d _ H => E2 cls d H) (takes_of rfl rfl rfl rfl) (fun _ _ _ _ z => z)) (pa_cons (pe_slice T.slA (pe_ix T.ixT (pv 5) pe_int (fun _ _ => rfl)) po_none (po_some pe_int)) pa_nil)))
          (pe_tup (pa_cons pe_str (pa_cons (pe_tup (pa_cons pe_str pa_nil)) pa_nil))) (nomark _)) (pss_one (ps_ret pe_bl)) pss_nil)))))))
    (pss_one (ps_ret (pe_fnG (k := 10) (sp := spWR T2) Fw sc_wr C2 hr (fun vs H Q h => by obtain ⟨d, n, rfl, _⟩ := h; rfl)
      (fun s2 H2 vs Q2 hr2 h => by
        obtain ⟨d, n, rfl, st, hn, tb2, q2⟩ := h
        exact wide_body T EX F TB2 hmT2 hu2 hg hr2 st hn tb2 q2) (pa_cons (pv 1) pa_nil))))), ?_⟩
  refine ⟨_, rfl, a, ns, rfl, hS, hS2, hl, fun d H1 s1 nd1 st1 => ?_⟩
  have tb1 := tb.ext s1
  have ln : (nums ns).length = ns.length := List.length_map ..
  refine ⟨_, rfl, r_lnQ (hS2 H1 s1) (r_min (r_add ?_))⟩
  obtain ⟨m, hm⟩ : ∃ m : Int, m = 4 + (if ((nums ns).length : Int) < 5 then ((nums ns).length : Int) else 5) := ⟨_, rfl⟩
  have m0 : 0 ≤ m := by
    rw [hm]
    split <;> omega
  have m9 : m ≤ 9 := by
    rw [hm]
    split <;> omega
  rw [← hm]
  refine ⟨m, rfl, by omega, by omega, ?_⟩
  refine for_it (walk_range (n := m.toNat)) (fun i σ H2 => ∃ y2 y3 y4 y5, σ = [some (.ref a), some (.ref d), y2, y3, y4, y5] ∧ StAt H2 d (100 * i) ∧ LamX.Tabs T2 H2) ⟨none, none, none, none, rfl, st1, tb1⟩ (fun _ _ _ _ _ => True.intro) ?_ ?_
  · rintro i x σ H2' H2 hi ⟨y2, y3, y4, y5, rfl, st2, tb2⟩ ⟨rfl, rfl⟩
    refine ⟨_, rfl, d, _, rfl, st2, by omega, fun v W H3 b3 st3 hW gw few => ?_⟩
    have tb3 := tabs_bt b3 st2 tb2
    obtain ⟨p, t0, u0, ts, us, rfl, hp, ht0, hu0, pt, pu⟩ := id hW
    -- the names of the web
    refine ⟨_, rfl, .ref p, W, rfl, hW, gw, fun la H4 s4 nla hla => ⟨la, rfl, ⟨_, .of hla⟩, ?_⟩⟩
    refine for_it (walk_list (xs := txs W.names)) (fun j σ H5 => ∃ y2 y3 y4, σ = [some (.ref a), some (.ref d), y2, y3, y4, some (.ref p)] ∧ Same H4 H5) ⟨_, _, _, rfl, Same.refl H4⟩ (fun j σ H5 _ ⟨_, _, _, _, s5⟩ => .of (s5 _ _ hla)) ?_ ?_
    · rintro j x σ H5' H5 hj ⟨y2, y3, y4, rfl, s5⟩ ⟨rfl, hx⟩
      rw [List.getElem?_map] at hx
      obtain ⟨x, hx2, rfl⟩ := Option.map_eq_some_iff.mp hx
      have hxn : x ∈ W.names := List.mem_of_getElem? hx2
      have cn := few.cnt x
      have s45 := s4.trans s5
      refine ⟨_, rfl, _, rfl, p, .str x, rfl, .inr ⟨W, WebAt.kt (.of s45) hW, gw, .inl ⟨x, rfl, hxn, fun _ a3 fs3 H6 s6 ha3 pf3 => ?_, fun z => absurd z (by omega)⟩⟩⟩
      have sz := shP_len (gw.paths hxn) (by omega)
      refine r_repP ha3 pf3 (gw.layP hxn) sz ?_
      refine ⟨_, rfl, _, rfl, .ref p, x, W, rfl, WebAt.kt (.of (s45.trans s6)) hW, gw, hxn, gw.rk8 _, by omega, fun a4 fs4 H7 s7 ha4 pf4 => ?_⟩
      refine r_tupL ha4 fun t n => r_repP upd_same (paths_kt (.of (same_upd n)) pf4) (gw.layP hxn) sz (r_ne (b := false) rfl (by rw [decide_eq_true rfl]; rfl) ⟨false, rfl, iteF ?_⟩)
      exact ⟨_, _, _, rfl, Same.new (s5.trans (s6.trans s7)) n⟩
    rintro σ H5 ⟨y2, y3, y4, rfl, s5⟩
    have s45 := s4.trans s5
    -- what is no name
    refine ⟨by show 1 ≤ sizeLine; decide, fun p1 n1 => ⟨Nat.zero_le _, fun p2 n2 p3 n3 => ⟨by show 8 ≤ sizeLine; decide, fun tt nt => ?_⟩⟩⟩
    have s6 : Same H5 (upd H5 p1 (.tup [.str "a"])) := same_upd n1
    have s7 := Same.new (o := .lst []) s6 n2
    have s8 := Same.new (o := .dK []) s7 n3
    have s9 := Same.new (o := .tup [.non, .int 5, .str "", .str "nobody", .ref p1, .ref p2, .ref p3, .bl true]) s8 nt
    have h1 := (same_upd (o := .tup [.non, .int 5, .str "", .str "nobody", .ref p1, .ref p2, .ref p3, .bl true]) nt) _ _ ((same_upd (o := .dK []) n3) _ _ ((same_upd (o := .lst []) n2) _ _ (upd_same (H := H5) (a := p1) (o := .tup [.str "a"]))))
    have h2 := (same_upd (o := .tup [.non, .int 5, .str "", .str "nobody", .ref p1, .ref p2, .ref p3, .bl true]) nt) _ _ ((same_upd (o := .dK []) n3) _ _ (upd_same (H := upd H5 p1 (.tup [.str "a"])) (a := p2) (o := .lst [])))
    have h3 := (same_upd (o := .tup [.non, .int 5, .str "", .str "nobody", .ref p1, .ref p2, .ref p3, .bl true]) nt) _ _ (upd_same (H := upd (upd H5 p1 (.tup [.str "a"])) p2 (.lst [])) (a := p3) (o := .dK []))
    have h4 := upd_same (H := upd (upd (upd H5 p1 (.tup [.str "a"])) p2 (.lst [])) p3 (.dK [])) (a := tt) (o := .tup [.non, .int 5, .str "", .str "nobody", .ref p1, .ref p2, .ref p3, .bl true])
    have s39 := s45.trans s9
    refine ⟨tt, rfl, ⟨_, .of upd_same⟩, ?_⟩
    generalize upd (upd (upd (upd H5 p1 (.tup [.str "a"])) p2 (.lst [])) p3 (.dK [])) tt (.tup [.non, .int 5, .str "", .str "nobody", .ref p1, .ref p2, .ref p3, .bl true]) = H9 at s9 h1 h2 h3 h4 s39 ⊢
    have st9 := StAt.same s39 st3
    have tb9 := tb3.ext s39
    have hW9 := WebAt.kt (.of s39) hW
    have hp9 := s39 _ _ hp
    have ht9 := s39 _ _ ht0
    refine for_it (walk_tup (xs := [.non, .int 5, .str "", .str "nobody", .ref p1, .ref p2, .ref p3, .bl true])) (fun j σ H10 => ∃ y2 y3 y4, σ = [some (.ref a), some (.ref d), y2, y3, y4, some (.ref p)] ∧ LamX.ExtN H9 H10 ∧ LamX.Tabs T2 H10) ⟨_, _, _, rfl, LamX.ExtN.refl H9, tb9⟩ (fun j σ H10 _ ⟨_, _, _, _, e, _⟩ => .of (e _ _ h4 fun ps z => by cases z)) ?_ ?_
    · rintro j u σ H10' H10 hj ⟨y2, y3, y4, rfl, e10, T10⟩ ⟨rfl, hu⟩
      refine ⟨T10, fun H11 e11 T11 => ?_⟩
      have e9 := e10.trans e11
      have key : NoName K H11 W u ∧ ∀ H12, KT H9 H12 → EqI K H12 u u := by
        have k1 : ∀ {b : Addr} {o : HO}, H9 b = some o → (∀ ps, o ≠ .tbl ps) → H11 b = some o := fun {b o} h n => e9 b o h n
        match j, hj, hu with
        | 0, _, hu =>
          obtain rfl : V.non = u := Option.some.inj hu
          exact ⟨.inr ⟨"NoneType", fun _ _ => .base .non, by decide +kernel⟩, fun _ _ => .inr ⟨.none, .non, .non, rfl, Nat.zero_le _, by simp [PyData.eqv]⟩⟩
        | 1, _, hu =>
          obtain rfl : V.int 5 = u := Option.some.inj hu
          exact ⟨.inr ⟨"int", fun _ _ => .base (.int _), by decide +kernel⟩, fun _ _ => eqi_int _⟩
        | 2, _, hu =>
          obtain rfl : V.str "" = u := Option.some.inj hu
          exact ⟨no_str (by decide) few, fun _ _ => eqi_str _ (by decide +kernel)⟩
        | 3, _, hu =>
          obtain rfl : V.str "nobody" = u := Option.some.inj hu
          exact ⟨no_str (by decide) few, fun _ _ => eqi_str _ (by decide +kernel)⟩
        | 4, _, hu =>
          obtain rfl : V.ref p1 = u := Option.some.inj hu
          exact ⟨.inr ⟨"tuple", fun H1 s => .base (.tup (s _ _ (k1 h1 fun ps z => (by cases z)))), by decide +kernel⟩, fun _ _ => .inl ⟨_, rfl, rfl⟩⟩
        | 5, _, hu =>
          obtain rfl : V.ref p2 = u := Option.some.inj hu
          exact ⟨.inr ⟨"list", fun H1 s => .base (.lst (s _ _ (k1 h2 fun ps z => (by cases z)))), by decide +kernel⟩, fun _ _ => .inl ⟨_, rfl, rfl⟩⟩
        | 6, _, hu =>
          obtain rfl : V.ref p3 = u := Option.some.inj hu
          exact ⟨.inr ⟨"dict", fun H1 s => .base (.dK (s _ _ (k1 h3 fun ps z => (by cases z)))), by decide +kernel⟩, fun _ _ => .inl ⟨_, rfl, rfl⟩⟩
        | 7, _, hu =>
          obtain rfl : V.bl true = u := Option.some.inj hu
          exact ⟨.inr ⟨"bool", fun _ _ => .base (.bl _), by decide +kernel⟩, fun _ _ => .inr ⟨.bool true, .bl true, .bl true, rfl, Nat.zero_le _, by simp [PyData.eqv]⟩⟩
      refine ⟨_, rfl, _, rfl, p, u, rfl, .inr ⟨W, WebAt.kt (kt_ext e9) hW9, gw, .inr ⟨key.1, fun dx H12 s12 hdx => ?_⟩⟩⟩
      refine ⟨dx, u, ("Missing", "name", "missing"), rfl, by decide, rfl, hdx, fun t H13 s13 ht => ⟨_, rfl, by show 2 ≤ sizeLine; decide, fun t2 n2 => ?_⟩⟩
      have s113 := Same.new (o := .tup [.str "missing", u]) (s12.trans s13) n2
      refine r_neT ((same_upd n2) _ _ ht) upd_same (.cons (eqi_str _ (by decide +kernel)) (.cons (key.2 _ ((kt_ext e9).trans (.of s113))) .nil)) ⟨false, rfl, iteF ?_⟩
      exact ⟨_, _, _, rfl, e9.trans (.of s113), T11.ext s113⟩
    rintro σ H10 ⟨y2, y3, y4, rfl, e10, T10⟩
    have hp10 := kt_ext e10 _ _ hp9
    have ht10 := kt_ext e10 _ _ ht9
    have form : ∀ {H : Hp} {b1 b2 : Addr}, H b1 = some (.tup [.str "form"]) → H b2 = some (.tup [.str "form"]) → EqI K H (.ref b1) (.ref b2) := fun h1 h2 =>
      .inr ⟨.tuple [.str "form"], .tup (.of h1) (.cons (.str _) .nil), .tup (.of h2) (.cons (.str _) .nil), by decide +kernel, by decide +kernel, by decide +kernel⟩
    -- ((web[0],), None)
    refine ⟨T10, fun H11 e11 T11 => ?_⟩
    refine ⟨_, rfl, r_ixT 0 (kt_ext e11 _ _ hp10) rfl ⟨by show 1 ≤ sizeLine; decide, fun q1 m1 => ⟨q1, .non, rfl, .inl ⟨_, upd_same, by show 1 ≠ 2; decide, fun ta dx H12 s12 hta hdx => ?_⟩⟩⟩⟩
    refine ⟨dx, .ref ta, ("BadWeb", "place", "web"), rfl, by decide, rfl, hdx, fun t H13 s13 ht => ⟨by show 1 ≤ sizeLine; decide, fun t3 n3 => ⟨by show 2 ≤ sizeLine; decide, fun t4 n4 => ?_⟩⟩⟩
    have s14 := Same.new (o := .tup [.str "web", .ref t3]) (same_upd (o := .tup [.str "form"]) n3) n4
    have s114 := (Same.new (o := .tup [.ref t0]) (Same.refl H11) m1).trans (s12.trans (s13.trans s14))
    refine r_neT (s14 _ _ ht) upd_same (.cons (eqi_str _ (by decide +kernel)) (.cons (form (s14 _ _ (s13 _ _ hta)) ((same_upd n4) _ _ upd_same)) .nil)) ⟨false, rfl, iteF ?_⟩
    have e14 := e11.trans (.of s114)
    have T14 := T11.ext s114
    have hp14 := kt_ext e14 _ _ hp10
    have ht14 := kt_ext e14 _ _ ht10
    have e914 := e10.trans e14
    generalize upd (upd H13 t3 (.tup [.str "form"])) t4 (.tup [.str "web", .ref t3]) = H14 at T14 hp14 ht14 e914 ⊢
    -- names_of(web[0][:1])
    refine ⟨T14, fun H15 e15 T15 => ?_⟩
    have lts : 1 ≤ ts.length := by
      rw [Paired.length pt]
      exact gw.lo
    refine ⟨_, rfl, r_ixT 0 (kt_ext e15 _ _ hp14) rfl ⟨_, rfl, r_slA1 (kt_ext e15 _ _ ht14) lts fun q2 ys H16 s16 hq2 hne => ⟨q2, ys, rfl, hq2, hne, fun ta dx H17 s17 hta hdx => ?_⟩⟩⟩
    refine ⟨dx, .ref ta, ("BadWeb", "place", "web"), rfl, by decide, rfl, hdx, fun t H18 s18 ht => ⟨by show 1 ≤ sizeLine; decide, fun t3 n3 => ⟨by show 2 ≤ sizeLine; decide, fun t4 n4 => ?_⟩⟩⟩
    have s19 := Same.new (o := .tup [.str "web", .ref t3]) (same_upd (o := .tup [.str "form"]) n3) n4
    have s159 := s16.trans (s17.trans (s18.trans s19))
    refine r_neT (s19 _ _ ht) upd_same (.cons (eqi_str _ (by decide +kernel)) (.cons (form (s19 _ _ (s18 _ _ hta)) ((same_upd n4) _ _ upd_same)) .nil)) ⟨false, rfl, iteF ?_⟩
    exact ⟨_, _, _, _, rfl, StAt.same s159 (StAt.ext (e914.trans e15) (st9.mono (by omega))), T15.ext s159⟩
  · rintro σ H2 ⟨y2, y3, y4, y5, rfl, st2, tb2⟩
    exact ⟨_, rfl, d, _, rfl, st2, by omega, tb2, q⟩
end
end VS

set_option maxHeartbeats 0
/-! The head: what the top leaves, by one run in the kernel. -/
namespace VS
open PySem PySem.Spec PyProof.Rows L2
abbrev ovBase : List Value := [.type "OverflowError", .type "ArithmeticError", .type "Exception", .type "BaseException", .type "object"]
abbrev luBase : List Value := [.type "LookupError", .type "Exception", .type "BaseException", .type "object"]
abbrev veB : List Value := [.type "ValueError", .type "Exception", .type "BaseException", .type "object"]
/-- an own exception class that is raised here: its field, its base -/
def exB (K : PySem.W.Frag) (x f : Str) (bm : List Value) (newId : String) : Bool :=
  PySem.W.excInitIn K (He.ga K x) bm newId && (PySem.W.excOver K (He.ga K x) bm && (xfB K (He.ga K x) && (decide (PySem.W.findIn K (.ref (He.ga K x)) f = some none) &&
  (decide (PySem.W.findIn K (.ref (He.ga K x)) "__setattr__" = some (some (.builtin "object.__setattr__"))) && (decide (PySem.W.findIn K (.ref (He.ga K x)) "__init__" = some (some (.ref (He.ma K (He.ga K x) "__init__")))) &&
  (decide (PySem.W.typeIn K (.ref (He.ma K (He.ga K x) "__init__")) = some (.type "function")) && (PySem.W.keepIn K (.ref (He.ga K x)) && (decide (PySem.W.typeIn K (.ref (He.ga K x)) = some (.type "type")) &&
  (decide (PySem.W.findIn K (.ref (He.ga K x)) "__class__" = some (some (.builtin "object.__class__"))) && (decide (PySem.W.mroIn K (He.ga K x) (.type "object") = some true) &&
  (excs.all fun y => decide (PySem.W.exmOne K (.ref (He.ga K x)) (.ref (He.ga K y)) = some (decide (x = y))) && decide (PySem.W.kitOne K (.ref (He.ga K x)) (.ref (He.ga K y)) = some (decide (x = y))))))))))))))
def exAll (K : PySem.W.Frag) : Bool :=
  exB K "BadWeb" "place" veB "ValueError.__new__" && (exB K "TooGreat" "most" ovBase "OverflowError.__new__" && (exB K "Missing" "name" luBase "LookupError.__new__" &&
  (decide (PySem.W.specialIn K (.builtin "object.__class__") "__get__" = some (some (.builtin "getset_descriptor.__get__"))) && (decide (PySem.W.takesIn K (.builtin "object.__class__") = some true) &&
  (He.tupB K "MODES" [.str "with", .str "ahead"] && decide ((He.cT K ("law", none)).2 ≠ (He.cT K ("_law_wide_right", none)).2))))))
def mkD (q : Str × Nat × List Str) : He.DefD := ⟨(q.1, none), q.1, q.1, defArgs (topS q.2.1), defBody (topS q.2.1), defScope (topS q.2.1), [], []⟩
def mkI (x : Str) (i : Nat) : He.DefD := ⟨(x, some "__init__"), "__init__", x ++ ".__init__", defArgs (inClass (topS i) 0), defBody (inClass (topS i) 0), defScope (inClass (topS i) 0), [], []⟩
def fnL : List He.DefD := dl.map mkD ++ [mkI "BadWeb" 2, mkI "TooGreat" 7, mkI "Missing" 8]
def freeL : List Str := ["isinstance", "all", "len", "tuple", "str", "int", "bool", "reversed", "list", "enumerate", "range", "min", "repr", "dict"]
def intL : List (Str × Int) := [("MOST_BEAT", 1000000), ("MOST_TABLES", 6), ("MOST_VIEWS", 8), ("MOST_SOURCES", 4), ("MOST_PATHS", 200), ("MOST_LETTERS", 8)]
def faL : List He.Fa := dl.map (fun q => .glo q.1) ++ (excs.map .glo ++ (freeL.map .free ++ (intL.map (fun q => .int q.1 q.2) ++ [.str "LETTERS" "abcdefghijklmnopqrstuvwxyz", .glo "MODES"])))
def tfL : List He.Defn := [("law", none), ("_law_wide_right", none)]
abbrev RR : PySem.W.OpenRow := PySem.W.OpenLaw.row PySem.Challenge.rw_viewstairs_k24_whole_paths
abbrev hk : PySem.W.Hook := He.hookX 5 faL fnL [] tfL exAll
def ob (s : PySem.W.SharedT) : He.AlX := He.obsX 5 faL fnL [] tfL exAll (HandSHeadRun.getT s)
theorem ob_eq (s : PySem.W.SharedT) : ob s = hk.obs s.abs := He.obsX_eq (HandSHeadRun.getT_eq s)
def looseL : List Str := (["BadStair", "BadWeb", "BadReads", "BadPaper", "BadText", "OutOfPlace", "TooGreat", "Missing", "MOST_BEAT", "MODES", "MOST_TABLES", "MOST_VIEWS", "MOST_SOURCES", "MOST_PATHS", "MOST_LETTERS", "LETTERS"] : List Str) ++ ((dl.map (fun q => q.1)).filter fun (x : Str) => decide (x ≠ ("law" : Str)))
theorem run (w : World) : HandSHeadRun.RunEq RR (PySem.W.view RR.prog [50]) hk ob 4000 looseL w := by
  intro os
  kernel_rfl
end VS

/-! What the head tells; the row (printed by gen_kz.py). -/
namespace VS
open PySem PySem.Spec PyProof.Rows L2
/-- how a def of the text binds -/
def BndOk (q : Str × Nat × List Str) : Prop := ∀ (kV doc pm : Value) (an : Option Addr) (cdv ct : Value) (us : List Value), us.length = q.2.2.length →
  bindArgs (PySem.W.fnOf q.1 q.1 (defArgs (topS q.2.1)) (defBody (topS q.2.1)) (defScope (topS q.2.1)) .none kV doc pm an cdv ct) ⟨us, []⟩ = pure (q.2.2.zip us)
theorem bnd_ok : ∀ q ∈ dl, BndOk q := by
  intro q hq
  rcases List.mem_cons.mp hq with rfl | hq
  · intro kV doc pm an cdv ct us hl
    match us, hl with
    | [_], _ => rfl
  rcases List.mem_cons.mp hq with rfl | hq
  · intro kV doc pm an cdv ct us hl
    match us, hl with
    | [_, _, _], _ => rfl
  rcases List.mem_cons.mp hq with rfl | hq
  · intro kV doc pm an cdv ct us hl
    match us, hl with
    | [_], _ => rfl
  rcases List.mem_cons.mp hq with rfl | hq
  · intro kV doc pm an cdv ct us hl
    match us, hl with
    | [_], _ => rfl
  rcases List.mem_cons.mp hq with rfl | hq
  · intro kV doc pm an cdv ct us hl
    match us, hl with
    | [_], _ => rfl
  rcases List.mem_cons.mp hq with rfl | hq
  · intro kV doc pm an cdv ct us hl
    match us, hl with
    | [_, _], _ => rfl
  rcases List.mem_cons.mp hq with rfl | hq
  · intro kV doc pm an cdv ct us hl
    match us, hl with
    | [_, _], _ => rfl
  rcases List.mem_cons.mp hq with rfl | hq
  · intro kV doc pm an cdv ct us hl
    match us, hl with
    | [_, _], _ => rfl
  rcases List.mem_cons.mp hq with rfl | hq
  · intro kV doc pm an cdv ct us hl
    match us, hl with
    | [_], _ => rfl
  rcases List.mem_cons.mp hq with rfl | hq
  · intro kV doc pm an cdv ct us hl
    match us, hl with
    | [_], _ => rfl
  rcases List.mem_cons.mp hq with rfl | hq
  · intro kV doc pm an cdv ct us hl
    match us, hl with
    | [_], _ => rfl
  rcases List.mem_cons.mp hq with rfl | hq
  · intro kV doc pm an cdv ct us hl
    match us, hl with
    | [_], _ => rfl
  rcases List.mem_cons.mp hq with rfl | hq
  · intro kV doc pm an cdv ct us hl
    match us, hl with
    | [_], _ => rfl
  rcases List.mem_cons.mp hq with rfl | hq
  · intro kV doc pm an cdv ct us hl
    match us, hl with
    | [_], _ => rfl
  rcases List.mem_cons.mp hq with rfl | hq
  · intro kV doc pm an cdv ct us hl
    match us, hl with
    | [_, _], _ => rfl
  rcases List.mem_cons.mp hq with rfl | hq
  · intro kV doc pm an cdv ct us hl
    match us, hl with
    | [_, _], _ => rfl
  rcases List.mem_cons.mp hq with rfl | hq
  · intro kV doc pm an cdv ct us hl
    match us, hl with
    | [_, _], _ => rfl
  rcases List.mem_cons.mp hq with rfl | hq
  · intro kV doc pm an cdv ct us hl
    match us, hl with
    | [_], _ => rfl
  rcases List.mem_cons.mp hq with rfl | hq
  · intro kV doc pm an cdv ct us hl
    match us, hl with
    | [_, _], _ => rfl
  rcases List.mem_cons.mp hq with rfl | hq
  · intro kV doc pm an cdv ct us hl
    match us, hl with
    | [_, _], _ => rfl
  rcases List.mem_cons.mp hq with rfl | hq
  · intro kV doc pm an cdv ct us hl
    match us, hl with
    | [_, _], _ => rfl
  rcases List.mem_cons.mp hq with rfl | hq
  · intro kV doc pm an cdv ct us hl
    match us, hl with
    | [_, _], _ => rfl
  rcases List.mem_cons.mp hq with rfl | hq
  · intro kV doc pm an cdv ct us hl
    match us, hl with
    | [_, _], _ => rfl
  rcases List.mem_cons.mp hq with rfl | hq
  · intro kV doc pm an cdv ct us hl
    match us, hl with
    | [_, _, _, _], _ => rfl
  rcases List.mem_cons.mp hq with rfl | hq
  · intro kV doc pm an cdv ct us hl
    match us, hl with
    | [_, _], _ => rfl
  rcases List.mem_cons.mp hq with rfl | hq
  · intro kV doc pm an cdv ct us hl
    match us, hl with
    | [_], _ => rfl
  rcases List.mem_cons.mp hq with rfl | hq
  · intro kV doc pm an cdv ct us hl
    match us, hl with
    | [_, _], _ => rfl
  rcases List.mem_cons.mp hq with rfl | hq
  · intro kV doc pm an cdv ct us hl
    match us, hl with
    | [_], _ => rfl
  rcases List.mem_cons.mp hq with rfl | hq
  · intro kV doc pm an cdv ct us hl
    match us, hl with
    | [_], _ => rfl
  rcases List.mem_cons.mp hq with rfl | hq
  · intro kV doc pm an cdv ct us hl
    match us, hl with
    | [_], _ => rfl
  cases hq
section
variable {K : PySem.W.Frag} {h : Heap} {mg : Str → Option Value}
theorem mk_fn (X : K.In h) (G : h.Ns mainGlobals mg) (c : He.SaysD faL fnL K) : ∀ q ∈ dl, ∃ fd, Fn K mg q.1 (topS q.2.1) q.2.2 (He.ga K q.1) fd := fun q hq => by
  obtain ⟨fd, F⟩ := c.defs (d := mkD q) (List.mem_append_left _ (List.mem_map.mpr ⟨q, hq, rfl⟩))
  have F : FunD K q.1 q.1 (defArgs (topS q.2.1)) (defBody (topS q.2.1)) (defScope (topS q.2.1)) [] [] (He.ga K q.1) fd := F
  exact ⟨fd, He.glo_ok X G (c.facts (f := .glo q.1) (List.mem_append_left _ (List.mem_map.mpr ⟨q, hq, rfl⟩))), F, F.bindsN fun kV doc pm an cdv ct us hl => bnd_ok q hq kV doc pm an cdv ct us hl⟩
theorem mk_top (X : K.In h) (G : h.Ns mainGlobals mg) (c : He.SaysD faL fnL K) (hm : He.tupB K "MODES" [.str "with", .str "ahead"] = true) : Top K mg where
  fn := fun q hq => by
    obtain ⟨fd, F⟩ := mk_fn X G c q hq
    exact ⟨_, fd, F⟩
  isi := He.free_ok X G (c.fact 38 (f := .free "isinstance"))
  all := He.free_ok X G (c.fact 39 (f := .free "all"))
  len := He.free_ok X G (c.fact 40 (f := .free "len"))
  tup := He.free_ok X G (c.fact 41 (f := .free "tuple"))
  str := He.free_ok X G (c.fact 42 (f := .free "str"))
  int := He.free_ok X G (c.fact 43 (f := .free "int"))
  bool := He.free_ok X G (c.fact 44 (f := .free "bool"))
  rev := He.free_ok X G (c.fact 45 (f := .free "reversed"))
  lst := He.free_ok X G (c.fact 46 (f := .free "list"))
  enu := He.free_ok X G (c.fact 47 (f := .free "enumerate"))
  rng := He.free_ok X G (c.fact 48 (f := .free "range"))
  min := He.free_ok X G (c.fact 49 (f := .free "min"))
  rpr := He.free_ok X G (c.fact 50 (f := .free "repr"))
  dct := He.free_ok X G (c.fact 51 (f := .free "dict"))
  mBeat := He.int_ok X G (c.fact 52 (f := .int "MOST_BEAT" 1000000))
  mTab := He.int_ok X G (c.fact 53 (f := .int "MOST_TABLES" 6))
  mVie := He.int_ok X G (c.fact 54 (f := .int "MOST_VIEWS" 8))
  mSou := He.int_ok X G (c.fact 55 (f := .int "MOST_SOURCES" 4))
  mPat := He.int_ok X G (c.fact 56 (f := .int "MOST_PATHS" 200))
  mLet := He.int_ok X G (c.fact 57 (f := .int "MOST_LETTERS" 8))
  lets := He.str_ok X G (c.fact 58 (f := .str "LETTERS" "abcdefghijklmnopqrstuvwxyz"))
  modes := ⟨He.ga K "MODES", He.glo_ok X G (c.fact 59 (f := .glo "MODES")), fun H => He.tupB_ok hm H⟩
/-- what the Bool of an exception class says -/
structure ExB (K : PySem.W.Frag) (x f : Str) (bm : List Value) (newId : String) : Prop where
  k : VX.ExK K (He.ga K x) (He.ma K (He.ga K x) "__init__") f bm newId
  xf : XfC K (He.ga K x)
  kC : PySem.W.keepIn K (.ref (He.ga K x)) = true
  tyC : PySem.W.typeIn K (.ref (He.ga K x)) = some (.type "type")
  cls : PySem.W.findIn K (.ref (He.ga K x)) "__class__" = some (some (.builtin "object.__class__"))
  mro : PySem.W.mroIn K (He.ga K x) (.type "object") = some true
  ms : ∀ y ∈ excs, PySem.W.exmOne K (.ref (He.ga K x)) (.ref (He.ga K y)) = some (decide (x = y)) ∧ PySem.W.kitOne K (.ref (He.ga K x)) (.ref (He.ga K y)) = some (decide (x = y))
theorem exB_of {x f : Str} {bm : List Value} {newId : String} (h : exB K x f bm newId = true) : ExB K x f bm newId := by
  unfold exB at h
  simp only [Bool.and_eq_true, decide_eq_true_eq, List.all_eq_true] at h
  obtain ⟨h1, h2, h3, h4, h5, h6, h7, h8, h9, h10, h11, h12⟩ := h
  have xf := xfB_ok h3
  exact ⟨⟨h1, h2, xf.hdC, h4, h5, h6, h7⟩, xf, h8, h9, h10, h11, h12⟩
theorem ExB.x {x f : Str} {bm : List Value} {B newId initId : String} (e : ExB K x f bm newId) (gC : mg x = some (.ref (He.ga K x))) (FB : ExcBaseFacts B newId initId bm) (IO : VX.InitOk K (He.ga K x) (He.ma K (He.ga K x) "__init__") f) : ExX K mg x f (He.ga K x) :=
  ⟨gC, ⟨_, bm, B, newId, initId, FB, e.k, IO⟩, e.kC, e.tyC, e.xf, e.k.nof⟩
theorem ExB.c {x f : Str} {bm : List Value} {newId : String} (e : ExB K x f bm newId) (hn : PySem.W.specialIn K (.builtin "object.__class__") "__get__" = some (some (.builtin "getset_descriptor.__get__"))) (ht : PySem.W.takesIn K (.builtin "object.__class__") = some true) : ExcC K (He.ga K x) :=
  ⟨e.xf.ga, e.xf.gg, e.xf.exC, e.xf.hdC, e.cls, hn, ht, e.mro⟩
theorem mk_excs (X : K.In h) (G : h.Ns mainGlobals mg) (c : He.SaysD faL fnL K) (hx : exAll K = true) : Excs K mg (He.ga K) := by
  unfold exAll at hx
  obtain ⟨h1, hx⟩ := He.ba hx
  obtain ⟨h2, hx⟩ := He.ba hx
  obtain ⟨h3, hx⟩ := He.ba hx
  obtain ⟨h4, hx⟩ := He.ba hx
  obtain ⟨h5, _⟩ := He.ba hx
  have e1 := exB_of h1
  have e2 := exB_of h2
  have e3 := exB_of h3
  have hn := of_decide_eq_true h4
  have ht := of_decide_eq_true h5
  have g : ∀ y ∈ excs, mg y = some (.ref (He.ga K y)) := fun y hy => He.glo_ok X G (c.facts (f := .glo y) (List.mem_append_right _ (List.mem_append_left _ (List.mem_map.mpr ⟨y, hy, rfl⟩))))
  obtain ⟨fd1, F1⟩ := c.defs (d := mkI "BadWeb" 2) (List.mem_append_right _ (List.mem_cons_self))
  obtain ⟨fd2, F2⟩ := c.defs (d := mkI "TooGreat" 7) (List.mem_append_right _ (List.mem_cons_of_mem _ List.mem_cons_self))
  obtain ⟨fd3, F3⟩ := c.defs (d := mkI "Missing" 8) (List.mem_append_right _ (List.mem_cons_of_mem _ (List.mem_cons_of_mem _ List.mem_cons_self)))
  have q1 : ("BadWeb" : Str) ++ ".__init__" = "BadWeb.__init__" := by decide +kernel
  have q2 : ("TooGreat" : Str) ++ ".__init__" = "TooGreat.__init__" := by decide +kernel
  have q3 : ("Missing" : Str) ++ ".__init__" = "Missing.__init__" := by decide +kernel
  have F1 : FunD K "__init__" (("BadWeb" : Str) ++ ".__init__") (defArgs (inClass (topS 2) 0)) (defBody (inClass (topS 2) 0)) (defScope (inClass (topS 2) 0)) [] [] (He.ma K (He.ga K "BadWeb") "__init__") fd1 := F1
  have F2 : FunD K "__init__" (("TooGreat" : Str) ++ ".__init__") (defArgs (inClass (topS 7) 0)) (defBody (inClass (topS 7) 0)) (defScope (inClass (topS 7) 0)) [] [] (He.ma K (He.ga K "TooGreat") "__init__") fd2 := F2
  have F3 : FunD K "__init__" (("Missing" : Str) ++ ".__init__") (defArgs (inClass (topS 8) 0)) (defBody (inClass (topS 8) 0)) (defScope (inClass (topS 8) 0)) [] [] (He.ma K (He.ga K "Missing") "__init__") fd3 := F3
  rw [q1] at F1
  rw [q2] at F2
  rw [q3] at F3
  have all : ∀ k ∈ kinds, ExcC K (He.ga K k.1) ∧ ∀ y ∈ excs, PySem.W.exmOne K (.ref (He.ga K k.1)) (.ref (He.ga K y)) = some (decide (k.1 = y)) ∧ PySem.W.kitOne K (.ref (He.ga K k.1)) (.ref (He.ga K y)) = some (decide (k.1 = y)) := by
    intro k hk
    rcases List.mem_cons.mp hk with rfl | hk
    · exact ⟨e1.c hn ht, e1.ms⟩
    · rcases List.mem_cons.mp hk with rfl | hk
      · exact ⟨e2.c hn ht, e2.ms⟩
      · rcases List.mem_cons.mp hk with rfl | hk
        · exact ⟨e3.c hn ht, e3.ms⟩
        · cases hk
  exact ⟨g, e1.x (g _ (by decide)) PySem.F.excBase_ValueError (VX.init_BadWeb F1 e1.k PySem.F.store_ValueError), e2.x (g _ (by decide)) PySem.F.excBase_OverflowError (VX.init_TooGreat F2 e2.k PySem.F.store_OverflowError),
    e3.x (g _ (by decide)) PySem.F.excBase_LookupError (VX.init_Missing F3 e3.k PySem.F.store_LookupError), fun k hk => (all k hk).1, fun k hk y hy => ((all k hk).2 y hy).1, fun k hk y hy => ((all k hk).2 y hy).2⟩
theorem code_of (X : K.In h) {x : Str} {st : Stmt} {ps : List Str} {fd : FuncData} (F : Fn K mg x st ps (He.ga K x) fd) : CodeK K mg x (He.cT K (x, none)).1 := fun f oc od fd2 osl hf lk2 => by
  obtain ⟨oc, od, dV, kV, doc, pm, an, cdv, ct, osl, rfl, lk, hcd, _, _⟩ := F.d.ex
  obtain ⟨c, rfl⟩ := He.codeIn_ref hcd
  have e1 : He.codeOf K (x, none) = c := He.codeOf_eq (p := (x, none)) lk rfl
  have e2 : f = He.ga K x := by
    have z := hf.symm.trans F.g
    injection z with z
    injection z
  subst e2
  rw [lk] at lk2
  injection lk2 with z
  injection z with _ _ z
  injection z with z
  rw [← z]
  show Value.ref c = .ref (He.codeOf K (x, none))
  rw [e1]
theorem room12 : Room 12 callerA := ⟨rfl, by decide, by decide⟩
theorem law_row {P : Program} {w : World} {mb : Str → Option Value} {s : Shared} {fa a : Addr} {vs : List Value} {ns : List Int} (X : K.In s.heap) (G : s.heap.Ns mainGlobals mg) (hb : s.heap.Ns builtinsNs mb) (hbb : ∀ x : Str, x ≠ "__name__" → mb x = bootBuiltins x) (hlim : s.heap.NoLimit) (hg : s.gens = #[])
    (hbm : ∃ (bm : Addr) (ob : Obj), mg "__builtins__" = some (.ref bm) ∧ bm ≠ builtinsNs ∧ s.heap.get? bm = some ob ∧ ob.cls = .type "module" ∧ ob.dict = some builtinsNs ∧ ob.data = .plain)
    (hfa : mg "law" = some (.ref fa)) (ha : s.heap.get? a = some { cls := .type "list", data := .seq vs.toArray }) (hi : IntsAre vs ns) (hl : ns.length ≤ 63) (c : He.SaysX faL fnL [] tfL exAll w s.heap K) :
    codeAny (model P w) callerA (.call (.ref fa) ⟨[.ref a], []⟩) (fun r s' => r = .ok (.ret (.bool true)) ∧ OldK s.heap s'.heap ∧ s'.os = s.os ∧ AllBare s'.gens) s := by
  have cd := c.t.d
  have hx := c.more
  have hx2 := hx
  unfold exAll at hx2
  simp only [Bool.and_eq_true, decide_eq_true_eq] at hx2
  obtain ⟨_, _, _, _, _, hm, hne⟩ := hx2
  have T := mk_top X G cd hm
  have EX := mk_excs X G cd hx
  obtain ⟨fdl, Fl⟩ := mk_fn X G cd ("law", 50, ["script"]) (List.mem_of_getElem? (i := 29) rfl)
  obtain ⟨fdw, Fw⟩ := mk_fn X G cd ("_law_wide_right", 49, ["state"]) (List.mem_of_getElem? (i := 28) rfl)
  obtain ⟨fdr, Fr⟩ := mk_fn X G cd ("_law_raised", 48, ["asked"]) (List.mem_of_getElem? (i := 27) rfl)
  have m1 : (("law", none) : He.Defn) ∈ tfL := List.mem_cons_self
  have m2 : (("_law_wide_right", none) : He.Defn) ∈ tfL := List.mem_cons_of_mem _ List.mem_cons_self
  have cs2 : ∀ p ∈ [He.cT K ("law", none), He.cT K ("_law_wide_right", none)], ∃ d ∈ tfL, p = He.cT K d := fun p hp => by
    rcases List.mem_cons.mp hp with z | z
    · exact ⟨_, m1, z⟩
    · exact ⟨_, m2, List.mem_singleton.mp z⟩
  have e : fa = He.ga K "law" := by
    have z := hfa.symm.trans Fl.g
    injection z with z
    injection z
  subst e
  refine law_at (cs := [He.cT K ("law", none), He.cT K ("_law_wide_right", none)]) X G hb hbb hlim hg (fun p hp => ?_) (fun p hp => ?_) (fun p hp => ?_) hbm ha hi (Nat.le_trans hl (by decide)) fun base H e0 TB hH hS hS2 => ?_
  · obtain ⟨d, hd, rfl⟩ := cs2 p hp
    exact c.empty d hd
  · obtain ⟨d, hd, rfl⟩ := cs2 p hp
    exact c.out d hd
  · obtain ⟨d, hd, rfl⟩ := cs2 p hp
    exact PySem.W.codeHd_of_K X (c.hd d hd)
  · have t1 := TB _ List.mem_cons_self
    have t2 := TB _ (List.mem_cons_of_mem _ List.mem_cons_self)
    have k1 := hH _ List.mem_cons_self
    have k2 := hH _ (List.mem_cons_of_mem _ List.mem_cons_self)
    refine run_at (k := 11) (Q := fun v _ => v = .bl true) Fl sc_law (code_of X Fl) room12 e0 (vs := [.ref a]) (.cons rfl .nil) rfl fun hr' => ?_
    refine law_body (Q := fun v _ => v = .bl true) (T2 := [((He.cT K ("law", none)).2, qL), ((He.cT K ("_law_wide_right", none)).2, qWR)]) T EX Fr Fw (code_of X Fw) t1 t2 List.mem_cons_self (fun p hp z => ?_) (List.mem_cons_of_mem _ List.mem_cons_self) (fun p hp z => ?_) rfl hr' hS hS2 hl (fun p hp => ?_) fun _ => rfl
    · rcases List.mem_cons.mp hp with y | y
      · rw [y]
      · rw [List.mem_singleton.mp y] at z
        exact absurd z.symm hne
    · rcases List.mem_cons.mp hp with y | y
      · rw [y] at z
        exact absurd z hne
      · rw [List.mem_singleton.mp y]
    · rcases List.mem_cons.mp hp with y | y
      · rw [y]
        exact LamX.TabS.nil k1
      · rw [List.mem_singleton.mp y]
        exact LamX.TabS.nil k2
end
end VS
open PySem PySem.W PySem.Calls PyProof.Rows
theorem PySem.Challenge.cw_viewstairs_k24_whole_paths_holds : PySem.Challenge.rw_viewstairs_k24_whole_paths.Holds := by
  w_on; o_law
  refine HandSHeadRun.head_any (r := VS.RR) (q := view VS.RR.prog [50]) (H := VS.hk) (ob := VS.ob) (M := 4000) (loose := VS.looseL) (d := HandSHeadRun.topDef VS.RR.prog 50) (kwd := []) VS.ob_eq
    (by kernel_rfl) (fun s => by kernel_rfl) VS.run (by kernel_rfl) (by kernel_rfl) (by kernel_rfl) (by rfl) (by first | assumption | decide +kernel) (by decide +kernel) ⟨rfl, rfl, rfl, rfl, rfl, by decide +kernel⟩ ?hw ?hc
  case hw => w_witness2
  case hc =>
    refine Att.attach_callB (l := PySem.Challenge.rw_viewstairs_k24_whole_paths) (n := 63) rfl (by kernel_rfl) fun w s₀ s₁ mg mb fa o pm cd doc a vs ns G Y ho hd hcd hmg0 hobj hints hlen hbits hg => ?_
    obtain ⟨K, KX, c⟩ := Y
    have hmg : mg ("law" : PySem.Str) = some (.ref fa) := by
      have e : (HandSHeadRun.topDef VS.RR.prog 50).name = ("law" : PySem.Str) := by kernel_rfl
      rw [← e]
      exact hmg0
    exact VS.law_row KX G.T.g G.T.b G.T.builtins G.T.nolimit hg G.T.bmain hmg hobj hints hlen c
