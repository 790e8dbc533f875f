import PyProof.Rows.All
import Wide.All
import OpenK.AllK
import Wide.FinOn
import KE.KStateDown
import Lean
import PyProof.ReprRoads
import HandS.ForMost
import HandS.More
import HandS.Wide
import HandS.EndBits
import HandS.FStr
import HandS.RaiseMore
import HandS.IsInst
import HandS.Zip
import HandS.Walk
import HandS.Evl
import HandS.Defaults
import HandS.WordsExc
import HandS.Head0
import HandS.Head1
import HandS.Head2
import HandS.HeadEnd
import HandS.HeadHook1
import HandS.HeadHook2
import HandS.HeadHook3
import HandS.Property
import HandS.Iter
import HandS.TupAny
import HandS.Conv
import KE.KOwnIter
import HandS.IterVal
import KE.SortData
import HandS.OwnEq
import HandS.OwnIter
import HandS.DictComp
import HandS.Style
import HandS.Codes
import HandS.Exc
import HandS.ExcInit
import HandS.ExcField
import HandS.ExcIs
import HandS.ExcOwn
import KE.KExcIs
import HandS.Comp
import KE.GoesMore
import KE.GoesZip
import HandS.FStrTup
import PySem.Challenge.RW_drawingoffice_k55_routes
set_option Elab.async false
set_option linter.all false
set_option maxRecDepth 100000
set_option maxHeartbeats 0
/-! Pre: short words for the readings that gen.py prints; calls by name; a def that knows that no repr is under way; the law's end. -/
namespace My
open PySem PySem.Spec PyProof.Rows L2

/-! ### readings by name -/
abbrev rAddI : R2 := rI0 fun i j => .int (i + j)
abbrev rSubI : R2 := rI0 fun i j => .int (i - j)
abbrev rMulI : R2 := rI CMul fun i j => .int (i * j)
abbrev rModI : R2 := rI (fun _ j => 0 < j) fun i j => .int (i % j)
abbrev rDivI : R2 := rI CDivW fun i j => .int (i / j)
abbrev rPowI : R2 := rI CPow fun i j => .int (i ^ j.toNat)
abbrev rLtI : R2 := rI0 fun i j => .bl (decide (i < j))
abbrev rLeI : R2 := rI0 fun i j => .bl (decide (i ≤ j))
abbrev rGtI : R2 := rI0 fun i j => .bl (decide (j < i))
abbrev rGeI : R2 := rI0 fun i j => .bl (decide (j ≤ i))
def rCatS : R2 := fun x y H Q => ∃ i j, x = .str i ∧ y = .str j ∧ i.length + j.length ≤ sizeLine ∧ Q (.str (i ++ j)) H
def rLtS : R2 := fun x y H Q => ∃ i j, x = .str i ∧ y = .str j ∧ Q (.bl (decide (i.cps.toList < j.cps.toList))) H
def rLeS : R2 := fun x y H Q => ∃ i j, x = .str i ∧ y = .str j ∧ Q (.bl (!decide (j.cps.toList < i.cps.toList))) H
def rInSign : R2 := fun x y H Q => ∃ (c : Nat) (z : Str), x = .str ⟨#[c]⟩ ∧ y = .str z ∧ Q (.bl (decide (c ∈ z.cps.toList))) H
def rNotInSign : R2 := fun x y H Q => ∃ (c : Nat) (z : Str), x = .str ⟨#[c]⟩ ∧ y = .str z ∧ Q (.bl (!decide (c ∈ z.cps.toList))) H
def rIsN : R2 := fun x y H Q => y = .non ∧ Q (.bl (decide (x = .non))) H
def rNotN : R2 := fun x y H Q => y = .non ∧ Q (.bl (!decide (x = .non))) H
def rNotInKd (K : PySem.W.Frag) (d : Addr) : R2 := fun x y H Q => ∃ (z : Str) (r : Option Value), x = .str z ∧ y = .ref d ∧ PySem.W.nsIn K d z = some r ∧ Q (.bl (!r.isSome)) H
def rInKd (K : PySem.W.Frag) (d : Addr) : R2 := fun x y H Q => ∃ (z : Str) (r : Option Value), x = .str z ∧ y = .ref d ∧ PySem.W.nsIn K d z = some r ∧ Q (.bl r.isSome) H
abbrev CR1 := List V → Hp → VK → Prop
def cLenS : CR1 := fun xs H Q => ∃ z, xs = [.str z] ∧ z.length ≤ sizeLine ∧ Q (.int z.length) H
def cLenQ (K : PySem.W.Frag) : CR1 := fun xs H Q => ∃ p ys, xs = [.ref p] ∧ (SqL K H p ys ∨ SqT K H p ys) ∧ Q (.int ys.length) H
def cAbs : CR1 := fun xs H Q => ∃ i, xs = [.int i] ∧ Q (.int (if i < 0 then -i else i)) H
def cInt1 : CR1 := fun xs H Q => (∃ i, xs = [.int i] ∧ Q (.int i) H) ∨ ∃ k, xs = [.bl k] ∧ Q (.int (if k then 1 else 0)) H
def cIntS : CR1 := fun xs H Q => ∃ a n, xs = [.str a] ∧ PySem.intText? a = some n ∧ a.length ≤ 640 ∧ Q (.int n) H
def cStrI : CR1 := fun xs H Q => ∃ i : Int, xs = [.int i] ∧ i.natAbs.log2 < 1920 ∧ Q (.str (toString i)) H
def cStrS : CR1 := fun xs H Q => ∃ a, xs = [.str a] ∧ Q (.str a) H
def cTuple (K : PySem.W.Frag) : CR1 := fun xs H Q => ∃ p ys, xs = [.ref p] ∧ ((SqL K H p ys ∧ ∀ l, H l = none → Q (.ref l) (upd H l (.tup ys))) ∨ (SqT K H p ys ∧ Q (.ref p) H))
def cList (K : PySem.W.Frag) : CR1 := fun xs H Q => ∃ p ys, xs = [.ref p] ∧ (SqL K H p ys ∨ SqT K H p ys) ∧ ∀ l, H l = none → Q (.ref l) (upd H l (.lst ys))
abbrev MR1 := V → List V → Hp → VK → Prop
def mJoin (K : PySem.W.Frag) : MR1 := fun x xs H Q => ∃ a p, ∃ ys : List Str, x = .str a ∧ xs = [.ref p] ∧ (SqL K H p (ys.map V.str) ∨ SqT K H p (ys.map V.str)) ∧ (ys.map (·.length)).sum + ys.length * a.length ≤ 16777216 ∧ Q (.str (Txt.join a ys)) H
def mSplit : MR1 := fun x xs H Q => ∃ a b, x = .str a ∧ xs = [.str b] ∧ (b.length == 0) = false ∧ a.length + 2 ≤ sizeLine ∧ rNewStrs (Txt.split a b) H Q
def mPartition : MR1 := fun x xs H Q => ∃ a b, x = .str a ∧ xs = [.str b] ∧ (b.length == 0) = false ∧ a.length ≤ sizeLine ∧ ∀ p, H p = none → Q (.ref p) (upd H p (.tup [.str (Txt.partition a b).1, .str (Txt.partition a b).2.1, .str (Txt.partition a b).2.2]))
def tJoin (ts : List TE) : TE := fun σ H Q => tJs ts Str.empty σ H fun out H1 => Q (.str out) H1

/-! ### repr of data: the text is a function of the data -/
def cRepr (K : PySem.W.Frag) : CR1 := fun xs H Q => ∃ (a : Addr) (d : PyData), xs = [.ref a] ∧ Dp K H (.ref a) d ∧ PyData.showable d = true ∧ d.hasDict = false ∧ d.depth ≤ 60 ∧ d.shown.length ≤ sizeLine ∧ Q (.str d.shown) H
theorem call_repr_dp {X : Cx} (hg : X.A.guards = some []) (hu : X.A.units + 64 < cLine) : CallR X (.builtin "repr") (cRepr X.K) := by
  intro pins s σ H xs us Q I r h
  obtain ⟨a, d, rfl, hd, h1, h2, h3, h4, q⟩ := h
  obtain ⟨u, rfl, ru⟩ := vals1 r
  cases ru
  obtain ⟨as, rd⟩ := Dp.reads I d (.ref a) (.ref a) hd rfl
  refine repr_of_reads' rd h1 (fun z => ?_) hg (by omega) (fun _ _ z => z) (fun hp t tk hk => ?_) h4
  · rw [h2] at z
    cases z
  · exact ⟨.str d.shown, H, I.kept hk, ⟨t, rfl⟩, q⟩

section
variable {X : Cx}
/-! ### constants of the module -/
theorem pe_gstr {x z : Str} {pos : Pos} (hm : ∃ t, X.mg x = some (.str z t)) (hg : Gl X x := by rfl) (hd : (x == ("__debug__" : Str)) = false := by decide) : PE X (.Name x pos) (tC (.str z)) := by
  obtain ⟨t, e⟩ := hm
  exact pe_glob hg e ⟨t, rfl⟩ hd
theorem pe_gint {x : Str} {i : Int} {pos : Pos} (hm : ∃ t, X.mg x = some (.int i t)) (hg : Gl X x := by rfl) (hd : (x == ("__debug__" : Str)) = false := by decide) : PE X (.Name x pos) (tC (.int i)) := by
  obtain ⟨t, e⟩ := hm
  exact pe_glob hg e ⟨t, rfl⟩ hd
end

/-! ### a written dict with text keys -/
def IsKD (K : PySem.W.Frag) (w : World) (d : Addr) : Prop := ∃ es n, KDict K w d es n
section
variable {X : Cx}
theorem op_kdNotIn {d : Addr} (D : IsKD X.K X.w d) : OpR X (compareOp .NotIn) (rNotInKd X.K d) := by
  obtain ⟨es, n, D⟩ := D
  exact op_notIn_kd D
theorem op_kdIn {d : Addr} (D : IsKD X.K X.w d) : OpR X (compareOp .In) (rInKd X.K d) := by
  obtain ⟨es, n, D⟩ := D
  exact op_in_kd D
def rItemKd (K : PySem.W.Frag) (d : Addr) : R2 := fun x y H Q => ∃ (z : Str) (v : V) (u : Value), x = .ref d ∧ y = .str z ∧ PySem.W.nsIn K d z = some (some u) ∧ RelV v u ∧ Q v H
theorem ix_kd {d : Addr} (D : IsKD X.K X.w d) : IxR X (rItemKd X.K d) := by
  intro value slice pins s σ H x y v u Q I rx ry h hs
  obtain ⟨es, n, D⟩ := D
  obtain ⟨z, v0, u0, ex, ey, e, r, q⟩ := h
  exact ix_kdict value slice pins s σ H x y v u Q I rx ry ⟨d, z, v0, ex, ey, ⟨es, n, u0, D.at_, D.lit, e, r⟩, q⟩ hs
theorem pe_itemKd {d : Addr} {a b : Expr} {ta tb : TE} {pos : Pos} (D : IsKD X.K X.w d) (ha : PE X a ta) (hb : PE X b tb) (hs : PlainIx b := by exact fun _ _ => rfl) : PE X (.Subscript a b pos) (tOp (rItemKd X.K d) ta tb) :=
  pe_ix (ix_kd D) ha hb hs
/-- d.get(k, x) -/
def tGetKd (K : PySem.W.Frag) (d : Addr) (td ty tx : TE) : TE := fun σ H Q => td σ H fun x H1 => x = .ref d ∧ ty σ H1 fun y H2 => tx σ H2 fun z H3 => ∃ (k : Str) (o : Option Value), y = .str k ∧ PySem.W.nsIn K d k = some o ∧
  ((o = none ∧ Q z H3) ∨ ∃ v u, o = some u ∧ RelV v u ∧ Q v H3)
theorem pe_getKd {d : Addr} {o e f : Expr} {apos cpos : Pos} {td ty tx : TE} (D : IsKD X.K X.w d) (m : M2 X o "get" apos e f cpos) (ho : PE X o td) (he : PE X e ty) (hf : PE X f tx) : PE X (.Call (.Attribute o "get" apos) [e, f] [] cpos) (tGetKd X.K d td ty tx) := by
  obtain ⟨es, n, D⟩ := D
  refine ⟨fun pins s σ H Q I h => ?_⟩
  have ht : ∀ (s1 : Shared) (H1 : Hp), Inv X pins σ H1 s1 → s1.TypeIs (.ref d) "dict" := fun s1 H1 I1 => kd_type D I1
  refine wpAny_Call_method m.base m.few m.line PySem.F.plainAttrs_dict PySem.F.slot_dict_get PySem.F.type_dict_get (thn (ho.run pins s σ H _ I h) fun u s1 hv => ?_)
  obtain ⟨x, H1, I1, rx, ex, q1⟩ := hv
  subst ex
  obtain rfl : u = Value.ref d := rx
  refine ⟨ht s1 H1 I1, fun a ea => ?_, ?_⟩
  · cases ea
    exact ⟨_, I1.kIn d _ D.at_, rfl⟩
  · rw [m.trees]
    refine Calls.callWith_builtin rfl (Calls.evalArgs_plain (Calls.spliced_cons (thn (he.run pins s1 σ H1 _ I1 q1) fun kv s2 hk => ?_)))
    obtain ⟨y, H2, I2, ry, q2⟩ := hk
    refine Calls.spliced_cons (thn (hf.run pins s2 σ H2 _ I2 q2) fun fv s3 hz => Calls.spliced_nil ?_)
    obtain ⟨z, H3, I3, rz, k, ov, rfl, en, q3⟩ := hz
    obtain ⟨t, rfl⟩ := ry
    have mp := PySem.W.mapOf_K (prog := X.prog) (w := X.w) I3.kIn D.at_ D.lit
    refine call_meetsIn PySem.F.slot_dict_get (ht s3 H3 I3) PySem.F.entry_dict_get (PySem.F.args_dict_get_3 _ _ _) (meets_dict_get_default (strKind X.prog X.w) d (strKind_is X.prog X.w k t) D.low fv) ⟨_, mp, ?_⟩
    rw [PySem.W.find_K D.at_ en]
    rcases q3 with ⟨rfl, q⟩ | ⟨v, u, rfl, rv, q⟩
    · exact ⟨z, H3, I3.tok _, rz, q⟩
    · exact ⟨v, H3, I3.tok _, rv, q⟩
end

/-! ### a def by its name -/
/-- the module's name x is a def that keeps its promise -/
def OkF (P : Program) (w : World) (K : PySem.W.Frag) (mg : Str → Option Value) (base : Heap) (x : Str) (k : Nat) (ps : List Str) (sp : Sp) : Prop :=
  ∃ f fd, mg x = some (.ref f) ∧ PySem.W.keepIn K (.ref f) = true ∧ Binds K fd ps [] ∧ FnOk P w K mg base CX0 k f fd ps sp
section
variable {X : Cx} {x : Str} {k : Nat} {ps : List Str} {sp : Sp} {p pos : Pos} {e : Expr} {es : List Expr} {t : TA}
theorem pe_fn (C : OkF X.prog X.w X.K X.mg X.base x k ps sp) (hr : Room k X.A) (hg : Gl X x) (ha : PA X (e :: es) t) (hdb : (x == ("__debug__" : Str)) = false := by decide)
    (he : starEach (e :: es) X.env = (false, eval e X.env) :: starEach es X.env := by rfl) (hpl : (backTo pos (starEach es X.env)).any (·.1) = false := by rfl) : PE X (.Call (.Name x p) (e :: es) [] pos) (tCall sp [] E0 t) := by
  obtain ⟨f, fd, hm, hk, hb, F⟩ := C
  exact pe_call F hr hg hm hk hb .nil pass0 ha hdb he hpl
theorem pe_fn0 (C : OkF X.prog X.w X.K X.mg X.base x k ps sp) (hr : Room k X.A) (hg : Gl X x) (hdb : (x == ("__debug__" : Str)) = false := by decide) : PE X (.Call (.Name x p) [] [] pos) (tCall sp [] E0 tNil) := by
  obtain ⟨f, fd, hm, hk, hb, F⟩ := C
  exact pe_call0 F hr hg hm hk hb .nil pass0 hdb
end

/-! ### a def that is called where no repr is under way -/
structure GOk (P : Program) (w : World) (K : PySem.W.Frag) (mg : Str → Option Value) (base : Heap) (k : Nat) (f : Addr) (fd : FuncData) (ps : List Str) (sp : Sp) : Prop where
  len : ∀ vs H Q E, sp vs H Q E → vs.length = ps.length
  go : ∀ (A : Around) (outer : List Env) (s : Shared) (H : Hp) (args : Args) (us : List Value) (vs : List V) (Q : VK) (E : XK), A.guards = some [] → Room k A → Env0 P w K mg base A outer s H →
    BindsTo s fd args (ps.zip us) → Vals vs us → sp vs H Q E → codeAny (model P w) A (.call (.ref f) args) (CR CX0 outer P w H s Q E) s
abbrev FnP (K : PySem.W.Frag) (x : Str) (st : Stmt) (f : Addr) (fd : FuncData) : Prop := FunD K x x (defArgs st) (defBody st) (defScope st) [] [] f fd
section
variable {P : Program} {w : World} {K : PySem.W.Frag} {mg : Str → Option Value} {base : Heap}
theorem gok_of {x : Str} {st : Stmt} {f : Addr} {fd : FuncData} {N ps : List Str} {k : Nat} {sp : Sp} (F : FnP K x st f fd) (S : FnScope N ps (defScope st)) (len : ∀ vs H Q E, sp vs H Q E → vs.length = ps.length)
    (hb : ∀ (cdv : Value) (A : Around) (outer : List Env) (s : Shared) (H : Hp) (vs : List V) (Q : VK) (E : XK), A.guards = some [] → Room k (A.deeper (envOfC x (defScope st) s.heap.objs.size f cdv)) → sp vs H Q E →
      ∃ t, PSs (cxOf CX0 P w K mg base N x (defScope st) f cdv A outer s H E) (defBody st) t ∧ t { nx := fun _ H' => Q .non H', rt := Q } (start N vs) H) : GOk P w K mg base (k + 1) f fd ps sp := by
  obtain ⟨oc, od, dV, kV, doc, pm, an, cdv, ct, osl, rfl, lk, hcd, _, _⟩ := F.ex
  refine ⟨len, fun A outer s H args us vs Q E gd hr e0 bt r hsp => ?_⟩
  have hl := len _ _ _ _ hsp
  have kx : K.In s.heap := e0.mod.kin.keeps fun b o e => (e0.bs b o e).1
  have nl : s.heap.NoLimit := e0.mod.nolimit.keeps fun b o e => (e0.bs b o e).1
  refine codeAny_call_function hr.depth (kx _ _ lk) rfl S.co S.gen rfl (PySem.W.codeRec_of kx hcd) (bt _ _ _ _ ?_)
  refine wpAny_newFunctionEnv_cells S.kind (fun y hy => ?_) fun env he s1 z => ?_
  · obtain ⟨n, v⟩ := y
    rcases S.par n (List.of_mem_zip hy).1 with q | q
    · exact .inl q
    · exact .inr ⟨q, PySem.W.cellsFrom_some _ _ _ (.inl q)⟩
  · subst he
    refine ⟨nl.keeps z.toInCall.keep, codeAny_func ?_⟩
    obtain ⟨t, ht, hq⟩ := hb cdv A outer s H vs Q E gd (hr.deeper _) hsp
    have J := inv_start (CX := CX0) (E := E) (mg := mg) (base := base) (P := P) (w := w) (K := K) S hr.hd e0 hl r z
    refine wpAny_mono (ht.run [] s1 (start N vs) H _ J hq) (fun fl s' hs => ?_) fun e s' hs => hs
    cases fl with
    | ret u =>
      obtain ⟨v, σ', H', L, rv, q⟩ := hs
      exact ⟨v, H', L.os, L.bare, L.base, L.hok, rv, q⟩
    | next =>
      obtain ⟨σ', H', L, q⟩ := hs
      exact ⟨V.non, H', L.os, L.bare, L.base, L.hok, rfl, q⟩
    | brk =>
      obtain ⟨_, _, _, q⟩ := hs
      exact q.elim
    | cont =>
      obtain ⟨_, _, _, q⟩ := hs
      exact q.elim
end
def OkG (P : Program) (w : World) (K : PySem.W.Frag) (mg : Str → Option Value) (base : Heap) (x : Str) (k : Nat) (ps : List Str) (sp : Sp) : Prop :=
  ∃ f fd, mg x = some (.ref f) ∧ PySem.W.keepIn K (.ref f) = true ∧ Binds K fd ps [] ∧ GOk P w K mg base k f fd ps sp
section
variable {X : Cx} {x : Str} {k : Nat} {ps : List Str} {sp : Sp} {p pos : Pos} {e : Expr} {es : List Expr} {t : TA}
theorem pe_gfn (gd : X.A.guards = some []) (C : OkG X.prog X.w X.K X.mg X.base x k ps sp) (hr : Room k X.A) (hg : Gl X x) (ha : PA X (e :: es) t) (hdb : (x == ("__debug__" : Str)) = false := by decide)
    (he : starEach (e :: es) X.env = (false, eval e X.env) :: starEach es X.env := by rfl) (hpl : (backTo pos (starEach es X.env)).any (·.1) = false := by rfl) : PE X (.Call (.Name x p) (e :: es) [] pos) (tCall sp [] E0 t) := by
  obtain ⟨f, fd, hm, hk, hb, F⟩ := C
  refine ⟨fun pins s σ H Q I h => wpAny_Call_Name_kw (ld_glob I hg hm ?_ hdb)⟩
  refine PySem.W.callWith_K (h₀ := X.base) I.ok.mod.kin hk (thn (ha.run pos pins s σ H _ I h) fun us s1 hz => ?_) he hpl
  obtain ⟨vs, H1, J, r, q⟩ := hz
  refine ⟨J.kIn, ?_⟩
  have hl : (us ++ []).length = ps.length := by
    rw [← (r.append (.nil : Vals [] [])).length]
    exact F.len _ _ _ _ q
  refine wpAny_call (codeAny_mono (F.go X.A X.stack s1 H1 ⟨us, []⟩ (us ++ []) (vs ++ []) Q E0 gd hr J.env0 (hb s1 us J.kIn hl) (r.append .nil) q) fun fl s' hq => ?_)
  cases fl with
  | error e => exact False.elim hq
  | ok fl =>
    cases fl with
    | ret u => exact J.after hq
    | next => exact False.elim hq
    | brk => exact False.elim hq
    | cont => exact False.elim hq
end
end My


/-! Fin: the law's end for a def that is called where no repr is under way, the script's bits told. -/
namespace My
open PySem PySem.Spec PyProof.Rows L2
section
variable {P : Program} {w : World} {K : PySem.W.Frag} {mg mb : Str → Option Value} {k : Nat} {fa a : Addr} {fd : FuncData} {x : Str} {sp : Sp} {t : Shared} {vs : List Value} {ns : List Int}
/-- from a heap that tracks the script or nothing -/
theorem law_from {H : Hp} (kx : K.In t.heap) (gl : t.heap.Ns mainGlobals mg) (bl : t.heap.Ns builtinsNs mb) (bb : ∀ y : Str, y ≠ "__name__" → mb y = bootBuiltins y) (nl : t.heap.NoLimit) (ge : t.gens = #[])
    (sc : t.heap.get? a = some { cls := .type "list", data := .seq vs.toArray }) (rm : Room k callerA) (F : ∀ bs : Heap, K.In bs → bs.Ns mainGlobals mg → GOk P w K mg bs k fa fd [x] sp)
    (bi : ∀ (s : Shared) (u : Value), BindsTo s fd ⟨[u], []⟩ [(x, u)]) (oh : Only H) (ok : HOk P w H t.heap) (one : ∀ b, H b ≠ none → b = a) (fr : H a ≠ none → K.lookup a = none)
    (pr : sp [.ref a] H (fun v _ => v = .bl true) fun _ _ _ => False) :
    codeAny (model P w) callerA (.call (.ref fa) ⟨[.ref a], []⟩) (fun r t' => r = .ok (.ret (.bool true)) ∧ OldK t.heap t'.heap ∧ t'.os = t.os ∧ AllBare t'.gens) t := by
  have dfree : ∀ b o es n, t.heap.get? b = some o → o.data = .dict es n → H b = none := by
    intro b o es n e d
    cases q : H b with
    | none => rfl
    | some u =>
      obtain rfl := one b (by rw [q]; exact fun z => nomatch z)
      rw [sc] at e
      cases e
      exact absurd d (fun z => nomatch z)
  have nsH : ∀ {b : Addr} {m : Str → Option Value}, t.heap.Ns b m → (hidT t.heap H).Ns b m := by
    rintro b m ⟨o, es, ep, e, d, r⟩
    exact ⟨o, es, ep, hidT_get e (dfree b o es ep e d), d, r⟩
  have kh : K.In (hidT t.heap H) := by
    intro b o e
    refine hidT_get (kx b o e) ?_
    cases q : H b with
    | none => rfl
    | some u =>
      have z : H b ≠ none := by rw [q]; exact fun z => nomatch z
      obtain rfl := one b z
      rw [fr z] at e
      cases e
  have md : Mod K mg (hidT t.heap H) := by
    refine ⟨kh, nsH gl, ⟨mb, nsH bl, bb⟩, ?_⟩
    obtain ⟨mc, c1, c2⟩ := nl
    exact ⟨mc, nsH c1, c2⟩
  have ev : Env0 P w K mg (hidT t.heap H) callerA [] t H :=
    ⟨rfl, md, fun b o e => of_hidT e, Nat.le_of_eq (hidT_size _ _), trivial, fun b m => absurd m (List.not_mem_nil), ok, .of_eq ge⟩
  have run := (F _ kh (nsH gl)).go callerA [] t H ⟨[.ref a], []⟩ [.ref a] [.ref a] _ _ rfl rm ev (bi t (.ref a)) (.cons rfl .nil) pr
  refine codeAny_mono run fun r t' h => ?_
  match r, h with
  | .ok (.ret u), h =>
    obtain ⟨v, H', c1, c2, c3, c4, c5, c6⟩ := h
    cases (show v = .bl true from c6)
    cases (show u = Value.bool true from c5)
    refine ⟨rfl, OldK.of_keep fun b o e => ?_, c1, c2⟩
    rcases oh b with z | ⟨ob, xs, z⟩
    · exact c3.keep b o e z (List.not_mem_nil) (List.not_mem_nil)
    · obtain ⟨g1, _⟩ := ok b _ z
      obtain ⟨g2, _⟩ := c4 b _ (c3.frzs b ob _ z)
      rw [e] at g1
      cases g1
      exact g2
  | .ok .next, h => exact h.elim
  | .ok .brk, h => exact h.elim
  | .ok .cont, h => exact h.elim
  | .error e, h => exact h.elim
theorem law_goes (kx : K.In t.heap) (gl : t.heap.Ns mainGlobals mg) (bl : t.heap.Ns builtinsNs mb) (bb : ∀ y : Str, y ≠ "__name__" → mb y = bootBuiltins y) (nl : t.heap.NoLimit) (ge : t.gens = #[])
    (sc : t.heap.get? a = some { cls := .type "list", data := .seq vs.toArray }) (hi : IntsAre vs ns) (hl : ns.length ≤ sizeLine) (rm : Room k callerA) (F : ∀ bs : Heap, K.In bs → bs.Ns mainGlobals mg → GOk P w K mg bs k fa fd [x] sp)
    (bi : ∀ (s : Shared) (u : Value), BindsTo s fd ⟨[u], []⟩ [(x, u)]) (pr : ∀ H : Hp, SqL K H a (ns.map V.int) → sp [.ref a] H (fun v _ => v = .bl true) fun _ _ _ => False) :
    codeAny (model P w) callerA (.call (.ref fa) ⟨[.ref a], []⟩) (fun r t' => r = .ok (.ret (.bool true)) ∧ OldK t.heap t'.heap ∧ t'.os = t.os ∧ AllBare t'.gens) t := by
  have rv := vals_ints hi
  have ln : vs.length = ns.length := hi.length
  cases hk : K.lookup a with
  | some o =>
    have e := kx a o hk
    rw [sc] at e
    cases e
    refine law_from (H := fun _ => none) kx gl bl bb nl ge sc rm F bi (fun _ => .inl rfl) (fun b u z => nomatch z) (fun b z => absurd rfl z) (fun z => absurd rfl z) (pr _ (.inr ?_))
    exact ⟨_, vs.toArray, _, hk, rfl, rfl, rfl, by rw [List.size_toArray, ln]; exact hl, by simpa using rv⟩
  | none =>
    have at_ : ∀ b : Addr, b = a → (fun b => if b = a then some (HO.frz { cls := .type "list", data := .seq vs.toArray } (.lst (ns.map V.int))) else none : Hp) b = some (HO.frz { cls := .type "list", data := .seq vs.toArray } (.lst (ns.map V.int))) := fun b e => if_pos e
    have off : ∀ b : Addr, b ≠ a → (fun b => if b = a then some (HO.frz { cls := .type "list", data := .seq vs.toArray } (.lst (ns.map V.int))) else none : Hp) b = none := fun b e => if_neg e
    refine law_from (H := fun b => if b = a then some (HO.frz { cls := .type "list", data := .seq vs.toArray } (.lst (ns.map V.int))) else none) kx gl bl bb nl ge sc rm F bi ?_ ?_ ?_ (fun _ => hk) (pr _ (.inl (.inr ⟨_, at_ a rfl⟩)))
    · intro b
      by_cases e : b = a
      · exact .inr ⟨_, _, at_ b e⟩
      · exact .inl (off b e)
    · intro b u z
      by_cases e : b = a
      · rw [at_ b e] at z
        cases z
        subst e
        exact ⟨sc, by rw [List.length_map]; exact hl, vs, _, rv, sc⟩
      · rw [off b e] at z
        cases z
    · intro b z
      by_cases e : b = a
      · exact e
      · exact absurd (off b e) z
end
/-- the end of a law: YP gives the written part and the law's def by facts -/
theorem walk_G {l : PySem.W.OpenLaw} {n k : Nat} {q : Program} {loose : List Str} {XP : (Str → Option Value) → Heap → Prop} {YP : World → Heap → Prop} {d : DefRec} {x : Str}
    (hn : l.most = some n) (hz : n ≤ sizeLine) (hd : d.params.defaults = []) (hr : Room k callerA)
    (F : ∀ (w : World) (mg : Str → Option Value) (fa : Addr) (h : Heap), YP w h → h.Ns mainGlobals mg → mg d.name = some (.ref fa) →
      ∃ (K : PySem.W.Frag) (fd : FuncData) (sp : Sp), K.In h ∧ (∀ (s : Shared) (u : Value), BindsTo s fd ⟨[u], []⟩ [(x, u)]) ∧
        (∀ (H : Hp) (a : Addr) (ns : List Int), ns.length ≤ n → (∀ z ∈ ns, Builtin.Int.intBits z ≤ 1048576) → SqL K H a (ns.map V.int) → sp [.ref a] H (fun v _ => v = .bl true) fun _ _ _ => False) ∧
        ∀ bs : Heap, K.In bs → bs.Ns mainGlobals mg → GOk l.prog w K mg bs k fa fd [x] sp) :
    PySem.W.WalkO q loose XP YP l.row.toRowW d [] (fun f vs => PySem.call f vs) := by
  refine Att.attach_callB hn hd fun w s₀ s₁ mg mb fa o pm cd doc a vs ns G Y ho hdo hcd hmg hobj hints hlen hbits hg => ?_
  obtain ⟨K, fd, sp, kx, hb, hsp, hF⟩ := F w mg fa _ Y G.T.g hmg
  exact law_goes kx G.T.g G.T.b G.T.builtins G.T.nolimit hg hobj hints (Nat.le_trans hlen hz) hr hF hb (fun H hS => hsp H a ns hlen hbits hS)
end My


/-! Draws: the law's own draws (_law_mixed, _law_source, _law_take): what each leaves. -/
namespace My
open PySem PySem.Spec PyProof.Rows L2

/-! ### heaps: all that was tracked, but what stands at s, is as it was -/
def Kp (s : Addr) (H H' : Hp) : Prop := ∀ b o, b ≠ s → H b = some o → H' b = some o
section
variable {s p : Addr} {H H1 H2 : Hp} {o : HO}
theorem Kp.refl (s : Addr) (H : Hp) : Kp s H H := fun _ _ _ h => h
theorem Kp.trans (a : Kp s H H1) (b : Kp s H1 H2) : Kp s H H2 := fun c u n h => b c u n (a c u n h)
theorem kp_same (a : Same H H1) : Kp s H H1 := fun c u _ h => a c u h
theorem same_new (h : H p = none) : Same H (upd H p o) := fun a u e => by
  rw [upd_ne (ne_of_none e h)]
  exact e
theorem Kp.new (h : H p = none) : Kp s H (upd H p o) := kp_same (same_new h)
theorem Kp.self : Kp s H (upd H s o) := fun c u n e => by
  rw [upd_ne n]
  exact e
theorem Kp.seq {K : PySem.W.Frag} {a : Addr} {xs : List V} (e : Kp s H H1) (n : a ≠ s) (h : SqL K H a xs) : SqL K H1 a xs := by
  rcases h with (h | ⟨u, h⟩) | h
  · exact .inl (.inl (e _ _ n h))
  · exact .inl (.inr ⟨u, e _ _ n h⟩)
  · exact .inr h
theorem Kp.tup {K : PySem.W.Frag} {a : Addr} {xs : List V} (e : Kp s H H1) (n : a ≠ s) (h : SqT K H a xs) : SqT K H1 a xs := by
  rcases h with (h | ⟨u, h⟩) | h
  · exact .inl (.inl (e _ _ n h))
  · exact .inl (.inr ⟨u, e _ _ n h⟩)
  · exact .inr h
theorem same_tup {K : PySem.W.Frag} {a : Addr} {xs : List V} (e : Same H H1) (h : SqT K H a xs) : SqT K H1 a xs := by
  rcases h with (h | ⟨u, h⟩) | h
  · exact .inl (.inl (e _ _ h))
  · exact .inl (.inr ⟨u, e _ _ h⟩)
  · exact .inr h
end

/-! ### the source -/
/-- the draws' list at s: a number, a place, the cells at c -/
def Src (H : Hp) (s c : Addr) : Prop := ∃ (n pl : Int) (ns : List Int), H s = some (.lst [.int n, .int pl, .ref c]) ∧ 0 ≤ pl ∧ H c = some (.lst (ns.map V.int))
theorem Src.same {H H' : Hp} {s c : Addr} (S : Src H s c) (e : Same H H') : Src H' s c := by
  obtain ⟨n, pl, ns, h1, h2, h3⟩ := S
  exact ⟨n, pl, ns, e _ _ h1, h2, e _ _ h3⟩
theorem Src.at {H : Hp} {s c : Addr} (S : Src H s c) : ∃ xs, H s = some (.lst xs) := by
  obtain ⟨n, pl, ns, h1, h2, h3⟩ := S
  exact ⟨_, h1⟩
theorem Src.cells {H : Hp} {s c : Addr} (S : Src H s c) : ∃ xs, H c = some (.lst xs) := by
  obtain ⟨n, pl, ns, h1, h2, h3⟩ := S
  exact ⟨_, h3⟩
/-- what stands elsewhere may change -/
theorem Src.kp {H H' : Hp} {s c p : Addr} (S : Src H s c) (hs : s ≠ p) (hc : c ≠ p) (e : Kp p H H') : Src H' s c := by
  obtain ⟨n, pl, ns, h1, h2, h3⟩ := S
  exact ⟨n, pl, ns, e _ _ hs h1, h2, e _ _ hc h3⟩
theorem Src.ne {H : Hp} {s c p : Addr} (S : Src H s c) (h : H p = none) : p ≠ s ∧ p ≠ c := by
  obtain ⟨n, pl, ns, h1, h2, h3⟩ := S
  exact ⟨(ne_of_none h1 h).symm, (ne_of_none h3 h).symm⟩
theorem src_ne {H : Hp} {s c : Addr} {n pl : Int} {ns : List Int} (h1 : H s = some (.lst [.int n, .int pl, .ref c])) (h3 : H c = some (.lst (ns.map V.int))) : c ≠ s := by
  intro e
  subst e
  rw [h1] at h3
  have q : [V.int n, V.int pl, V.ref c] = ns.map V.int := by
    injection h3 with h3
    injection h3
  have : V.ref c ∈ ns.map V.int := by
    rw [← q]
    exact List.mem_cons_of_mem _ (List.mem_cons_of_mem _ List.mem_cons_self)
  obtain ⟨z, _, e⟩ := List.mem_map.mp this
  cases e

/-! ### _law_mixed -/
def sp_law_mixed (K : PySem.W.Frag) : Sp := fun vs H Q _ => ∃ c p : Int, vs = [.int c, .int p] ∧ ∀ r : Int, Q (.int r) H
abbrev n_law_mixed : List Str := ["_law_cell", "_law_place", "_law_first", "_law_second", "_law_third"]
def t_law_mixed (K : PySem.W.Frag) : TS :=
    (tSeq (tAsg (tOp rModI (tCB cInt1 (tCons (tOp rAddI (tOp rAddI (tOp rMulI (tCB cAbs (tCons (tVar 0) tNil)) (tC (.int 48271))) (tOp rMulI (tVar 1) (tC (.int 69621)))) (tC (.int 1013))) tNil)) (tC (.int 2147483647))) (gName 2))
    (tSeq (tAsg (tOp rModI (tCB cInt1 (tCons (tOp rAddI (tOp rAddI (tOp rAddI (tOp rMulI (tVar 2) (tVar 2)) (tOp rMulI (tCB cAbs (tCons (tVar 0) tNil)) (tC (.int 16807)))) (tOp rMulI (tVar 1) (tC (.int 7919)))) (tC (.int 11))) tNil)) (tC (.int 2305843009213693951))) (gName 3))
    (tSeq (tAsg (tOp rModI (tCB cInt1 (tCons (tOp rAddI (tOp rAddI (tOp rMulI (tVar 3) (tC (.int 1442695040888963407))) (tOp rMulI (tVar 2) (tC (.int 69621)))) (tC (.int 1013))) tNil)) (tC (.int 2305843009213693951))) (gName 4))
    (tRet (tOp rAddI (tVar 4) (tC (.int 2305843009213693951)))))))
theorem len_law_mixed {K : PySem.W.Frag} {vs : List V} {H : Hp} {Q : VK} {E : XK} (h : sp_law_mixed K vs H Q E) : vs.length = 2 := by
  obtain ⟨c, p, rfl, _⟩ := h
  rfl
theorem small_mod {a b : Int} (h : 0 < b) (hb : b < 2 ^ 64) : -(2 ^ 64) < a % b ∧ a % b < 2 ^ 64 := by
  have h1 := Int.emod_nonneg a (by omega : b ≠ 0)
  have h2 := Int.emod_lt_of_pos a h
  omega
theorem run_law_mixed {K : PySem.W.Frag} {vs : List V} {H : Hp} {Q : VK} {E : XK} (h : sp_law_mixed K vs H Q E) : t_law_mixed K { nx := fun _ H' => Q .non H', rt := Q } (start n_law_mixed vs) H := by
  obtain ⟨c, p, rfl, k⟩ := h
  unfold t_law_mixed
  refine ⟨_, rfl, _, rfl, _, _, rfl, rfl, .inr ⟨by decide, by decide⟩, _, rfl, _, _, rfl, rfl, .inr ⟨by decide, by decide⟩, _, _, rfl, rfl, _, _, rfl, rfl, .inl ⟨_, rfl, _, _, rfl, rfl, (show (0 : Int) < 2147483647 by decide), ?_⟩⟩
  refine ⟨_, rfl, _, rfl, _, _, rfl, rfl, .inl (small_mod (by decide) (by decide)), _, rfl, _, rfl, _, _, rfl, rfl, .inr ⟨by decide, by decide⟩, _, _, rfl, rfl, _, rfl, _, _, rfl, rfl, .inr ⟨by decide, by decide⟩, _, _, rfl, rfl, _, _, rfl, rfl, .inl ⟨_, rfl, _, _, rfl, rfl, (show (0 : Int) < 2305843009213693951 by decide), ?_⟩⟩
  refine ⟨_, rfl, _, _, rfl, rfl, .inr ⟨by decide, by decide⟩, _, rfl, _, _, rfl, rfl, .inr ⟨by decide, by decide⟩, _, _, rfl, rfl, _, _, rfl, rfl, .inl ⟨_, rfl, _, _, rfl, rfl, (show (0 : Int) < 2305843009213693951 by decide), ?_⟩⟩
  refine ⟨_, rfl, _, _, rfl, rfl, ?_⟩
  exact k _

/-! ### _law_source -/
def sp_law_source (K : PySem.W.Frag) : Sp := fun vs H Q _ => ∃ (a : Addr) (ns : List Int), vs = [.ref a] ∧ SqL K H a (ns.map V.int) ∧ ∀ s c H', H s = none → H c = none → Same H H' → Src H' s c → Q (.ref s) H'
abbrev n_law_source : List Str := ["_law_script"]
def t_law_source (K : PySem.W.Frag) : TS :=
    (tRet (tLst (tCons (tC (.int 0)) (tCons (tC (.int 0)) (tCons (tCB (cList K) (tCons (tVar 0) tNil)) tNil)))))
theorem len_law_source {K : PySem.W.Frag} {vs : List V} {H : Hp} {Q : VK} {E : XK} (h : sp_law_source K vs H Q E) : vs.length = 1 := by
  obtain ⟨c, p, rfl, _⟩ := h
  rfl
theorem run_law_source {K : PySem.W.Frag} {vs : List V} {H : Hp} {Q : VK} {E : XK} (h : sp_law_source K vs H Q E) : t_law_source K { nx := fun _ H' => Q .non H', rt := Q } (start n_law_source vs) H := by
  obtain ⟨a, ns, rfl, hs, k⟩ := h
  unfold t_law_source
  refine ⟨_, rfl, a, _, rfl, .inl hs, fun l hl => ⟨by show 3 ≤ sizeLine; decide, fun s hs' => ?_⟩⟩
  have e1 : Same H (upd H l (.lst (ns.map V.int))) := same_new hl
  have ne : l ≠ s := ne_of_none upd_same hs'
  refine k s l _ (e1.free hs') hl (e1.trans (same_new hs')) ⟨0, 0, ns, upd_same, by decide, ?_⟩
  rw [upd_ne ne, upd_same]

/-! ### _law_take -/
def sp_law_take (K : PySem.W.Frag) : Sp := fun vs H Q _ => ∃ (s c : Addr) (m : Int), vs = [.ref s, .int m] ∧ 0 < m ∧ m.natAbs.log2 < 9000 ∧ Src H s c ∧ ∀ d H', 0 ≤ d → d < m → Src H' s c → Kp s H H' → Q (.int d) H'
abbrev n_law_take : List Str := ["_law_source_here", "_law_many", "_law_digit", "_law_cells", "_law_place"]
def t_law_take (K : PySem.W.Frag) : TS :=
    (tSeq (tIfS (tTest (tOp rLtI (tOp (rIxL K) (tVar 0) (tC (.int 0))) (tOp rMulI (tC (.int 2)) (tVar 1)))) (tSeq (tAsg (tOp (rIxL K) (tVar 0) (tC (.int 2))) (gName 3))
    (tSeq (tAsg (tOp (rIxL K) (tVar 0) (tC (.int 1))) (gName 4))
    (tSeq (tAsg (tOp rAddI (tVar 4) (tC (.int 1))) (gSub (tVar 0) (tC (.int 1)) rSetL))
    (tIfS (tAnd (tTest (tOp rLtI (tVar 4) (tCB (cLenQ K) (tCons (tVar 3) tNil)))) (tTest (tOp rGeI (tCB cAbs (tCons (tOp (rIxL K) (tVar 3) (tVar 4)) tNil)) (tOp rPowI (tC (.int 10)) (tC (.int 18)))))) (tAsg (tCB cAbs (tCons (tOp (rIxL K) (tVar 3) (tVar 4)) tNil)) (gSub (tVar 0) (tC (.int 0)) rSetL)) (tIfS (tTest (tOp rGtI (tCB (cLenQ K) (tCons (tVar 3) tNil)) (tC (.int 0)))) (tAsg (tCall (sp_law_mixed K) [] E0 (tCons (tOp (rIxL K) (tVar 3) (tOp rModI (tCB cInt1 (tCons (tVar 4) tNil)) (tCB (cLenQ K) (tCons (tVar 3) tNil)))) (tCons (tVar 4) tNil))) (gSub (tVar 0) (tC (.int 0)) rSetL)) (tAsg (tCall (sp_law_mixed K) [] E0 (tCons (tC (.int 0)) (tCons (tVar 4) tNil))) (gSub (tVar 0) (tC (.int 0)) rSetL))))))) tNext)
    (tSeq (tAsg (tOp rModI (tCB cInt1 (tCons (tOp (rIxL K) (tVar 0) (tC (.int 0))) tNil)) (tVar 1)) (gName 2))
    (tSeq (tAsg (tOp rDivI (tCB cInt1 (tCons (tOp (rIxL K) (tVar 0) (tC (.int 0))) tNil)) (tVar 1)) (gSub (tVar 0) (tC (.int 0)) rSetL))
    (tRet (tVar 2)))))
theorem len_law_take {K : PySem.W.Frag} {vs : List V} {H : Hp} {Q : VK} {E : XK} (h : sp_law_take K vs H Q E) : vs.length = 2 := by
  obtain ⟨c, p, m, rfl, _⟩ := h
  rfl
theorem at3 {a b c : V} : atI [a, b, c] 0 = some a ∧ atI [a, b, c] 1 = some b ∧ atI [a, b, c] 2 = some c := ⟨rfl, rfl, rfl⟩
theorem run_law_take {K : PySem.W.Frag} {vs : List V} {H : Hp} {Q : VK} {E : XK} (h : sp_law_take K vs H Q E) : t_law_take K { nx := fun _ H' => Q .non H', rt := Q } (start n_law_take vs) H := by
  obtain ⟨s, c, m, rfl, hm, hz, S, k⟩ := h
  unfold t_law_take
  -- what follows the if, from any source
  have rest : ∀ (σ : L2.St) (H' : Hp) (u v : Option V), σ = [some (.ref s), some (.int m), none, u, v] → Src H' s c → Kp s H H' →
      (tSeq (tAsg (tOp rModI (tCB cInt1 (tCons (tOp (rIxL K) (tVar 0) (tC (.int 0))) tNil)) (tVar 1)) (gName 2))
      (tSeq (tAsg (tOp rDivI (tCB cInt1 (tCons (tOp (rIxL K) (tVar 0) (tC (.int 0))) tNil)) (tVar 1)) (gSub (tVar 0) (tC (.int 0)) rSetL))
      (tRet (tVar 2)))) { nx := fun _ H' => Q .non H', rt := Q } σ H' := by
    rintro σ H' u v rfl ⟨n, pl, ns, h1, h2, h3⟩ kp
    have nc := src_ne h1 h3
    refine ⟨_, rfl, s, _, _, _, rfl, rfl, SqL.of h1, at3.1, .inl ⟨_, rfl, _, rfl, _, _, rfl, rfl, hm, ?_⟩⟩
    refine ⟨_, rfl, s, _, _, _, rfl, rfl, SqL.of h1, at3.1, .inl ⟨_, rfl, _, rfl, _, _, rfl, rfl, ⟨hm, hz⟩, ?_⟩⟩
    refine ⟨_, rfl, s, _, _, 0, rfl, rfl, h1, rfl, _, rfl, ?_⟩
    refine k (n % m) _ (Int.emod_nonneg _ (by omega)) (Int.emod_lt_of_pos _ hm) ⟨n / m, pl, ns, upd_same, h2, ?_⟩ (kp.trans Kp.self)
    rw [upd_ne nc]
    exact h3
  obtain ⟨n, pl, ns, h1, h2, h3⟩ := S
  have nc := src_ne h1 h3
  refine ⟨_, rfl, s, _, _, _, rfl, rfl, SqL.of h1, at3.1, _, rfl, _, _, rfl, rfl, .inl ⟨by decide, by decide⟩, _, _, rfl, rfl, _, rfl, ?_⟩
  refine ite2 (fun _ => ?_) (fun _ => rest _ H none none rfl ⟨n, pl, ns, h1, h2, h3⟩ (Kp.refl s H))
  refine ⟨_, rfl, s, _, _, _, rfl, rfl, SqL.of h1, at3.2.2, ?_⟩
  refine ⟨_, rfl, s, _, _, _, rfl, rfl, SqL.of h1, at3.2.1, ?_⟩
  refine ⟨_, rfl, _, _, rfl, rfl, _, rfl, s, _, _, 1, rfl, rfl, h1, rfl, ?_⟩
  have g1 : upd H s (.lst [.int n, .int (pl + 1), .ref c]) s = some (.lst [.int n, .int (pl + 1), .ref c]) := upd_same
  have g3 : upd H s (.lst [.int n, .int (pl + 1), .ref c]) c = some (.lst (ns.map V.int)) := by
    rw [upd_ne nc]
    exact h3
  have kp1 : Kp s H (upd H s (.lst [.int n, .int (pl + 1), .ref c])) := Kp.self
  generalize hH1 : upd H s (.lst [.int n, .int (pl + 1), .ref c]) = H1 at g1 g3 kp1
  have hset : ([.int n, .int pl, .ref c] : List V).set 1 (.int (pl + 1)) = [.int n, .int (pl + 1), .ref c] := rfl
  rw [hset, hH1]
  have fin : ∀ r : Int, rSetL (.ref s) (.int 0) (.int r) H1 fun H3 => (tSeq (tAsg (tOp rModI (tCB cInt1 (tCons (tOp (rIxL K) (tVar 0) (tC (.int 0))) tNil)) (tVar 1)) (gName 2))
      (tSeq (tAsg (tOp rDivI (tCB cInt1 (tCons (tOp (rIxL K) (tVar 0) (tC (.int 0))) tNil)) (tVar 1)) (gSub (tVar 0) (tC (.int 0)) rSetL))
      (tRet (tVar 2)))) { nx := fun _ H' => Q .non H', rt := Q } [some (.ref s), some (.int m), none, some (.ref c), some (.int pl)] H3 := fun r =>
    ⟨s, _, _, 0, rfl, rfl, g1, rfl, rest _ _ _ _ rfl ⟨r, pl + 1, ns, upd_same, by omega, by rw [upd_ne nc]; exact g3⟩ (kp1.trans Kp.self)⟩
  refine ⟨_, rfl, _, rfl, c, _, rfl, .inl (SqL.of g3), _, _, rfl, rfl, _, rfl, ?_⟩
  have third : tIfS (tTest (tOp rGtI (tCB (cLenQ K) (tCons (tVar 3) tNil)) (tC (.int 0)))) (tAsg (tCall (sp_law_mixed K) [] E0 (tCons (tOp (rIxL K) (tVar 3) (tOp rModI (tCB cInt1 (tCons (tVar 4) tNil)) (tCB (cLenQ K) (tCons (tVar 3) tNil)))) (tCons (tVar 4) tNil))) (gSub (tVar 0) (tC (.int 0)) rSetL)) (tAsg (tCall (sp_law_mixed K) [] E0 (tCons (tC (.int 0)) (tCons (tVar 4) tNil))) (gSub (tVar 0) (tC (.int 0)) rSetL))
      { nx := fun σ' H' => (tSeq (tAsg (tOp rModI (tCB cInt1 (tCons (tOp (rIxL K) (tVar 0) (tC (.int 0))) tNil)) (tVar 1)) (gName 2))
      (tSeq (tAsg (tOp rDivI (tCB cInt1 (tCons (tOp (rIxL K) (tVar 0) (tC (.int 0))) tNil)) (tVar 1)) (gSub (tVar 0) (tC (.int 0)) rSetL))
      (tRet (tVar 2)))) { nx := fun _ H' => Q .non H', rt := Q } σ' H', rt := Q } [some (.ref s), some (.int m), none, some (.ref c), some (.int pl)] H1 := by
    refine ⟨_, rfl, c, _, rfl, .inl (SqL.of g3), _, _, rfl, rfl, _, rfl, ?_⟩
    refine ite2 (fun hpos => ?_) (fun _ => ?_)
    · have hpos := of_decide_eq_true hpos
      have hlen : 0 < ((ns.map V.int).length : Int) := by exact hpos
      have h5 := Int.emod_nonneg pl (by omega : ((ns.map V.int).length : Int) ≠ 0)
      have h6 := Int.emod_lt_of_pos pl hlen
      obtain ⟨j, hj⟩ : ∃ j : Nat, pl % ((ns.map V.int).length : Int) = (j : Int) := ⟨_, (Int.toNat_of_nonneg h5).symm⟩
      have hjl : j < (ns.map V.int).length := by omega
      have hjn : j < ns.length := by rw [List.length_map] at hjl; exact hjl
      refine ⟨_, rfl, _, rfl, .inl ⟨_, rfl, _, rfl, c, _, rfl, .inl (SqL.of g3), _, _, rfl, rfl, hlen, c, _, _, V.int ns[j], rfl, rfl, SqL.of g3, ?_, _, rfl, _, _, rfl, fun r => ⟨_, rfl, fin r⟩⟩⟩
      rw [hj]
      exact atI_nat (by rw [List.getElem?_map, List.getElem?_eq_getElem hjn] <;> rfl)
    · exact ⟨_, rfl, _, _, rfl, fun r => ⟨_, rfl, fin r⟩⟩
  refine ite2 (fun hlt => ?_) (fun _ => third)
  have hlt := of_decide_eq_true hlt
  have hlt : pl < ((ns.map V.int).length : Int) := hlt
  obtain ⟨j, rfl⟩ : ∃ j : Nat, pl = (j : Int) := ⟨_, (Int.toNat_of_nonneg h2).symm⟩
  have hjl : j < (ns.map V.int).length := by omega
  have hjn : j < ns.length := by rw [List.length_map] at hjl; exact hjl
  have hat : atI (ns.map V.int) (j : Int) = some (V.int ns[j]) := atI_nat (by rw [List.getElem?_map, List.getElem?_eq_getElem hjn] <;> rfl)
  refine ⟨_, rfl, _, rfl, c, _, _, _, rfl, rfl, SqL.of g3, hat, _, rfl, _, _, rfl, rfl, ⟨by decide, by decide, by decide⟩, _, _, rfl, rfl, _, rfl, ?_⟩
  refine ite2 (fun _ => ?_) (fun _ => third)
  refine ⟨_, rfl, _, rfl, c, _, _, _, rfl, rfl, SqL.of g3, hat, _, rfl, _, rfl, fin _⟩
end My


/-! Names: comprehensions whose elements change nothing; names (is_name, is_step_name, is_text). -/
namespace My
open PySem PySem.Spec PyProof.Rows L2 TL

/-! ### a comprehension without a test whose element is a value and leaves all as it was -/
theorem lc_ev {J : It} {n : Nat} {G : Hp → Prop} {Y : Nat → Hp → V → Hp → Prop} (w : Walk J n G Y) {g : TG} {te : TE} {vs : List Nat} {σ : L2.St} {H1 : Hp} {D : Addr} {Qd : Hp → Prop} (f : Nat → V)
    (hn : n ≤ 1000000) (hD : H1 D = none) (hY : ∀ i H x H', Y i H x H' → Same H H') (hG : ∀ H, Same H1 H → G H)
    (he : ∀ i x H H' (Q : VK), i < n → Same H1 H → Y i H x H' → (∀ H2, Same H' H2 → Q (f i) H2) → g x (wipe σ vs) H' fun σ2 H2 => wipe σ2 vs = wipe σ vs ∧ te σ2 H2 Q)
    (hQ : ∀ H2, Same H1 H2 → H2 D = some (.lst ((List.range n).map f)) → Qd H2) :
    ∃ W : Nat → Nat → Hp → Prop, (∃ m, W 0 m (upd H1 D (.lst []))) ∧ ∀ i m H, W i m H →
      (J.stop i H ∧ Qd H) ∨ (J.go i H ∧ ∃ Nx : Hp → Prop, (∀ H', Nx H' → ∃ m', m' < m ∧ W (i + 1) m' H') ∧ ∀ x H', J.yld i H x H' → g x (wipe σ vs) H' fun σ2 H2 => wipe σ2 vs = wipe σ vs ∧ tYes σ2 H2 fun b H3 =>
        if b = true then te σ2 H3 fun y H4 => ∃ acc, H4 D = some (.lst acc) ∧ acc.length < sizeLine ∧ Nx (upd H4 D (.lst (acc ++ [y]))) else Nx H3) := by
  refine lc_it w (fun i H => Same H1 H ∧ H D = some (.lst ((List.range i).map f))) ⟨same_new hD, upd_same⟩ (fun i H _ p => hG H p.1) ?_ (fun H p => hQ H p.1 p.2)
  rintro i x H H' hi ⟨p1, p2⟩ y
  have s1 := hY i H x H' y
  have z := he i x H H' (fun y H4 => ∃ acc, H4 D = some (.lst acc) ∧ acc.length < sizeLine ∧ (Same H1 (upd H4 D (.lst (acc ++ [y]))) ∧ upd H4 D (.lst (acc ++ [y])) D = some (.lst ((List.range (i + 1)).map f)))) hi p1 y ?_
  · exact z
  · intro H2 s2
    refine ⟨_, s2 _ _ (s1 _ _ p2), ?_, ?_, ?_⟩
    · rw [List.length_map, List.length_range]
      exact Nat.lt_of_lt_of_le (by omega : i < 1000000) (by decide)
    · intro b o e
      rw [upd_ne (ne_of_none e hD)]
      exact s2 _ _ (s1 _ _ (p1 _ _ e))
    · rw [upd_same, List.range_succ, List.map_append] <;> rfl
theorem same_refl {H H' : Hp} (e : H' = H) : Same H H' := by
  rw [e]
  exact Same.refl H

/-! ### texts -/
theorem tl_size (z : Str) : z.cps.size = z.length := rfl
theorem map_range_tl (z : Str) (f : Nat → Bool) (g : Nat → V) (h : ∀ i c, z.cps[i]? = some c → g i = V.bl (f c)) : (List.range z.cps.size).map g = ((tl z).map f).map V.bl := by
  apply List.ext_getElem
  · simp [tl]
  · intro i h1 h2
    simp only [List.getElem_map, List.getElem_range]
    have hi : i < z.cps.size := by simpa using h1
    rw [h i z.cps[i] (by simp [hi])]
    simp [tl]
/-- all([f(c) for c in z]) for a text z in slot j, the comprehension's name in slot i -/
theorem all_signs {K : PySem.W.Frag} {i j : Nat} {te : TE} {σ : L2.St} {H : Hp} {Q : VK} {z : Str} (f : Nat → Bool) (hj : σ[j]? = some (some (.str z))) (hz : z.length ≤ 1000000)
    (hw : ∀ v, wipe ((wipe σ [i]).set i (some v)) [i] = wipe σ [i])
    (he : ∀ c (H' : Hp) (R : VK), c ∈ tl z → R (.bl (f c)) H' → te ((wipe σ [i]).set i (some (.str ⟨#[c]⟩))) H' R)
    (k : ∀ H', Same H H' → Q (.bl ((tl z).all f)) H') :
    tCB (rAll K) (tCons (tLc (iStr (tVar j)) (gName i) tYes te [i]) tNil) σ H Q := by
  refine ⟨_, hj, z, rfl, fun D hD => ?_⟩
  refine lc_ev (w := walk_str) (fun m => match z.cps[m]? with | some c => .bl (f c) | none => .non) hz hD ?_ (fun _ _ => True.intro) ?_ ?_
  · rintro m H1 x H' ⟨e, _⟩
    exact same_refl e
  · rintro m x H1 H' R hm s1 ⟨rfl, c, hc, rfl⟩ hR
    refine ⟨hw _, he c H' R ?_ ?_⟩
    · have e : (tl z)[m]? = some c := by simpa [tl] using hc
      exact List.mem_of_getElem? e
    · have q := hR H' (Same.refl _)
      rw [hc] at q
      exact q
  · intro H2 s2 h2
    refine ⟨D, (tl z).map f, rfl, SqL.of ?_, ?_⟩
    · rw [h2]
      congr 2
      exact map_range_tl z f _ fun m c hc => by rw [hc]
    · rw [List.all_map]
      exact k H2 s2
theorem ix_str0 {z : Str} {c : Nat} {l : List Nat} (h : tl z = c :: l) : atI z.cps.toList 0 = some c := by
  have e : z.cps.toList = c :: l := h
  rw [e]
  exact atI_nat (j := 0) rfl
theorem len_cons {z : Str} {c : Nat} {l : List Nat} (h : tl z = c :: l) : z.length = l.length + 1 := by
  rw [len_tl, h]
  rfl

/-! ### names -/
def c_LETTERS : Str := "abcdefghijklmnopqrstuvwxyz"
def c_DIGITS : Str := "0123456789"
def c_FRAME : Str := "frame"
def c_CHARACTERS : Str := "!\"#$&'()*+,-./0123456789:;<=>?@ABCDEFGHIJKLMNOPQRSTUVWXYZ[\\]^_`abcdefghijklmnopqrstuvwxyz{|}~"
def isLet (c : Nat) : Bool := decide (c ∈ tl c_LETTERS)
def isDig (c : Nat) : Bool := decide (c ∈ tl c_DIGITS)
def isSign (c : Nat) : Bool := decide (c ∈ tl c_CHARACTERS)
def nameOk : List Nat → Bool
  | [] => false
  | c :: l => decide (l.length < 12) && (isLet c && (c :: l).all fun d => isLet d || isDig d)
def isName (z : Str) : Bool := nameOk (tl z)
def isText (z : Str) : Bool := (tl z).all isSign
section
variable {K : PySem.W.Frag} {vs : List V} {H : Hp} {Q : VK} {E : XK}
def sp_is_name (K : PySem.W.Frag) : Sp := fun vs H Q _ => ∃ z : Str, vs = [.str z] ∧ z.length ≤ 1000000 ∧ ∀ H', Same H H' → Q (.bl (isName z)) H'
abbrev n_is_name : List Str := ["text", "char"]
def t_is_name (K : PySem.W.Frag) : TS :=
    (tSeq (tIfS (tOr (tNot (tTest (tChain rLeI rLeI (tC (.int 1)) (tCB cLenS (tCons (tVar 0) tNil)) (tC (.int 12))))) (tTest (tOp rNotInSign (tOp rIxS (tVar 0) (tC (.int 0))) (tC (.str c_LETTERS))))) (tRet (tC (.bl false))) tNext)
    (tRet (tCB (rAll K) (tCons (tLc (iStr (tVar 0)) (gName 1) tYes (tOrV (tOp rInSign (tVar 1) (tC (.str c_LETTERS))) (tOp rInSign (tVar 1) (tC (.str c_DIGITS)))) [1]) tNil))))
theorem len_is_name (h : sp_is_name K vs H Q E) : vs.length = 1 := by
  obtain ⟨z, rfl, _⟩ := h
  rfl
theorem run_is_name (h : sp_is_name K vs H Q E) : t_is_name K { nx := fun _ H' => Q .non H', rt := Q } (start n_is_name vs) H := by
  obtain ⟨z, rfl, hz, k⟩ := h
  unfold t_is_name
  have hsz : z.length ≤ sizeLine := Nat.le_trans hz (by decide)
  refine ⟨_, rfl, z, rfl, hsz, _, _, rfl, rfl, _, rfl, ?_⟩
  cases e : tl z with
  | nil =>
    have hl : z.length = 0 := by rw [len_tl, e]; rfl
    have d1 : decide ((1 : Int) ≤ (z.length : Int)) = false := by rw [hl]; rfl
    rw [d1]
    refine iteF ⟨_, rfl, iteT (iteT ?_)⟩
    have := k H (Same.refl H)
    rw [isName, e] at this
    exact this
  | cons c l =>
    have hl := len_cons e
    have d1 : decide ((1 : Int) ≤ (z.length : Int)) = true := decide_eq_true (by omega)
    rw [d1]
    refine iteT ⟨_, _, rfl, rfl, _, rfl, ?_⟩
    by_cases h12 : l.length < 12
    · have d2 : decide ((z.length : Int) ≤ 12) = true := decide_eq_true (by omega)
      rw [d2]
      refine iteF ⟨_, rfl, z, _, c, rfl, rfl, hsz, ix_str0 e, c, _, rfl, rfl, _, rfl, ?_⟩
      by_cases hc : isLet c = true
      · have d3 : (!decide (c ∈ c_LETTERS.cps.toList)) = false := by
          have : decide (c ∈ c_LETTERS.cps.toList) = true := hc
          rw [this]; rfl
        rw [d3]
        refine iteF ?_
        refine all_signs (fun d => isLet d || isDig d) rfl hz (fun _ => rfl) ?_ ?_
        · intro d H' R hd hR
          refine ⟨_, rfl, d, _, rfl, rfl, _, rfl, ?_⟩
          by_cases hd1 : isLet d = true
          · have d4 : decide (d ∈ c_LETTERS.cps.toList) = true := hd1
            rw [d4]
            rw [hd1] at hR
            exact iteT hR
          · have d4 : decide (d ∈ c_LETTERS.cps.toList) = false := Bool.eq_false_iff.mpr hd1
            rw [d4]
            refine iteF ⟨_, rfl, d, _, rfl, rfl, ?_⟩
            have d5 : isLet d = false := by simpa using hd1
            rw [d5, Bool.false_or] at hR
            exact hR
        · intro H' s
          have := k H' s
          rw [isName, e] at this
          rw [e]
          rw [nameOk, decide_eq_true h12, hc, Bool.true_and, Bool.true_and] at this
          exact this
      · have hc' : isLet c = false := by simpa using hc
        have d3 : (!decide (c ∈ c_LETTERS.cps.toList)) = true := by
          have : decide (c ∈ c_LETTERS.cps.toList) = false := hc'
          rw [this]; rfl
        rw [d3]
        refine iteT ?_
        have := k H (Same.refl H)
        rw [isName, e, nameOk, hc', Bool.false_and, Bool.and_false] at this
        exact this
    · have d2 : decide ((z.length : Int) ≤ 12) = false := decide_eq_false (by omega)
      rw [d2]
      refine iteT (iteT ?_)
      have := k H (Same.refl H)
      rw [isName, e, nameOk, decide_eq_false h12, Bool.false_and] at this
      exact this

def sp_is_step_name (K : PySem.W.Frag) : Sp := fun vs H Q _ => ∃ z : Str, vs = [.str z] ∧ z.length ≤ 1000000 ∧ ∀ H', Same H H' → Q (.bl (isName z && !decide (z = c_FRAME))) H'
abbrev n_is_step_name : List Str := ["text"]
def t_is_step_name (K : PySem.W.Frag) : TS :=
    (tRet (tAndV (tCall (sp_is_name K) [] E0 (tCons (tVar 0) tNil)) (tOp rNe (tVar 0) (tC (.str c_FRAME)))))
theorem len_is_step_name (h : sp_is_step_name K vs H Q E) : vs.length = 1 := by
  obtain ⟨z, rfl, _⟩ := h
  rfl
theorem run_is_step_name (h : sp_is_step_name K vs H Q E) : t_is_step_name K { nx := fun _ H' => Q .non H', rt := Q } (start n_is_step_name vs) H := by
  obtain ⟨z, rfl, hz, k⟩ := h
  unfold t_is_step_name
  refine ⟨_, rfl, z, rfl, hz, fun H' s => ⟨_, rfl, ?_⟩⟩
  cases hc : isName z with
  | false =>
    have := k H' s
    rw [hc] at this
    exact iteF this
  | true =>
    have := k H' s
    rw [hc] at this
    refine iteT ⟨_, rfl, rfl, ?_⟩
    have e : decide ((V.str z) = V.str c_FRAME) = decide (z = c_FRAME) := by
      by_cases q : z = c_FRAME
      · subst q; simp
      · rw [decide_eq_false q]; exact decide_eq_false (fun r => q (V.str.inj r))
    show Q (.bl (!decide (V.str z = V.str c_FRAME))) H'
    rw [e]
    exact this

def sp_is_text (K : PySem.W.Frag) : Sp := fun vs H Q _ => ∃ z : Str, vs = [.str z] ∧ z.length ≤ 1000000 ∧ ∀ H', Same H H' → Q (.bl (isText z)) H'
abbrev n_is_text : List Str := ["text", "char"]
def t_is_text (K : PySem.W.Frag) : TS :=
    (tRet (tCB (rAll K) (tCons (tLc (iStr (tVar 0)) (gName 1) tYes (tOp rInSign (tVar 1) (tC (.str c_CHARACTERS))) [1]) tNil)))
theorem len_is_text (h : sp_is_text K vs H Q E) : vs.length = 1 := by
  obtain ⟨z, rfl, _⟩ := h
  rfl
theorem run_is_text (h : sp_is_text K vs H Q E) : t_is_text K { nx := fun _ H' => Q .non H', rt := Q } (start n_is_text vs) H := by
  obtain ⟨z, rfl, hz, k⟩ := h
  unfold t_is_text
  refine all_signs isSign rfl hz (fun _ => rfl) ?_ k
  intro d H' R _ hR
  exact ⟨_, rfl, d, _, rfl, rfl, hR⟩
end
end My


/-! Nums: numbers as texts, cuts of texts and lists, data on the heap. -/
namespace My
open PySem PySem.Spec PyProof.Rows L2 TL

/-! ### texts by their signs -/
theorem str_iff {a b : Str} : V.str a = V.str b ↔ tl a = tl b := ⟨fun h => by rw [V.str.inj h], fun h => by rw [ext_tl h]⟩
theorem dec_str (a b : Str) : decide (V.str a = V.str b) = decide (tl a = tl b) := decide_eq_decide.mpr str_iff
theorem tl_cutT (z : Str) (k : Nat) : tl (cutS z none (some (k : Int))) = (tl z).take k := by
  show ((z.cps.toList.drop (HT.sIx z.length 0 none)).take (HT.sIx z.length z.length (some (k : Int)) - HT.sIx z.length 0 none)) = _
  rw [HT.sIx_none, HT.sIx_nat, List.drop_zero, Nat.sub_zero, len_tl]
  show List.take (min k (tl z).length) (tl z) = List.take k (tl z)
  rw [List.take_eq_take_iff]
  omega
theorem tl_cutD (z : Str) (k : Nat) : tl (cutS z (some (k : Int)) none) = (tl z).drop k := by
  show ((z.cps.toList.drop (HT.sIx z.length 0 (some (k : Int)))).take (HT.sIx z.length z.length none - HT.sIx z.length 0 (some (k : Int)))) = _
  rw [HT.sIx_none, HT.sIx_nat, len_tl]
  rw [List.take_of_length_le (by rw [List.length_drop]; exact Nat.le_refl _)]
  by_cases h : k ≤ (tl z).length
  · rw [Nat.min_eq_left h]
  · rw [Nat.min_eq_right (by omega), List.drop_eq_nil_of_le (Nat.le_refl _), List.drop_eq_nil_of_le (by omega)]
theorem cutV_D (xs : List V) (k : Nat) : cutV xs (some (k : Int)) none = xs.drop k := by
  unfold cutV
  rw [HT.sIx_none, HT.sIx_nat]
  rw [List.take_of_length_le (by rw [List.length_drop]; exact Nat.le_refl _)]
  by_cases h : k ≤ xs.length
  · rw [Nat.min_eq_left h]
  · rw [Nat.min_eq_right (by omega), List.drop_eq_nil_of_le (Nat.le_refl _), List.drop_eq_nil_of_le (by omega)]
theorem cutV_T (xs : List V) (k : Nat) : cutV xs none (some (k : Int)) = xs.take k := by
  unfold cutV
  rw [HT.sIx_none, HT.sIx_nat, List.drop_zero, Nat.sub_zero, List.take_eq_take_iff]
  omega
theorem cutV_DT (xs : List V) (k m : Nat) (h : k ≤ m) (hm : m ≤ xs.length) : cutV xs (some (k : Int)) (some (m : Int)) = (xs.drop k).take (m - k) := by
  unfold cutV
  rw [HT.sIx_nat, HT.sIx_nat, Nat.min_eq_left hm, Nat.min_eq_left (by omega)]

/-! ### numbers -/
def numS (i : Int) : Str := Str.ofString (toString i)
def numC (i : Int) : List Nat := if i < 0 then 45 :: numL i.natAbs else numL i.natAbs
theorem tl_numS (i : Int) : tl (numS i) = numC i := by
  unfold numS numC
  by_cases h : i < 0
  · rw [if_pos h]
    obtain ⟨n, rfl⟩ : ∃ n : Nat, i = Int.negSucc n := ⟨(-i - 1).toNat, by omega⟩
    have e : toString (Int.negSucc n) = "-" ++ toString ((n + 1 : Nat) : Int) := rfl
    rw [e, tl_ofString, String.toList_append, List.map_append, ← tl_ofString, ← tl_ofString, tl_num]
    have e2 : tl (Str.ofString "-") = [45] := by decide +kernel
    rw [e2]
    rfl
  · rw [if_neg h]
    obtain ⟨n, rfl⟩ : ∃ n : Nat, i = (n : Int) := ⟨i.toNat, by omega⟩
    exact tl_num n
theorem numC_free {i : Int} {s : Nat} (h : s < 45 ∨ 57 < s) : s ∉ numC i := by
  unfold numC
  have q := numL_free (n := i.natAbs) (s := s) (by omega)
  by_cases hi : i < 0
  · rw [if_pos hi]
    intro m
    rcases List.mem_cons.mp m with e | e
    · omega
    · exact q e
  · rw [if_neg hi]
    exact q
theorem numC_len {i : Int} (h : i.natAbs < 10 ^ 60) : (numC i).length ≤ 61 := by
  have q := numL_len (n := i.natAbs) (k := 60) (by decide) h
  unfold numC
  by_cases hi : i < 0
  · rw [if_pos hi, List.length_cons]
    omega
  · rw [if_neg hi]
    omega
theorem numS_len {i : Int} (h : i.natAbs < 10 ^ 60) : (numS i).length ≤ 61 := by
  rw [len_tl, tl_numS]
  exact numC_len h
theorem int_numS {i : Int} (h : i.natAbs < 10 ^ 60) : intText? (numS i) = some i := by
  have hl := numS_len h
  have et : (numS i).cps.toList = numC i := tl_numS i
  by_cases hi : i < 0
  · have e : numC i = 45 :: numL i.natAbs := if_pos hi
    rw [intText_neg (x := numS i) (cs := numL i.natAbs) (et.trans e) (numL_digits _) (numL_ne _) (by omega), numL_val]
    congr 1
    omega
  · have e : numC i = numL i.natAbs := if_neg hi
    rw [intText_digits (x := numS i) (by rw [et, e]; exact numL_digits _) (by rw [et, e]; exact numL_ne _) (by omega), et, e, numL_val]
    congr 1
    omega
/-- the first digit of a number above 9 .. -/
theorem numL_head : ∀ n : Nat, 0 < n → ∃ c l, numL n = c :: l ∧ c ≠ 48 := by
  intro n
  induction n using Nat.strongRecOn with
  | _ n ih =>
    intro h
    by_cases h10 : n < 10
    · exact ⟨48 + n, [], numL_lt h10, by omega⟩
    · obtain ⟨c, l, e, hc⟩ := ih (n / 10) (by omega) (by omega)
      exact ⟨c, l ++ [48 + n % 10], by rw [numL_step (by omega), e]; rfl, hc⟩
theorem numL_dig (n : Nat) : (numL n).all isDig = true := by
  rw [List.all_eq_true]
  intro c hc
  have h : 48 ≤ c ∧ c ≤ 57 := by
    rcases Nat.lt_or_ge c 48 with h | h
    · exact absurd hc (numL_free (.inl h))
    · rcases Nat.lt_or_ge 57 c with h2 | h2
      · exact absurd hc (numL_free (.inr h2))
      · exact ⟨h, h2⟩
  have hall : ∀ c : Nat, c < 58 → 48 ≤ c → isDig c = true := by decide +kernel
  exact hall c (by omega) h.1
theorem log2_small {i : Int} (h : i.natAbs < 10 ^ 60) : i.natAbs.log2 < 1920 :=
  Nat.lt_of_lt_of_le (PySem.Flt.log2_lt_of (k := 200) (by decide) (Nat.lt_of_lt_of_le h (by decide +kernel))) (by decide)

/-! ### data on the heap -/
section
variable {K : PySem.W.Frag} {H H' : Hp}
mutual
theorem Dp.same' (e : Same H H') : ∀ (d : PyData) (v : V), Dp K H v d → Dp K H' v d
  | .none, _, h => by cases h; exact .non
  | .bool b, _, h => by cases h; exact .bl b
  | .int i, _, h => by cases h; exact .int i
  | .str x, _, h => by cases h; exact .str x
  | .list ds, _, h => by
    cases h with
    | lst hs ha => exact .lst (e.seq hs) (DpAll.same' e ds _ ha)
  | .tuple ds, _, h => by
    cases h with
    | tup hs ha => exact .tup (same_tup e hs) (DpAll.same' e ds _ ha)
  | .dict _, _, h => by cases h
theorem DpAll.same' (e : Same H H') : ∀ (ds : List PyData) (vs : List V), DpAll K H vs ds → DpAll K H' vs ds
  | [], _, h => by cases h; exact .nil
  | d :: ds, _, h => by
    cases h with
    | cons h1 h2 => exact .cons (Dp.same' e d _ h1) (DpAll.same' e ds _ h2)
end
theorem dp_same {v : V} {d : PyData} (h : Dp K H v d) (e : Same H H') : Dp K H' v d := Dp.same' e d v h
theorem dpAll_same {vs : List V} {ds : List PyData} (h : DpAll K H vs ds) (e : Same H H') : DpAll K H' vs ds := DpAll.same' e ds vs h
mutual
def noL : PyData → Bool
  | .list _ => false
  | .dict _ => false
  | .tuple ds => noLs ds
  | _ => true
def noLs : List PyData → Bool
  | [] => true
  | d :: ds => noL d && noLs ds
end
theorem tup_kp {s a : Addr} {xs zs : List V} (e : Kp s H H') (hs : H s = some (.lst zs)) (h : SqT K H a xs) : SqT K H' a xs := by
  rcases h with (h | ⟨u, h⟩) | h
  · exact .inl (.inl (e _ _ (ne_of h hs (fun z => nomatch z)) h))
  · exact .inl (.inr ⟨u, e _ _ (ne_of h hs (fun z => nomatch z)) h⟩)
  · exact .inr h
mutual
theorem Dp.kp' {s : Addr} {zs : List V} (e : Kp s H H') (hs : H s = some (.lst zs)) : ∀ (d : PyData) (v : V), noL d = true → Dp K H v d → Dp K H' v d
  | .none, _, _, h => by cases h; exact .non
  | .bool b, _, _, h => by cases h; exact .bl b
  | .int i, _, _, h => by cases h; exact .int i
  | .str x, _, _, h => by cases h; exact .str x
  | .list ds, _, n, h => by cases n
  | .tuple ds, _, n, h => by
    cases h with
    | tup ht ha => exact .tup (tup_kp e hs ht) (DpAll.kp' e hs ds _ n ha)
  | .dict _, _, n, h => by cases n
theorem DpAll.kp' {s : Addr} {zs : List V} (e : Kp s H H') (hs : H s = some (.lst zs)) : ∀ (ds : List PyData) (vs : List V), noLs ds = true → DpAll K H vs ds → DpAll K H' vs ds
  | [], _, _, h => by cases h; exact .nil
  | d :: ds, _, n, h => by
    have n2 : (noL d && noLs ds) = true := n
    cases h with
    | cons h1 h2 => exact .cons (Dp.kp' e hs d _ (Bool.and_eq_true_iff.mp n2).1 h1) (DpAll.kp' e hs ds _ (Bool.and_eq_true_iff.mp n2).2 h2)
end
theorem dp_tup {v : V} {ds : List PyData} (h : Dp K H v (.tuple ds)) : ∃ a xs, v = .ref a ∧ SqT K H a xs ∧ DpAll K H xs ds := by
  cases h with
  | tup h1 h2 => exact ⟨_, _, rfl, h1, h2⟩
theorem dp_str {v : V} {z : Str} (h : Dp K H v (.str z)) : v = .str z := by cases h; rfl
theorem dp_int {v : V} {i : Int} (h : Dp K H v (.int i)) : v = .int i := by cases h; rfl
theorem dpAll_nil {xs : List V} (h : DpAll K H xs []) : xs = [] := by cases h; rfl
theorem dpAll_cons {xs : List V} {d : PyData} {ds : List PyData} (h : DpAll K H xs (d :: ds)) : ∃ v vs, xs = v :: vs ∧ Dp K H v d ∧ DpAll K H vs ds := by
  cases h with
  | cons h1 h2 => exact ⟨_, _, rfl, h1, h2⟩
theorem dpAll_len : ∀ {xs : List V} {ds : List PyData}, DpAll K H xs ds → xs.length = ds.length
  | _, _, .nil => rfl
  | _, _, .cons _ h => by rw [List.length_cons, List.length_cons, dpAll_len h]
theorem dpAll_get : ∀ {xs : List V} {ds : List PyData} {i : Nat} {v : V}, DpAll K H xs ds → xs[i]? = some v → ∃ d, ds[i]? = some d ∧ Dp K H v d
  | _, _, i, v, .nil, e => by simp at e
  | _, _, 0, v, .cons h _, e => by simp at e; subst e; exact ⟨_, rfl, h⟩
  | _, _, i + 1, v, .cons _ h, e => by
    obtain ⟨d, e1, e2⟩ := dpAll_get (i := i) (v := v) h (by simpa using e)
    exact ⟨d, by simpa using e1, e2⟩
theorem dpAll_strs : ∀ {xs : List V} {zs : List Str}, DpAll K H xs (zs.map PyData.str) → xs = zs.map V.str
  | _, [], h => dpAll_nil h
  | _, z :: zs, h => by
    obtain ⟨v, vs, rfl, h1, h2⟩ := dpAll_cons h
    rw [dp_str h1, dpAll_strs h2]
    rfl
theorem strs_dpAll : ∀ (zs : List Str), DpAll K H (zs.map V.str) (zs.map PyData.str)
  | [] => .nil
  | z :: zs => .cons (.str z) (strs_dpAll zs)
theorem dpAll_append : ∀ {xs ys : List V} {ds es : List PyData}, DpAll K H xs ds → DpAll K H ys es → DpAll K H (xs ++ ys) (ds ++ es)
  | _, _, _, _, .nil, h => h
  | _, _, _, _, .cons h1 h2, h => .cons h1 (dpAll_append h2 h)
end
end My


/-! Comps: comprehensions whose elements are new objects; joins; membership. -/
namespace My
open PySem PySem.Spec PyProof.Rows L2 TL
theorem lc_rel {J : It} {n : Nat} {G : Hp → Prop} {Y : Nat → Hp → V → Hp → Prop} (w : Walk J n G Y) {g : TG} {te : TE} {vs : List Nat} {σ : L2.St} {H1 : Hp} {D : Addr} {Qd : Hp → Prop} (R : Nat → V → Hp → Prop)
    (hR : ∀ i y H H', (∀ b o, b ≠ D → H b = some o → H' b = some o) → R i y H → R i y H')
    (hn : n ≤ 1000000) (hD : H1 D = none) (hY : ∀ i H x H', Y i H x H' → Same H H') (hG : ∀ H, Same H1 H → G H)
    (he : ∀ i x H H' (Q : VK), i < n → Same H1 H → (∃ l, H D = some (.lst l)) → Y i H x H' → (∀ y H2, Same H' H2 → R i y H2 → Q y H2) → g x (wipe σ vs) H' fun σ2 H2 => wipe σ2 vs = wipe σ vs ∧ te σ2 H2 Q)
    (hQ : ∀ acc H2, Same H1 H2 → H2 D = some (.lst acc) → acc.length = n → (∀ i y, acc[i]? = some y → R i y H2) → Qd H2) :
    ∃ W : Nat → Nat → Hp → Prop, (∃ m, W 0 m (upd H1 D (.lst []))) ∧ ∀ i m H, W i m H →
      (J.stop i H ∧ Qd H) ∨ (J.go i H ∧ ∃ Nx : Hp → Prop, (∀ H', Nx H' → ∃ m', m' < m ∧ W (i + 1) m' H') ∧ ∀ x H', J.yld i H x H' → g x (wipe σ vs) H' fun σ2 H2 => wipe σ2 vs = wipe σ vs ∧ tYes σ2 H2 fun b H3 =>
        if b = true then te σ2 H3 fun y H4 => ∃ acc, H4 D = some (.lst acc) ∧ acc.length < sizeLine ∧ Nx (upd H4 D (.lst (acc ++ [y]))) else Nx H3) := by
  refine lc_it w (fun i H => Same H1 H ∧ ∃ acc, H D = some (.lst acc) ∧ acc.length = i ∧ ∀ j y, acc[j]? = some y → R j y H) ⟨same_new hD, [], upd_same, rfl, fun j y e => by simp at e⟩ (fun i H _ p => hG H p.1) ?_ (fun H p => ?_)
  · rintro i x H H' hi ⟨p1, acc, p2, p3, p4⟩ y
    have s1 := hY i H x H' y
    refine he i x H H' _ hi p1 ⟨acc, p2⟩ y ?_
    intro z H2 s2 r
    refine ⟨acc, s2 _ _ (s1 _ _ p2), ?_, ?_, acc ++ [z], upd_same, ?_, ?_⟩
    · rw [p3]
      exact Nat.lt_of_lt_of_le (by omega : i < 1000000) (by decide)
    · intro b o e
      rw [upd_ne (ne_of_none e hD)]
      exact s2 _ _ (s1 _ _ (p1 _ _ e))
    · rw [List.length_append, List.length_singleton, p3]
    · have up : ∀ b o, b ≠ D → H2 b = some o → upd H2 D (.lst (acc ++ [z])) b = some o := fun b o nb e => by rw [upd_ne nb]; exact e
      intro j u e
      by_cases hj : j < acc.length
      · rw [List.getElem?_append_left hj] at e
        refine hR j u H2 _ up (hR j u H H2 (fun b o _ e => s2 _ _ (s1 _ _ e)) (p4 j u e))
      · rw [List.getElem?_append_right (by omega)] at e
        have hj0 : j = i := by
          have : j - acc.length < 1 := by
            have := (List.getElem?_eq_some_iff.mp e).1
            simpa using this
          omega
        subst hj0
        rw [p3, Nat.sub_self] at e
        have : z = u := by simpa using e
        subst this
        exact hR _ z H2 _ up r
  · obtain ⟨p1, acc, p2, p3, p4⟩ := p
    exact hQ acc H p1 p2 p3 p4

/-! ### joins by signs -/
theorem tl_joinT (y : Str) (ps : List Str) : tl (Txt.join y ps) = joinL (tl y) (ps.map tl) := by rw [join_eq, tl_join]
theorem joinL_cons {S p : List Nat} {r : List (List Nat)} (h : r ≠ []) : joinL S (p :: r) = p ++ (S ++ joinL S r) := by
  cases r with
  | nil => exact absurd rfl h
  | cons q r => rfl
theorem joinL_snoc {S p : List Nat} : ∀ {r : List (List Nat)}, r ≠ [] → joinL S (r ++ [p]) = joinL S r ++ (S ++ p)
  | [], h => absurd rfl h
  | [q], _ => rfl
  | q :: q2 :: r, _ => by
    rw [List.cons_append, joinL_cons (by simp), joinL_snoc (r := q2 :: r) (by simp), joinL_cons (r := q2 :: r) (by simp)]
    simp only [List.append_assoc]
theorem joinL_append {S : List Nat} : ∀ {r q : List (List Nat)}, r ≠ [] → q ≠ [] → joinL S (r ++ q) = joinL S r ++ (S ++ joinL S q)
  | [], _, h, _ => absurd rfl h
  | [p], q, _, h => by rw [List.singleton_append, joinL_cons h]; rfl
  | p :: p2 :: r, q, _, h => by
    rw [List.cons_append, joinL_cons (by simp), joinL_append (r := p2 :: r) (by simp) h, joinL_cons (r := p2 :: r) (by simp)]
    simp only [List.append_assoc]
theorem joinL_len (S : List Nat) : ∀ (r : List (List Nat)) (m : Nat), (∀ p ∈ r, p.length ≤ m) → (joinL S r).length ≤ r.length * (m + S.length)
  | [], _, _ => by simp [joinL]
  | [p], m, h => by
    have := h p List.mem_cons_self
    show p.length ≤ _
    simp
    omega
  | p :: q :: r, m, h => by
    have h1 := h p List.mem_cons_self
    have h2 := joinL_len S (q :: r) m fun z hz => h z (List.mem_cons_of_mem _ hz)
    rw [joinL_cons (by simp), List.length_append, List.length_append, List.length_cons (as := q :: r), Nat.succ_mul]
    omega
theorem sum_le {l : List Nat} {m : Nat} (h : ∀ x ∈ l, x ≤ m) : l.sum ≤ l.length * m := by
  induction l with
  | nil => simp
  | cons a l ih =>
    have h1 := h a List.mem_cons_self
    have h2 := ih fun x hx => h x (List.mem_cons_of_mem _ hx)
    rw [List.sum_cons, List.length_cons, Nat.succ_mul]
    omega
/-- what join asks of the sizes -/
theorem join_room {ys : List Str} {y : Str} {n m : Nat} (hn : ys.length ≤ n) (hm : ∀ z ∈ ys, z.length ≤ m) (h : n * m + n * y.length ≤ 16777216) : (ys.map (·.length)).sum + ys.length * y.length ≤ 16777216 := by
  have h1 : (ys.map (·.length)).sum ≤ ys.length * m := by
    have := sum_le (l := ys.map (·.length)) (m := m) (fun x hx => by
      obtain ⟨z, hz, rfl⟩ := List.mem_map.mp hx
      exact hm z hz)
    rwa [List.length_map] at this
  have h2 : ys.length * m ≤ n * m := Nat.mul_le_mul_right _ hn
  have h3 : ys.length * y.length ≤ n * y.length := Nat.mul_le_mul_right _ hn
  omega

/-! ### in -/
theorem inV_strs (z : Str) (zs : List Str) : inV (.str z) (zs.map V.str) = decide (z ∈ zs) := by
  unfold inV
  rw [List.any_map]
  by_cases h : z ∈ zs
  · rw [decide_eq_true h, List.any_eq_true]
    exact ⟨z, h, by show (z == z) = true; simp⟩
  · rw [decide_eq_false h, List.any_eq_false]
    intro y hy
    show ¬ (y == z) = true
    intro e
    exact h (by rw [← eq_of_beq e]; exact hy)
theorem flat_strs (zs : List Str) : (zs.map V.str).all flatV = true := by
  rw [List.all_map, List.all_eq_true]
  intro _ _
  rfl
theorem flat_ints (zs : List Int) : (zs.map V.int).all flatV = true := by
  rw [List.all_map, List.all_eq_true]
  intro _ _
  rfl
theorem inV_non (zs : List Int) : inV .non (zs.map V.int) = false := by
  unfold inV
  rw [List.any_map, List.any_eq_false]
  intro y _ h
  cases h
theorem atI_pos {α : Type} {xs : List α} (j : Nat) {v : α} (h : xs[j]? = some v) : atI xs (j : Int) = some v := atI_nat h
theorem map_range_get {α β : Type} (xs : List α) (f : α → β) (g : Nat → β) (h : ∀ i x, xs[i]? = some x → g i = f x) : (List.range xs.length).map g = xs.map f := by
  apply List.ext_getElem
  · simp
  · intro i h1 h2
    simp only [List.getElem_map, List.getElem_range]
    have hi : i < xs.length := by simpa using h1
    exact h i xs[i] (by simp [hi])
end My


/-! Inst: fields, methods, properties of instances, locked or not. -/
namespace My
open PySem PySem.Spec PyProof.Rows L2
theorem ins_rd {P : Program} {w : World} {H : Hp} {h : Heap} {a C dx : Addr} {fs : List (Str × V)} (ok : HOk P w H h) (e : Rd H a (.ins C dx fs)) :
    ∃ mA, ObjM h a dx C mA ∧ ∀ f, RelO (fs.lookup f) (mA f) := by
  obtain ⟨_, _, ne, ob, mA, ns, rl, _⟩ := (show ObjOk P w H h a (.ins C dx fs) from e.ok ok)
  exact ⟨mA, ⟨ob, ns, ne⟩, rl⟩
section
variable {X : Cx} {k : Nat} {f C p g : Addr} {fd : FuncData} {ps : List Str} {sp : Sp} {o e : Expr} {es : List Expr} {to : TE} {t : TA} {m x : Str} {pos apos : Pos}
/-- e.f -/
def tFldR (K : PySem.W.Frag) (te : TE) (x : Str) : TE := fun σ H Q => te σ H fun y H1 => ∃ a C dx fs v, y = .ref a ∧ Rd H1 a (.ins C dx fs) ∧ Cls K C ∧ NoAttr K C x ∧ fs.lookup x = some v ∧ Q v H1
theorem pe_fldR (ho : PE X o to) (hab : attributeBase o x X.env (eval o X.env) = eval o X.env := by rfl) : PE X (.Attribute o x pos) (tFldR X.K to x) := by
  refine ⟨fun pins s σ H Q I h => ?_⟩
  refine attr_of hab (thn (ho.run pins s σ H _ I h) fun u s1 hh => ?_)
  obtain ⟨y, H1, I1, ry, a, C, dx, fs, v, rfl, ha, hc, hn, hl, q⟩ := hh
  cases ry
  obtain ⟨mA, O, rl⟩ := ins_rd I1.hok ha
  obtain ⟨u, hu, ru⟩ := RelO.some_of (v := v) (o := mA x) (by rw [← hl]; exact rl x)
  exact get_map I1.kIn O (hc.get x) hc.hd hn hu (handed_of ru) ⟨v, H1, I1.tok _, ru, q⟩
/-- o.m(..) -/
def tMethR (C : Addr) (m : Str) (sp : Sp) (te : TE) (t : TA) : TE := fun σ H Q => te σ H fun y H1 => ∃ a dx fs, y = .ref a ∧ Rd H1 a (.ins C dx fs) ∧ fs.lookup m = none ∧ t σ H1 fun vs H2 => sp (y :: vs) H2 Q E0
theorem meth_rd {pins : List (Addr × Obj)} {σ : L2.St} {H : Hp} {s : Shared} {a dx : Addr} {fs : List (Str × V)} {pl : Sem Bool} {Q : Value × List Value → Shared → Prop} {A : Around} {E : Value → Shared → Prop} (I : Inv X pins σ H s) (ha : Rd H a (.ins C dx fs)) (c : Cls X.K C) (hm : Meth X.K C m f)
    (hl : fs.lookup m = none) (h : Q (.ref f, [.ref a]) s) : wpAny (model X.prog X.w) A (getMethod (.ref a) m pl) Q E s := by
  obtain ⟨mA, O, rl⟩ := ins_rd I.hok ha
  exact get_meth I.kIn O (c.get m) hm.at_ hm.fn (RelO.none_of (by rw [← hl]; exact rl m)) h
theorem pe_methR {pl : Sem Bool} (ho : PE X o to) (c : Cls X.K C) (hm : Meth X.K C m f) (F : FnOk X.prog X.w X.K X.mg X.base CX0 k f fd ps sp) (hr : Room k X.A) (hb : Binds X.K fd ps []) (ha : PA X (e :: es) t)
    (hst : starEach (e :: es) X.env = (false, eval e X.env) :: starEach es X.env := by rfl) (hpl : (backTo pos (starEach es X.env)).any (·.1) = false := by rfl)
    (ht : eval (.Call (.Attribute o m apos) (e :: es) [] pos) X.env = (eval o X.env >>= fun ov => standAt apos.atName >>= fun _ => holding [ov] (getMethod ov m pl) >>= fun fp => callWith pos fp.1 fp.2 (backTo pos (starEach (e :: es) X.env)) (backToKw pos (keywordEach [] X.env))) := by rfl) :
    PE X (.Call (.Attribute o m apos) (e :: es) [] pos) (tMethR C m sp to t) := by
  refine ⟨fun pins s σ H Q I h => ?_⟩
  refine PySem.W.methodCall_KW (pl := pl) (thn (ho.run pins s σ H _ I h) fun u s1 hh => ?_) ht
  obtain ⟨y, H1, I1, ry, a, dx, fs, rfl, hi, hl, q⟩ := hh
  cases ry
  refine meth_rd I1 hi c hm hl ?_
  refine PySem.W.callWith_K (first := [.ref a]) (h₀ := X.base) I.ok.mod.kin hm.kp (thn (ha.run pos pins s1 σ H1 _ I1 q) fun us s2 hv => ?_) hst hpl
  obtain ⟨vs, H2, I2, rv, q2⟩ := hv
  refine ⟨I2.kIn, run_fn (us := .ref a :: us) (vs := .ref a :: vs) F hr hb .nil pass0 I2 (.cons rfl rv) ?_⟩
  rw [List.append_nil]
  exact q2
theorem pe_meth0R {pl : Sem Bool} (ho : PE X o to) (c : Cls X.K C) (hm : Meth X.K C m f) (F : FnOk X.prog X.w X.K X.mg X.base CX0 k f fd ps sp) (hr : Room k X.A) (hb : Binds X.K fd ps [])
    (ht : eval (.Call (.Attribute o m apos) [] [] pos) X.env = (eval o X.env >>= fun ov => standAt apos.atName >>= fun _ => holding [ov] (getMethod ov m pl) >>= fun fp => callWith pos fp.1 fp.2 (backTo pos (starEach [] X.env)) (backToKw pos (keywordEach [] X.env))) := by rfl) :
    PE X (.Call (.Attribute o m apos) [] [] pos) (tMethR C m sp to tNil) := by
  refine ⟨fun pins s σ H Q I h => ?_⟩
  refine PySem.W.methodCall_KW (pl := pl) (thn (ho.run pins s σ H _ I h) fun u s1 hh => ?_) ht
  obtain ⟨y, H1, I1, ry, a, dx, fs, rfl, hi, hl, q⟩ := hh
  cases ry
  refine meth_rd I1 hi c hm hl ?_
  exact PySem.W.callWith_K0 (first := [.ref a]) I1.kIn hm.kp (run_fn (us := [.ref a]) (vs := [.ref a]) F hr hb .nil pass0 I1 (.cons rfl .nil) q)
/-- e.f, a property -/
def tPropR (C : Addr) (sp : Sp) (te : TE) : TE := fun σ H Q => te σ H fun y H1 => ∃ a dx fs, y = .ref a ∧ Rd H1 a (.ins C dx fs) ∧ sp [y] H1 Q E0
theorem pe_propR (ho : PE X o to) (c : Cls X.K C) (hp : PropOf X.K C x p g) (F : FnOk X.prog X.w X.K X.mg X.base CX0 k g fd ps sp) (hr : Room (k + 1) X.A) (hb : Binds X.K fd ps [])
    (hab : attributeBase o x X.env (eval o X.env) = eval o X.env := by rfl) : PE X (.Attribute o x pos) (tPropR C sp to) := by
  refine ⟨fun pins s σ H Q I h => ?_⟩
  refine attr_of hab (thn (ho.run pins s σ H _ I h) fun u s1 hh => ?_)
  obtain ⟨y, H1, I1, ry, a, dx, fs, rfl, hi, q⟩ := hh
  cases ry
  obtain ⟨mA, O, rl⟩ := ins_rd I1.hok hi
  obtain ⟨od, J, _⟩ := O.look
  obtain ⟨rest, hrec⟩ := hp.rec_
  have I2 := I1.tok (s1.toks + 1)
  have hlen : ([Value.ref a] ++ []).length = ps.length := by
    rw [← F.len _ _ _ _ q]
    rfl
  have hcls : (PySem.W.clsIn X.K C).isSome = true := by
    obtain ⟨cd, h1, _⟩ := PySem.W.any_some c.hd
    rw [h1]
    rfl
  have bt := hb { s1 with toks := s1.toks + 1 } [.ref a] I2.kIn hlen
  rw [List.append_nil] at bt
  refine PySem.W.get_bind I1.kIn J (PySem.W.plainGet_of (c.get x)).1 (PySem.W.findObj_data hcls hp.at_ hp.get hp.tak) (PySem.W.plainGet_of (c.get x)).2 (wpAny_call (PySem.W.prop_get (s := { s1 with toks := s1.toks + 1 }) I1.kIn hrec ?_))
  refine codeAny_mono (F.run X.A.in1 X.stack { s1 with toks := s1.toks + 1 } H1 ⟨[.ref a], []⟩ [.ref a] [.ref a] Q E0 hr.in1 I2.env0.in1 bt (.cons rfl .nil) q) fun r s' hq => ?_
  cases r with
  | error er => exact False.elim hq
  | ok fl =>
    cases fl with
    | ret u =>
      obtain ⟨v, H', I3, rv, q3⟩ := I2.after hq
      show wpAny _ _ (handedOut u) _ _ _
      rw [PySem.W.handedOut_of (handed_of rv)]
      exact wpAny_pure ⟨v, H', I3, rv, q3⟩
    | next => exact False.elim hq
    | brk => exact False.elim hq
    | cont => exact False.elim hq
end
end My


/-! Q0: plain values that stand for what the heap holds; what never changes keeps standing for it. -/
namespace My
open PySem PySem.Spec PyProof.Rows L2
/-- a value with all that hangs on it; lists and dicts in it are locked for good -/
inductive D where
  | non | bl (b : Bool) | int (i : Int) | str (z : Str)
  | tup (ds : List D) | lst (ds : List D) | dic (kvs : List (Key × D)) | dit (kvs : List (List Key × D)) | ins (C : Addr) (fs : List (Str × D)) | src
mutual
inductive DR (K : PySem.W.Frag) (s : Addr) (H : Hp) : V → D → Prop
  | non : DR K s H .non .non
  | bl (b : Bool) : DR K s H (.bl b) (.bl b)
  | int (i : Int) : DR K s H (.int i) (.int i)
  | str (z : Str) : DR K s H (.str z) (.str z)
  | tup {a : Addr} {vs : List V} {ds : List D} : H a = some (.tup vs) → DRs K s H vs ds → DR K s H (.ref a) (.tup ds)
  | lst {a : Addr} {o : Obj} {vs : List V} {ds : List D} : H a = some (.frz o (.lst vs)) → DRs K s H vs ds → DR K s H (.ref a) (.lst ds)
  | dic {a : Addr} {o : Obj} {kvs : List (Key × V)} {kds : List (Key × D)} : H a = some (.frz o (.dK kvs)) → DRk K s H kvs kds → DR K s H (.ref a) (.dic kds)
  | dit {a : Addr} {o : Obj} {kvs : List (List Key × V)} {kds : List (List Key × D)} : H a = some (.frz o (.dT kvs)) → DRt K s H kvs kds → DR K s H (.ref a) (.dit kds)
  | ins {a C dx : Addr} {o : Obj} {fs : List (Str × V)} {fds : List (Str × D)} : H a = some (.frz o (.ins C dx fs)) → DRf K s H fs fds → DR K s H (.ref a) (.ins C fds)
  | src : DR K s H (.ref s) .src
inductive DRs (K : PySem.W.Frag) (s : Addr) (H : Hp) : List V → List D → Prop
  | nil : DRs K s H [] []
  | cons {v : V} {vs : List V} {d : D} {ds : List D} : DR K s H v d → DRs K s H vs ds → DRs K s H (v :: vs) (d :: ds)
inductive DRk (K : PySem.W.Frag) (s : Addr) (H : Hp) : List (Key × V) → List (Key × D) → Prop
  | nil : DRk K s H [] []
  | cons {k : Key} {v : V} {vs : List (Key × V)} {d : D} {ds : List (Key × D)} : DR K s H v d → DRk K s H vs ds → DRk K s H ((k, v) :: vs) ((k, d) :: ds)
inductive DRt (K : PySem.W.Frag) (s : Addr) (H : Hp) : List (List Key × V) → List (List Key × D) → Prop
  | nil : DRt K s H [] []
  | cons {k : List Key} {v : V} {vs : List (List Key × V)} {d : D} {ds : List (List Key × D)} : DR K s H v d → DRt K s H vs ds → DRt K s H ((k, v) :: vs) ((k, d) :: ds)
inductive DRf (K : PySem.W.Frag) (s : Addr) (H : Hp) : List (Str × V) → List (Str × D) → Prop
  | nil : DRf K s H [] []
  | cons {k : Str} {v : V} {vs : List (Str × V)} {d : D} {ds : List (Str × D)} : DR K s H v d → DRf K s H vs ds → DRf K s H ((k, v) :: vs) ((k, d) :: ds)
end
/-- what may change: lists, dicts, instances that are not locked -/
def soft : HO → Bool
  | .lst _ => true
  | .dK _ => true
  | .dT _ => true
  | .ins _ _ _ => true
  | _ => false
def Loose (H : Hp) (l : Addr) : Prop := ∃ o, H l = some o ∧ soft o = true
theorem Loose.ne {H : Hp} {l a : Addr} {o : HO} (hl : Loose H l) (h : H a = some o) (hs : soft o = false) : a ≠ l := fun z => by
  subst z
  obtain ⟨u, h1, h2⟩ := hl
  rw [h] at h1
  cases h1
  rw [hs] at h2
  cases h2
/-- what never changes stays -/
def Im (H H' : Hp) : Prop := ∀ b o, soft o = false → H b = some o → H' b = some o
theorem Im.refl (H : Hp) : Im H H := fun _ _ _ h => h
theorem Im.trans {H H1 H2 : Hp} (a : Im H H1) (b : Im H1 H2) : Im H H2 := fun p o h1 h => b p o h1 (a p o h1 h)
theorem Kp.im {l : Addr} {H H' : Hp} (e : Kp l H H') (hl : Loose H l) : Im H H' := fun b o h1 h => e b o (hl.ne h h1) h
theorem Same.im {H H' : Hp} (e : Same H H') : Im H H' := fun b o _ h => e b o h
section
variable {K : PySem.W.Frag} {s c : Addr} {H H' : Hp}
theorem sqT_im {a : Addr} {xs : List V} (e : Im H H') (h : SqT K H a xs) : SqT K H' a xs := by
  rcases h with (h | ⟨o, h⟩) | h
  · exact .inl (.inl (e a _ rfl h))
  · exact .inl (.inr ⟨o, e a _ rfl h⟩)
  · exact .inr h
theorem tup_im {a : Addr} {xs : List V} (e : Im H H') (h : H a = some (.tup xs)) : H' a = some (.tup xs) := e a _ rfl h
theorem frz_im {a : Addr} {o : Obj} {u : HO} (e : Im H H') (h : H a = some (.frz o u)) : H' a = some (.frz o u) := e a _ rfl h
mutual
theorem DR.im (e : Im H H') : ∀ {v : V} {d : D}, DR K s H v d → DR K s H' v d
  | _, _, .non => .non
  | _, _, .bl b => .bl b
  | _, _, .int i => .int i
  | _, _, .str z => .str z
  | _, _, .tup h r => .tup (tup_im e h) (DRs.im e r)
  | _, _, .lst h r => .lst (frz_im e h) (DRs.im e r)
  | _, _, .dic h r => .dic (frz_im e h) (DRk.im e r)
  | _, _, .dit h r => .dit (frz_im e h) (DRt.im e r)
  | _, _, .ins h r => .ins (frz_im e h) (DRf.im e r)
  | _, _, .src => .src
theorem DRs.im (e : Im H H') : ∀ {v : List V} {d : List D}, DRs K s H v d → DRs K s H' v d
  | _, _, .nil => .nil
  | _, _, .cons h r => .cons (DR.im e h) (DRs.im e r)
theorem DRk.im (e : Im H H') : ∀ {v : List (Key × V)} {d : List (Key × D)}, DRk K s H v d → DRk K s H' v d
  | _, _, .nil => .nil
  | _, _, .cons h r => .cons (DR.im e h) (DRk.im e r)
theorem DRt.im (e : Im H H') : ∀ {v : List (List Key × V)} {d : List (List Key × D)}, DRt K s H v d → DRt K s H' v d
  | _, _, .nil => .nil
  | _, _, .cons h r => .cons (DR.im e h) (DRt.im e r)
theorem DRf.im (e : Im H H') : ∀ {v : List (Str × V)} {d : List (Str × D)}, DRf K s H v d → DRf K s H' v d
  | _, _, .nil => .nil
  | _, _, .cons h r => .cons (DR.im e h) (DRf.im e r)
end
theorem DRs.len : ∀ {v : List V} {d : List D}, DRs K s H v d → v.length = d.length
  | _, _, .nil => rfl
  | _, _, .cons _ r => by rw [List.length_cons, List.length_cons, DRs.len r]
theorem DRs.append : ∀ {v w : List V} {d e : List D}, DRs K s H v d → DRs K s H w e → DRs K s H (v ++ w) (d ++ e)
  | _, _, _, _, .nil, h => h
  | _, _, _, _, .cons x r, h => .cons x (DRs.append r h)
theorem DRs.snoc {vs : List V} {v : V} {ds : List D} {d : D} (h : DRs K s H vs ds) (x : DR K s H v d) : DRs K s H (vs ++ [v]) (ds ++ [d]) := h.append (.cons x .nil)
theorem DRs.get : ∀ {vs : List V} {ds : List D}, DRs K s H vs ds → ∀ {i : Nat} {v : V}, vs[i]? = some v → ∃ d, ds[i]? = some d ∧ DR K s H v d
  | _, _, .nil, i, v, h => by simp at h
  | _, _, .cons x r, 0, v, h => by
    cases h
    exact ⟨_, rfl, x⟩
  | _, _, .cons x r, i + 1, v, h => DRs.get r (i := i) h
theorem DRs.get' : ∀ {vs : List V} {ds : List D}, DRs K s H vs ds → ∀ {i : Nat} {d : D}, ds[i]? = some d → ∃ v, vs[i]? = some v ∧ DR K s H v d
  | _, _, .nil, i, v, h => by simp at h
  | _, _, .cons x r, 0, v, h => by
    cases h
    exact ⟨_, rfl, x⟩
  | _, _, .cons x r, i + 1, v, h => DRs.get' r (i := i) h
theorem DRs.drop : ∀ (n : Nat) {vs : List V} {ds : List D}, DRs K s H vs ds → DRs K s H (vs.drop n) (ds.drop n)
  | 0, _, _, h => h
  | n + 1, _, _, .nil => .nil
  | n + 1, _, _, .cons _ r => DRs.drop n r
theorem DRs.take : ∀ (n : Nat) {vs : List V} {ds : List D}, DRs K s H vs ds → DRs K s H (vs.take n) (ds.take n)
  | 0, _, _, h => .nil
  | n + 1, _, _, .nil => .nil
  | n + 1, _, _, .cons x r => .cons x (DRs.take n r)
end
/-! ### data that == and repr know -/
mutual
def toPy : D → Option PyData
  | .non => some .none
  | .bl b => some (.bool b)
  | .int i => some (.int i)
  | .str z => some (.str z)
  | .tup ds => (toPys ds).map .tuple
  | .lst ds => (toPys ds).map .list
  | _ => none
def toPys : List D → Option (List PyData)
  | [] => some []
  | d :: ds => match toPy d, toPys ds with
    | some p, some ps => some (p :: ps)
    | _, _ => none
end
section
variable {K : PySem.W.Frag} {s : Addr} {H : Hp}
mutual
theorem DR.dp : ∀ {v : V} {d : D} {p : PyData}, DR K s H v d → toPy d = some p → Dp K H v p
  | _, _, p, .non, h => by unfold toPy at h; cases h; exact .non
  | _, _, p, .bl b, h => by unfold toPy at h; cases h; exact .bl b
  | _, _, p, .int i, h => by unfold toPy at h; cases h; exact .int i
  | _, _, p, .str z, h => by unfold toPy at h; cases h; exact .str z
  | _, _, p, .tup hs r, h => by
    unfold toPy at h
    obtain ⟨ps, h1, rfl⟩ := Option.map_eq_some_iff.mp h
    exact .tup (.inl (.inl hs)) (DRs.dp r h1)
  | _, _, p, .lst hs r, h => by
    unfold toPy at h
    obtain ⟨ps, h1, rfl⟩ := Option.map_eq_some_iff.mp h
    exact .lst (.inl (.inr ⟨_, hs⟩)) (DRs.dp r h1)
  | _, _, p, .dic hs r, h => by unfold toPy at h; cases h
  | _, _, p, .dit hs r, h => by unfold toPy at h; cases h
  | _, _, p, .ins hs r, h => by unfold toPy at h; cases h
  | _, _, p, .src, h => by unfold toPy at h; cases h
theorem DRs.dp : ∀ {v : List V} {d : List D} {p : List PyData}, DRs K s H v d → toPys d = some p → DpAll K H v p
  | _, _, p, .nil, h => by unfold toPys at h; cases h; exact .nil
  | _, _, p, .cons (d := d) (ds := ds) x r, h => by
    unfold toPys at h
    cases h1 : toPy d with
    | none => rw [h1] at h; cases h
    | some q =>
      cases h2 : toPys ds with
      | none => rw [h1, h2] at h; cases h
      | some qs =>
        rw [h1, h2] at h
        cases h
        exact .cons (DR.dp x h1) (DRs.dp r h2)
end
end
/-! ### an exception: its class, its fields -/
structure Ex where
  C : Addr
  fs : List (Str × D)
def ExR (K : PySem.W.Frag) (s : Addr) (H : Hp) (cls : Value) (d : Option Addr) (x : Ex) : Prop := cls = .ref x.C ∧ ((x.fs = [] ∧ d = none) ∨ ∃ dd us, d = some dd ∧ H dd = some (.xd us) ∧ DRf K s H us x.fs)
theorem ExR.im {K : PySem.W.Frag} {s : Addr} {H H' : Hp} {cls : Value} {d : Option Addr} {x : Ex} (e : Im H H') (h : ExR K s H cls d x) : ExR K s H' cls d x := by
  obtain ⟨h1, h2 | ⟨dd, us, h2, h3, h4⟩⟩ := h
  · exact ⟨h1, .inl h2⟩
  · exact ⟨h1, .inr ⟨dd, us, h2, e _ _ rfl h3, h4.im e⟩⟩
end My


/-! Q1: readings over plain values; what they say is what the readings over the heap ask (expressions). -/
namespace My
open PySem PySem.Spec PyProof.Rows L2
/-- a slot's value: data, or a list or dict of this def that may still change -/
inductive Cell where
  | dat (d : D) | lm (ds : List D) | dm (kvs : List (Key × D)) | tm (kvs : List (List Key × D)) | om (x C : Addr) (fs : List (Str × D)) | un | ex (a : Addr) (cls : Value) (d : Option Addr) (x : Ex) | rl (ds : List D) | rd (kvs : List (Key × D)) | rt (kvs : List (List Key × D))
abbrev Sd := List (Option Cell)
abbrev cI (i : Int) : Cell := .dat (.int i)
abbrev cS (z : Str) : Cell := .dat (.str z)
abbrev cB (b : Bool) : Cell := .dat (.bl b)
abbrev cN : Cell := .dat .non
theorem Kp.via {s l : Addr} {H H1 H2 : Hp} (h : Kp s H H1) (hl : H l = none) (k : Kp l H1 H2) : Kp s H H2 := fun b o nb hb => k b o (fun e => by subst e; rw [hl] at hb; cases hb) (h b o nb hb)
theorem Kp.none {s l : Addr} {H H1 : Hp} (h : Kp s H H1) (n : l ≠ s) (hl : H1 l = none) : H l = none := by
  cases e : H l with
  | none => rfl
  | some o => rw [h _ _ n e] at hl; cases hl
def CellR (K : PySem.W.Frag) (s c : Addr) (H : Hp) (v : V) : Cell → Prop
  | .dat d => DR K s H v d
  | .lm ds => ∃ a vs, v = .ref a ∧ H a = some (.lst vs) ∧ DRs K s H vs ds ∧ a ≠ s ∧ a ≠ c
  | .dm kds => ∃ a kvs, v = .ref a ∧ H a = some (.dK kvs) ∧ DRk K s H kvs kds ∧ a ≠ s ∧ a ≠ c
  | .tm kds => ∃ a kvs, v = .ref a ∧ H a = some (.dT kvs) ∧ DRt K s H kvs kds ∧ a ≠ s ∧ a ≠ c
  | .om x C fds => ∃ dx fs, v = .ref x ∧ H x = some (.ins C dx fs) ∧ DRf K s H fs fds ∧ x ≠ s ∧ x ≠ c
  | .un => True
  | .ex a cls d x => v = .ref a ∧ ExR K s H cls d x
  | .rl ds => ∃ a vs, v = .ref a ∧ H a = some (.lst vs) ∧ DRs K s H vs ds ∧ a ≠ s ∧ a ≠ c
  | .rd kds => ∃ a kvs, v = .ref a ∧ H a = some (.dK kvs) ∧ DRk K s H kvs kds ∧ a ≠ s ∧ a ≠ c
  | .rt kds => ∃ a kvs, v = .ref a ∧ H a = some (.dT kvs) ∧ DRt K s H kvs kds ∧ a ≠ s ∧ a ≠ c
def SlotR (K : PySem.W.Frag) (s c : Addr) (H : Hp) : Option V → Option Cell → Prop
  | none, none => True
  | some v, some x => CellR K s c H v x
  | _, _ => False
def looseC : Option Cell → Bool
  | some (.lm _) => true
  | some (.dm _) => true
  | some (.tm _) => true
  | some (.om _ _ _) => true
  | _ => false
/-- lists and dicts that a caller lent: not changed here -/
def roC : Option Cell → Bool
  | some (.rl _) => true
  | some (.rd _) => true
  | some (.rt _) => true
  | _ => false
/-- an expression has run: all but the source is as it was -/
structure Stp (s c : Addr) (H H' : Hp) : Prop where
  kp : Kp s H H'
  src : Src H' s c
theorem Src.loose {H : Hp} {s c : Addr} (S : Src H s c) : Loose H s := let ⟨xs, h⟩ := S.at; ⟨_, h, rfl⟩
theorem Stp.refl {s c : Addr} {H : Hp} (S : Src H s c) : Stp s c H H := ⟨Kp.refl _ _, S⟩
theorem Stp.trans {s c : Addr} {H H1 H2 : Hp} (a : Stp s c H H1) (b : Stp s c H1 H2) : Stp s c H H2 := ⟨a.kp.trans b.kp, b.src⟩
theorem Stp.same {s c : Addr} {H H' : Hp} (S : Src H s c) (e : Same H H') : Stp s c H H' := ⟨kp_same e, S.same e⟩
theorem Stp.im {s c : Addr} {H H' : Hp} (S : Src H s c) (e : Stp s c H H') : Im H H' := e.kp.im S.loose
section
variable {K : PySem.W.Frag} {s c : Addr} {H H' : Hp}
theorem CellR.stp (S : Src H s c) (e : Stp s c H H') {v : V} {x : Cell} (h : CellR K s c H v x) : CellR K s c H' v x := by
  cases x with
  | dat d => exact DR.im (e.im S) h
  | lm ds =>
    obtain ⟨a, vs, rfl, ha, hd, h1, h2⟩ := h
    exact ⟨a, vs, rfl, e.kp _ _ h1 ha, hd.im (e.im S), h1, h2⟩
  | dm ds =>
    obtain ⟨a, vs, rfl, ha, hd, h1, h2⟩ := h
    exact ⟨a, vs, rfl, e.kp _ _ h1 ha, hd.im (e.im S), h1, h2⟩
  | tm ds =>
    obtain ⟨a, vs, rfl, ha, hd, h1, h2⟩ := h
    exact ⟨a, vs, rfl, e.kp _ _ h1 ha, hd.im (e.im S), h1, h2⟩
  | om x C ds =>
    obtain ⟨dx, vs, rfl, ha, hd, h1, h2⟩ := h
    exact ⟨dx, vs, rfl, e.kp _ _ h1 ha, hd.im (e.im S), h1, h2⟩
  | un => trivial
  | ex a cls d x => exact ⟨h.1, h.2.im (e.im S)⟩
  | rl ds =>
    obtain ⟨a, vs, rfl, ha, hd, h1, h2⟩ := h
    exact ⟨a, vs, rfl, e.kp _ _ h1 ha, hd.im (e.im S), h1, h2⟩
  | rd ds =>
    obtain ⟨a, vs, rfl, ha, hd, h1, h2⟩ := h
    exact ⟨a, vs, rfl, e.kp _ _ h1 ha, hd.im (e.im S), h1, h2⟩
  | rt ds =>
    obtain ⟨a, vs, rfl, ha, hd, h1, h2⟩ := h
    exact ⟨a, vs, rfl, e.kp _ _ h1 ha, hd.im (e.im S), h1, h2⟩
end
/-- the def's slots σ over the heap H stand for σd; H0: the heap at the def's entry -/
structure Rel (K : PySem.W.Frag) (s c : Addr) (H0 : Hp) (σ : L2.St) (H : Hp) (σd : Sd) : Prop where
  src : Src H s c
  kp0 : Kp s H0 H
  len : σ.length = σd.length
  slot : ∀ (i : Nat) (v : Option V), σ[i]? = some v → ∃ x, σd[i]? = some x ∧ SlotR K s c H v x
  new : ∀ (i : Nat) (a : Addr), σ[i]? = some (some (.ref a)) → looseC ((σd[i]?).join) = true → H0 a = none
  apart : ∀ (i j : Nat) (a : Addr), i ≠ j → looseC ((σd[i]?).join) = true → looseC ((σd[j]?).join) = true → σ[i]? = some (some (.ref a)) → σ[j]? = some (some (.ref a)) → False
  old : ∀ (i : Nat) (a : Addr), σ[i]? = some (some (.ref a)) → roC ((σd[i]?).join) = true → H0 a ≠ none
section
variable {K : PySem.W.Frag} {s c : Addr} {H0 H H' : Hp} {σ : L2.St} {σd : Sd}
theorem SlotR.stp (S : Src H s c) (e : Stp s c H H') {v : Option V} {x : Option Cell} (h : SlotR K s c H v x) : SlotR K s c H' v x := by
  cases v with
  | none => cases x with
    | none => exact h
    | some x => exact h
  | some v => cases x with
    | none => exact h
    | some x => exact CellR.stp S e h
theorem Rel.stp (R : Rel K s c H0 σ H σd) (e : Stp s c H H') : Rel K s c H0 σ H' σd :=
  ⟨e.src, R.kp0.trans e.kp, R.len, fun i v h => let ⟨x, h1, h2⟩ := R.slot i v h; ⟨x, h1, h2.stp R.src e⟩, R.new, R.apart, R.old⟩
theorem Rel.at (R : Rel K s c H0 σ H σd) {i : Nat} {x : Cell} (h : σd[i]? = some (some x)) : ∃ v, σ[i]? = some (some v) ∧ CellR K s c H v x := by
  have hi : i < σ.length := by
    rw [R.len]
    exact (List.getElem?_eq_some_iff.mp h).1
  obtain ⟨y, h1, h2⟩ := R.slot i _ (List.getElem?_eq_getElem hi)
  rw [h] at h1
  cases h1
  cases hv : σ[i] with
  | none => rw [hv] at h2; exact h2.elim
  | some v =>
    rw [hv] at h2
    exact ⟨v, by rw [List.getElem?_eq_getElem hi, hv], h2⟩
end
end My


/-! Q2: the rules for expressions. -/
namespace My
open PySem PySem.Spec PyProof.Rows L2
abbrev PEx := Sd → (Cell → Prop) → Prop
abbrev PNx := Sd → (List D → Prop) → Prop
abbrev PTx := Sd → (Bool → Prop) → Prop
abbrev PAx := Sd → (List Cell → Prop) → Prop
inductive CellsR (K : PySem.W.Frag) (s c : Addr) (H : Hp) : List V → List Cell → Prop
  | nil : CellsR K s c H [] []
  | cons {v : V} {vs : List V} {x : Cell} {xs : List Cell} : CellR K s c H v x → CellsR K s c H vs xs → CellsR K s c H (v :: vs) (x :: xs)
def LE (K : PySem.W.Frag) (s c : Addr) (H0 : Hp) (t : TE) (p : PEx) : Prop := ∀ (σ : L2.St) (σd : Sd) (H : Hp) (Q : VK) (P : Cell → Prop), Rel K s c H0 σ H σd → p σd P →
  (∀ x v H', P x → CellR K s c H' v x → Stp s c H H' → Q v H') → t σ H Q
def LA (K : PySem.W.Frag) (s c : Addr) (H0 : Hp) (t : TA) (p : PAx) : Prop := ∀ (σ : L2.St) (σd : Sd) (H : Hp) (Q : List V → Hp → Prop) (P : List Cell → Prop), Rel K s c H0 σ H σd → p σd P →
  (∀ xs vs H', P xs → CellsR K s c H' vs xs → Stp s c H H' → Q vs H') → t σ H Q
def LT (K : PySem.W.Frag) (s c : Addr) (H0 : Hp) (t : TT) (p : PTx) : Prop := ∀ (σ : L2.St) (σd : Sd) (H : Hp) (Q : Bool → Hp → Prop) (P : Bool → Prop), Rel K s c H0 σ H σd → p σd P →
  (∀ b H', P b → Stp s c H H' → Q b H') → t σ H Q
/-- a new list comes -/
def LN (K : PySem.W.Frag) (s c : Addr) (H0 : Hp) (t : TE) (p : PNx) : Prop := ∀ (σ : L2.St) (σd : Sd) (H : Hp) (Q : VK) (P : List D → Prop), Rel K s c H0 σ H σd → p σd P →
  (∀ ds a vs H', P ds → H' a = some (.lst vs) → H a = none → DRs K s H' vs ds → Stp s c H H' → Q (.ref a) H') → t σ H Q
/-! ### values at hand -/
def flatC : Cell → Option V
  | .dat .non => some .non
  | .dat (.bl b) => some (.bl b)
  | .dat (.int i) => some (.int i)
  | .dat (.str z) => some (.str z)
  | _ => none
/-- the items of a list -/
def seqL : Cell → Option (List D)
  | .dat (.lst ds) => some ds
  | .lm ds => some ds
  | .rl ds => some ds
  | _ => none
/-- of a list or a tuple -/
def seqC : Cell → Option (List D)
  | .dat (.lst ds) => some ds
  | .dat (.tup ds) => some ds
  | .lm ds => some ds
  | .rl ds => some ds
  | _ => none
def datC : Cell → Option D
  | .dat d => some d
  | _ => none
def datsC : List Cell → Option (List D)
  | [] => some []
  | x :: xs => match datC x, datsC xs with
    | some d, some ds => some (d :: ds)
    | _, _ => none
def toPyC : Cell → Option PyData
  | .dat d => toPy d
  | .lm ds => (toPys ds).map .list
  | .rl ds => (toPys ds).map .list
  | _ => none
section
variable {K : PySem.W.Frag} {s c : Addr} {H H' : Hp}
theorem CellsR.stp (S : Src H s c) (e : Stp s c H H') : ∀ {vs : List V} {xs : List Cell}, CellsR K s c H vs xs → CellsR K s c H' vs xs
  | _, _, .nil => .nil
  | _, _, .cons h r => .cons (h.stp S e) (CellsR.stp S e r)
theorem flat_eq {v w : V} {x : Cell} (h : CellR K s c H v x) (e : flatC x = some w) : v = w := by
  cases x with
  | dat d =>
    cases d <;> first
      | (cases e; cases h; rfl)
      | cases e
  | lm ds => cases e
  | dm ds => cases e
  | tm ds => cases e
  | om x C ds => cases e
  | un => cases e
  | ex a cls d x => cases e
  | rl ds => cases e
  | rd ds => cases e
  | rt ds => cases e
theorem int_eq {v : V} {i : Int} (h : CellR K s c H v (cI i)) : v = .int i := flat_eq h rfl
theorem str_eq {v : V} {i : Str} (h : CellR K s c H v (cS i)) : v = .str i := flat_eq h rfl
theorem bl_eq {v : V} {i : Bool} (h : CellR K s c H v (cB i)) : v = .bl i := flat_eq h rfl
theorem seqL_at {v : V} {x : Cell} {ds : List D} (h : CellR K s c H v x) (e : seqL x = some ds) : ∃ a vs, v = .ref a ∧ SqL K H a vs ∧ DRs K s H vs ds := by
  cases x with
  | dat d =>
    cases d <;> first
      | (cases e; cases h with | lst h r => exact ⟨_, _, rfl, .inl (.inr ⟨_, h⟩), r⟩)
      | cases e
  | lm ds =>
    cases e
    obtain ⟨a, vs, rfl, ha, hd, _⟩ := h
    exact ⟨a, vs, rfl, .inl (.inl ha), hd⟩
  | dm ds => cases e
  | tm ds => cases e
  | om x C ds => cases e
  | un => cases e
  | ex a cls d x => cases e
  | rl ds =>
    cases e
    obtain ⟨a, vs, rfl, ha, hd, _⟩ := h
    exact ⟨a, vs, rfl, .inl (.inl ha), hd⟩
  | rd ds => cases e
  | rt ds => cases e
theorem tup_at {v : V} {ds : List D} (h : CellR K s c H v (.dat (.tup ds))) : ∃ a vs, v = .ref a ∧ H a = some (.tup vs) ∧ DRs K s H vs ds := by
  cases h with
  | tup h r => exact ⟨_, _, rfl, h, r⟩
theorem seqC_at {v : V} {x : Cell} {ds : List D} (h : CellR K s c H v x) (e : seqC x = some ds) : ∃ a vs, v = .ref a ∧ (SqL K H a vs ∨ SqT K H a vs) ∧ DRs K s H vs ds := by
  cases x with
  | dat d =>
    cases d <;> first
      | (cases e; cases h with | lst h r => exact ⟨_, _, rfl, .inl (.inl (.inr ⟨_, h⟩)), r⟩)
      | (cases e; cases h with | tup h r => exact ⟨_, _, rfl, .inr (.inl (.inl h)), r⟩)
      | cases e
  | lm ds =>
    cases e
    obtain ⟨a, vs, rfl, ha, hd, _⟩ := h
    exact ⟨a, vs, rfl, .inl (.inl (.inl ha)), hd⟩
  | dm ds => cases e
  | tm ds => cases e
  | om x C ds => cases e
  | un => cases e
  | ex a cls d x => cases e
  | rl ds =>
    cases e
    obtain ⟨a, vs, rfl, ha, hd, _⟩ := h
    exact ⟨a, vs, rfl, .inl (.inl (.inl ha)), hd⟩
  | rd ds => cases e
  | rt ds => cases e
theorem datC_at {v : V} {x : Cell} {d : D} (h : CellR K s c H v x) (e : datC x = some d) : DR K s H v d := by
  cases x with
  | dat d => cases e; exact h
  | lm ds => cases e
  | dm ds => cases e
  | tm ds => cases e
  | om x C ds => cases e
  | un => cases e
  | ex a cls d x => cases e
  | rl ds => cases e
  | rd ds => cases e
  | rt ds => cases e
theorem datsC_at : ∀ {vs : List V} {xs : List Cell} {ds : List D}, CellsR K s c H vs xs → datsC xs = some ds → DRs K s H vs ds
  | _, _, ds, .nil, e => by cases e; exact .nil
  | _, _, ds, .cons (x := x) (xs := xs) h r, e => by
    unfold datsC at e
    cases h1 : datC x with
    | none => rw [h1] at e; cases e
    | some d =>
      cases h2 : datsC xs with
      | none => rw [h1, h2] at e; cases e
      | some ds =>
        rw [h1, h2] at e
        cases e
        exact .cons (datC_at h h1) (datsC_at r h2)
theorem toPyC_at {v : V} {x : Cell} {p : PyData} (h : CellR K s c H v x) (e : toPyC x = some p) : Dp K H v p := by
  cases x with
  | dat d => exact DR.dp h e
  | lm ds =>
    obtain ⟨ps, h1, rfl⟩ := Option.map_eq_some_iff.mp e
    obtain ⟨a, vs, rfl, ha, hd, _⟩ := h
    exact .lst (.inl (.inl ha)) (DRs.dp hd h1)
  | dm ds => cases e
  | tm ds => cases e
  | om x C ds => cases e
  | un => cases e
  | ex a cls d x => cases e
  | rl ds =>
    obtain ⟨ps, h1, rfl⟩ := Option.map_eq_some_iff.mp e
    obtain ⟨a, vs, rfl, ha, hd, _⟩ := h
    exact .lst (.inl (.inl ha)) (DRs.dp hd h1)
  | rd ds => cases e
  | rt ds => cases e
theorem strs_of : ∀ {vs : List V} {zs : List Str}, DRs K s H vs (zs.map .str) → vs = zs.map V.str
  | _, [], h => by cases h; rfl
  | _, z :: zs, h => by
    cases h with
    | cons x r =>
      cases x
      rw [strs_of r]
      rfl
theorem ints_of : ∀ {vs : List V} {zs : List Int}, DRs K s H vs (zs.map .int) → vs = zs.map V.int
  | _, [], h => by cases h; rfl
  | _, z :: zs, h => by
    cases h with
    | cons x r =>
      cases x
      rw [ints_of r]
      rfl
theorem bls_of : ∀ {vs : List V} {zs : List Bool}, DRs K s H vs (zs.map .bl) → vs = zs.map V.bl
  | _, [], h => by cases h; rfl
  | _, z :: zs, h => by
    cases h with
    | cons x r =>
      cases x
      rw [bls_of r]
      rfl
theorem strs_dr : ∀ (zs : List Str), DRs K s H (zs.map V.str) (zs.map .str)
  | [] => .nil
  | z :: zs => .cons (.str z) (strs_dr zs)
theorem atI_dr {vs : List V} {ds : List D} {i : Int} {d : D} (h : DRs K s H vs ds) (e : atI ds i = some d) : ∃ v, atI vs i = some v ∧ DR K s H v d := by
  unfold atI at e ⊢
  rw [h.len]
  cases hx : ixN ds.length i with
  | none => rw [hx] at e; cases e
  | some j =>
    rw [hx] at e
    exact h.get' (i := j) e
end
/-! ### rules -/
section
variable {K : PySem.W.Frag} {s c : Addr} {H0 : Hp}
def pVar (i : Nat) : PEx := fun σd P => ∃ x, σd[i]? = some (some x) ∧ P x
theorem L_var (i : Nat) : LE K s c H0 (tVar i) (pVar i) := fun σ σd H Q P R h k => by
  obtain ⟨x, h1, h2⟩ := h
  obtain ⟨v, h3, h4⟩ := R.at h1
  exact ⟨v, h3, k x v H h2 h4 (.refl R.src)⟩
def pC (x : Cell) : PEx := fun _ P => P x
theorem L_int (i : Int) : LE K s c H0 (tC (.int i)) (pC (cI i)) := fun σ σd H Q P R h k => k _ _ H h (.int i) (.refl R.src)
theorem L_str (i : Str) : LE K s c H0 (tC (.str i)) (pC (cS i)) := fun σ σd H Q P R h k => k _ _ H h (.str i) (.refl R.src)
theorem L_bl (i : Bool) : LE K s c H0 (tC (.bl i)) (pC (cB i)) := fun σ σd H Q P R h k => k _ _ H h (.bl i) (.refl R.src)
theorem L_non : LE K s c H0 (tC .non) (pC cN) := fun σ σd H Q P R h k => k _ _ H h .non (.refl R.src)
abbrev P2 := Cell → Cell → (Cell → Prop) → Prop
def LOp (K : PySem.W.Frag) (r : R2) (f : P2) : Prop := ∀ (s c : Addr) (v w : V) (x y : Cell) (H : Hp) (Q : VK) (P : Cell → Prop), CellR K s c H v x → CellR K s c H w y → Src H s c → f x y P →
  (∀ z u H', P z → CellR K s c H' u z → Stp s c H H' → Q u H') → r v w H Q
def pOp (f : P2) (a b : PEx) : PEx := fun σd P => a σd fun x => b σd fun y => f x y P
theorem L_op {r : R2} {f : P2} {ta tb : TE} {a b : PEx} (ho : LOp K r f) (ha : LE K s c H0 ta a) (hb : LE K s c H0 tb b) : LE K s c H0 (tOp r ta tb) (pOp f a b) := fun σ σd H Q P R h k => by
  refine ha σ σd H _ _ R h fun x v H1 h1 r1 s1 => ?_
  refine hb σ σd H1 _ _ (R.stp s1) h1 fun y w H2 h2 r2 s2 => ?_
  exact ho s c v w x y H2 Q P (r1.stp s1.src s2) r2 s2.src h2 fun z u H3 h3 r3 s3 => k z u H3 h3 r3 ((s1.trans s2).trans s3)
def LUn (K : PySem.W.Frag) (r : V → Hp → VK → Prop) (f : Cell → (Cell → Prop) → Prop) : Prop := ∀ (s c : Addr) (v : V) (x : Cell) (H : Hp) (Q : VK) (P : Cell → Prop), CellR K s c H v x → Src H s c → f x P →
  (∀ z u H', P z → CellR K s c H' u z → Stp s c H H' → Q u H') → r v H Q
def pUn (f : Cell → (Cell → Prop) → Prop) (a : PEx) : PEx := fun σd P => a σd fun x => f x P
theorem L_un {r : V → Hp → VK → Prop} {f : Cell → (Cell → Prop) → Prop} {ta : TE} {a : PEx} (ho : LUn K r f) (ha : LE K s c H0 ta a) : LE K s c H0 (tUn r ta) (pUn f a) := fun σ σd H Q P R h k => by
  refine ha σ σd H _ _ R h fun x v H1 h1 r1 s1 => ?_
  exact ho s c v x H1 Q P r1 s1.src h1 fun z u H3 h3 r3 s3 => k z u H3 h3 r3 (s1.trans s3)
def fNeg : Cell → (Cell → Prop) → Prop := fun x P => ∃ i, x = cI i ∧ P (cI (-i))
theorem U_neg : LUn K (rU fun i => .int (-i)) fNeg := fun s c v x H Q P hx S h k => by
  obtain ⟨i, rfl, h⟩ := h
  exact ⟨i, int_eq hx, k _ _ H h (.int _) (.refl S)⟩
def fI (g : Int → Int → Int) : P2 := fun x y P => ∃ i j, x = cI i ∧ y = cI j ∧ P (cI (g i j))
def fIB (g : Int → Int → Bool) : P2 := fun x y P => ∃ i j, x = cI i ∧ y = cI j ∧ P (cB (g i j))
def fIC (C : Int → Int → Prop) (g : Int → Int → Int) : P2 := fun x y P => ∃ i j, x = cI i ∧ y = cI j ∧ C i j ∧ P (cI (g i j))
theorem O_I (g : Int → Int → Int) : LOp K (rI0 fun i j => .int (g i j)) (fI g) := fun s c v w x y H Q P hx hy S h k => by
  obtain ⟨i, j, rfl, rfl, h⟩ := h
  exact ⟨i, j, int_eq hx, int_eq hy, k _ _ H h (.int _) (.refl S)⟩
theorem O_IB (g : Int → Int → Bool) : LOp K (rI0 fun i j => .bl (g i j)) (fIB g) := fun s c v w x y H Q P hx hy S h k => by
  obtain ⟨i, j, rfl, rfl, h⟩ := h
  exact ⟨i, j, int_eq hx, int_eq hy, k _ _ H h (.bl _) (.refl S)⟩
theorem O_IC (C : Int → Int → Prop) (g : Int → Int → Int) : LOp K (rI C fun i j => .int (g i j)) (fIC C g) := fun s c v w x y H Q P hx hy S h k => by
  obtain ⟨i, j, rfl, rfl, hc, h⟩ := h
  exact ⟨i, j, int_eq hx, int_eq hy, hc, k _ _ H h (.int _) (.refl S)⟩
def fCatS : P2 := fun x y P => ∃ i j, x = cS i ∧ y = cS j ∧ i.length + j.length ≤ 1000000 ∧ P (cS (i ++ j))
theorem O_catS : LOp K rCatS fCatS := fun s c v w x y H Q P hx hy S h k => by
  obtain ⟨i, j, rfl, rfl, hc, h⟩ := h
  exact ⟨i, j, str_eq hx, str_eq hy, Nat.le_trans hc (by decide), k _ _ H h (.str _) (.refl S)⟩
def fSB (g : Str → Str → Bool) : P2 := fun x y P => ∃ i j, x = cS i ∧ y = cS j ∧ P (cB (g i j))
theorem O_ltS : LOp K rLtS (fSB fun i j => decide (i.cps.toList < j.cps.toList)) := fun s c v w x y H Q P hx hy S h k => by
  obtain ⟨i, j, rfl, rfl, h⟩ := h
  exact ⟨i, j, str_eq hx, str_eq hy, k _ _ H h (.bl _) (.refl S)⟩
theorem O_leS : LOp K rLeS (fSB fun i j => !decide (j.cps.toList < i.cps.toList)) := fun s c v w x y H Q P hx hy S h k => by
  obtain ⟨i, j, rfl, rfl, h⟩ := h
  exact ⟨i, j, str_eq hx, str_eq hy, k _ _ H h (.bl _) (.refl S)⟩
def fInSign (g : Bool → Bool) : P2 := fun x y P => ∃ (c : Nat) (z : Str), x = cS ⟨#[c]⟩ ∧ y = cS z ∧ P (cB (g (decide (c ∈ z.cps.toList))))
theorem O_inSign : LOp K rInSign (fInSign id) := fun s c v w x y H Q P hx hy S h k => by
  obtain ⟨i, j, rfl, rfl, h⟩ := h
  exact ⟨i, j, str_eq hx, str_eq hy, k _ _ H h (.bl _) (.refl S)⟩
theorem O_notInSign : LOp K rNotInSign (fInSign not) := fun s c v w x y H Q P hx hy S h k => by
  obtain ⟨i, j, rfl, rfl, h⟩ := h
  exact ⟨i, j, str_eq hx, str_eq hy, k _ _ H h (.bl _) (.refl S)⟩
/-- is None: data is None or is not -/
def nonC : Cell → Option Bool
  | .dat .non => some true
  | .un => none
  | _ => some false
theorem non_iff {s c : Addr} {H : Hp} {v : V} {x : Cell} {b : Bool} (h : CellR K s c H v x) (e : nonC x = some b) : decide (v = .non) = b := by
  cases x with
  | dat d => cases h <;> (cases e; rfl)
  | lm ds => obtain ⟨a, vs, rfl, _⟩ := h; cases e; rfl
  | dm ds => obtain ⟨a, vs, rfl, _⟩ := h; cases e; rfl
  | tm ds => obtain ⟨a, vs, rfl, _⟩ := h; cases e; rfl
  | om x C ds => obtain ⟨dx, vs, rfl, _⟩ := h; cases e; rfl
  | un => cases e
  | ex a cls d x => obtain ⟨rfl, _⟩ := h; cases e; rfl
  | rl ds => obtain ⟨a, vs, rfl, _⟩ := h; cases e; rfl
  | rd ds => obtain ⟨a, vs, rfl, _⟩ := h; cases e; rfl
  | rt ds => obtain ⟨a, vs, rfl, _⟩ := h; cases e; rfl
def fIsN (g : Bool → Bool) : P2 := fun x y P => ∃ b, nonC x = some b ∧ y = cN ∧ P (cB (g b))
theorem O_isN : LOp K rIsN (fIsN id) := fun s c v w x y H Q P hx hy S h k => by
  obtain ⟨b, e, rfl, h⟩ := h
  refine ⟨flat_eq hy rfl, ?_⟩
  rw [non_iff hx e]
  exact k _ _ H h (.bl _) (.refl S)
theorem O_notN : LOp K rNotN (fIsN not) := fun s c v w x y H Q P hx hy S h k => by
  obtain ⟨b, e, rfl, h⟩ := h
  refine ⟨flat_eq hy rfl, ?_⟩
  rw [non_iff hx e]
  exact k _ _ H h (.bl _) (.refl S)
def fIxL : P2 := fun x y P => ∃ ds i d, seqL x = some ds ∧ y = cI i ∧ atI ds i = some d ∧ P (.dat d)
theorem O_ixL : LOp K (rIxL K) fIxL := fun s c v w x y H Q P hx hy S h k => by
  obtain ⟨ds, i, d, e, rfl, ea, h⟩ := h
  obtain ⟨a, vs, rfl, ha, hd⟩ := seqL_at hx e
  obtain ⟨u, hu, hr⟩ := atI_dr hd ea
  exact ⟨a, vs, i, u, rfl, int_eq hy, ha, hu, k _ _ H h hr (.refl S)⟩
def fIxT : P2 := fun x y P => ∃ ds i d, x = .dat (.tup ds) ∧ y = cI i ∧ atI ds i = some d ∧ P (.dat d)
theorem O_ixT : LOp K (rIxT K) fIxT := fun s c v w x y H Q P hx hy S h k => by
  obtain ⟨ds, i, d, rfl, rfl, ea, h⟩ := h
  obtain ⟨a, vs, rfl, ha, hd⟩ := tup_at hx
  obtain ⟨u, hu, hr⟩ := atI_dr hd ea
  exact ⟨a, vs, i, u, rfl, int_eq hy, .inl (.inl ha), hu, k _ _ H h hr (.refl S)⟩
def fIxS : P2 := fun x y P => ∃ z i e, x = cS z ∧ y = cI i ∧ z.length ≤ 1000000 ∧ atI z.cps.toList i = some e ∧ P (cS ⟨#[e]⟩)
theorem O_ixS : LOp K rIxS fIxS := fun s c v w x y H Q P hx hy S h k => by
  obtain ⟨z, i, e, rfl, rfl, hl, ea, h⟩ := h
  exact ⟨z, i, e, str_eq hx, int_eq hy, Nat.le_trans hl (by decide), ea, k _ _ H h (.str _) (.refl S)⟩
/-- x in list or tuple of texts -/
def fInS (g : Bool → Bool) : P2 := fun x y P => ∃ (z : Str) (zs : List Str), x = cS z ∧ seqC y = some (zs.map .str) ∧ P (cB (g (decide (z ∈ zs))))
theorem O_inS : LOp K (rIn K false) (fInS id) := fun s c v w x y H Q P hx hy S h k => by
  obtain ⟨z, zs, rfl, e, h⟩ := h
  obtain ⟨a, vs, rfl, ha, hd⟩ := seqC_at hy e
  rw [str_eq hx]
  cases strs_of hd
  refine ⟨a, _, rfl, ha, rfl, flat_strs _, ?_⟩
  rw [inV_strs]
  exact k _ _ H h (.bl _) (.refl S)
theorem O_notInS : LOp K (rIn K true) (fInS not) := fun s c v w x y H Q P hx hy S h k => by
  obtain ⟨z, zs, rfl, e, h⟩ := h
  obtain ⟨a, vs, rfl, ha, hd⟩ := seqC_at hy e
  rw [str_eq hx]
  cases strs_of hd
  refine ⟨a, _, rfl, ha, rfl, flat_strs _, ?_⟩
  rw [inV_strs]
  exact k _ _ H h (.bl _) (.refl S)
/-- == of data -/
def fEqD (g : Bool → Bool) : P2 := fun x y P => ∃ p q, toPyC x = some p ∧ toPyC y = some q ∧ SeqAt.shaped p = true ∧ SeqAt.shaped q = true ∧ P (cB (g (PyData.eqv p q)))
theorem O_eqD : LOp K (rEqD K) (fEqD id) := fun s c v w x y H Q P hx hy S h k => by
  obtain ⟨p, q, e1, e2, h1, h2, h⟩ := h
  exact ⟨p, q, toPyC_at hx e1, toPyC_at hy e2, h1, h2, k _ _ H h (.bl _) (.refl S)⟩
theorem O_neD : LOp K (rNeD K) (fEqD not) := fun s c v w x y H Q P hx hy S h k => by
  obtain ⟨p, q, e1, e2, h1, h2, h⟩ := h
  exact ⟨p, q, toPyC_at hx e1, toPyC_at hy e2, h1, h2, k _ _ H h (.bl _) (.refl S)⟩
/-- == of flat values -/
def fEq (g : Bool → Bool) : P2 := fun x y P => ∃ v w, flatC x = some v ∧ flatC y = some w ∧ scal v w = true ∧ P (cB (g (decide (v = w))))
theorem O_eq : LOp K rEq (fEq id) := fun s c v w x y H Q P hx hy S h k => by
  obtain ⟨a, b, e1, e2, e3, h⟩ := h
  rw [flat_eq hx e1, flat_eq hy e2]
  exact ⟨e3, k _ _ H h (.bl _) (.refl S)⟩
theorem O_ne : LOp K rNe (fEq not) := fun s c v w x y H Q P hx hy S h k => by
  obtain ⟨a, b, e1, e2, e3, h⟩ := h
  rw [flat_eq hx e1, flat_eq hy e2]
  exact ⟨e3, k _ _ H h (.bl _) (.refl S)⟩
/-! ### arguments, tuples, lists -/
def pNil : PAx := fun _ P => P []
def pCons (a : PEx) (b : PAx) : PAx := fun σd P => a σd fun x => b σd fun xs => P (x :: xs)
theorem L_nil : LA K s c H0 tNil pNil := fun σ σd H Q P R h k => k [] [] H h .nil (.refl R.src)
theorem L_cons {ta : TE} {tr : TA} {a : PEx} {b : PAx} (ha : LE K s c H0 ta a) (hb : LA K s c H0 tr b) : LA K s c H0 (tCons ta tr) (pCons a b) := fun σ σd H Q P R h k => by
  refine ha σ σd H _ _ R h fun x v H1 h1 r1 s1 => ?_
  refine hb σ σd H1 _ _ (R.stp s1) h1 fun xs vs H2 h2 r2 s2 => ?_
  exact k _ _ H2 h2 (.cons (r1.stp s1.src s2) r2) (s1.trans s2)
theorem stp_new {s c p : Addr} {H : Hp} {o : HO} (S : Src H s c) (h : H p = none) : Stp s c H (upd H p o) := .same S (same_new h)
def pTup (a : PAx) : PEx := fun σd P => a σd fun xs => ∃ ds, datsC xs = some ds ∧ ds.length ≤ 100000 ∧ P (.dat (.tup ds))
theorem L_tup {ta : TA} {a : PAx} (ha : LA K s c H0 ta a) : LE K s c H0 (tTup ta) (pTup a) := fun σ σd H Q P R h k => by
  refine ha σ σd H _ _ R h fun xs vs H1 h1 r1 s1 => ?_
  obtain ⟨ds, e, hl, h⟩ := h1
  have hd := datsC_at r1 e
  refine ⟨by rw [hd.len]; exact Nat.le_trans hl (by decide), fun p hp => ?_⟩
  have e2 := stp_new (o := .tup vs) s1.src hp
  exact k _ _ _ h (.tup upd_same (hd.im (e2.im s1.src))) (s1.trans e2)
def pLst (a : PAx) : PNx := fun σd P => a σd fun xs => ∃ ds, datsC xs = some ds ∧ ds.length ≤ 100000 ∧ P ds
theorem L_lst {ta : TA} {a : PAx} (ha : LA K s c H0 ta a) : LN K s c H0 (tLst ta) (pLst a) := fun σ σd H Q P R h k => by
  refine ha σ σd H _ _ R h fun xs vs H1 h1 r1 s1 => ?_
  obtain ⟨ds, e, hl, h⟩ := h1
  have hd := datsC_at r1 e
  refine ⟨by rw [hd.len]; exact Nat.le_trans hl (by decide), fun p hp => ?_⟩
  have e2 := stp_new (o := .lst vs) s1.src hp
  exact k _ _ _ _ h upd_same (Kp.none s1.kp (s1.src.ne hp).1 hp) (hd.im (e2.im s1.src)) (s1.trans e2)
/-- a new list as a value at hand -/
def pNewL (p : PNx) : PEx := fun σd P => p σd fun ds => P (.lm ds)
theorem LN.le {t : TE} {p : PNx} (h : LN K s c H0 t p) : LE K s c H0 t (pNewL p) := fun σ σd H Q P R hp k =>
  h σ σd H Q _ R hp fun ds a vs H1 h1 ha hn hd st => k _ _ H1 h1 ⟨a, vs, rfl, ha, hd, (R.src.ne hn).1, (R.src.ne hn).2⟩ st
/-- .. locked for good -/
def tFrz (t : TE) : TE := fun σ H Q => t σ H fun v H1 => ∃ (a : Addr) (u : HO), v = .ref a ∧ H1 a = some u ∧ Mut (some u) ∧ ∀ o, Q v (upd H1 a (.frz o u))
theorem pe_frz {X : Cx} {e : Expr} {t : TE} (h : PE X e t) : PE X e (tFrz t) := by
  refine ⟨fun pins s σ H Q I hq => ?_⟩
  refine thn (h.run pins s σ H _ I hq) fun v s1 ⟨x, H1, I1, r1, a, u, ex, ea, mu, q⟩ => ?_
  obtain ⟨od, I2⟩ := I1.lock ea mu
  exact ⟨x, _, I2, r1, q od⟩
def pFrz (p : PNx) : PEx := fun σd P => p σd fun ds => P (.dat (.lst ds))
theorem LN.frz {t : TE} {p : PNx} (h : LN K s c H0 t p) : LE K s c H0 (tFrz t) (pFrz p) := fun σ σd H Q P R hp k => by
  refine h σ σd H _ _ R hp fun ds a vs H1 h1 ha hn hd st => ⟨a, _, rfl, ha, trivial, fun o => ?_⟩
  have nn := R.src.ne hn
  have kl : Kp a H1 (upd H1 a (.frz o (.lst vs))) := Kp.self
  have im : Im H1 (upd H1 a (.frz o (.lst vs))) := kl.im ⟨_, ha, rfl⟩
  refine k _ _ _ h1 (.lst upd_same (hd.im im)) ⟨fun b o' nb hb => ?_, st.src.kp nn.1.symm nn.2.symm kl⟩
  exact kl _ _ (fun z => by subst z; rw [hn] at hb; cases hb) (st.kp _ _ nb hb)
/-! ### slices -/
abbrev POx := Sd → (Option Int → Prop) → Prop
def LO (K : PySem.W.Frag) (s c : Addr) (H0 : Hp) (t : TO) (p : POx) : Prop := ∀ (σ : L2.St) (σd : Sd) (H : Hp) (Q : Option Int → Hp → Prop) (P : Option Int → Prop), Rel K s c H0 σ H σd → p σd P →
  (∀ b H', P b → Stp s c H H' → Q b H') → t σ H Q
def pNoPart : POx := fun _ P => P none
def pPart (a : PEx) : POx := fun σd P => a σd fun x => ∃ i, x = cI i ∧ P (some i)
theorem L_noPart : LO K s c H0 tNoPart pNoPart := fun σ σd H Q P R h k => k _ H h (.refl R.src)
theorem L_part {t : TE} {a : PEx} (ha : LE K s c H0 t a) : LO K s c H0 (tPart t) (pPart a) := fun σ σd H Q P R h k => by
  refine ha σ σd H _ _ R h fun x v H1 h1 r1 s1 => ?_
  obtain ⟨i, rfl, h⟩ := h1
  exact ⟨i, int_eq r1, k _ H1 h s1⟩
def pSlS (a : PEx) (lo hi : POx) : PEx := fun σd P => a σd fun x => lo σd fun l => hi σd fun u => ∃ z, x = cS z ∧ z.length ≤ 1000000 ∧ P (cS (cutS z l u))
theorem L_slS {t : TE} {tl th : TO} {a : PEx} {lo hi : POx} (ha : LE K s c H0 t a) (hl : LO K s c H0 tl lo) (hh : LO K s c H0 th hi) : LE K s c H0 (tSl rSlS t tl th) (pSlS a lo hi) := fun σ σd H Q P R h k => by
  refine ha σ σd H _ _ R h fun x v H1 h1 r1 s1 => ?_
  refine hl σ σd H1 _ _ (R.stp s1) h1 fun l H2 h2 s2 => ?_
  refine hh σ σd H2 _ _ ((R.stp s1).stp s2) h2 fun u H3 h3 s3 => ?_
  obtain ⟨z, rfl, hz, h⟩ := h3
  exact ⟨z, str_eq r1, Nat.le_trans hz (by decide), k _ _ H3 h (.str _) ((s1.trans s2).trans s3)⟩
/-- the cut of any list -/
def cutL {α : Type} (xs : List α) (lo hi : Option Int) : List α := (xs.drop (HT.sIx xs.length 0 lo)).take (HT.sIx xs.length xs.length hi - HT.sIx xs.length 0 lo)
theorem cutV_dr {s : Addr} {H : Hp} {vs : List V} {ds : List D} (h : DRs K s H vs ds) (l u : Option Int) : DRs K s H (cutV vs l u) (cutL ds l u) := by
  unfold cutV cutL
  rw [h.len]
  exact (h.drop _).take _
def pSlL (a : PEx) (lo hi : POx) : PNx := fun σd P => a σd fun x => lo σd fun l => hi σd fun u => ∃ ds, seqL x = some ds ∧ P (cutL ds l u)
theorem L_slL {t : TE} {tl th : TO} {a : PEx} {lo hi : POx} (ha : LE K s c H0 t a) (hl : LO K s c H0 tl lo) (hh : LO K s c H0 th hi) : LN K s c H0 (tSl (rSlL K) t tl th) (pSlL a lo hi) := fun σ σd H Q P R h k => by
  refine ha σ σd H _ _ R h fun x v H1 h1 r1 s1 => ?_
  refine hl σ σd H1 _ _ (R.stp s1) h1 fun l H2 h2 s2 => ?_
  refine hh σ σd H2 _ _ ((R.stp s1).stp s2) h2 fun u H3 h3 s3 => ?_
  obtain ⟨ds, e, h⟩ := h3
  have st := (s1.trans s2).trans s3
  obtain ⟨b, vs, rfl, hb, hd⟩ := seqL_at (r1.stp s1.src (s2.trans s3)) e
  refine ⟨b, vs, rfl, hb, fun p hp => ?_⟩
  have e2 := stp_new (o := .lst (cutV vs l u)) st.src hp
  exact k _ _ _ _ h upd_same (Kp.none st.kp (st.src.ne hp).1 hp) ((cutV_dr hd l u).im (e2.im st.src)) (st.trans e2)
/-- t[lo:hi] of a tuple -/
def pSlA (a : PEx) (lo hi : POx) : PEx := fun σd P => a σd fun x => lo σd fun l => hi σd fun u => ∃ ds, x = .dat (.tup ds) ∧ P (.dat (.tup (cutL ds l u)))
theorem cutL_all {α : Type} (xs : List α) (lo hi : Option Int) (h : HT.sIx xs.length 0 lo = 0 ∧ HT.sIx xs.length xs.length hi = xs.length) : cutL xs lo hi = xs := by
  unfold cutL
  rw [h.1, h.2]
  simp
theorem L_slA {t : TE} {tl th : TO} {a : PEx} {lo hi : POx} (ha : LE K s c H0 t a) (hl : LO K s c H0 tl lo) (hh : LO K s c H0 th hi) : LE K s c H0 (tSl (rSlA K) t tl th) (pSlA a lo hi) := fun σ σd H Q P R h k => by
  refine ha σ σd H _ _ R h fun x v H1 h1 r1 s1 => ?_
  refine hl σ σd H1 _ _ (R.stp s1) h1 fun l H2 h2 s2 => ?_
  refine hh σ σd H2 _ _ ((R.stp s1).stp s2) h2 fun u H3 h3 s3 => ?_
  obtain ⟨ds, rfl, h⟩ := h3
  have st := (s1.trans s2).trans s3
  obtain ⟨b, vs, rfl, hb, hd⟩ := tup_at (r1.stp s1.src (s2.trans s3))
  refine ⟨b, vs, rfl, .inl (.inl hb), fun hw => ?_, fun hw p hp => ?_⟩
  · rw [cutL_all ds l u (by rw [← hd.len]; exact hw)] at h
    exact k _ _ H3 h (.tup hb hd) st
  · have e2 := stp_new (o := .tup (cutV vs l u)) st.src hp
    exact k _ _ _ h (.tup upd_same ((cutV_dr hd l u).im (e2.im st.src))) (st.trans e2)
end
end My


/-! Q3: truth, calls of built-ins, calls of own defs. -/
namespace My
open PySem PySem.Spec PyProof.Rows L2
section
variable {K : PySem.W.Frag} {s c : Addr} {H0 : Hp}
/-! ### tests -/
def pTest (a : PEx) : PTx := fun σd P => a σd fun x => ∃ b, x = cB b ∧ P b
theorem L_test {t : TE} {a : PEx} (ha : LE K s c H0 t a) : LT K s c H0 (tTest t) (pTest a) := fun σ σd H Q P R h k => by
  refine ha σ σd H _ _ R h fun x v H1 h1 r1 s1 => ?_
  obtain ⟨b, rfl, h⟩ := h1
  exact ⟨b, bl_eq r1, k _ H1 h s1⟩
theorem L_b {t : TE} {a : PEx} (ha : LE K s c H0 t a) : LT K s c H0 (tB t) (pTest a) := fun σ σd H Q P R h k => by
  refine ha σ σd H _ _ R h fun x v H1 h1 r1 s1 => ?_
  obtain ⟨b, rfl, h⟩ := h1
  exact ⟨b, bl_eq r1, k _ H1 h s1⟩
def pAnd (a b : PTx) : PTx := fun σd P => a σd fun x => if x = true then b σd P else P false
def pOr (a b : PTx) : PTx := fun σd P => a σd fun x => if x = true then P true else b σd P
def pNot (a : PTx) : PTx := fun σd P => a σd fun x => P (!x)
theorem L_and {t u : TT} {a b : PTx} (ha : LT K s c H0 t a) (hb : LT K s c H0 u b) : LT K s c H0 (tAnd t u) (pAnd a b) := fun σ σd H Q P R h k => by
  refine ha σ σd H _ _ R h fun x H1 h1 s1 => ?_
  cases x with
  | true => exact hb σ σd H1 _ _ (R.stp s1) h1 fun y H2 h2 s2 => k y H2 h2 (s1.trans s2)
  | false => exact k _ H1 h1 s1
theorem L_or {t u : TT} {a b : PTx} (ha : LT K s c H0 t a) (hb : LT K s c H0 u b) : LT K s c H0 (tOr t u) (pOr a b) := fun σ σd H Q P R h k => by
  refine ha σ σd H _ _ R h fun x H1 h1 s1 => ?_
  cases x with
  | true => exact k _ H1 h1 s1
  | false => exact hb σ σd H1 _ _ (R.stp s1) h1 fun y H2 h2 s2 => k y H2 h2 (s1.trans s2)
theorem L_not {t : TT} {a : PTx} (ha : LT K s c H0 t a) : LT K s c H0 (tNot t) (pNot a) := fun σ σd H Q P R h k =>
  ha σ σd H _ _ R h fun x H1 h1 s1 => k _ H1 h1 s1
def pYes : PTx := fun _ P => P true
theorem L_yes : LT K s c H0 tYes pYes := fun σ σd H Q P R h k => k _ H h (.refl R.src)
def pIf (t : PTx) (a b : PEx) : PEx := fun σd P => t σd fun x => if x = true then a σd P else b σd P
theorem L_if {t : TT} {ta tb : TE} {p : PTx} {a b : PEx} (ht : LT K s c H0 t p) (ha : LE K s c H0 ta a) (hb : LE K s c H0 tb b) : LE K s c H0 (tIf t ta tb) (pIf p a b) := fun σ σd H Q P R h k => by
  refine ht σ σd H _ _ R h fun x H1 h1 s1 => ?_
  cases x with
  | true => exact ha σ σd H1 _ _ (R.stp s1) h1 fun y v H2 h2 r2 s2 => k y v H2 h2 r2 (s1.trans s2)
  | false => exact hb σ σd H1 _ _ (R.stp s1) h1 fun y v H2 h2 r2 s2 => k y v H2 h2 r2 (s1.trans s2)
def pAndV (a b : PEx) : PEx := fun σd P => a σd fun x => ∃ c, x = cB c ∧ if c = true then b σd P else P (cB false)
def pOrV (a b : PEx) : PEx := fun σd P => a σd fun x => ∃ c, x = cB c ∧ if c = true then P (cB true) else b σd P
def pNotV (a : PEx) : PEx := fun σd P => a σd fun x => ∃ c, x = cB c ∧ P (cB (!c))
theorem L_andV {ta tb : TE} {a b : PEx} (ha : LE K s c H0 ta a) (hb : LE K s c H0 tb b) : LE K s c H0 (tAndV ta tb) (pAndV a b) := fun σ σd H Q P R h k => by
  refine ha σ σd H _ _ R h fun x v H1 h1 r1 s1 => ?_
  obtain ⟨q, rfl, h⟩ := h1
  refine ⟨q, bl_eq r1, ?_⟩
  cases q with
  | true => exact hb σ σd H1 _ _ (R.stp s1) h fun y v H2 h2 r2 s2 => k y v H2 h2 r2 (s1.trans s2)
  | false => exact k _ _ H1 h (.bl _) s1
theorem L_orV {ta tb : TE} {a b : PEx} (ha : LE K s c H0 ta a) (hb : LE K s c H0 tb b) : LE K s c H0 (tOrV ta tb) (pOrV a b) := fun σ σd H Q P R h k => by
  refine ha σ σd H _ _ R h fun x v H1 h1 r1 s1 => ?_
  obtain ⟨q, rfl, h⟩ := h1
  refine ⟨q, bl_eq r1, ?_⟩
  cases q with
  | true => exact k _ _ H1 h (.bl _) s1
  | false => exact hb σ σd H1 _ _ (R.stp s1) h fun y v H2 h2 r2 s2 => k y v H2 h2 r2 (s1.trans s2)
theorem L_notV {ta : TE} {a : PEx} (ha : LE K s c H0 ta a) : LE K s c H0 (tNotV ta) (pNotV a) := fun σ σd H Q P R h k => by
  refine ha σ σd H _ _ R h fun x v H1 h1 r1 s1 => ?_
  obtain ⟨q, rfl, h⟩ := h1
  exact ⟨q, bl_eq r1, k _ _ H1 h (.bl _) s1⟩
def pChain (f g : P2) (a b c : PEx) : PEx := fun σd P => a σd fun x => b σd fun y => f x y fun z => ∃ k, z = cB k ∧ if k = true then c σd fun w => g y w P else P (cB false)
theorem L_chain {r r' : R2} {f g : P2} {ta tb tc : TE} {a b d : PEx} (ho : LOp K r f) (ho' : LOp K r' g) (ha : LE K s c H0 ta a) (hb : LE K s c H0 tb b) (hc : LE K s c H0 tc d) : LE K s c H0 (tChain r r' ta tb tc) (pChain f g a b d) := fun σ σd H Q P R h k => by
  refine ha σ σd H _ _ R h fun x v H1 h1 r1 s1 => ?_
  refine hb σ σd H1 _ _ (R.stp s1) h1 fun y w H2 h2 r2 s2 => ?_
  have st := s1.trans s2
  refine ho s c v w x y H2 _ _ (r1.stp s1.src s2) r2 s2.src h2 fun z u H3 h3 r3 s3 => ?_
  obtain ⟨q, rfl, h⟩ := h3
  refine ⟨q, bl_eq r3, ?_⟩
  cases q with
  | false => exact k _ _ H3 h (.bl _) (st.trans s3)
  | true =>
    refine hc σ σd H3 _ _ ((R.stp st).stp s3) h fun z2 u2 H4 h4 r4 s4 => ?_
    exact ho' s c w u2 y z2 H4 Q P ((r2.stp s2.src s3).stp s3.src s4) r4 s4.src h4 fun z5 u5 H5 h5 r5 s5 => k z5 u5 H5 h5 r5 (((st.trans s3).trans s4).trans s5)
/-! ### calls of built-ins -/
def LC (K : PySem.W.Frag) (r : List V → Hp → VK → Prop) (f : List Cell → (Cell → Prop) → Prop) : Prop := ∀ (s c : Addr) (vs : List V) (xs : List Cell) (H : Hp) (Q : VK) (P : Cell → Prop), CellsR K s c H vs xs → Src H s c → f xs P →
  (∀ z u H', P z → CellR K s c H' u z → Stp s c H H' → Q u H') → r vs H Q
def pCB (f : List Cell → (Cell → Prop) → Prop) (a : PAx) : PEx := fun σd P => a σd fun xs => f xs P
theorem L_cb {r : List V → Hp → VK → Prop} {f : List Cell → (Cell → Prop) → Prop} {t : TA} {a : PAx} (hr : LC K r f) (ha : LA K s c H0 t a) : LE K s c H0 (tCB r t) (pCB f a) := fun σ σd H Q P R h k => by
  refine ha σ σd H _ _ R h fun xs vs H1 h1 r1 s1 => ?_
  exact hr s c vs xs H1 Q P r1 s1.src h1 fun z u H2 h2 r2 s2 => k z u H2 h2 r2 (s1.trans s2)
/-- .. that give a new list -/
def LCN (K : PySem.W.Frag) (r : List V → Hp → VK → Prop) (f : List Cell → (List D → Prop) → Prop) : Prop := ∀ (s c : Addr) (vs : List V) (xs : List Cell) (H : Hp) (Q : VK) (P : List D → Prop), CellsR K s c H vs xs → Src H s c → f xs P →
  (∀ ds a us H', P ds → H' a = some (.lst us) → H a = none → DRs K s H' us ds → Stp s c H H' → Q (.ref a) H') → r vs H Q
def pCBN (f : List Cell → (List D → Prop) → Prop) (a : PAx) : PNx := fun σd P => a σd fun xs => f xs P
theorem L_cbn {r : List V → Hp → VK → Prop} {f : List Cell → (List D → Prop) → Prop} {t : TA} {a : PAx} (hr : LCN K r f) (ha : LA K s c H0 t a) : LN K s c H0 (tCB r t) (pCBN f a) := fun σ σd H Q P R h k => by
  refine ha σ σd H _ _ R h fun xs vs H1 h1 r1 s1 => ?_
  exact hr s c vs xs H1 Q P r1 s1.src h1 fun ds a us H2 h2 ha hn hd s2 => k ds a us H2 h2 ha (Kp.none s1.kp (s1.src.ne hn).1 hn) hd (s1.trans s2)
theorem one_of {s c : Addr} {H : Hp} {vs : List V} {x : Cell} (h : CellsR K s c H vs [x]) : ∃ v, vs = [v] ∧ CellR K s c H v x := by
  cases h with
  | cons h r => cases r; exact ⟨_, rfl, h⟩
def gLenS : List Cell → (Cell → Prop) → Prop := fun xs P => ∃ z, xs = [cS z] ∧ z.length ≤ 1000000 ∧ P (cI z.length)
theorem C_lenS : LC K cLenS gLenS := fun s c vs xs H Q P hx S h k => by
  obtain ⟨z, rfl, hz, h⟩ := h
  obtain ⟨v, rfl, hv⟩ := one_of hx
  rw [str_eq hv]
  exact ⟨z, rfl, Nat.le_trans hz (by decide), k _ _ H h (.int _) (.refl S)⟩
def gLenQ : List Cell → (Cell → Prop) → Prop := fun xs P => ∃ x ds, xs = [x] ∧ seqC x = some ds ∧ P (cI ds.length)
theorem C_lenQ : LC K (cLenQ K) gLenQ := fun s c vs xs H Q P hx S h k => by
  obtain ⟨x, ds, rfl, e, h⟩ := h
  obtain ⟨v, rfl, hv⟩ := one_of hx
  obtain ⟨a, us, rfl, ha, hd⟩ := seqC_at hv e
  refine ⟨a, us, rfl, ha, ?_⟩
  rw [hd.len]
  exact k _ _ H h (.int _) (.refl S)
def gAbs : List Cell → (Cell → Prop) → Prop := fun xs P => ∃ i, xs = [cI i] ∧ P (cI (if i < 0 then -i else i))
theorem C_abs : LC K cAbs gAbs := fun s c vs xs H Q P hx S h k => by
  obtain ⟨z, rfl, h⟩ := h
  obtain ⟨v, rfl, hv⟩ := one_of hx
  rw [int_eq hv]
  exact ⟨z, rfl, k _ _ H h (.int _) (.refl S)⟩
def gInt1 : List Cell → (Cell → Prop) → Prop := fun xs P => (∃ i, xs = [cI i] ∧ P (cI i)) ∨ ∃ b : Bool, xs = [cB b] ∧ P (cI (if b then 1 else 0))
theorem C_int1 : LC K cInt1 gInt1 := fun s c vs xs H Q P hx S h k => by
  rcases h with ⟨z, rfl, h⟩ | ⟨z, rfl, h⟩
  · obtain ⟨v, rfl, hv⟩ := one_of hx
    rw [int_eq hv]
    exact .inl ⟨z, rfl, k _ _ H h (.int _) (.refl S)⟩
  · obtain ⟨v, rfl, hv⟩ := one_of hx
    rw [bl_eq hv]
    exact .inr ⟨z, rfl, k _ _ H h (.int _) (.refl S)⟩
def gIntS : List Cell → (Cell → Prop) → Prop := fun xs P => ∃ a n, xs = [cS a] ∧ PySem.intText? a = some n ∧ a.length ≤ 640 ∧ P (cI n)
theorem C_intS : LC K cIntS gIntS := fun s c vs xs H Q P hx S h k => by
  obtain ⟨a, n, rfl, h1, h2, h⟩ := h
  obtain ⟨v, rfl, hv⟩ := one_of hx
  rw [str_eq hv]
  exact ⟨a, n, rfl, h1, h2, k _ _ H h (.int _) (.refl S)⟩
def gStrI : List Cell → (Cell → Prop) → Prop := fun xs P => ∃ i : Int, xs = [cI i] ∧ i.natAbs.log2 < 1920 ∧ P (cS (toString i))
theorem C_strI : LC K cStrI gStrI := fun s c vs xs H Q P hx S h k => by
  obtain ⟨a, rfl, h1, h⟩ := h
  obtain ⟨v, rfl, hv⟩ := one_of hx
  rw [int_eq hv]
  exact ⟨a, rfl, h1, k _ _ H h (.str _) (.refl S)⟩
def gStrS : List Cell → (Cell → Prop) → Prop := fun xs P => ∃ z, xs = [cS z] ∧ P (cS z)
theorem C_strS : LC K cStrS gStrS := fun s c vs xs H Q P hx S h k => by
  obtain ⟨a, rfl, h⟩ := h
  obtain ⟨v, rfl, hv⟩ := one_of hx
  rw [str_eq hv]
  exact ⟨a, rfl, k _ _ H h (.str _) (.refl S)⟩
def gTuple : List Cell → (Cell → Prop) → Prop := fun xs P => ∃ x ds, xs = [x] ∧ seqC x = some ds ∧ P (.dat (.tup ds))
theorem C_tuple : LC K (cTuple K) gTuple := fun s c vs xs H Q P hx S h k => by
  obtain ⟨x, ds, rfl, e, h⟩ := h
  obtain ⟨v, rfl, hv⟩ := one_of hx
  by_cases q : ∃ es, x = .dat (.tup es)
  · obtain ⟨es, rfl⟩ := q
    cases e
    obtain ⟨a, us, rfl, ha, hd⟩ := tup_at hv
    exact ⟨a, us, rfl, .inr ⟨.inl (.inl ha), k _ _ H h (.tup ha hd) (.refl S)⟩⟩
  · have e2 : seqL x = some ds := by
      cases x with
      | dat d => cases d <;> first | exact e | (exfalso; exact q ⟨_, rfl⟩)
      | lm ds => exact e
      | dm ds => cases e
      | tm ds => cases e
      | om x C ds => cases e
      | un => cases e
      | ex a cls d x => cases e
      | rl ds => exact e
      | rd ds => cases e
      | rt ds => cases e
    obtain ⟨a, us, rfl, ha, hd⟩ := seqL_at hv e2
    refine ⟨a, us, rfl, .inl ⟨ha, fun l hl => ?_⟩⟩
    have e2 := stp_new (o := .tup us) S hl
    exact k _ _ _ h (.tup upd_same (hd.im (e2.im S))) e2
def gList : List Cell → (List D → Prop) → Prop := fun xs P => ∃ x ds, xs = [x] ∧ seqC x = some ds ∧ P ds
theorem C_list : LCN K (cList K) gList := fun s c vs xs H Q P hx S h k => by
  obtain ⟨x, ds, rfl, e, h⟩ := h
  obtain ⟨v, rfl, hv⟩ := one_of hx
  obtain ⟨a, us, rfl, ha, hd⟩ := seqC_at hv e
  refine ⟨a, us, rfl, ha, fun l hl => ?_⟩
  have e2 := stp_new (o := .lst us) S hl
  exact k _ _ _ _ h upd_same hl (hd.im (e2.im S)) e2
def gAll : List Cell → (Cell → Prop) → Prop := fun xs P => ∃ (x : Cell) (bs : List Bool), xs = [x] ∧ seqL x = some (bs.map D.bl) ∧ P (cB (bs.all id))
theorem C_all : LC K (rAll K) gAll := fun s c vs xs H Q P hx S h k => by
  obtain ⟨x, bs, rfl, e, h⟩ := h
  obtain ⟨v, rfl, hv⟩ := one_of hx
  obtain ⟨a, us, rfl, ha, hd⟩ := seqL_at hv e
  cases bls_of hd
  exact ⟨a, bs, rfl, ha, k _ _ H h (.bl _) (.refl S)⟩
def gAny : List Cell → (Cell → Prop) → Prop := fun xs P => ∃ (x : Cell) (bs : List Bool), xs = [x] ∧ seqL x = some (bs.map D.bl) ∧ P (cB (bs.any id))
theorem C_any : LC K (rAny K) gAny := fun s c vs xs H Q P hx S h k => by
  obtain ⟨x, bs, rfl, e, h⟩ := h
  obtain ⟨v, rfl, hv⟩ := one_of hx
  obtain ⟨a, us, rfl, ha, hd⟩ := seqL_at hv e
  cases bls_of hd
  exact ⟨a, bs, rfl, ha, k _ _ H h (.bl _) (.refl S)⟩
def gSum : List Cell → (Cell → Prop) → Prop := fun xs P => ∃ (x : Cell) (ns : List Int), xs = [x] ∧ seqL x = some (ns.map D.int) ∧ P (cI ns.sum)
theorem C_sum : LC K (rSum K) gSum := fun s c vs xs H Q P hx S h k => by
  obtain ⟨x, bs, rfl, e, h⟩ := h
  obtain ⟨v, rfl, hv⟩ := one_of hx
  obtain ⟨a, us, rfl, ha, hd⟩ := seqL_at hv e
  cases ints_of hd
  exact ⟨a, bs, rfl, ha, k _ _ H h (.int _) (.refl S)⟩
def gSortedS : List Cell → (List D → Prop) → Prop := fun xs P => ∃ (x : Cell) (zs : List Str), xs = [x] ∧ seqL x = some (zs.map D.str) ∧ zs.length < 64 ∧ ∀ ys : List Str, ys.Perm zs → sortedS ys = true → P (ys.map D.str)
theorem C_sortedS : LCN K (rSortedS K) gSortedS := fun s c vs xs H Q P hx S h k => by
  obtain ⟨x, bs, rfl, e, hl, h⟩ := h
  obtain ⟨v, rfl, hv⟩ := one_of hx
  obtain ⟨a, us, rfl, ha, hd⟩ := seqL_at hv e
  cases strs_of hd
  refine ⟨a, bs, rfl, ha, hl, fun ys p h1 h2 hp => ?_⟩
  have e2 := stp_new (o := .lst (ys.map V.str)) S hp
  exact k _ _ _ _ (h ys h1 h2) upd_same hp (strs_dr ys) e2
def gRepr : List Cell → (Cell → Prop) → Prop := fun xs P => ∃ x d, xs = [x] ∧ toPyC x = some d ∧ flatC x = none ∧ PyData.showable d = true ∧ d.hasDict = false ∧ d.depth ≤ 60 ∧ d.shown.length ≤ 1000000 ∧ P (cS d.shown)
theorem ref_of {s c : Addr} {H : Hp} {v : V} {x : Cell} {d : PyData} (h : CellR K s c H v x) (e : flatC x = none) (e2 : toPyC x = some d) : ∃ a, v = .ref a := by
  cases x with
  | dat d => cases h <;> first | exact ⟨_, rfl⟩ | cases e
  | lm ds => obtain ⟨a, vs, rfl, _⟩ := h; exact ⟨a, rfl⟩
  | dm ds => obtain ⟨a, vs, rfl, _⟩ := h; exact ⟨a, rfl⟩
  | tm ds => cases e2
  | om x C ds => cases e2
  | un => cases e2
  | ex a cls d x => cases e2
  | rl ds => obtain ⟨a, vs, rfl, _⟩ := h; exact ⟨a, rfl⟩
  | rd ds => cases e2
  | rt ds => cases e2
theorem C_repr : LC K (cRepr K) gRepr := fun s c vs xs H Q P hx S h k => by
  obtain ⟨x, d, rfl, e, ef, h1, h2, h3, h4, h⟩ := h
  obtain ⟨v, rfl, hv⟩ := one_of hx
  obtain ⟨a, rfl⟩ := ref_of hv ef e
  exact ⟨a, d, rfl, toPyC_at hv e, h1, h2, h3, Nat.le_trans h4 (by decide), k _ _ H h (.str _) (.refl S)⟩
/-! ### methods of texts -/
def pJoin (a b : PEx) : PEx := fun σd P => a σd fun x => ∃ z, x = cS z ∧ b σd fun y => ∃ zs : List Str, seqC y = some (zs.map .str) ∧ (zs.map (·.length)).sum + zs.length * z.length ≤ 16777216 ∧ P (cS (Txt.join z zs))
theorem L_join {ta tb : TE} {a b : PEx} (ha : LE K s c H0 ta a) (hb : LE K s c H0 tb b) : LE K s c H0 (tM1 (mJoin K) ta tb) (pJoin a b) := fun σ σd H Q P R h k => by
  refine ha σ σd H _ _ R h fun x v H1 h1 r1 s1 => ?_
  obtain ⟨z, rfl, h1⟩ := h1
  refine ⟨⟨z, str_eq r1⟩, ?_⟩
  refine hb σ σd H1 _ _ (R.stp s1) h1 fun y w H2 h2 r2 s2 => ?_
  obtain ⟨zs, e, hl, h⟩ := h2
  obtain ⟨p, us, rfl, hp, hd⟩ := seqC_at r2 e
  cases strs_of hd
  exact ⟨z, p, zs, str_eq r1, rfl, hp, hl, k _ _ H2 h (.str _) (s1.trans s2)⟩
def pSplit (a b : PEx) : PNx := fun σd P => a σd fun x => ∃ z, x = cS z ∧ b σd fun y => ∃ w, y = cS w ∧ (w.length == 0) = false ∧ z.length ≤ 1000000 ∧ P ((Txt.split z w).map .str)
theorem L_split {ta tb : TE} {a b : PEx} (ha : LE K s c H0 ta a) (hb : LE K s c H0 tb b) : LN K s c H0 (tM1 mSplit ta tb) (pSplit a b) := fun σ σd H Q P R h k => by
  refine ha σ σd H _ _ R h fun x v H1 h1 r1 s1 => ?_
  obtain ⟨z, rfl, h1⟩ := h1
  refine ⟨⟨z, str_eq r1⟩, ?_⟩
  refine hb σ σd H1 _ _ (R.stp s1) h1 fun y w H2 h2 r2 s2 => ?_
  obtain ⟨w', rfl, hw, hl, h⟩ := h2
  have st := s1.trans s2
  refine ⟨z, w', str_eq r1, by rw [str_eq r2], hw, Nat.le_trans (Nat.add_le_add_right hl 2) (by decide), fun p hp => ?_⟩
  have e2 := stp_new (o := .lst ((Txt.split z w').map V.str)) st.src hp
  exact k _ _ _ _ h upd_same (Kp.none st.kp (st.src.ne hp).1 hp) (strs_dr _) (st.trans e2)
/-! ### own defs -/
/-- what a def does, over plain values -/
abbrev QP := List D → (D → Prop) → Prop
def up (K : PySem.W.Frag) (q : QP) : Sp := fun vs H Q _ => ∃ (s c : Addr) (ds : List D), Src H s c ∧ DRs K s H vs ds ∧ q ds fun d => ∀ v H', DR K s H' v d → Stp s c H H' → Q v H'
def pCall (q : QP) (a : PAx) : PEx := fun σd P => a σd fun xs => ∃ ds, datsC xs = some ds ∧ q ds fun d => P (.dat d)
/-- q asks no more of what it is followed by than that it holds -/
def Mono (q : QP) : Prop := ∀ ds P P', (∀ d, P d → P' d) → q ds P → q ds P'
theorem L_call {q : QP} {t : TA} {a : PAx} {E : XK} (m : Mono q) (ha : LA K s c H0 t a) : LE K s c H0 (tCall (up K q) [] E t) (pCall q a) := fun σ σd H Q P R h k => by
  refine ha σ σd H _ _ R h fun xs vs H1 h1 r1 s1 => ?_
  obtain ⟨ds, e, h⟩ := h1
  refine ⟨s, c, ds, s1.src, by rw [List.append_nil]; exact datsC_at r1 e, m _ _ _ (fun d hd v H2 r2 s2 => k (.dat d) _ H2 hd r2 (s1.trans s2)) h⟩
end
end My


/-! Q4: statements, loops, comprehensions. -/
namespace My
open PySem PySem.Spec PyProof.Rows L2
structure PEnds where
  nx : Sd → Prop
  rt : D → Prop
  bk : Sd → Prop := fun _ => False
  ct : Sd → Prop := fun _ => False
  rn : Cell → Prop := fun _ => False
abbrev PSx := PEnds → Sd → Prop
structure EndsR (K : PySem.W.Frag) (s c : Addr) (H0 H : Hp) (E : Ends) (e : PEnds) : Prop where
  nx : ∀ σ σd H', e.nx σd → Rel K s c H0 σ H' σd → Im H H' → E.nx σ H'
  rt : ∀ d v H', e.rt d → DR K s H' v d → Src H' s c → Kp s H0 H' → E.rt v H'
  bk : ∀ σ σd H', e.bk σd → Rel K s c H0 σ H' σd → Im H H' → E.bk σ H'
  ct : ∀ σ σd H', e.ct σd → Rel K s c H0 σ H' σd → Im H H' → E.ct σ H'
  rn : ∀ x v H', e.rn x → looseC (some x) = true → CellR K s c H' v x → (∀ a, v = .ref a → H0 a = none) → Src H' s c → Kp s H0 H' → E.rt v H'
def LS (K : PySem.W.Frag) (s c : Addr) (H0 : Hp) (t : TS) (p : PSx) : Prop := ∀ (σ : L2.St) (σd : Sd) (H : Hp) (E : Ends) (e : PEnds), Rel K s c H0 σ H σd → p e σd → EndsR K s c H0 H E e → t E σ H
section
variable {K : PySem.W.Frag} {s c : Addr} {H0 H H' : Hp} {E : Ends} {e : PEnds}
theorem EndsR.im (h : EndsR K s c H0 H E e) (i : Im H H') : EndsR K s c H0 H' E e :=
  ⟨fun σ σd H2 a b d => h.nx σ σd H2 a b (i.trans d), h.rt, fun σ σd H2 a b d => h.bk σ σd H2 a b (i.trans d), fun σ σd H2 a b d => h.ct σ σd H2 a b (i.trans d), h.rn⟩
end
section
variable {K : PySem.W.Frag} {s c : Addr} {H0 : Hp}
def pNext : PSx := fun e σd => e.nx σd
theorem S_next : LS K s c H0 tNext pNext := fun σ σd H E e R h k => k.nx σ σd H h R (Im.refl H)
def pSeq (a b : PSx) : PSx := fun e σd => a { e with nx := b e } σd
theorem S_seq {t u : TS} {a b : PSx} (ha : LS K s c H0 t a) (hb : LS K s c H0 u b) : LS K s c H0 (tSeq t u) (pSeq a b) := fun σ σd H E e R h k =>
  ha σ σd H _ _ R h ⟨fun σ' σd' H' h1 R1 i => hb σ' σd' H' E e R1 h1 (k.im i), k.rt, k.bk, k.ct, k.rn⟩
def pRet (a : PEx) : PSx := fun e σd => a σd fun x => ∃ d, x = .dat d ∧ e.rt d
theorem S_ret {t : TE} {a : PEx} (ha : LE K s c H0 t a) : LS K s c H0 (tRet t) (pRet a) := fun σ σd H E e R h k => by
  refine ha σ σd H _ _ R h fun x v H1 h1 r1 s1 => ?_
  obtain ⟨d, rfl, h⟩ := h1
  exact k.rt d v H1 h r1 s1.src (R.kp0.trans s1.kp)
def pRetN : PSx := fun e _ => e.rt .non
theorem S_retN : LS K s c H0 tRetN pRetN := fun σ σd H E e R h k => k.rt .non .non H h .non R.src R.kp0
def pBreak : PSx := fun e σd => e.bk σd
theorem S_break : LS K s c H0 tBreak pBreak := fun σ σd H E e R h k => k.bk σ σd H h R (Im.refl H)
def pCont : PSx := fun e σd => e.ct σd
theorem S_cont : LS K s c H0 tCont pCont := fun σ σd H E e R h k => k.ct σ σd H h R (Im.refl H)
def pNever : PSx := fun _ _ => False
def pIfS (t : PTx) (a b : PSx) : PSx := fun e σd => t σd fun x => if x = true then a e σd else b e σd
theorem S_if {t : TT} {u w : TS} {p : PTx} {a b : PSx} (ht : LT K s c H0 t p) (ha : LS K s c H0 u a) (hb : LS K s c H0 w b) : LS K s c H0 (tIfS t u w) (pIfS p a b) := fun σ σd H E e R h k => by
  refine ht σ σd H _ _ R h fun x H1 h1 s1 => ?_
  cases x with
  | true => exact ha σ σd H1 E e (R.stp s1) h1 (k.im (s1.im R.src))
  | false => exact hb σ σd H1 E e (R.stp s1) h1 (k.im (s1.im R.src))
def pDrop (a : PEx) : PSx := fun e σd => a σd fun _ => e.nx σd
theorem S_drop {t : TE} {a : PEx} (ha : LE K s c H0 t a) : LS K s c H0 (tDrop t) (pDrop a) := fun σ σd H E e R h k =>
  ha σ σd H _ _ R h fun x v H1 h1 r1 s1 => k.nx σ σd H1 h1 (R.stp s1) (s1.im R.src)
/-! ### stores -/
section
variable {H H' : Hp} {σ : L2.St} {σd : Sd}
theorem set_at {α : Type} (l : List α) (i j : Nat) (a : α) : (l.set i a)[j]? = if i = j then (if j < l.length then some a else none) else l[j]? := by
  rw [List.getElem?_set]
  by_cases h : i = j
  · subst h
    rw [if_pos rfl]
  · rw [if_neg h, if_neg h]
theorem Rel.set {i : Nat} {v : V} {x : Cell} (R : Rel K s c H0 σ H σd) (h : CellR K s c H v x) (hn : looseC (some x) = true → ∀ a, v = .ref a → H0 a = none)
    (ha : looseC (some x) = true → ∀ a, v = .ref a → ∀ j, j ≠ i → looseC ((σd[j]?).join) = true → σ[j]? ≠ some (some (.ref a))) (hro : roC (some x) = true → ∀ a, v = .ref a → H0 a ≠ none := by exact fun z => nomatch z) : Rel K s c H0 (σ.set i (some v)) H (σd.set i (some x)) := by
  have hl := R.len
  refine ⟨R.src, R.kp0, by rw [List.length_set, List.length_set, hl], fun j u hj => ?_, fun j a hj lo => ?_, fun j k a hjk lj lk hj hk => ?_, fun j a hj lo => ?_⟩
  · rw [set_at] at hj ⊢
    by_cases e : i = j
    · rw [if_pos e] at hj ⊢
      rw [← hl]
      by_cases q : j < σ.length
      · rw [if_pos q] at hj ⊢
        cases hj
        exact ⟨_, rfl, h⟩
      · rw [if_neg q] at hj
        cases hj
    · rw [if_neg e] at hj ⊢
      exact R.slot j u hj
  · rw [set_at] at hj lo
    by_cases e : i = j
    · rw [if_pos e] at hj lo
      rw [← hl] at lo
      by_cases q : j < σ.length
      · rw [if_pos q] at hj lo
        have : v = .ref a := Option.some.inj (Option.some.inj hj)
        exact hn lo a this
      · rw [if_neg q] at hj
        cases hj
    · rw [if_neg e] at hj lo
      exact R.new j a hj lo
  · rw [set_at] at hj hk lj lk
    by_cases e : i = j
    · have e2 : ¬ i = k := fun z => hjk (e.symm.trans z)
      rw [if_pos e] at hj lj
      rw [if_neg e2] at hk lk
      rw [← hl] at lj
      by_cases q : j < σ.length
      · rw [if_pos q] at hj lj
        have : v = .ref a := Option.some.inj (Option.some.inj hj)
        exact ha lj a this k (fun z => e2 z.symm) lk hk
      · rw [if_neg q] at hj
        cases hj
    · rw [if_neg e] at hj lj
      by_cases e2 : i = k
      · rw [if_pos e2] at hk lk
        rw [← hl] at lk
        by_cases q : k < σ.length
        · rw [if_pos q] at hk lk
          have : v = .ref a := Option.some.inj (Option.some.inj hk)
          exact ha lk a this j (fun z => e z.symm) lj hj
        · rw [if_neg q] at hk
          cases hk
      · rw [if_neg e2] at hk lk
        exact R.apart j k a hjk lj lk hj hk
  · rw [set_at] at hj lo
    by_cases e : i = j
    · rw [if_pos e] at hj lo
      rw [← hl] at lo
      by_cases q : j < σ.length
      · rw [if_pos q] at hj lo
        have : v = .ref a := Option.some.inj (Option.some.inj hj)
        exact hro lo a this
      · rw [if_neg q] at hj
        cases hj
    · rw [if_neg e] at hj lo
      exact R.old j a hj lo
theorem Rel.setD {i : Nat} {v : V} {d : D} (R : Rel K s c H0 σ H σd) (h : DR K s H v d) : Rel K s c H0 (σ.set i (some v)) H (σd.set i (some (.dat d))) :=
  R.set (x := .dat d) h (fun z => nomatch z) (fun z => nomatch z)
end
/-- what may change or is lent stands as it stood -/
def Stand (σ : L2.St) (σd : Sd) (σ' : L2.St) (σd' : Sd) : Prop := ∀ j : Nat, (looseC ((σd'[j]?).join) = true ∨ roC ((σd'[j]?).join) = true) → σ'[j]? = σ[j]? ∧ σd'[j]? = σd[j]?
theorem Stand.refl (σ : L2.St) (σd : Sd) : Stand σ σd σ σd := fun _ _ => ⟨rfl, rfl⟩
theorem Stand.trans {σ σ1 σ2 : L2.St} {σd σd1 σd2 : Sd} (a : Stand σ σd σ1 σd1) (b : Stand σ1 σd1 σ2 σd2) : Stand σ σd σ2 σd2 := fun j h => by
  obtain ⟨h1, h2⟩ := b j h
  rw [h2] at h
  obtain ⟨h3, h4⟩ := a j h
  exact ⟨h1.trans h3, h2.trans h4⟩
theorem Stand.set {σ : L2.St} {σd : Sd} {i : Nat} {v : Option V} {d : D} : Stand σ σd (σ.set i v) (σd.set i (some (.dat d))) := fun j h => by
  rw [set_at] at h
  by_cases e : i = j
  · rw [if_pos e] at h
    by_cases q : j < σd.length
    · rw [if_pos q] at h
      rcases h with h | h <;> cases h
    · rw [if_neg q] at h
      rcases h with h | h <;> cases h
  · rw [set_at, set_at, if_neg e, if_neg e]
    exact ⟨rfl, rfl⟩
/-- targets: ts are the slots that may change -/
abbrev PGx := D → Sd → (Sd → Prop) → Prop
def LG (K : PySem.W.Frag) (s c : Addr) (H0 : Hp) (g : TG) (p : PGx) (ts : List Nat) : Prop := ∀ (σ : L2.St) (σd : Sd) (H : Hp) (v : V) (d : D) (Q : L2.St → Hp → Prop) (P : Sd → Prop), Rel K s c H0 σ H σd → DR K s H v d → p d σd P →
  (∀ σ' σd', P σd' → Rel K s c H0 σ' H σd' → σ'.length = σ.length → (∀ j, j ∉ ts → σ'[j]? = σ[j]?) → Stand σ σd σ' σd' → Q σ' H) → g v σ H Q
def pgName (i : Nat) : PGx := fun d σd P => P (σd.set i (some (.dat d)))
theorem G_name (i : Nat) : LG K s c H0 (gName i) (pgName i) [i] := fun σ σd H v d Q P R hd h k =>
  k _ _ h (R.setD hd) (List.length_set ..) (fun j hj => by
    rw [set_at, if_neg (fun z => hj (by rw [z]; exact List.mem_singleton.mpr rfl))]) .set
def LGs (K : PySem.W.Frag) (s c : Addr) (H0 : Hp) (g : TGs) (p : List D → Sd → (Sd → Prop) → Prop) (ts : List Nat) : Prop := ∀ (σ : L2.St) (σd : Sd) (H : Hp) (vs : List V) (ds : List D) (Q : L2.St → Hp → Prop) (P : Sd → Prop), Rel K s c H0 σ H σd → DRs K s H vs ds → p ds σd P →
  (∀ σ' σd', P σd' → Rel K s c H0 σ' H σd' → σ'.length = σ.length → (∀ j, j ∉ ts → σ'[j]? = σ[j]?) → Stand σ σd σ' σd' → Q σ' H) → g vs σ H Q
def pgNil : List D → Sd → (Sd → Prop) → Prop := fun ds σd P => ds = [] ∧ P σd
def pgCons (a : PGx) (b : List D → Sd → (Sd → Prop) → Prop) : List D → Sd → (Sd → Prop) → Prop := fun ds σd P => ∃ d r, ds = d :: r ∧ a d σd fun σd' => b r σd' P
theorem G_nil : LGs K s c H0 gNil pgNil [] := fun σ σd H vs ds Q P R hd h k => by
  obtain ⟨rfl, h⟩ := h
  cases hd
  exact ⟨rfl, k _ _ h R rfl (fun _ _ => rfl) (.refl _ _)⟩
theorem G_cons {g : TG} {gs : TGs} {a : PGx} {b : List D → Sd → (Sd → Prop) → Prop} {ts us : List Nat} (ha : LG K s c H0 g a ts) (hb : LGs K s c H0 gs b us) : LGs K s c H0 (gCons g gs) (pgCons a b) (ts ++ us) := fun σ σd H vs ds Q P R hd h k => by
  obtain ⟨d, r, rfl, h⟩ := h
  cases hd with
  | cons x xs =>
    refine ⟨_, _, rfl, ha σ σd H _ d _ _ R x h fun σ1 σd1 h1 R1 l1 k1 st1 => ?_⟩
    refine hb σ1 σd1 H _ r _ _ R1 xs h1 fun σ2 σd2 h2 R2 l2 k2 st2 => k σ2 σd2 h2 R2 (l2.trans l1) (fun j hj => ?_) (st1.trans st2)
    rw [k2 j (fun z => hj (List.mem_append_right _ z)), k1 j (fun z => hj (List.mem_append_left _ z))]
def pgTup (b : List D → Sd → (Sd → Prop) → Prop) : PGx := fun d σd P => ∃ ds, d = .tup ds ∧ b ds σd P
theorem G_tup {n : Nat} {gs : TGs} {b : List D → Sd → (Sd → Prop) → Prop} {ts : List Nat} (hb : LGs K s c H0 gs b ts) (hn : ∀ ds σd P, b ds σd P → ds.length = n) : LG K s c H0 (gTup K n gs) (pgTup b) ts := fun σ σd H v d Q P R hd h k => by
  obtain ⟨ds, rfl, h⟩ := h
  cases hd with
  | tup h1 r1 =>
    refine ⟨_, _, rfl, .inl (.inl h1), by rw [r1.len]; exact hn _ _ _ h, ?_⟩
    exact hb σ σd H _ ds _ _ R r1 h k
theorem glen_nil {ds : List D} {σd : Sd} {P : Sd → Prop} (h : pgNil ds σd P) : ds.length = 0 := by rw [h.1]; rfl
theorem glen_cons {n : Nat} {a : PGx} {b : List D → Sd → (Sd → Prop) → Prop} (hb : ∀ ds σd P, b ds σd P → ds.length = n) (hm : ∀ d σd P, a d σd P → ∃ σd', P σd') {ds : List D} {σd : Sd} {P : Sd → Prop} (h : pgCons a b ds σd P) : ds.length = n + 1 := by
  obtain ⟨d, r, rfl, h⟩ := h
  obtain ⟨σd', h⟩ := hm _ _ _ h
  rw [List.length_cons, hb _ _ _ h]
theorem name_some (i : Nat) (d : D) (σd : Sd) (P : Sd → Prop) (h : pgName i d σd P) : ∃ σd', P σd' := ⟨_, h⟩
def pAsg (a : PEx) (g : PGx) : PSx := fun e σd => a σd fun x => ∃ d, x = .dat d ∧ g d σd e.nx
theorem S_asg {t : TE} {g : TG} {a : PEx} {p : PGx} {ts : List Nat} (ha : LE K s c H0 t a) (hg : LG K s c H0 g p ts) : LS K s c H0 (tAsg t g) (pAsg a p) := fun σ σd H E e R h k => by
  refine ha σ σd H _ _ R h fun x v H1 h1 r1 s1 => ?_
  obtain ⟨d, rfl, h⟩ := h1
  exact hg σ σd H1 v d _ _ (R.stp s1) r1 h fun σ' σd' h2 R2 _ _ _ => k.nx σ' σd' H1 h2 R2 (s1.im R.src)
/-- x = a new list that will change -/
def pNew (a : PNx) (i : Nat) : PSx := fun e σd => a σd fun ds => e.nx (σd.set i (some (.lm ds)))
theorem S_new {t : TE} {a : PNx} (i : Nat) (ha : LN K s c H0 t a) : LS K s c H0 (tAsg t (gName i)) (pNew a i) := fun σ σd H E e R h k => by
  refine ha σ σd H _ _ R h fun ds a vs H1 h1 hv hn hd st => ?_
  have nn := R.src.ne hn
  have n0 : H0 a = none := Kp.none R.kp0 nn.1 hn
  refine k.nx _ _ H1 h1 ((R.stp st).set (x := .lm ds) ⟨a, vs, rfl, hv, hd, nn⟩ (fun _ b eb => by cases eb; exact n0) (fun _ b eb j nj lj hj => ?_)) (st.im R.src)
  cases eb
  -- the slot j holds a loose thing of H
  obtain ⟨x, hx, hr⟩ := R.slot j _ hj
  rw [hx] at lj
  cases x with
  | none => cases lj
  | some x =>
    cases x with
    | dat d => cases lj
    | lm es =>
      obtain ⟨b, us, eb, hb, _⟩ := hr
      cases eb
      rw [hn] at hb
      cases hb
    | dm es =>
      obtain ⟨b, us, eb, hb, _⟩ := hr
      cases eb
      rw [hn] at hb
      cases hb
    | tm es =>
      obtain ⟨b, us, eb, hb, _⟩ := hr
      cases eb
      rw [hn] at hb
      cases hb
    | om x C es =>
      obtain ⟨dx, us, eb, hb, _⟩ := hr
      cases eb
      rw [hn] at hb
      cases hb
    | un => cases lj
    | ex a cls d x => cases lj
    | rl ds => cases lj
    | rd ds => cases lj
    | rt ds => cases lj
end
end My


/-! Q5: what changes, loops, comprehensions. -/
namespace My
open PySem PySem.Spec PyProof.Rows L2
section
variable {K : PySem.W.Frag} {s c : Addr} {H0 H H' : Hp} {σ : L2.St} {σd : Sd}
theorem loose_at {i l : Nat} {v : V} {x : Cell} (h : CellR K s c H v x) (lo : looseC (some x) = true) : ∃ a, v = .ref a ∧ Loose H a ∧ a ≠ s ∧ a ≠ c := by
  cases x with
  | dat d => cases lo
  | lm ds => obtain ⟨a, vs, rfl, ha, _, h1, h2⟩ := h; exact ⟨a, rfl, ⟨_, ha, rfl⟩, h1, h2⟩
  | dm ds => obtain ⟨a, vs, rfl, ha, _, h1, h2⟩ := h; exact ⟨a, rfl, ⟨_, ha, rfl⟩, h1, h2⟩
  | tm ds => obtain ⟨a, vs, rfl, ha, _, h1, h2⟩ := h; exact ⟨a, rfl, ⟨_, ha, rfl⟩, h1, h2⟩
  | om x C ds => obtain ⟨dx, vs, rfl, ha, _, h1, h2⟩ := h; exact ⟨x, rfl, ⟨_, ha, rfl⟩, h1, h2⟩
  | un => cases lo
  | ex a cls d x => cases lo
  | rl ds => cases lo
  | rd ds => cases lo
  | rt ds => cases lo
/-- the thing of slot i is written -/
theorem Rel.write {i : Nat} {l : Addr} {x x' : Cell} {o : HO} (R : Rel K s c H0 σ H σd) (hi : σ[i]? = some (some (.ref l))) (hx : σd[i]? = some (some x)) (lo : looseC (some x) = true)
    (hc : CellR K s c (upd H l o) (.ref l) x') (hro : roC (some x') = false := by rfl) : Rel K s c H0 σ (upd H l o) (σd.set i (some x')) := by
  obtain ⟨y, hy, hr⟩ := R.slot i _ hi
  rw [hx] at hy
  cases hy
  obtain ⟨a, ea, hl, n1, n2⟩ := loose_at (i := 0) (l := 0) hr lo
  cases ea
  have kl : Kp l H (upd H l o) := Kp.self
  have im := kl.im hl
  have lo' : ∀ j, looseC (((σd.set i (some x'))[j]?).join) = true → looseC ((σd[j]?).join) = true := fun j h => by
    rw [set_at] at h
    by_cases e : i = j
    · subst e
      rw [hx]
      exact lo
    · rw [if_neg e] at h
      exact h
  refine ⟨R.src.kp n1.symm n2.symm kl, R.kp0.via (R.new i l hi (by rw [hx]; exact lo)) kl, by rw [List.length_set]; exact R.len, fun j v hj => ?_, fun j a hj h => R.new j a hj (lo' j h), fun j k a n h1 h2 => R.apart j k a n (lo' j h1) (lo' k h2), fun j a hj h => ?_⟩
  rotate_left
  · rw [set_at] at h
    by_cases e : i = j
    · subst e
      rw [if_pos rfl] at h
      by_cases q : i < σd.length
      · rw [if_pos q] at h
        rw [show (some (some x')).join = some x' from rfl, hro] at h
        cases h
      · rw [if_neg q] at h
        cases h
    · rw [if_neg e] at h
      exact R.old j a hj h
  rw [set_at]
  by_cases e : i = j
  · subst e
    rw [if_pos rfl, if_pos (by rw [← R.len]; exact (List.getElem?_eq_some_iff.mp hi).1)]
    rw [hi] at hj
    cases hj
    exact ⟨_, rfl, hc⟩
  · rw [if_neg e]
    obtain ⟨y, hy, hr2⟩ := R.slot j v hj
    refine ⟨y, hy, ?_⟩
    cases v with
    | none => cases y with
      | none => trivial
      | some y => exact hr2
    | some v => cases y with
      | none => exact hr2
      | some y =>
        cases y with
        | dat d => exact DR.im im hr2
        | lm es =>
          obtain ⟨b, us, rfl, hb, hd, q1, q2⟩ := hr2
          have nb : b ≠ l := fun z => by
            subst z
            exact R.apart i j _ e (by rw [hx]; exact lo) (by rw [hy]; rfl) hi hj
          exact ⟨b, us, rfl, kl _ _ nb hb, hd.im im, q1, q2⟩
        | dm es =>
          obtain ⟨b, us, rfl, hb, hd, q1, q2⟩ := hr2
          have nb : b ≠ l := fun z => by
            subst z
            exact R.apart i j _ e (by rw [hx]; exact lo) (by rw [hy]; rfl) hi hj
          exact ⟨b, us, rfl, kl _ _ nb hb, hd.im im, q1, q2⟩
        | tm es =>
          obtain ⟨b, us, rfl, hb, hd, q1, q2⟩ := hr2
          have nb : b ≠ l := fun z => by
            subst z
            exact R.apart i j _ e (by rw [hx]; exact lo) (by rw [hy]; rfl) hi hj
          exact ⟨b, us, rfl, kl _ _ nb hb, hd.im im, q1, q2⟩
        | om b C es =>
          obtain ⟨dx, us, rfl, hb, hd, q1, q2⟩ := hr2
          have nb : b ≠ l := fun z => by
            subst z
            exact R.apart i j _ e (by rw [hx]; exact lo) (by rw [hy]; rfl) hi hj
          exact ⟨dx, us, rfl, kl _ _ nb hb, hd.im im, q1, q2⟩
        | un => trivial
        | ex a cls d x => exact ⟨hr2.1, hr2.2.im im⟩
        | rl es =>
          obtain ⟨b, us, rfl, hb, hd, q1, q2⟩ := hr2
          have nb : b ≠ l := fun z => by
            subst z
            exact R.old j _ hj (by rw [hy]; rfl) (R.new i _ hi (by rw [hx]; exact lo))
          exact ⟨b, us, rfl, kl _ _ nb hb, hd.im im, q1, q2⟩
        | rd es =>
          obtain ⟨b, us, rfl, hb, hd, q1, q2⟩ := hr2
          have nb : b ≠ l := fun z => by
            subst z
            exact R.old j _ hj (by rw [hy]; rfl) (R.new i _ hi (by rw [hx]; exact lo))
          exact ⟨b, us, rfl, kl _ _ nb hb, hd.im im, q1, q2⟩
        | rt es =>
          obtain ⟨b, us, rfl, hb, hd, q1, q2⟩ := hr2
          have nb : b ≠ l := fun z => by
            subst z
            exact R.old j _ hj (by rw [hy]; rfl) (R.new i _ hi (by rw [hx]; exact lo))
          exact ⟨b, us, rfl, kl _ _ nb hb, hd.im im, q1, q2⟩
end
section
variable {K : PySem.W.Frag} {s c : Addr} {H0 : Hp}
/-! ### xs.append(e), the list locked for good -/
def pApp (i : Nat) (a : PEx) : PSx := fun e σd => ∃ ds, σd[i]? = some (some (.lm ds)) ∧ a σd fun x => ∃ d, x = .dat d ∧ ds.length ≤ 100000 ∧ e.nx (σd.set i (some (.lm (ds ++ [d]))))
theorem S_app {t : TE} {a : PEx} (i : Nat) (ha : LE K s c H0 t a) : LS K s c H0 (tDrop (tBM K "list" rAppend (tVar i) (tCons t tNil))) (pApp i a) := fun σ σd H E e R h k => by
  obtain ⟨ds, hi, h⟩ := h
  obtain ⟨v, hv, hr⟩ := R.at hi
  obtain ⟨l, vs, rfl, hl, hd, n1, n2⟩ := id hr
  refine ⟨_, hv, .inl ⟨rfl, _, SqL.of hl⟩, ?_⟩
  refine ha σ σd H _ _ R h fun x w H1 h1 r1 s1 => ?_
  obtain ⟨d, rfl, hz, h2⟩ := h1
  have R1 := R.stp s1
  obtain ⟨l', vs', e', hl1, hd1, _⟩ := hr.stp R.src s1
  cases e'
  have kl : Kp l H1 (upd H1 l (.lst (vs' ++ [w]))) := Kp.self
  have im := kl.im ⟨_, hl1, rfl⟩
  refine ⟨l, vs', w, rfl, rfl, hl1, Nat.lt_of_le_of_lt (by rw [hd1.len]; exact hz) (by decide), ?_⟩
  exact k.nx σ _ _ h2 (R1.write hv hi rfl ⟨l, _, rfl, upd_same, (hd1.im im).snoc (DR.im im r1), n1, n2⟩) ((s1.im R.src).trans im)
/-- the list in slot i is locked for good, then the statement -/
def tFrzS (i : Nat) (t : TS) : TS := fun E σ H => ∃ (a : Addr) (u : HO), σ[i]? = some (some (.ref a)) ∧ H a = some u ∧ Mut (some u) ∧ ∀ o, t E σ (upd H a (.frz o u))
theorem ps_frz {X : Cx} {st : Stmt} {t : TS} (i : Nat) (h : PS X st t) : PS X st (tFrzS i t) := by
  refine ⟨fun pins s σ H E I hq => ?_⟩
  obtain ⟨a, u, _, ea, mu, q⟩ := hq
  obtain ⟨od, I2⟩ := I.lock ea mu
  exact h.run pins s σ _ E I2 (q od)
def pFrzS (i : Nat) (p : PSx) : PSx := fun e σd => ∃ ds, σd[i]? = some (some (.lm ds)) ∧ p e (σd.set i (some (.dat (.lst ds))))
theorem S_frz {t : TS} {p : PSx} (i : Nat) (hp : LS K s c H0 t p) : LS K s c H0 (tFrzS i t) (pFrzS i p) := fun σ σd H E e R h k => by
  obtain ⟨ds, hi, h⟩ := h
  obtain ⟨v, hv, hr⟩ := R.at hi
  obtain ⟨l, vs, rfl, hl, hd, n1, n2⟩ := id hr
  refine ⟨l, _, hv, hl, trivial, fun o => ?_⟩
  have kl : Kp l H (upd H l (.frz o (.lst vs))) := Kp.self
  have im := kl.im ⟨_, hl, rfl⟩
  have w := R.write (x' := .dat (.lst ds)) (o := .frz o (.lst vs)) hv hi rfl (.lst upd_same (hd.im im))
  exact hp σ _ _ E e w h (k.im im)
/-! ### loops -/
def LI (K : PySem.W.Frag) (s c : Addr) (H0 : Hp) (ti : TI) (p : PNx) : Prop := ∀ (σ : L2.St) (σd : Sd) (H : Hp) (R : It → Hp → Prop) (P : List D → Prop), Rel K s c H0 σ H σd → p σd P →
  (∀ (ds : List D) (J : It) (G : Hp → Prop) (Y : Nat → Hp → V → Hp → Prop) (H' : Hp), P ds → Stp s c H H' → Walk J ds.length G Y → G H' → (∀ H1 H2, Im H1 H2 → G H1 → G H2) →
    (∀ i H1 x H2, i < ds.length → Im H' H1 → G H1 → Y i H1 x H2 → Same H1 H2 ∧ ∃ d, ds[i]? = some d ∧ DR K s H2 x d) → R J H') → ti σ H R
def pIL (a : PEx) : PNx := fun σd P => a σd fun x => ∃ ds, x = .dat (.lst ds) ∧ P ds
theorem I_list {t : TE} {a : PEx} (ha : LE K s c H0 t a) : LI K s c H0 (iList K t) (pIL a) := fun σ σd H R P Rl h k => by
  refine ha σ σd H _ _ Rl h fun x v H1 h1 r1 s1 => ?_
  obtain ⟨ds, rfl, h⟩ := h1
  cases r1 with
  | @lst l o vs _ hl hd =>
    refine ⟨l, rfl, ⟨vs, .inl (.inr ⟨o, hl⟩)⟩, ?_⟩
    have w : Walk (Itl K l) ds.length (fun H => H l = some (.frz o (.lst vs))) (YAt vs) := by
      rw [← hd.len]
      exact walk_list.mono (fun H h => .inl (.inr ⟨o, h⟩)) fun i H x H' _ _ y => y
    refine k ds _ _ _ H1 h s1 w hl (fun A B im h => frz_im im h) fun i A x B hi im hG y => ?_
    obtain ⟨e, hx⟩ := y
    subst e
    obtain ⟨d, h1, h2⟩ := (hd.im im).get hx
    exact ⟨Same.refl _, d, h1, h2⟩
def pIT (a : PEx) : PNx := fun σd P => a σd fun x => ∃ ds, x = .dat (.tup ds) ∧ P ds
theorem I_tup {t : TE} {a : PEx} (ha : LE K s c H0 t a) : LI K s c H0 (iTup K t) (pIT a) := fun σ σd H R P Rl h k => by
  refine ha σ σd H _ _ Rl h fun x v H1 h1 r1 s1 => ?_
  obtain ⟨ds, rfl, h⟩ := h1
  cases r1 with
  | @tup l vs _ hl hd =>
    have hl : SqT K H1 l vs := .inl (.inl hl)
    refine ⟨l, rfl, ⟨vs, hl⟩, ?_⟩
    have w : Walk (Itt K l) ds.length (fun H => SqT K H l vs) (YAt vs) := by
      rw [← hd.len]
      exact walk_tup
    refine k ds _ _ _ H1 h s1 w hl (fun A B im h => sqT_im im h) fun i A x B hi im hG y => ?_
    obtain ⟨e, hx⟩ := y
    subst e
    obtain ⟨d, h1, h2⟩ := (hd.im im).get hx
    exact ⟨Same.refl _, d, h1, h2⟩
/-- the signs of a text -/
def signsD (z : Str) : List D := z.cps.toList.map fun c => .str ⟨#[c]⟩
def pIS (a : PEx) : PNx := fun σd P => a σd fun x => ∃ z, x = cS z ∧ P (signsD z)
theorem I_str {t : TE} {a : PEx} (ha : LE K s c H0 t a) : LI K s c H0 (iStr t) (pIS a) := fun σ σd H R P Rl h k => by
  refine ha σ σd H _ _ Rl h fun x v H1 h1 r1 s1 => ?_
  obtain ⟨z, rfl, h⟩ := h1
  refine ⟨z, str_eq r1, ?_⟩
  have w : Walk (Its z) (signsD z).length (fun _ => True) (fun i H v H' => H' = H ∧ ∃ c, z.cps[i]? = some c ∧ v = .str ⟨#[c]⟩) := by
    unfold signsD
    rw [List.length_map, Array.length_toList]
    exact walk_str
  refine k (signsD z) _ _ _ H1 h s1 w trivial (fun A B im h => trivial) fun i A x B hi im hG y => ?_
  obtain ⟨e, d, hc, hx⟩ := y
  subst e hx
  refine ⟨Same.refl _, .str ⟨#[d]⟩, ?_, .str _⟩
  unfold signsD
  rw [List.getElem?_map, Array.getElem?_toList, hc]
  rfl
def rangeD (n : Int) : List D := (List.range n.toNat).map fun (i : Nat) => .int (i : Int)
def pIR (a : PAx) : PNx := fun σd P => a σd fun xs => ∃ n : Int, xs = [cI n] ∧ n ≤ 100000 ∧ -100000 ≤ n ∧ P (rangeD n)
theorem I_rng1 {t : TA} {a : PAx} (ha : LA K s c H0 t a) : LI K s c H0 (iRng1 t) (pIR a) := fun σ σd H R P Rl h k => by
  refine ha σ σd H _ _ Rl h fun xs vs H1 h1 r1 s1 => ?_
  obtain ⟨n, rfl, hn1, hn2, h⟩ := h1
  obtain ⟨v, rfl, hv⟩ := one_of r1
  rw [int_eq hv]
  refine ⟨n, rfl, by omega, by omega, ?_⟩
  have w : Walk (Itr 0 n.toNat) (rangeD n).length (fun _ => True) (YFn fun i => .int (0 + i)) := by
    unfold rangeD
    rw [List.length_map, List.length_range]
    exact walk_range
  refine k (rangeD n) _ _ _ H1 h s1 w trivial (fun A B im h => trivial) fun i A x B hi im hG y => ?_
  obtain ⟨e, hx⟩ := y
  subst e hx
  refine ⟨Same.refl _, .int (i : Int), ?_, by show DR K s B (V.int (0 + (i : Int))) _; rw [Int.zero_add]; exact .int _⟩
  have hi : i < n.toNat := by
    unfold rangeD at hi
    rw [List.length_map, List.length_range] at hi
    exact hi
  unfold rangeD
  rw [List.getElem?_map, List.getElem?_range hi]
  rfl
/-- pairs of place and item -/
def enumD (ds : List D) : List D := ds.zipIdx.map fun p => .tup [.int (p.2 : Int), p.1]
theorem enumD_len (ds : List D) : (enumD ds).length = ds.length := by unfold enumD; rw [List.length_map, List.length_zipIdx]
theorem enumD_at {ds : List D} {i : Nat} {d : D} (h : ds[i]? = some d) : (enumD ds)[i]? = some (.tup [.int (i : Int), d]) := by
  unfold enumD
  rw [List.getElem?_map, List.getElem?_zipIdx, h]
  simp
def pIE (a : PAx) : PNx := fun σd P => a σd fun xs => ∃ ds, xs = [.dat (.lst ds)] ∧ P (enumD ds)
theorem I_enum {t : TA} {a : PAx} (ha : LA K s c H0 t a) : LI K s c H0 (iEnum K t) (pIE a) := fun σ σd H R P Rl h k => by
  refine ha σ σd H _ _ Rl h fun xs vs H1 h1 r1 s1 => ?_
  obtain ⟨ds, rfl, h⟩ := h1
  obtain ⟨v, rfl, hv⟩ := one_of r1
  cases hv with
  | @lst l o us _ hl hd =>
    refine ⟨l, us, rfl, .inl (.inr ⟨o, hl⟩), ?_⟩
    have w : Walk (Ite K l) (enumD ds).length (fun H => H l = some (.frz o (.lst us))) (YPair (fun i => some (.int (i : Nat))) (fun i => us[i]?)) := by
      rw [enumD_len, ← hd.len]
      exact walk_enum.mono (fun H h => .inl (.inr ⟨o, h⟩)) fun i H x H' _ _ y => y
    refine k (enumD ds) _ _ _ H1 h s1 w hl (fun A B im h => frz_im im h) fun i A x B hi im hG y => ?_
    obtain ⟨T, x1, y1, rfl, hT, rfl, e1, e2⟩ := y
    cases e1
    have sm := same_new (o := .tup [V.int ((i : Nat) : Int), y1]) hT
    obtain ⟨d, h3, h4⟩ := (hd.im im).get e2
    exact ⟨sm, _, enumD_at h3, .tup upd_same (.cons (.int _) (.cons (h4.im (Same.im sm)) .nil))⟩
def zipD (ds es : List D) : List D := (ds.zip es).map fun p => .tup [p.1, p.2]
theorem zipD_len (ds es : List D) : (zipD ds es).length = min ds.length es.length := by unfold zipD; rw [List.length_map, List.length_zip]
theorem zipD_at {ds es : List D} {i : Nat} {d e : D} (h : ds[i]? = some d) (h2 : es[i]? = some e) : (zipD ds es)[i]? = some (.tup [d, e]) := by
  unfold zipD
  rw [List.getElem?_map, List.getElem?_zip_eq_some (z := (d, e)) |>.mpr ⟨h, h2⟩]
  rfl
def pIZ (a : PAx) : PNx := fun σd P => a σd fun xs => ∃ ds es, xs = [.dat (.lst ds), .dat (.lst es)] ∧ P (zipD ds es)
theorem two_of {s c : Addr} {H : Hp} {vs : List V} {x y : Cell} (h : CellsR K s c H vs [x, y]) : ∃ v w, vs = [v, w] ∧ CellR K s c H v x ∧ CellR K s c H w y := by
  cases h with
  | cons h r => cases r with
    | cons h2 r2 => cases r2; exact ⟨_, _, rfl, h, h2⟩
theorem I_zip {t : TA} {a : PAx} (ha : LA K s c H0 t a) : LI K s c H0 (iZip K t) (pIZ a) := fun σ σd H R P Rl h k => by
  refine ha σ σd H _ _ Rl h fun xs vs H1 h1 r1 s1 => ?_
  obtain ⟨ds, es, rfl, h⟩ := h1
  obtain ⟨v, u, rfl, hv, hu⟩ := two_of r1
  cases hv with
  | @lst l o us _ hl hd =>
    cases hu with
    | @lst m o2 ws _ hm he =>
      refine ⟨l, m, us, ws, rfl, .inl (.inr ⟨o, hl⟩), .inl (.inr ⟨o2, hm⟩), ?_⟩
      have w : Walk (Itz K l m) (zipD ds es).length (fun H => H l = some (.frz o (.lst us)) ∧ H m = some (.frz o2 (.lst ws))) (YPair (fun i => us[i]?) (fun i => ws[i]?)) := by
        refine (walk_zip (n := (zipD ds es).length) ?_).mono (fun H h => ⟨.inl (.inr ⟨o, h.1⟩), .inl (.inr ⟨o2, h.2⟩)⟩) fun i H x H' _ _ y => y
        rw [zipD_len, ← hd.len, ← he.len]
      refine k (zipD ds es) _ _ _ H1 h s1 w ⟨hl, hm⟩ (fun A B im h => ⟨frz_im im h.1, frz_im im h.2⟩) fun i A x B hi im hG y => ?_
      obtain ⟨T, x1, y1, rfl, hT, rfl, e1, e2⟩ := y
      have sm := same_new (o := .tup [x1, y1]) hT
      obtain ⟨d, h3, h4⟩ := (hd.im im).get e1
      obtain ⟨d2, h5, h6⟩ := (he.im im).get e2
      exact ⟨sm, _, zipD_at h3 h5, .tup upd_same (.cons (h4.im (Same.im sm)) (.cons (h6.im (Same.im sm)) .nil))⟩
/-- for: inv by the turn and the slots -/
def pFor (it : PNx) (g : PGx) (b : PSx) : PSx := fun e σd => it σd fun ds => ∃ inv : Nat → Sd → Prop, inv 0 σd ∧ (∀ i d σd', ds[i]? = some d → inv i σd' → g d σd' fun σd2 => b { e with nx := inv (i + 1), ct := inv (i + 1), bk := e.nx } σd2) ∧ ∀ σd', inv ds.length σd' → e.nx σd'
theorem S_for {ti : TI} {g : TG} {tb : TS} {it : PNx} {pg : PGx} {b : PSx} {ts : List Nat} (hi : LI K s c H0 ti it) (hg : LG K s c H0 g pg ts) (hb : LS K s c H0 tb b) : LS K s c H0 (tFor ti g tb) (pFor it pg b) := fun σ σd H E e R h k => by
  refine hi σ σd H _ _ R h fun ds J G Y H1 h1 s1 w g0 gp hy => ?_
  obtain ⟨inv, i0, turn, fin⟩ := h1
  refine for_it w (fun i σ' H' => ∃ σd', inv i σd' ∧ Rel K s c H0 σ' H' σd' ∧ Im H1 H') ⟨σd, i0, R.stp s1, Im.refl _⟩ (fun i σ' H' _ ⟨_, _, _, im⟩ => gp _ _ im g0) ?_ ?_
  · rintro i x σ' A B hlt ⟨σd', hinv, R', im⟩ y
    obtain ⟨sm, d, hd, hr⟩ := hy i A x B hlt im (gp _ _ im g0) y
    have R2 : Rel K s c H0 σ' B σd' := R'.stp (.same R'.src sm)
    refine hg σ' σd' B x d _ _ R2 hr (turn i d σd' hd hinv) fun σ2 σd2 h2 R3 _ _ _ => ?_
    refine hb σ2 σd2 B _ _ R3 h2 ⟨fun σ3 σd3 C h3 R4 im2 => ⟨σd3, h3, R4, (im.trans (Same.im sm)).trans im2⟩, k.rt, fun σ3 σd3 C h3 R4 im2 => k.nx σ3 σd3 C h3 R4 ((s1.im R.src).trans ((im.trans (Same.im sm)).trans im2)), fun σ3 σd3 C h3 R4 im2 => ⟨σd3, h3, R4, (im.trans (Same.im sm)).trans im2⟩, k.rn⟩
  · rintro σ' A ⟨σd', hinv, R', im⟩
    exact k.nx σ' σd' A (fin σd' hinv) R' ((s1.im R.src).trans im)
/-- while: inv with a measure -/
def pWhile (t : PTx) (b : PSx) : PSx := fun e σd => ∃ inv : Nat → Sd → Prop, (∃ m, inv m σd) ∧ ∀ m σd', inv m σd' → t σd' fun x => if x = true then b { e with nx := fun σd2 => ∃ m', m' < m ∧ inv m' σd2, ct := fun σd2 => ∃ m', m' < m ∧ inv m' σd2, bk := e.nx } σd' else e.nx σd'
theorem S_while {tc : TT} {tb : TS} {t : PTx} {b : PSx} (ht : LT K s c H0 tc t) (hb : LS K s c H0 tb b) : LS K s c H0 (tWhile tc tb) (pWhile t b) := fun σ σd H E e R h k => by
  obtain ⟨inv, ⟨m0, i0⟩, turn⟩ := h
  refine ⟨fun m σ' H' => ∃ σd', inv m σd' ∧ Rel K s c H0 σ' H' σd' ∧ Im H H', ⟨m0, σd, i0, R, Im.refl _⟩, ?_⟩
  rintro m σ' A ⟨σd', hinv, R', im⟩
  refine ht σ' σd' A _ _ R' (turn m σd' hinv) fun x B h1 s1 => ?_
  cases x with
  | false => exact k.nx σ' σd' B h1 (R'.stp s1) (im.trans (s1.im R'.src))
  | true =>
    refine ⟨fun σ2 C => ∃ m', m' < m ∧ ∃ σd2, inv m' σd2 ∧ Rel K s c H0 σ2 C σd2 ∧ Im H C, fun σ2 C ⟨m', h1, h2⟩ => ⟨m', h1, h2⟩, ?_⟩
    have im1 := im.trans (s1.im R'.src)
    exact hb σ' σd' B _ _ (R'.stp s1) h1 ⟨fun σ3 σd3 C ⟨m', a1, a2⟩ R4 im2 => ⟨m', a1, σd3, a2, R4, im1.trans im2⟩, k.rt, fun σ3 σd3 C h3 R4 im2 => k.nx σ3 σd3 C h3 R4 (im1.trans im2), fun σ3 σd3 C ⟨m', a1, a2⟩ R4 im2 => ⟨m', a1, σd3, a2, R4, im1.trans im2⟩, k.rn⟩
end
end My


/-! Q6: comprehensions; a def's promise by its reading over plain values. -/
namespace My
open PySem PySem.Spec PyProof.Rows L2
def wipeD (σd : Sd) : List Nat → Sd
  | [] => σd
  | v :: vs => (wipeD σd vs).set v none
section
variable {K : PySem.W.Frag} {s c : Addr} {H0 H H' : Hp} {σ : L2.St} {σd : Sd}
theorem Rel.wipe1 {i : Nat} (R : Rel K s c H0 σ H σd) : Rel K s c H0 (σ.set i none) H (σd.set i none) := by
  have hl := R.len
  have lo : ∀ j, looseC (((σd.set i none)[j]?).join) = true → i ≠ j ∧ looseC ((σd[j]?).join) = true := fun j h => by
    rw [set_at] at h
    by_cases e : i = j
    · rw [if_pos e] at h
      by_cases q : j < σd.length
      · rw [if_pos q] at h; cases h
      · rw [if_neg q] at h; cases h
    · rw [if_neg e] at h
      exact ⟨e, h⟩
  refine ⟨R.src, R.kp0, by rw [List.length_set, List.length_set, hl], fun j u hj => ?_, fun j a hj h => ?_, fun j k a n h1 h2 hj hk => ?_, fun j a hj h => ?_⟩
  · rw [set_at] at hj ⊢
    by_cases e : i = j
    · rw [if_pos e] at hj ⊢
      rw [← hl]
      by_cases q : j < σ.length
      · rw [if_pos q] at hj ⊢
        cases hj
        exact ⟨_, rfl, trivial⟩
      · rw [if_neg q] at hj
        cases hj
    · rw [if_neg e] at hj ⊢
      exact R.slot j u hj
  · obtain ⟨e, h⟩ := lo j h
    rw [set_at, if_neg e] at hj
    exact R.new j a hj h
  · obtain ⟨e, h1⟩ := lo j h1
    obtain ⟨e2, h2⟩ := lo k h2
    rw [set_at, if_neg e] at hj
    rw [set_at, if_neg e2] at hk
    exact R.apart j k a n h1 h2 hj hk
  · rw [set_at] at hj h
    by_cases e : i = j
    · rw [if_pos e] at h
      by_cases q : j < σd.length
      · rw [if_pos q] at h; cases h
      · rw [if_neg q] at h; cases h
    · rw [if_neg e] at hj h
      exact R.old j a hj h
theorem Rel.wipe (R : Rel K s c H0 σ H σd) : ∀ vs : List Nat, Rel K s c H0 (wipe σ vs) H (wipeD σd vs)
  | [] => R
  | v :: vs => (R.wipe vs).wipe1
theorem wipe_at (σ : L2.St) (j : Nat) : ∀ vs : List Nat, (wipe σ vs)[j]? = if j ∈ vs then (if j < σ.length then some none else none) else σ[j]?
  | [] => by simp [wipe]
  | v :: vs => by
    unfold wipe
    rw [set_at, wipe_length, wipe_at σ j vs]
    by_cases e : v = j
    · rw [if_pos e, if_pos (show j ∈ v :: vs from by rw [e]; exact List.mem_cons_self)]
    · rw [if_neg e]
      by_cases q : j ∈ vs
      · rw [if_pos q, if_pos (List.mem_cons_of_mem _ q)]
      · rw [if_neg q, if_neg (fun z => by rcases List.mem_cons.mp z with z | z; exact e z.symm; exact q z)]
theorem wipe_back {σ σ2 : L2.St} {vs ts : List Nat} (hl : σ2.length = (wipe σ vs).length) (h : ∀ j, j ∉ ts → σ2[j]? = (wipe σ vs)[j]?) (sub : ∀ t ∈ ts, t ∈ vs) : wipe σ2 vs = wipe σ vs := by
  have hl2 : σ2.length = σ.length := by rw [hl, wipe_length]
  apply List.ext_getElem?
  intro j
  rw [wipe_at, wipe_at, hl2]
  by_cases q : j ∈ vs
  · rw [if_pos q, if_pos q]
  · rw [if_neg q, if_neg q, h j (fun z => q (sub j z)), wipe_at, if_neg q]
end
section
variable {K : PySem.W.Frag} {s c : Addr} {H0 : Hp}
/-- [e for g in it if t]: inv by the turn and the list so far -/
def pLc (it : PNx) (g : PGx) (t : PTx) (el : PEx) (vs : List Nat) : PNx := fun σd P => it σd fun ds => ds.length ≤ 100000 ∧ ∃ inv : Nat → List D → Prop, inv 0 [] ∧
  (∀ i d acc, ds[i]? = some d → inv i acc → g d (wipeD σd vs) fun σd2 => t σd2 fun b => if b = true then el σd2 fun x => ∃ y, x = .dat y ∧ inv (i + 1) (acc ++ [y]) else inv (i + 1) acc) ∧ ∀ acc, inv ds.length acc → P acc
theorem L_lc {ti : TI} {g : TG} {tt : TT} {te : TE} {it : PNx} {pg : PGx} {t : PTx} {el : PEx} {vs ts : List Nat} (hi : LI K s c H0 ti it) (hg : LG K s c H0 g pg ts) (ht : LT K s c H0 tt t) (he : LE K s c H0 te el) (sub : ∀ x ∈ ts, x ∈ vs := by decide) :
    LN K s c H0 (tLc ti g tt te vs) (pLc it pg t el vs) := fun σ σd H Q P R h k => by
  refine hi σ σd H _ _ R h fun ds J G Y H1 h1 s1 w g0 gp hy => ?_
  obtain ⟨hlen, inv, i0, turn, fin⟩ := h1
  intro L hL
  have nL := s1.src.ne hL
  have R1 := R.stp s1
  have hL0 : H0 L = none := Kp.none R1.kp0 nL.1 hL
  have hLH : H L = none := Kp.none s1.kp nL.1 hL
  have sm0 := same_new (o := .lst []) hL
  refine lc_it w (fun i A => ∃ acc us, inv i acc ∧ acc.length ≤ i ∧ A L = some (.lst us) ∧ DRs K s A us acc ∧ Rel K s c H0 σ A σd ∧ Im H1 A ∧ Kp s H A) ⟨[], [], i0, Nat.le_refl _, upd_same, .nil, R1.stp (.same s1.src sm0), Same.im sm0, s1.kp.trans (kp_same sm0)⟩
    (fun i A _ ⟨_, _, _, _, _, _, _, im, _⟩ => gp _ _ im g0) ?_ ?_
  · rintro i x A B hlt ⟨acc, us, hinv, hal, hA, hdr, RA, im, kpA⟩ y
    obtain ⟨sm, d, hd, hr⟩ := hy i A x B hlt im (gp _ _ im g0) y
    have RB : Rel K s c H0 σ B σd := RA.stp (.same RA.src sm)
    have imB := im.trans (Same.im sm)
    have hB : B L = some (.lst us) := sm _ _ hA
    refine hg (wipe σ vs) (wipeD σd vs) B x d _ _ (RB.wipe vs) hr (turn i d acc hd hinv) fun σ2 σd2 h2 R2 l2 k2 _ => ⟨wipe_back l2 k2 sub, ?_⟩
    refine ht σ2 σd2 B _ _ R2 h2 fun b C h3 s3 => ?_
    have hC : C L = some (.lst us) := s3.kp _ _ nL.1 hB
    have imC := imB.trans (s3.im R2.src)
    have RC := RB.stp s3
    have kpC : Kp s H C := (kpA.trans (kp_same sm)).trans s3.kp
    have hdC := hdr.im ((Same.im sm).trans (s3.im R2.src))
    cases b with
    | false =>
      rw [if_neg Bool.false_ne_true] at h3
      exact ⟨acc, us, h3, Nat.le_succ_of_le hal, hC, hdC, RC, imC, kpC⟩
    | true =>
      rw [if_pos rfl] at h3
      refine he σ2 σd2 C _ _ (R2.stp s3) h3 fun z v F h4 r4 s4 => ?_
      obtain ⟨e, rfl, h5⟩ := h4
      have hF : F L = some (.lst us) := s4.kp _ _ nL.1 hC
      have kl : Kp L F (upd F L (.lst (us ++ [v]))) := Kp.self
      have imL := kl.im ⟨_, hF, rfl⟩
      have RF := RC.stp s4
      have hdF := hdC.im (s4.im RC.src)
      refine ⟨us, hF, Nat.lt_of_le_of_lt (show us.length ≤ 100000 from by rw [hdF.len]; omega) (by decide), acc ++ [e], us ++ [v], h5, by rw [List.length_append, List.length_singleton]; omega, upd_same, (hdF.im imL).snoc (DR.im imL r4), ?_, (imC.trans (s4.im RC.src)).trans imL, (kpC.trans s4.kp).via hLH kl⟩
      -- the slots do not see the new list
      refine ⟨RF.src.kp nL.1.symm nL.2.symm kl, RF.kp0.via hL0 kl, RF.len, fun j u hj => ?_, RF.new, RF.apart, RF.old⟩
      obtain ⟨q, hq, hrq⟩ := RF.slot j u hj
      refine ⟨q, hq, ?_⟩
      cases u with
      | none => cases q with
        | none => trivial
        | some q => exact hrq
      | some u => cases q with
        | none => exact hrq
        | some q =>
          cases q with
          | dat d => exact DR.im imL hrq
          | lm es =>
            obtain ⟨b, ws, rfl, hb, hdd, q1, q2⟩ := hrq
            have nb : b ≠ L := fun z => by
              subst z
              obtain ⟨q', hq', hrq'⟩ := R.slot j _ hj
              rw [hq] at hq'
              cases hq'
              obtain ⟨b', ws', eb', hb', _⟩ := hrq'
              cases eb'
              rw [hLH] at hb'
              cases hb'
            exact ⟨b, ws, rfl, kl _ _ nb hb, hdd.im imL, q1, q2⟩
          | dm es =>
            obtain ⟨b, ws, rfl, hb, hdd, q1, q2⟩ := hrq
            have nb : b ≠ L := fun z => by
              subst z
              obtain ⟨q', hq', hrq'⟩ := R.slot j _ hj
              rw [hq] at hq'
              cases hq'
              obtain ⟨b', ws', eb', hb', _⟩ := hrq'
              cases eb'
              rw [hLH] at hb'
              cases hb'
            exact ⟨b, ws, rfl, kl _ _ nb hb, hdd.im imL, q1, q2⟩
          | tm es =>
            obtain ⟨b, ws, rfl, hb, hdd, q1, q2⟩ := hrq
            have nb : b ≠ L := fun z => by
              subst z
              obtain ⟨q', hq', hrq'⟩ := R.slot j _ hj
              rw [hq] at hq'
              cases hq'
              obtain ⟨b', ws', eb', hb', _⟩ := hrq'
              cases eb'
              rw [hLH] at hb'
              cases hb'
            exact ⟨b, ws, rfl, kl _ _ nb hb, hdd.im imL, q1, q2⟩
          | om b C es =>
            obtain ⟨dx, ws, rfl, hb, hdd, q1, q2⟩ := hrq
            have nb : b ≠ L := fun z => by
              subst z
              obtain ⟨q', hq', hrq'⟩ := R.slot j _ hj
              rw [hq] at hq'
              cases hq'
              obtain ⟨dx', ws', eb', hb', _⟩ := hrq'
              cases eb'
              rw [hLH] at hb'
              cases hb'
            exact ⟨dx, ws, rfl, kl _ _ nb hb, hdd.im imL, q1, q2⟩
          | un => trivial
          | ex a cls d x => exact ⟨hrq.1, hrq.2.im imL⟩
          | rl es =>
            obtain ⟨b, ws, rfl, hb, hdd, q1, q2⟩ := hrq
            have nb : b ≠ L := fun z => by
              subst z
              obtain ⟨q', hq', hrq'⟩ := R.slot j _ hj
              rw [hq] at hq'
              cases hq'
              obtain ⟨b', ws', eb', hb', _⟩ := hrq'
              cases eb'
              rw [hLH] at hb'
              cases hb'
            exact ⟨b, ws, rfl, kl _ _ nb hb, hdd.im imL, q1, q2⟩
          | rd es =>
            obtain ⟨b, ws, rfl, hb, hdd, q1, q2⟩ := hrq
            have nb : b ≠ L := fun z => by
              subst z
              obtain ⟨q', hq', hrq'⟩ := R.slot j _ hj
              rw [hq] at hq'
              cases hq'
              obtain ⟨b', ws', eb', hb', _⟩ := hrq'
              cases eb'
              rw [hLH] at hb'
              cases hb'
            exact ⟨b, ws, rfl, kl _ _ nb hb, hdd.im imL, q1, q2⟩
          | rt es =>
            obtain ⟨b, ws, rfl, hb, hdd, q1, q2⟩ := hrq
            have nb : b ≠ L := fun z => by
              subst z
              obtain ⟨q', hq', hrq'⟩ := R.slot j _ hj
              rw [hq] at hq'
              cases hq'
              obtain ⟨b', ws', eb', hb', _⟩ := hrq'
              cases eb'
              rw [hLH] at hb'
              cases hb'
            exact ⟨b, ws, rfl, kl _ _ nb hb, hdd.im imL, q1, q2⟩
  · rintro A ⟨acc, us, hinv, hal, hA, hdr, RA, im, kpA⟩
    exact k acc L us A (fin acc hinv) hA hLH hdr ⟨kpA, RA.src⟩
/-! ### a def's promise -/
def startD (N : List Str) (ds : List D) : Sd := ds.map (fun d => some (.dat d)) ++ List.replicate (N.length - ds.length) none
theorem start_slot {s c : Addr} {H : Hp} (n : Nat) : ∀ {vs : List V} {ds : List D}, DRs K s H vs ds → ∀ (i : Nat) (v : Option V), (vs.map some ++ List.replicate n none)[i]? = some v →
    ∃ x, (ds.map (fun d => some (Cell.dat d)) ++ List.replicate n none)[i]? = some x ∧ SlotR K s c H v x ∧ looseC x = false ∧ roC x = false
  | _, _, .nil, i, v, h => by
    have h : (List.replicate n (none : Option V))[i]? = some v := h
    rw [List.getElem?_replicate] at h
    show ∃ x, (List.replicate n (none : Option Cell))[i]? = some x ∧ _
    by_cases q : i < n
    · rw [if_pos q] at h
      cases h
      exact ⟨none, by rw [List.getElem?_replicate, if_pos q], trivial, rfl, rfl⟩
    · rw [if_neg q] at h
      cases h
  | _, _, .cons x r, 0, v, h => by
    cases h
    exact ⟨_, rfl, x, rfl, rfl⟩
  | _, _, .cons x r, i + 1, v, h => start_slot n r i v h
theorem rel_start {s c : Addr} {H : Hp} {vs : List V} {ds : List D} {N : List Str} (S : Src H s c) (h : DRs K s H vs ds) : Rel K s c H (L2.start N vs) H (startD N ds) := by
  unfold L2.start startD
  rw [h.len]
  have hs := start_slot (K := K) (s := s) (c := c) (H := H) (N.length - ds.length) h
  have nl : ∀ i a, (vs.map some ++ List.replicate (N.length - ds.length) none)[i]? = some (some (V.ref a)) → looseC (((ds.map (fun d => some (Cell.dat d)) ++ List.replicate (N.length - ds.length) none)[i]?).join) = true → False := fun i a e lo => by
    obtain ⟨x, h1, _, h3, _⟩ := hs i _ e
    rw [h1] at lo
    cases x with
    | none => cases lo
    | some x => rw [show (some (some x)).join = some x from rfl, h3] at lo; cases lo
  have nr : ∀ i a, (vs.map some ++ List.replicate (N.length - ds.length) none)[i]? = some (some (V.ref a)) → roC (((ds.map (fun d => some (Cell.dat d)) ++ List.replicate (N.length - ds.length) none)[i]?).join) = true → False := fun i a e lo => by
    obtain ⟨x, h1, _, _, h3⟩ := hs i _ e
    rw [h1] at lo
    cases x with
    | none => cases lo
    | some x => rw [show (some (some x)).join = some x from rfl, h3] at lo; cases lo
  refine ⟨S, Kp.refl _ _, by simp [h.len], fun i v e => ?_, fun i a e lo => (nl i a e lo).elim, fun i j a n l1 l2 e1 e2 => nl i a e1 l1, fun i a e lo => (nr i a e lo).elim⟩
  obtain ⟨x, h1, h2, _⟩ := hs i v e
  exact ⟨x, h1, h2⟩
/-- run: what q asks is what the reading gives -/
theorem run_up {t : TS} {p : PSx} {N : List Str} {q : QP} {vs : List V} {H : Hp} {Q : VK} {E : XK} (hl : ∀ s c H0, LS K s c H0 t p) (hq : ∀ ds P, q ds P → p { nx := fun _ => P .non, rt := P } (startD N ds)) (h : up K q vs H Q E) :
    t { nx := fun _ H' => Q .non H', rt := Q } (L2.start N vs) H := by
  obtain ⟨s, c, ds, S, hd, h⟩ := h
  refine hl s c H (L2.start N vs) (startD N ds) H _ _ (rel_start S hd) (hq ds _ h) ⟨fun σ σd H' h1 R _ => ?_, fun d v H' h1 r1 S1 k1 => ?_, fun _ _ _ h1 => h1.elim, fun _ _ _ h1 => h1.elim, fun _ _ _ h1 => h1.elim⟩
  · exact h1 .non H' .non ⟨R.kp0, R.src⟩
  · exact h1 v H' r1 ⟨k1, S1⟩
end
end My


/-! Q7: the law's top, two stores at once, dicts, instances, the draws. -/
namespace My
open PySem PySem.Spec PyProof.Rows L2
section
variable {K : PySem.W.Frag} {s c : Addr} {H0 : Hp}
/-! ### a, b = e, f -/
def pPar (i j : Nat) (a : PAx) : PSx := fun e σd => a σd fun xs => ∃ d d2, datsC xs = some [d, d2] ∧ e.nx ((σd.set i (some (.dat d))).set j (some (.dat d2)))
theorem S_par {s c : Addr} {H0 : Hp} {t : TA} {a : PAx} (i j : Nat) (ha : LA K s c H0 t a) : LS K s c H0 (tPar i j t) (pPar i j a) := fun σ σd H E e R h k => by
  refine ha σ σd H _ _ R h fun xs vs H1 h1 r1 s1 => ?_
  obtain ⟨d, d2, ed, h⟩ := h1
  have hd := datsC_at r1 ed
  cases hd with
  | cons x r => cases r with
    | cons y r2 =>
      cases r2
      exact ⟨_, _, rfl, k.nx _ _ H1 h (((R.stp s1).setD x).setD y) (s1.im R.src)⟩
/-! ### the law: its first statement makes the source -/
theorem rel_top {s c a : Addr} {H : Hp} {n j : Nat} (S : Src H s c) (hj : j ≠ 0) : Rel K s c H (([some (V.ref a)] ++ List.replicate n none).set j (some (.ref s))) H (([some Cell.un] ++ List.replicate n none).set j (some (.dat .src))) := by
  have base : Rel K s c H ([some (V.ref a)] ++ List.replicate n none) H ([some Cell.un] ++ List.replicate n none) := by
    have nl : ∀ i : Nat, looseC ((([some Cell.un] ++ List.replicate n none : Sd)[i]?).join) = true → False := fun i lo => by
      cases i with
      | zero => cases lo
      | succ i =>
        rw [show ([some Cell.un] ++ List.replicate n none : Sd)[i + 1]? = (List.replicate n (none : Option Cell))[i]? from rfl, List.getElem?_replicate] at lo
        by_cases q : i < n
        · rw [if_pos q] at lo; cases lo
        · rw [if_neg q] at lo; cases lo
    have nr : ∀ i : Nat, roC ((([some Cell.un] ++ List.replicate n none : Sd)[i]?).join) = true → False := fun i lo => by
      cases i with
      | zero => cases lo
      | succ i =>
        rw [show ([some Cell.un] ++ List.replicate n none : Sd)[i + 1]? = (List.replicate n (none : Option Cell))[i]? from rfl, List.getElem?_replicate] at lo
        by_cases q : i < n
        · rw [if_pos q] at lo; cases lo
        · rw [if_neg q] at lo; cases lo
    refine ⟨S, Kp.refl _ _, by simp, fun i v e => ?_, fun i b e lo => (nl i lo).elim, fun i k b m lo _ _ _ => nl i lo, fun i b e lo => (nr i lo).elim⟩
    cases i with
    | zero =>
      cases e
      exact ⟨_, rfl, trivial⟩
    | succ i =>
      have e : (List.replicate n (none : Option V))[i]? = some v := e
      rw [List.getElem?_replicate] at e
      by_cases q : i < n
      · rw [if_pos q] at e
        cases e
        refine ⟨none, ?_, trivial⟩
        show (List.replicate n (none : Option Cell))[i]? = some none
        rw [List.getElem?_replicate, if_pos q]
      · rw [if_neg q] at e
        cases e
  exact base.setD .src
def sp_top (K : PySem.W.Frag) : Sp := fun vs H Q _ => ∃ (a : Addr) (ns : List Int), vs = [.ref a] ∧ SqL K H a (ns.map V.int) ∧ ∀ H', Q (.bl true) H'
theorem len_top {vs : List V} {H : Hp} {Q : VK} {E : XK} (h : sp_top K vs H Q E) : vs.length = 1 := by
  obtain ⟨_, _, rfl, _⟩ := h
  rfl
theorem run_top {t : TS} {p : PSx} {N : List Str} {j n : Nat} {vs : List V} {H : Hp} {Q : VK} {E : XK} (hl : ∀ s c H0, LS K s c H0 t p) (hN : N.length - 1 = n) (hj : j ≠ 0)
    (hp : p { nx := fun _ => False, rt := fun d => d = .bl true } (([some Cell.un] ++ List.replicate n none).set j (some (.dat .src)))) (h : sp_top K vs H Q E) :
    tSeq (tAsg (tCall (sp_law_source K) [] E0 (tCons (tVar 0) tNil)) (gName j)) t { nx := fun _ H' => Q .non H', rt := Q } (L2.start N vs) H := by
  obtain ⟨a, ns, rfl, ha, k⟩ := h
  refine ⟨_, rfl, a, ns, rfl, ha, fun s c H1 _ _ _ S1 => ?_⟩
  have R := rel_top (K := K) (a := a) (n := n) S1 hj
  unfold L2.start
  rw [show N.length - [V.ref a].length = n from hN]
  refine hl s c H1 _ _ H1 _ _ R hp ⟨fun _ _ _ z => z.elim, fun d v H' hd r _ _ => ?_, fun _ _ _ z => z.elim, fun _ _ _ z => z.elim, fun _ _ _ z => z.elim⟩
  subst hd
  cases r
  exact k H'
/-! ### the draws -/
def q_law_take : QP := fun ds P => ∃ m : Int, ds = [.src, .int m] ∧ 0 < m ∧ m.natAbs.log2 < 9000 ∧ ∀ d : Int, 0 ≤ d → d < m → P (.int d)
theorem m_law_take : Mono q_law_take := fun _ _ _ m ⟨x, a, b, c, k⟩ => ⟨x, a, b, c, fun d h1 h2 => m _ (k d h1 h2)⟩
theorem up_take {vs : List V} {H : Hp} {Q : VK} {E : XK} (h : up K q_law_take vs H Q E) : sp_law_take K vs H Q E := by
  obtain ⟨s, c, ds, S, hd, m, rfl, h1, h2, k⟩ := h
  cases hd with
  | cons x r =>
    cases x
    cases r with
    | cons y r2 =>
      cases y
      cases r2
      exact ⟨s, c, m, rfl, h1, h2, S, fun d H' a b S' kp => k d a b _ H' (.int d) ⟨kp, S'⟩⟩
/-! ### instances -/
theorem DRf.look {s : Addr} {H : Hp} {f : Str} {d : D} : ∀ {fs : List (Str × V)} {fds : List (Str × D)}, DRf K s H fs fds → fds.lookup f = some d → ∃ v, fs.lookup f = some v ∧ DR K s H v d
  | _, _, .nil, h => by cases h
  | _, _, .cons (k := k) x r, h => by
    unfold List.lookup at h ⊢
    cases q : f == k with
    | true =>
      rw [q] at h
      cases h
      exact ⟨_, rfl, x⟩
    | false =>
      rw [q] at h
      exact DRf.look r h
theorem DRf.look_none {s : Addr} {H : Hp} {f : Str} : ∀ {fs : List (Str × V)} {fds : List (Str × D)}, DRf K s H fs fds → fds.lookup f = none → fs.lookup f = none
  | _, _, .nil, h => rfl
  | _, _, .cons (k := k) x r, h => by
    unfold List.lookup at h ⊢
    cases q : f == k with
    | true =>
      rw [q] at h
      cases h
    | false =>
      rw [q] at h
      exact DRf.look_none r h
def pFld (C : Addr) (f : Str) (a : PEx) : PEx := fun σd P => a σd fun x => ∃ fs d, (x = .dat (.ins C fs) ∨ ∃ o, x = .om o C fs) ∧ fs.lookup f = some d ∧ P (.dat d)
/-- the instance at hand, locked or not -/
theorem ins_at {s c C : Addr} {H : Hp} {v : V} {x : Cell} {fs : List (Str × D)} (h : CellR K s c H v x) (e : x = .dat (.ins C fs) ∨ ∃ o, x = .om o C fs) : ∃ a dx vs, v = .ref a ∧ Rd H a (.ins C dx vs) ∧ DRf K s H vs fs := by
  rcases e with rfl | ⟨o, rfl⟩
  · cases h with
    | ins h r => exact ⟨_, _, _, rfl, .inr ⟨_, h⟩, r⟩
  · obtain ⟨dx, vs, rfl, ha, hd, _⟩ := h
    exact ⟨_, dx, vs, rfl, .inl ha, hd⟩
theorem L_fld {C : Addr} {f : Str} {t : TE} {a : PEx} (hc : Cls K C) (hn : NoAttr K C f) (ha : LE K s c H0 t a) : LE K s c H0 (tFldR K t f) (pFld C f a) := fun σ σd H Q P R h k => by
  refine ha σ σd H _ _ R h fun x v H1 h1 r1 s1 => ?_
  obtain ⟨fs, d, hx, e, h⟩ := h1
  obtain ⟨b, dx, vs, rfl, hi, hf⟩ := ins_at r1 hx
  obtain ⟨u, hu, hr⟩ := hf.look e
  exact ⟨_, _, _, _, u, rfl, hi, hc, hn, hu, k _ _ H1 h hr s1⟩
def pMeth (C : Addr) (m : Str) (q : QP) (a : PEx) (b : PAx) : PEx := fun σd P => a σd fun x => ∃ fs, x = .dat (.ins C fs) ∧ fs.lookup m = none ∧ b σd fun xs => ∃ ds, datsC xs = some ds ∧ q (.ins C fs :: ds) fun d => P (.dat d)
theorem L_meth {C : Addr} {m : Str} {q : QP} {ta : TE} {t : TA} {a : PEx} {b : PAx} (mo : Mono q) (ha : LE K s c H0 ta a) (hb : LA K s c H0 t b) : LE K s c H0 (tMethR C m (up K q) ta t) (pMeth C m q a b) := fun σ σd H Q P R h k => by
  refine ha σ σd H _ _ R h fun x v H1 h1 r1 s1 => ?_
  obtain ⟨fs, rfl, e, h1⟩ := h1
  cases id r1 with
  | ins hi hf =>
    refine ⟨_, _, _, rfl, .inr ⟨_, hi⟩, hf.look_none e, ?_⟩
    refine hb σ σd H1 _ _ (R.stp s1) h1 fun xs vs H2 h2 r2 s2 => ?_
    obtain ⟨ds, ed, h⟩ := h2
    exact ⟨s, c, .ins C fs :: ds, s2.src, .cons (CellR.stp (x := .dat (.ins C fs)) s1.src s2 r1) (datsC_at r2 ed), mo _ _ _ (fun d hd v H3 r3 s3 => k (.dat d) _ H3 hd r3 ((s1.trans s2).trans s3)) h⟩
def pProp (C : Addr) (q : QP) (a : PEx) : PEx := fun σd P => a σd fun x => ∃ fs, x = .dat (.ins C fs) ∧ q [.ins C fs] fun d => P (.dat d)
theorem L_prop {C : Addr} {q : QP} {ta : TE} {a : PEx} (mo : Mono q) (ha : LE K s c H0 ta a) : LE K s c H0 (tPropR C (up K q) ta) (pProp C q a) := fun σ σd H Q P R h k => by
  refine ha σ σd H _ _ R h fun x v H1 h1 r1 s1 => ?_
  obtain ⟨fs, rfl, h⟩ := h1
  cases id r1 with
  | ins hi hf =>
    exact ⟨_, _, _, rfl, .inr ⟨_, hi⟩, s, c, [.ins C fs], s1.src, .cons r1 .nil, mo _ _ _ (fun d hd v H3 r3 s3 => k (.dat d) _ H3 hd r3 (s1.trans s3)) h⟩
/-! ### __init__ -/
def putD (f : Str) (d : D) : List (Str × D) → List (Str × D)
  | [] => [(f, d)]
  | (g, e) :: r => if g = f then (g, d) :: r else (g, e) :: putD f d r
theorem DRf.put {s : Addr} {H : Hp} {f : Str} {v : V} {d : D} (x : DR K s H v d) : ∀ {fs : List (Str × V)} {fds : List (Str × D)}, DRf K s H fs fds → DRf K s H (putF f v fs) (putD f d fds)
  | _, _, .nil => .cons x .nil
  | _, _, .cons (k := k) y r => by
    unfold putF putD
    by_cases e : k = f
    · rw [if_pos e, if_pos e]
      exact .cons x r
    · rw [if_neg e, if_neg e]
      exact .cons y (DRf.put x r)
theorem DRf.len {s : Addr} {H : Hp} : ∀ {fs : List (Str × V)} {fds : List (Str × D)}, DRf K s H fs fds → fs.length = fds.length
  | _, _, .nil => rfl
  | _, _, .cons _ r => by rw [List.length_cons, List.length_cons, DRf.len r]
/-- self.f = e -/
def pSelf (C : Addr) (i : Nat) (f : Str) (a : PEx) : PSx := fun e σd => a σd fun x => ∃ d o fs, x = .dat d ∧ σd[i]? = some (some (.om o C fs)) ∧ fs.length ≤ 100 ∧ e.nx (σd.set i (some (.om o C (putD f d fs))))
theorem S_self {s c : Addr} {H0 : Hp} {C : Addr} {f : Str} {t : TE} {a : PEx} (i : Nat) (hc : Cls K C) (hn : NoAttr K C f) (ha : LE K s c H0 t a) :
    LS K s c H0 (sFld K (tVar i) t f) (pSelf C i f a) := fun σ σd H E e R h k => by
  refine ha σ σd H _ _ R h fun x v H1 h1 r1 s1 => ?_
  obtain ⟨d, o, fs, rfl, hi, hz, h⟩ := h1
  have R1 := R.stp s1
  obtain ⟨w, hw, hr⟩ := R1.at hi
  obtain ⟨dx, us, rfl, ho, hf, n1, n2⟩ := id hr
  have kl : Kp o H1 (upd H1 o (.ins C dx (putF f v us))) := Kp.self
  have im := kl.im ⟨_, ho, rfl⟩
  refine ⟨_, hw, o, C, dx, us, rfl, ho, hc, hn, by rw [hf.len]; omega, ?_⟩
  exact k.nx σ _ _ h (R1.write hw hi rfl ⟨dx, _, rfl, upd_same, (hf.im im).put (DR.im im r1), n1, n2⟩) ((s1.im R.src).trans im)
/-- what __init__ does: the fields it leaves -/
abbrev QI := List D → (List (Str × D) → Prop) → Prop
def MonoI (q : QI) : Prop := ∀ ds P P', (∀ fs, P fs → P' fs) → q ds P → q ds P'
def upI (K : PySem.W.Frag) (C : Addr) (q : QI) : Sp := fun vs H Q _ => ∃ (s c : Addr) (ds : List D) (Hb : Hp) (x dx : Addr) (us : List V), vs = .ref x :: us ∧ H = upd (upd Hb dx (.own x)) x (.ins C dx []) ∧ Hb x = none ∧ Hb dx = none ∧ dx ≠ x ∧ Src Hb s c ∧ DRs K s Hb us ds ∧
  q ds fun fds => ∀ H' dx' fs, H' x = some (.ins C dx' fs) → DRf K s H' fs fds → Stp s c Hb H' → Q .non H'
theorem L_make {C : Addr} {q : QI} {t : TA} {a : PAx} (mo : MonoI q) (ha : LA K s c H0 t a) : LE K s c H0 (tFrz (tMake C (upI K C q) [] E0 t)) (fun σd P => a σd fun xs => ∃ ds, datsC xs = some ds ∧ q ds fun fs => P (.dat (.ins C fs))) := fun σ σd H Q P R h k => by
  refine ha σ σd H _ _ R h fun xs vs H1 h1 r1 s1 => ?_
  obtain ⟨ds, e, h⟩ := h1
  intro x dx hx hdx ne
  rw [List.append_nil]
  refine ⟨s, c, ds, H1, x, dx, vs, rfl, rfl, hx, hdx, ne, s1.src, datsC_at r1 e, mo _ _ _ (fun fds hfd H' dx' fs hx' hf st => ⟨rfl, x, _, rfl, hx', trivial, fun o => ?_⟩) h⟩
  have nn := s1.src.ne hx
  have kl : Kp x H' (upd H' x (.frz o (.ins C dx' fs))) := Kp.self
  have im := kl.im ⟨_, hx', rfl⟩
  exact k _ _ _ hfd (.ins upd_same (hf.im im)) (s1.trans ⟨st.kp.via hx kl, st.src.kp nn.1.symm nn.2.symm kl⟩)
theorem rel_startI {s c C x dx : Addr} {Hb : Hp} {us : List V} {ds : List D} {N : List Str} (S : Src Hb s c) (h : DRs K s Hb us ds) (hx : Hb x = none) (hdx : Hb dx = none) (ne : dx ≠ x) :
    Rel K s c Hb (L2.start N (.ref x :: us)) (upd (upd Hb dx (.own x)) x (.ins C dx [])) (some (.om x C []) :: (startD (N.drop 1) ds)) := by
  have nx := S.ne hx
  have sm : Same Hb (upd (upd Hb dx (.own x)) x (.ins C dx [])) := (same_new hdx).trans (same_new (by rw [upd_ne ne.symm]; exact hx))
  have S' := S.same sm
  have R0 := (rel_start (K := K) (N := N.drop 1) S h).stp (.same S sm)
  unfold L2.start at R0 ⊢
  have hN : N.length - (V.ref x :: us).length = (N.drop 1).length - us.length := by
    rw [List.length_cons, List.length_drop]
    omega
  rw [hN]
  have nl : ∀ i : Nat, looseC (((startD (N.drop 1) ds)[i]?).join) = true → False := fun i lo => by
    unfold startD at lo
    have hs := start_slot (K := K) (s := s) (c := c) (H := Hb) ((N.drop 1).length - ds.length) h
    have hlen : (us.map some ++ List.replicate ((N.drop 1).length - ds.length) none).length = (ds.map (fun d => some (Cell.dat d)) ++ List.replicate ((N.drop 1).length - ds.length) none).length := by simp [h.len]
    by_cases q : i < (us.map some ++ List.replicate ((N.drop 1).length - ds.length) (none : Option V)).length
    · obtain ⟨y, h1, _, h3, _⟩ := hs i _ (List.getElem?_eq_getElem q)
      rw [h1] at lo
      cases y with
      | none => cases lo
      | some y => rw [show (some (some y)).join = some y from rfl, h3] at lo; cases lo
    · rw [List.getElem?_eq_none (by rw [← hlen]; exact Nat.le_of_not_lt q)] at lo
      cases lo
  have nr : ∀ i : Nat, roC (((startD (N.drop 1) ds)[i]?).join) = true → False := fun i lo => by
    unfold startD at lo
    have hs := start_slot (K := K) (s := s) (c := c) (H := Hb) ((N.drop 1).length - ds.length) h
    have hlen : (us.map some ++ List.replicate ((N.drop 1).length - ds.length) none).length = (ds.map (fun d => some (Cell.dat d)) ++ List.replicate ((N.drop 1).length - ds.length) none).length := by simp [h.len]
    by_cases q : i < (us.map some ++ List.replicate ((N.drop 1).length - ds.length) (none : Option V)).length
    · obtain ⟨y, h1, _, _, h3⟩ := hs i _ (List.getElem?_eq_getElem q)
      rw [h1] at lo
      cases y with
      | none => cases lo
      | some y => rw [show (some (some y)).join = some y from rfl, h3] at lo; cases lo
    · rw [List.getElem?_eq_none (by rw [← hlen]; exact Nat.le_of_not_lt q)] at lo
      cases lo
  refine ⟨S', kp_same sm, ?_, fun i v hi => ?_, fun i a hi lo => ?_, fun i j a nij l1 l2 hi hj => ?_, fun i a hi lo => ?_⟩
  · have := R0.len
    simp only [List.map_cons, List.cons_append, List.length_cons]
    rw [this]
  · cases i with
    | zero =>
      cases hi
      exact ⟨_, rfl, dx, [], rfl, upd_same, .nil, nx⟩
    | succ i => exact R0.slot i v hi
  · cases i with
    | zero => cases hi; exact hx
    | succ i => exact (nl i lo).elim
  · cases i with
    | zero => cases j with
      | zero => exact nij rfl
      | succ j => exact nl j l2
    | succ i => exact nl i l1
  · cases i with
    | zero => cases lo
    | succ i => exact (nr i lo).elim
theorem run_upI {t : TS} {p : PSx} {N : List Str} {C : Addr} {q : QI} {vs : List V} {H : Hp} {Q : VK} {E : XK} (hl : ∀ s c H0, LS K s c H0 t p) (hq : ∀ x ds P, q ds P → p { nx := fun σd => ∃ fs r, σd = some (.om x C fs) :: r ∧ P fs, rt := fun _ => False } (some (.om x C []) :: startD (N.drop 1) ds)) (h : upI K C q vs H Q E) :
    t { nx := fun _ H' => Q .non H', rt := Q } (L2.start N vs) H := by
  obtain ⟨s, c, ds, Hb, x, dx, us, rfl, rfl, hx, hdx, ne, S, hd, h⟩ := h
  refine hl s c Hb _ _ _ _ _ (rel_startI (N := N) S hd hx hdx ne) (hq x ds _ h) ⟨fun σ σd H' h1 R _ => ?_, fun d v H' h1 => h1.elim, fun _ _ _ h1 => h1.elim, fun _ _ _ h1 => h1.elim, fun _ _ _ h1 => h1.elim⟩
  obtain ⟨fs, r, rfl, h2⟩ := h1
  obtain ⟨w, hw, dx', us', ew, hu, hf, _⟩ := R.at (i := 0) (x := .om x C fs) rfl
  cases ew
  exact h2 H' dx' us' hu hf ⟨R.kp0, R.src⟩
end
end My


/-! Q8: dicts over plain values. -/
namespace My
open PySem PySem.Spec PyProof.Rows L2
/-! ### pairs of key and value -/
section
variable {κ α : Type} [DecidableEq κ]
def valD (kvs : List (κ × α)) (k : κ) : Option α := (kvs.find? fun kv => decide (kv.1 = k)).map (·.2)
def putG (kvs : List (κ × α)) (k : κ) (v : α) : List (κ × α) :=
  if (kvs.any fun kv => decide (kv.1 = k)) = true then kvs.map (fun kv => if kv.1 = k then (kv.1, v) else kv) else kvs ++ [(k, v)]
theorem valD_cons {p : κ × α} {r : List (κ × α)} {k : κ} : valD (p :: r) k = if p.1 = k then some p.2 else valD r k := by
  unfold valD
  rw [List.find?_cons]
  by_cases e : p.1 = k
  · rw [decide_eq_true e, if_pos e]
    rfl
  · rw [decide_eq_false e, if_neg e]
end
def keyC : Cell → Option Key
  | .dat (.int i) => some (.inl i)
  | .dat (.str z) => some (.inr z)
  | _ => none
def keysD : List D → Option (List Key)
  | [] => some []
  | .int i :: r => (keysD r).map (.inl i :: ·)
  | .str z :: r => (keysD r).map (.inr z :: ·)
  | _ :: _ => none
def keyT : Cell → Option (List Key)
  | .dat (.tup ds) => keysD ds
  | _ => none
def keyD : Key → D
  | .inl i => .int i
  | .inr z => .str z
def dicK : Cell → Option (List (Key × D))
  | .dat (.dic kds) => some kds
  | .dm kds => some kds
  | .rd kds => some kds
  | _ => none
def dicT : Cell → Option (List (List Key × D))
  | .dat (.dit kds) => some kds
  | .tm kds => some kds
  | .rt kds => some kds
  | _ => none
section
variable {K : PySem.W.Frag} {s c : Addr} {H H' : Hp}
theorem keyD_dr (k : Key) : DR K s H (kV k) (keyD k) := by
  cases k with
  | inl i => exact .int i
  | inr z => exact .str z
theorem key_eq {v : V} {x : Cell} {k : Key} (h : CellR K s c H v x) (e : keyC x = some k) : v = kV k := by
  cases x with
  | dat d =>
    cases d <;> first
      | (cases e; cases h; rfl)
      | cases e
  | lm ds => cases e
  | dm ds => cases e
  | tm ds => cases e
  | om x C ds => cases e
  | un => cases e
  | ex a cls d x => cases e
  | rl ds => cases e
  | rd ds => cases e
  | rt ds => cases e
theorem keys_eq : ∀ {vs : List V} {ds : List D} {ks : List Key}, DRs K s H vs ds → keysD ds = some ks → vs = ks.map kV
  | _, _, ks, .nil, e => by cases e; rfl
  | _, _, ks, .cons (d := d) x r, e => by
    cases d <;> first
      | (obtain ⟨ks', h1, rfl⟩ := Option.map_eq_some_iff.mp e
         cases x
         rw [keys_eq r h1]
         rfl)
      | cases e
theorem keyT_at {v : V} {x : Cell} {ks : List Key} (h : CellR K s c H v x) (e : keyT x = some ks) : ∃ b, v = .ref b ∧ H b = some (.tup (ks.map kV)) := by
  cases x with
  | dat d =>
    cases d <;> first
      | (cases h with | tup h r => rw [keys_eq r e] at h; exact ⟨_, rfl, h⟩)
      | cases e
  | lm ds => cases e
  | dm ds => cases e
  | tm ds => cases e
  | om x C ds => cases e
  | un => cases e
  | ex a cls d x => cases e
  | rl ds => cases e
  | rd ds => cases e
  | rt ds => cases e
theorem dicK_at {v : V} {x : Cell} {kds : List (Key × D)} (h : CellR K s c H v x) (e : dicK x = some kds) : ∃ a kvs, v = .ref a ∧ Rd H a (.dK kvs) ∧ DRk K s H kvs kds := by
  cases x with
  | dat d =>
    cases d <;> first
      | (cases e; cases h with | dic h r => exact ⟨_, _, rfl, .inr ⟨_, h⟩, r⟩)
      | cases e
  | dm ds =>
    cases e
    obtain ⟨a, vs, rfl, ha, hd, _⟩ := h
    exact ⟨a, vs, rfl, .inl ha, hd⟩
  | lm ds => cases e
  | tm ds => cases e
  | om x C ds => cases e
  | un => cases e
  | ex a cls d x => cases e
  | rd ds =>
    cases e
    obtain ⟨a, vs, rfl, ha, hd, _⟩ := h
    exact ⟨a, vs, rfl, .inl ha, hd⟩
  | rl ds => cases e
  | rt ds => cases e
theorem dicT_at {v : V} {x : Cell} {kds : List (List Key × D)} (h : CellR K s c H v x) (e : dicT x = some kds) : ∃ a kvs, v = .ref a ∧ Rd H a (.dT kvs) ∧ DRt K s H kvs kds := by
  cases x with
  | dat d =>
    cases d <;> first
      | (cases e; cases h with | dit h r => exact ⟨_, _, rfl, .inr ⟨_, h⟩, r⟩)
      | cases e
  | tm ds =>
    cases e
    obtain ⟨a, vs, rfl, ha, hd, _⟩ := h
    exact ⟨a, vs, rfl, .inl ha, hd⟩
  | lm ds => cases e
  | dm ds => cases e
  | om x C ds => cases e
  | un => cases e
  | ex a cls d x => cases e
  | rt ds =>
    cases e
    obtain ⟨a, vs, rfl, ha, hd, _⟩ := h
    exact ⟨a, vs, rfl, .inl ha, hd⟩
  | rl ds => cases e
  | rd ds => cases e
/-- what is found at a key -/
def OptR (K : PySem.W.Frag) (s : Addr) (H : Hp) : Option V → Option D → Prop
  | some v, some d => DR K s H v d
  | none, none => True
  | _, _ => False
theorem DRk.val (k : Key) : ∀ {kvs : List (Key × V)} {kds : List (Key × D)}, DRk K s H kvs kds → OptR K s H (valV kvs k) (valD kds k)
  | _, _, .nil => trivial
  | _, _, .cons (k := j) (v := v) (vs := vs) x r => by
    rw [valD_cons]
    by_cases e : j = k
    · rw [if_pos e, valV_pos (p := (j, v)) e]
      exact x
    · rw [if_neg e, valV_neg (p := (j, v)) e]
      exact DRk.val k r
theorem DRt.val (k : List Key) : ∀ {kvs : List (List Key × V)} {kds : List (List Key × D)}, DRt K s H kvs kds → OptR K s H (valV kvs k) (valD kds k)
  | _, _, .nil => trivial
  | _, _, .cons (k := j) (v := v) (vs := vs) x r => by
    rw [valD_cons]
    by_cases e : j = k
    · rw [if_pos e, valV_pos (p := (j, v)) e]
      exact x
    · rw [if_neg e, valV_neg (p := (j, v)) e]
      exact DRt.val k r
theorem DRk.any (k : Key) : ∀ {kvs : List (Key × V)} {kds : List (Key × D)}, DRk K s H kvs kds → (kvs.any fun kv => decide (kv.1 = k)) = kds.any fun kv => decide (kv.1 = k)
  | _, _, .nil => rfl
  | _, _, .cons x r => by rw [List.any_cons, List.any_cons, DRk.any k r]
theorem DRt.any (k : List Key) : ∀ {kvs : List (List Key × V)} {kds : List (List Key × D)}, DRt K s H kvs kds → (kvs.any fun kv => decide (kv.1 = k)) = kds.any fun kv => decide (kv.1 = k)
  | _, _, .nil => rfl
  | _, _, .cons x r => by rw [List.any_cons, List.any_cons, DRt.any k r]
theorem DRk.repl (k : Key) {v : V} {d : D} (y : DR K s H v d) : ∀ {kvs : List (Key × V)} {kds : List (Key × D)}, DRk K s H kvs kds → DRk K s H (kvs.map fun kv => if kv.1 = k then (kv.1, v) else kv) (kds.map fun kv => if kv.1 = k then (kv.1, d) else kv)
  | _, _, .nil => .nil
  | _, _, .cons (k := j) x r => by
    rw [List.map_cons, List.map_cons]
    by_cases e : j = k
    · rw [if_pos e, if_pos e]
      exact .cons y (DRk.repl k y r)
    · rw [if_neg e, if_neg e]
      exact .cons x (DRk.repl k y r)
theorem DRt.repl (k : List Key) {v : V} {d : D} (y : DR K s H v d) : ∀ {kvs : List (List Key × V)} {kds : List (List Key × D)}, DRt K s H kvs kds → DRt K s H (kvs.map fun kv => if kv.1 = k then (kv.1, v) else kv) (kds.map fun kv => if kv.1 = k then (kv.1, d) else kv)
  | _, _, .nil => .nil
  | _, _, .cons (k := j) x r => by
    rw [List.map_cons, List.map_cons]
    by_cases e : j = k
    · rw [if_pos e, if_pos e]
      exact .cons y (DRt.repl k y r)
    · rw [if_neg e, if_neg e]
      exact .cons x (DRt.repl k y r)
theorem DRk.snoc (k : Key) {v : V} {d : D} (y : DR K s H v d) : ∀ {kvs : List (Key × V)} {kds : List (Key × D)}, DRk K s H kvs kds → DRk K s H (kvs ++ [(k, v)]) (kds ++ [(k, d)])
  | _, _, .nil => .cons y .nil
  | _, _, .cons x r => .cons x (DRk.snoc k y r)
theorem DRt.snoc (k : List Key) {v : V} {d : D} (y : DR K s H v d) : ∀ {kvs : List (List Key × V)} {kds : List (List Key × D)}, DRt K s H kvs kds → DRt K s H (kvs ++ [(k, v)]) (kds ++ [(k, d)])
  | _, _, .nil => .cons y .nil
  | _, _, .cons x r => .cons x (DRt.snoc k y r)
theorem DRk.put (k : Key) {v : V} {d : D} (y : DR K s H v d) {kvs : List (Key × V)} {kds : List (Key × D)} (h : DRk K s H kvs kds) : DRk K s H (putK kvs k v) (putG kds k d) := by
  unfold putK putG
  rw [h.any k]
  by_cases e : (kds.any fun kv => decide (kv.1 = k)) = true
  · rw [if_pos e, if_pos e]
    exact h.repl k y
  · rw [if_neg e, if_neg e]
    exact h.snoc k y
theorem DRt.put (k : List Key) {v : V} {d : D} (y : DR K s H v d) {kvs : List (List Key × V)} {kds : List (List Key × D)} (h : DRt K s H kvs kds) : DRt K s H (putK kvs k v) (putG kds k d) := by
  unfold putK putG
  rw [h.any k]
  by_cases e : (kds.any fun kv => decide (kv.1 = k)) = true
  · rw [if_pos e, if_pos e]
    exact h.repl k y
  · rw [if_neg e, if_neg e]
    exact h.snoc k y
theorem DRk.len : ∀ {kvs : List (Key × V)} {kds : List (Key × D)}, DRk K s H kvs kds → kvs.length = kds.length
  | _, _, .nil => rfl
  | _, _, .cons _ r => by rw [List.length_cons, List.length_cons, DRk.len r]
theorem DRt.len : ∀ {kvs : List (List Key × V)} {kds : List (List Key × D)}, DRt K s H kvs kds → kvs.length = kds.length
  | _, _, .nil => rfl
  | _, _, .cons _ r => by rw [List.length_cons, List.length_cons, DRt.len r]
/-- the look -/
def getC (x y : Cell) (R : Option D → Prop) : Prop := (∃ kds k, dicK x = some kds ∧ keyC y = some k ∧ R (valD kds k)) ∨ ∃ kds k, dicT x = some kds ∧ keyT y = some k ∧ R (valD kds k)
theorem getC_at {v w : V} {x y : Cell} {R : Option D → Prop} (hx : CellR K s c H v x) (hy : CellR K s c H w y) (h : getC x y R) : ∃ a o od, v = .ref a ∧ DGet H a w o ∧ OptR K s H o od ∧ R od := by
  rcases h with ⟨kds, k, e1, e2, h⟩ | ⟨kds, k, e1, e2, h⟩
  · obtain ⟨a, kvs, rfl, ha, hd⟩ := dicK_at hx e1
    exact ⟨a, _, _, rfl, .inl ⟨kvs, k, ha, key_eq hy e2, rfl⟩, hd.val k, h⟩
  · obtain ⟨a, kvs, rfl, ha, hd⟩ := dicT_at hx e1
    obtain ⟨b, rfl, hb⟩ := keyT_at hy e2
    exact ⟨a, _, _, rfl, .inr ⟨kvs, k, b, ha, rfl, hb, rfl⟩, hd.val k, h⟩
end
section
variable {K : PySem.W.Frag} {s c : Addr} {H0 : Hp}
def pDGet (a b : PEx) : PEx := fun σd P => a σd fun x => b σd fun y => getC x y fun o => ∃ d, o = some d ∧ P (.dat d)
theorem L_dget {ta tb : TE} {a b : PEx} (ha : LE K s c H0 ta a) (hb : LE K s c H0 tb b) : LE K s c H0 (tDGet ta tb) (pDGet a b) := fun σ σd H Q P R h k => by
  refine ha σ σd H _ _ R h fun x v H1 h1 r1 s1 => ?_
  refine hb σ σd H1 _ _ (R.stp s1) h1 fun y w H2 h2 r2 s2 => ?_
  obtain ⟨p, o, od, rfl, hg, ho, d, rfl, hp⟩ := getC_at (r1.stp s1.src s2) r2 h2
  cases o with
  | none => exact ho.elim
  | some u => exact ⟨p, u, rfl, hg, k _ _ H2 hp ho (s1.trans s2)⟩
def pDIn (g : Bool → Bool) (b a : PEx) : PEx := fun σd P => b σd fun y => a σd fun x => getC x y fun o => P (cB (g o.isSome))
theorem L_din {ta tb : TE} {a b : PEx} (hb : LE K s c H0 tb b) (ha : LE K s c H0 ta a) : LE K s c H0 (tDIn tb ta) (pDIn id b a) := fun σ σd H Q P R h k => by
  refine hb σ σd H _ _ R h fun y w H1 h1 r1 s1 => ?_
  refine ha σ σd H1 _ _ (R.stp s1) h1 fun x v H2 h2 r2 s2 => ?_
  obtain ⟨p, o, od, rfl, hg, ho, hp⟩ := getC_at r2 (r1.stp s1.src s2) h2
  refine ⟨p, o, rfl, hg, ?_⟩
  have e : o.isSome = od.isSome := by cases o <;> cases od <;> first | rfl | exact ho.elim
  rw [e]
  exact k _ _ H2 hp (.bl _) (s1.trans s2)
theorem L_dnotin {ta tb : TE} {a b : PEx} (hb : LE K s c H0 tb b) (ha : LE K s c H0 ta a) : LE K s c H0 (tDNotIn tb ta) (pDIn not b a) := fun σ σd H Q P R h k => by
  refine hb σ σd H _ _ R h fun y w H1 h1 r1 s1 => ?_
  refine ha σ σd H1 _ _ (R.stp s1) h1 fun x v H2 h2 r2 s2 => ?_
  obtain ⟨p, o, od, rfl, hg, ho, hp⟩ := getC_at r2 (r1.stp s1.src s2) h2
  refine ⟨p, o, rfl, hg, ?_⟩
  have e : o.isSome = od.isSome := by cases o <;> cases od <;> first | rfl | exact ho.elim
  rw [e]
  exact k _ _ H2 hp (.bl _) (s1.trans s2)
/-- a dict, of one kind or the other -/
def isDic (x : Cell) : Prop := (∃ kds, dicK x = some kds) ∨ ∃ kds, dicT x = some kds
theorem isD_of {s c : Addr} {H : Hp} {v : V} {x : Cell} (hx : CellR K s c H v x) (h : isDic x) : ∃ a, v = .ref a ∧ IsD H a := by
  rcases h with ⟨kds, e⟩ | ⟨kds, e⟩
  · obtain ⟨a, kvs, rfl, ha, _⟩ := dicK_at hx e
    exact ⟨a, rfl, .inl ⟨kvs, ha⟩⟩
  · obtain ⟨a, kvs, rfl, ha, _⟩ := dicT_at hx e
    exact ⟨a, rfl, .inr ⟨kvs, ha⟩⟩
/-- d.get(k, z) -/
def pDGet2 (a b f : PEx) : PEx := fun σd P => a σd fun x => isDic x ∧ b σd fun y => f σd fun z => ∃ dz, z = .dat dz ∧ getC x y fun o => P (.dat (o.getD dz))
theorem L_dget2 {ta tb tf : TE} {a b f : PEx} (ha : LE K s c H0 ta a) (hb : LE K s c H0 tb b) (hf : LE K s c H0 tf f) : LE K s c H0 (tDGet2 ta tb tf) (pDGet2 a b f) := fun σ σd H Q P R h k => by
  refine ha σ σd H _ _ R h fun x v H1 h1 r1 s1 => ?_
  obtain ⟨hd, h1⟩ := h1
  obtain ⟨p, rfl, hD⟩ := isD_of r1 hd
  refine ⟨p, rfl, hD, ?_⟩
  refine hb σ σd H1 _ _ (R.stp s1) h1 fun y w H2 h2 r2 s2 => ?_
  refine hf σ σd H2 _ _ ((R.stp s1).stp s2) h2 fun z u H3 h3 r3 s3 => ?_
  obtain ⟨dz, rfl, h⟩ := h3
  obtain ⟨q, o, od, eq, hg, ho, hp⟩ := getC_at ((r1.stp s1.src s2).stp s2.src s3) (r2.stp s2.src s3) h
  cases eq
  refine ⟨o, hg, k _ _ H3 hp ?_ ((s1.trans s2).trans s3)⟩
  cases o <;> cases od <;> first | exact r3 | exact ho | exact ho.elim
/-- d = {} -/
def pDNew (i : Nat) (x : Cell) : PSx := fun e σd => e.nx (σd.set i (some x))
theorem rel_new {s c a : Addr} {H0 H : Hp} {σ : L2.St} {σd : Sd} {i : Nat} {o : HO} {x : Cell} (R : Rel K s c H0 σ H σd) (hn : H a = none) (hc : CellR K s c (upd H a o) (.ref a) x) (hro : roC (some x) = false := by rfl) : Rel K s c H0 (σ.set i (some (.ref a))) (upd H a o) (σd.set i (some x)) := by
  have nn := R.src.ne hn
  have st := stp_new (o := o) R.src hn
  refine (R.stp st).set (x := x) hc (fun _ b eb => by cases eb; exact Kp.none R.kp0 nn.1 hn) (fun _ b eb j nj lj hj => ?_) (fun z => by rw [hro] at z; cases z)
  cases eb
  obtain ⟨y, hy, hr⟩ := R.slot j _ hj
  rw [hy] at lj
  cases y with
  | none => cases lj
  | some y =>
    obtain ⟨b, eb, ⟨u, hb, _⟩, _⟩ := loose_at (i := 0) (l := 0) hr lj
    cases eb
    rw [hn] at hb
    cases hb
theorem S_dnewK {s c : Addr} {H0 : Hp} (i : Nat) : LS K s c H0 (tAsg tDNewK (gName i)) (pDNew i (.dm [])) := fun σ σd H E e R h k => by
  intro p hp
  have nn := R.src.ne hp
  exact k.nx _ _ _ h (rel_new R hp ⟨p, [], rfl, upd_same, .nil, nn⟩) ((stp_new R.src hp).im R.src)
theorem S_dnewT {s c : Addr} {H0 : Hp} (i : Nat) : LS K s c H0 (tAsg tDNewT (gName i)) (pDNew i (.tm [])) := fun σ σd H E e R h k => by
  intro p hp
  have nn := R.src.ne hp
  exact k.nx _ _ _ h (rel_new R hp ⟨p, [], rfl, upd_same, .nil, nn⟩) ((stp_new R.src hp).im R.src)
/-- d[k] = v, d in slot i -/
def pDPutK (i : Nat) (b v : PEx) : PSx := fun e σd => ∃ kds, σd[i]? = some (some (.dm kds)) ∧ v σd fun z => b σd fun y => ∃ d k, z = .dat d ∧ keyC y = some k ∧ kds.length ≤ 100000 ∧ e.nx (σd.set i (some (.dm (putG kds k d))))
theorem S_dputK {s c : Addr} {H0 : Hp} {tb tv : TE} {b v : PEx} (i : Nat) (hb : LE K s c H0 tb b) (hv : LE K s c H0 tv v) : LS K s c H0 (sDPut (tVar i) tb tv) (pDPutK i b v) := fun σ σd H E e R h k => by
  obtain ⟨kds, hi, h⟩ := h
  refine hv σ σd H _ _ R h fun z u H1 h1 r1 s1 => ?_
  have R1 := R.stp s1
  obtain ⟨w, hw, hr⟩ := R1.at hi
  refine ⟨w, hw, ?_⟩
  refine hb σ σd H1 _ _ R1 h1 fun y y' H2 h2 r2 s2 => ?_
  obtain ⟨d, key, rfl, ek, hz, h⟩ := h2
  have R2 := R1.stp s2
  obtain ⟨l, kvs, rfl, hl, hd, n1, n2⟩ := CellR.stp (x := .dm kds) s1.src s2 hr
  have kl : Kp l H2 (upd H2 l (.dK (putK kvs key u))) := Kp.self
  have im := kl.im ⟨_, hl, rfl⟩
  have r3 : DR K s H2 u d := CellR.stp (x := .dat d) s1.src s2 r1
  refine ⟨l, _, rfl, .inl ⟨kvs, key, hl, key_eq r2 ek, Nat.lt_of_le_of_lt (by rw [hd.len]; exact hz) (by decide), rfl⟩, ?_⟩
  exact k.nx σ _ _ h (R2.write hw hi rfl ⟨l, _, rfl, upd_same, (hd.im im).put key (r3.im im), n1, n2⟩) (((s1.trans s2).im R.src).trans im)
def pDPutT (i : Nat) (b v : PEx) : PSx := fun e σd => ∃ kds, σd[i]? = some (some (.tm kds)) ∧ v σd fun z => b σd fun y => ∃ d k, z = .dat d ∧ keyT y = some k ∧ kds.length ≤ 100000 ∧ e.nx (σd.set i (some (.tm (putG kds k d))))
theorem S_dputT {s c : Addr} {H0 : Hp} {tb tv : TE} {b v : PEx} (i : Nat) (hb : LE K s c H0 tb b) (hv : LE K s c H0 tv v) : LS K s c H0 (sDPut (tVar i) tb tv) (pDPutT i b v) := fun σ σd H E e R h k => by
  obtain ⟨kds, hi, h⟩ := h
  refine hv σ σd H _ _ R h fun z u H1 h1 r1 s1 => ?_
  have R1 := R.stp s1
  obtain ⟨w, hw, hr⟩ := R1.at hi
  refine ⟨w, hw, ?_⟩
  refine hb σ σd H1 _ _ R1 h1 fun y y' H2 h2 r2 s2 => ?_
  obtain ⟨d, key, rfl, ek, hz, h⟩ := h2
  have R2 := R1.stp s2
  obtain ⟨l, kvs, rfl, hl, hd, n1, n2⟩ := CellR.stp (x := .tm kds) s1.src s2 hr
  have kl : Kp l H2 (upd H2 l (.dT (putK kvs key u))) := Kp.self
  have im := kl.im ⟨_, hl, rfl⟩
  have r3 : DR K s H2 u d := CellR.stp (x := .dat d) s1.src s2 r1
  obtain ⟨b', rfl, hb'⟩ := keyT_at r2 ek
  refine ⟨l, _, rfl, .inr ⟨kvs, key, b', hl, rfl, hb', Nat.lt_of_le_of_lt (by rw [hd.len]; exact hz) (by decide), rfl⟩, ?_⟩
  exact k.nx σ _ _ h (R2.write hw hi rfl ⟨l, _, rfl, upd_same, (hd.im im).put key (r3.im im), n1, n2⟩) (((s1.trans s2).im R.src).trans im)
/-- the thing of slot i is locked for good, then the statement -/
def frzC : Cell → Option D
  | .lm ds => some (.lst ds)
  | .dm kds => some (.dic kds)
  | .tm kds => some (.dit kds)
  | _ => none
def pFrzC (i : Nat) (p : PSx) : PSx := fun e σd => ∃ x d, σd[i]? = some (some x) ∧ frzC x = some d ∧ p e (σd.set i (some (.dat d)))
theorem S_frzC {s c : Addr} {H0 : Hp} {t : TS} {p : PSx} (i : Nat) (hp : LS K s c H0 t p) : LS K s c H0 (tFrzS i t) (pFrzC i p) := fun σ σd H E e R h k => by
  obtain ⟨x, d, hi, hx, h⟩ := h
  obtain ⟨v, hv, hr⟩ := R.at hi
  cases x with
  | lm ds => cases hx; exact S_frz i hp σ σd H E e R ⟨ds, hi, h⟩ k
  | dm ds =>
    cases hx
    obtain ⟨l, vs, rfl, hl, hd, n1, n2⟩ := id hr
    refine ⟨l, _, hv, hl, trivial, fun o => ?_⟩
    have kl : Kp l H (upd H l (.frz o (.dK vs))) := Kp.self
    have im := kl.im ⟨_, hl, rfl⟩
    exact hp σ _ _ E e (R.write (x' := .dat (.dic ds)) (o := .frz o (.dK vs)) hv hi rfl (.dic upd_same (hd.im im))) h (k.im im)
  | tm ds =>
    cases hx
    obtain ⟨l, vs, rfl, hl, hd, n1, n2⟩ := id hr
    refine ⟨l, _, hv, hl, trivial, fun o => ?_⟩
    have kl : Kp l H (upd H l (.frz o (.dT vs))) := Kp.self
    have im := kl.im ⟨_, hl, rfl⟩
    exact hp σ _ _ E e (R.write (x' := .dat (.dit ds)) (o := .frz o (.dT vs)) hv hi rfl (.dit upd_same (hd.im im))) h (k.im im)
  | dat d => cases hx
  | om x C ds => cases hx
  | un => cases hx
  | ex a cls d x => cases hx
  | rl ds => cases hx
  | rd ds => cases hx
  | rt ds => cases hx
/-! ### walks over the keys, list(d) -/
def pIK (a : PEx) : PNx := fun σd P => a σd fun x => ∃ kds, x = .dat (.dic kds) ∧ P (kds.map fun kd => keyD kd.1)
theorem DRk.at {s : Addr} {H : Hp} : ∀ {kvs : List (Key × V)} {kds : List (Key × D)}, DRk K s H kvs kds → ∀ {i : Nat} {k : Key} {v : V}, kvs[i]? = some (k, v) → ∃ d, kds[i]? = some (k, d) ∧ DR K s H v d
  | _, _, .nil, i, k, v, h => by simp at h
  | _, _, .cons x r, 0, k, v, h => by cases h; exact ⟨_, rfl, x⟩
  | _, _, .cons x r, i + 1, k, v, h => DRk.at r (i := i) h
theorem I_keys {t : TE} {a : PEx} (ha : LE K s c H0 t a) : LI K s c H0 (iKeys t) (pIK a) := fun σ σd H R P Rl h k => by
  refine ha σ σd H _ _ Rl h fun x v H1 h1 r1 s1 => ?_
  obtain ⟨kds, rfl, h⟩ := h1
  cases r1 with
  | @dic l o kvs _ hl hd =>
    refine ⟨l, o, rfl, .inl ⟨kvs, hl, ?_⟩⟩
    have w : Walk (Itk l o kvs) (kds.map fun kd => keyD kd.1).length (fun H => H l = some (.frz o (.dK kvs))) (fun i H x H' => H' = H ∧ ∃ k v, kvs[i]? = some (k, v) ∧ x = kV k) := by
      rw [List.length_map, ← hd.len]
      exact walk_keys
    refine k _ _ _ _ H1 h s1 w hl (fun A B im h => frz_im im h) fun i A x B hi im hG y => ?_
    obtain ⟨e, key, v, hx, rfl⟩ := y
    subst e
    obtain ⟨d, h1, h2⟩ := hd.at hx
    refine ⟨Same.refl _, keyD key, ?_, keyD_dr key⟩
    rw [List.getElem?_map, h1]
    rfl
end
end My


/-! Own: operators that an own class writes (+, -, ==, in, [..]). -/
namespace My
open PySem PySem.Spec PyProof.Rows L2
section
variable {X : Cx} {k : Nat} {f C : Addr} {fd : FuncData} {ps : List Str} {sp : Sp}
theorem notNI {v : V} {u : Value} (r : RelV v u) : u ≠ .notImplemented := by
  intro e
  subst e
  cases v <;> first | (obtain ⟨_, z⟩ := r; cases z) | cases r
theorem back_of {pins : List (Addr × Obj)} {σ : L2.St} {Q : VK} {u : Value} {s' : Shared} (h : EP X pins σ Q u s') : PySem.W.CmpBack (EP X pins σ Q) u s' := by
  obtain ⟨v, H', I, r, q⟩ := id h
  have n := notNI r
  cases u <;> first | exact absurd rfl n | exact h
/-- both are instances of the class at C -/
def rOwn (C : Addr) (sp : Sp) : R2 := fun x y H Q => (∃ a dx fs, x = .ref a ∧ Rd H a (.ins C dx fs)) ∧ (∃ b dy gs, y = .ref b ∧ Rd H b (.ins C dy gs)) ∧ sp [x, y] H Q E0
theorem op_own {op : Operator} (F : FnOk X.prog X.w X.K X.mg X.base CX0 k f fd ps sp) (hr : Room k X.A) (hb : Binds X.K fd ps []) (hc : PySem.W.selfFirst X.K C = true)
    (hs : PySem.W.findIn X.K (.ref C) (PySem.dunder op.info.2) = some (some (.ref f))) (hf : PySem.W.isFn X.K (.ref f) = true) : OpR X (binaryOp op) (rOwn C sp) := by
  intro pins s σ H x y v u Q I rx ry h
  obtain ⟨⟨a, dx, fs, rfl, ha⟩, ⟨b, dy, gs, rfl, hb'⟩, h⟩ := h
  cases rx
  cases ry
  obtain ⟨mA, J, _⟩ := ins_rd I.hok ha
  obtain ⟨mB, J', _⟩ := ins_rd I.hok hb'
  obtain ⟨od, J, _⟩ := J.look
  obtain ⟨od', J', _⟩ := J'.look
  obtain ⟨m, hF⟩ := I.fr
  refine PySem.W.binop_K hF I.ok.mod.kin J J'.type hc hs hf (wpAny_mono (run_fn (us := [.ref a, .ref b]) (vs := [.ref a, .ref b]) F hr hb .nil pass0 I (.cons rfl (.cons rfl .nil)) ?_) (fun w s' hw => back_of hw) fun _ _ z => z)
  rw [List.append_nil]
  exact h
/-- == of an instance and anything whose type is known -/
def rOwnEq (K : PySem.W.Frag) (C : Addr) (sp : Sp) : R2 := fun x y H Q => (∃ a dx fs, x = .ref a ∧ Rd H a (.ins C dx fs)) ∧ (∃ t, TyX K H y t ∧ PySem.W.notFirst K C t = true) ∧ sp [x, y] H Q E0
theorem op_ownEq (F : FnOk X.prog X.w X.K X.mg X.base CX0 k f fd ps sp) (hr : Room k X.A) (hb : Binds X.K fd ps [])
    (hs : PySem.W.findIn X.K (.ref C) "__eq__" = some (some (.ref f))) (hf : PySem.W.isFn X.K (.ref f) = true) : OpR X (compareOp .Eq) (rOwnEq X.K C sp) := by
  intro pins s σ H x y v u Q I rx ry h
  obtain ⟨⟨a, dx, fs, rfl, ha⟩, ⟨t, ty, nf⟩, h⟩ := h
  cases rx
  obtain ⟨mA, J, _⟩ := ins_rd I.hok ha
  obtain ⟨od, J, _⟩ := J.look
  obtain ⟨P, Z, p, hx⟩ := kit_of I ry ty
  obtain ⟨m, hF⟩ := I.fr
  show wpAny (model X.prog X.w) X.A (richCompare .Eq (.ref a) u) (EP X pins σ Q) X.xe s
  refine PySem.W.cmp_K (op := .Eq) (tb := t) (hr.units0) hF I.ok.mod.kin J (Z.ty _ _ I.kIn p) nf hs hf (wpAny_mono (run_fn (us := [.ref a, u]) (vs := [.ref a, y]) F hr hb .nil pass0 I (.cons rfl (.cons ry .nil)) ?_) (fun w s' hw => back_of hw) fun _ _ z => z)
  rw [List.append_nil]
  exact h
/-- x in o -/
def rOwnIn (C : Addr) (sp : Sp) (g : Bool → Bool) : R2 := fun x y H Q => (∃ a dx fs, y = .ref a ∧ Rd H a (.ins C dx fs)) ∧ sp [y, x] H (fun r H' => ∃ b, r = .bl b ∧ Q (.bl (g b)) H') E0
theorem op_ownIn (F : FnOk X.prog X.w X.K X.mg X.base CX0 k f fd ps sp) (hr : Room k X.A) (hb : Binds X.K fd ps [])
    (hs : PySem.W.findIn X.K (.ref C) "__contains__" = some (some (.ref f))) (hf : PySem.W.isFn X.K (.ref f) = true) : OpR X (compareOp .In) (rOwnIn C sp id) := by
  intro pins s σ H x y v u Q I rx ry h
  obtain ⟨⟨a, dx, fs, rfl, ha⟩, h⟩ := h
  cases ry
  obtain ⟨mA, J, _⟩ := ins_rd I.hok ha
  obtain ⟨od, J, _⟩ := J.look
  obtain ⟨m, hF⟩ := I.fr
  refine PySem.W.in_K hF I.ok.mod.kin J hs hf (wpAny_mono (run_fn (us := [.ref a, v]) (vs := [.ref a, x]) F hr hb .nil pass0 I (.cons rfl (.cons rx .nil)) (by rw [List.append_nil]; exact h)) (fun w s' hw => ?_) fun _ _ z => z)
  obtain ⟨z, H', I', rz, b, rfl, q⟩ := hw
  cases rz
  exact wpAny_truthy_bool ⟨.bl b, H', I', rfl, q⟩
theorem op_ownNotIn (F : FnOk X.prog X.w X.K X.mg X.base CX0 k f fd ps sp) (hr : Room k X.A) (hb : Binds X.K fd ps [])
    (hs : PySem.W.findIn X.K (.ref C) "__contains__" = some (some (.ref f))) (hf : PySem.W.isFn X.K (.ref f) = true) : OpR X (compareOp .NotIn) (rOwnIn C sp not) := by
  intro pins s σ H x y v u Q I rx ry h
  obtain ⟨⟨a, dx, fs, rfl, ha⟩, h⟩ := h
  cases ry
  obtain ⟨mA, J, _⟩ := ins_rd I.hok ha
  obtain ⟨od, J, _⟩ := J.look
  obtain ⟨m, hF⟩ := I.fr
  refine PySem.W.notIn_K hF I.ok.mod.kin J hs hf (wpAny_mono (run_fn (us := [.ref a, v]) (vs := [.ref a, x]) F hr hb .nil pass0 I (.cons rfl (.cons rx .nil)) (by rw [List.append_nil]; exact h)) (fun w s' hw => ?_) fun _ _ z => z)
  obtain ⟨z, H', I', rz, b, rfl, q⟩ := hw
  cases rz
  exact wpAny_truthy_bool ⟨.bl (!b), H', I', rfl, q⟩
end
end My


/-! Own2: instance * int, int * instance. -/
namespace My
open PySem PySem.Spec PyProof.Rows L2 PySem.W
section
variable {prog : Program} {w : World} {A : Around} {E : Value → Shared → Prop} {s : Shared} {K : Frag} {x C L f r : Addr} {h₀ : Heap} {m : Str → Option Value} {ox : Obj} {od : Option Obj}
theorem mro_head (hc : selfFirst K C = true) : ∃ cd rest, clsIn K C = some cd ∧ cd.mro = .ref C :: rest := by
  obtain ⟨cd, hcd, hm⟩ := any_some hc
  cases q : cd.mro with
  | nil => rw [q] at hm; cases hm
  | cons a r => rw [q] at hm; exact ⟨cd, r, hcd, by rw [List.head?_cons] at hm; cases (beq_iff_eq.mp hm); exact q⟩
theorem binop_CI {i : Int} {t : Tok} {Q : Value → Shared → Prop} (F : Fr h₀ L s.heap m) (X₀ : K.In h₀) (I : InstAt s.heap x ox C od) (hc : selfFirst K C = true) (hsub : subIn K (.type "int") (.ref C) = some false)
    (hs : findIn K (.ref C) (PySem.dunder "mul") = some (some (.ref f))) (hr : findIn K (.ref C) (PySem.dunderR "mul") = some (some (.ref r))) (hf : isFn K (.ref f) = true)
    (h : wpAny (model prog w) A (call (.ref f) [.ref x, .int i t]) (PySem.W.CmpBack Q) E s) : wpAny (model prog w) A (binaryOp .Mult (.ref x) (.int i t)) Q E s := by
  have X := X₀.keeps F.keep
  obtain ⟨cd, rest, hcd, hm⟩ := mro_head hc
  have ne : (Value.ref C == Value.type "int") = false := rfl
  unfold binaryOp
  refine wpAny_holding (wpAny_bind ?_)
  unfold binaryOp1
  refine wpAny_bind (I.type.here (wpAny_bind ?_))
  show wpAny _ _ (pure (Value.type "int")) _ _ _
  refine wpAny_pure (wpAny_bind ((fills_K X hcd hm hs).here ?_))
  simp only [ne, Bool.false_eq_true, if_false]
  rw [PySem.F.fills_int_mul]
  refine wpAny_bind (wpAny_pure ?_)
  simp only [Bool.and_self, if_true]
  refine wpAny_bind ((looks_subIn X hsub).here ?_)
  simp only [Bool.not_false, Bool.and_self, Bool.false_eq_true, if_false, if_true]
  refine wpAny_bind ?_
  have nsp : Looks (model prog w) s.heap (numberSlotInPython (.ref C) "mul") true := by
    intro A Q E s' k q
    unfold numberSlotInPython
    dsimp only
    refine wpAny_bind ((looks_findIn X hs) A _ E s' k ?_)
    show wpAny _ _ (pure true >>= _) _ _ _
    refine wpAny_bind (wpAny_pure (wpAny_bind ((looks_findIn X hr) A _ E s' k ?_)))
    show wpAny _ _ (pure true >>= _) _ _ _
    refine wpAny_bind (wpAny_pure ?_)
    simp only [Bool.or_self, if_true]
    exact wpAny_pure q
  refine nsp.here ?_
  simp only [if_true]
  refine wpAny_bind (show wpAny _ _ (pure false) _ _ _ from wpAny_pure ?_)
  simp only [Bool.not_false, if_true]
  rw [PySem.F.slot_int_rmul.lookup]
  refine wpAny_bind (wpAny_pure (wpAny_bind ?_))
  unfold tryMethod
  refine wpAny_bind (special_fn X I hs (beq_iff_eq.mp hf) (wpAny_mono h (fun v s' hv => ?_) fun _ _ e => e))
  cases v <;> first | exact hv.elim | exact wpAny_pure (wpAny_pure (wpAny_pure hv))
theorem int_mul_no {i : Int} {t : Tok} {dx : Addr} {Q : Value → Shared → Prop} (hx : s.heap.get? x = some (instObj C dx)) (h : Q .notImplemented s) :
    wpAny (model prog w) A (call (.builtin "int.__mul__") [.int i t, .ref x]) Q E s := by
  refine wpAny_call_entry PySem.F.slot_int_mul (typeIs_int s i t) PySem.F.entry_int_mul ?_ (PySem.F.args_int_mul_2 _ _)
  unfold Builtin.«int.__mul__» Builtin.Int.intBinary
  refine wpAny_bind (wpAny_of_eq (a := (Value.int i t, [Value.ref x])) (by first | rfl | (simp only [slotArgs]; rfl)) ?_)
  refine wpAny_bind (wpAny_pure ?_)
  dsimp only [List.headD]
  refine wpAny_bind ?_
  show wpAny _ _ (load x >>= _) _ _ _
  refine wpAny_bind (wpAny_load hx ?_)
  refine wpAny_pure ?_
  refine wpAny_bind (wpAny_rule ?_)
  exact wpAny_pure ⟨_, rfl, h⟩
theorem binop_IC {i : Int} {t : Tok} {dx : Addr} {od : Obj} {Q : Value → Shared → Prop} (F : Fr h₀ L s.heap m) (X₀ : K.In h₀) (I : InstAt s.heap x (instObj C dx) C (some od)) (hc : selfFirst K C = true) (hsub : subIn K (.ref C) (.type "int") = some false)
    (hs : findIn K (.ref C) (PySem.dunder "mul") = some (some (.ref f))) (hr : findIn K (.ref C) (PySem.dunderR "mul") = some (some (.ref r))) (hf : isFn K (.ref r) = true)
    (h : wpAny (model prog w) A (call (.ref r) [.ref x, .int i t]) (PySem.W.CmpBack Q) E s) : wpAny (model prog w) A (binaryOp .Mult (.int i t) (.ref x)) Q E s := by
  have X := X₀.keeps F.keep
  obtain ⟨cd, rest, hcd, hm⟩ := mro_head hc
  have ne : (Value.type "int" == Value.ref C) = false := rfl
  unfold binaryOp
  refine wpAny_holding (wpAny_bind ?_)
  unfold binaryOp1
  refine wpAny_bind (show wpAny _ _ (pure (Value.type "int")) _ _ _ from wpAny_pure ?_)
  refine wpAny_bind (I.type.here ?_)
  rw [PySem.F.fills_int_mul]
  refine wpAny_bind (wpAny_pure ?_)
  simp only [ne, Bool.false_eq_true, if_false]
  refine wpAny_bind ((fills_K X hcd hm hs).here ?_)
  simp only [Bool.and_self, if_true]
  refine wpAny_bind ((looks_subIn X hsub).here ?_)
  simp only [Bool.not_false, Bool.and_self, Bool.false_eq_true, if_false, if_true]
  refine wpAny_bind (show wpAny _ _ (pure false) _ _ _ from wpAny_pure ?_)
  simp only [Bool.false_eq_true, if_false]
  refine wpAny_bind ?_
  have one : wpAny (model prog w) A (tryMethod (.int i t) (PySem.dunder "mul") (.ref x)) (fun v s' => v = none ∧ s' = s) E s := by
    unfold tryMethod
    refine wpAny_bind (wpAny_callSpecial?_slot (typeIs_int s i t) PySem.F.slot_int_mul (int_mul_no I.at_ ?_))
    exact wpAny_pure ⟨rfl, rfl⟩
  refine wpAny_mono one (fun v s' hv => ?_) fun _ _ e => e
  obtain ⟨rfl, rfl⟩ := hv
  dsimp only
  refine wpAny_bind ?_
  unfold tryMethod
  refine wpAny_bind (special_fn X I hr (beq_iff_eq.mp hf) (wpAny_mono h (fun v s2 hv => ?_) fun _ _ e => e))
  cases v <;> first | exact hv.elim | exact wpAny_pure (wpAny_bind (wpAny_rule (wpAny_pure (wpAny_pure hv))))
end
/-! ### as rules -/
section
variable {X : Cx} {k : Nat} {f g C : Addr} {fd : FuncData} {ps : List Str} {sp : Sp}
def rOwnI (C : Addr) (sp : Sp) : R2 := fun x y H Q => (∃ a dx fs, x = .ref a ∧ Rd H a (.ins C dx fs)) ∧ (∃ i, y = .int i) ∧ sp [x, y] H Q E0
theorem op_ownI (F : FnOk X.prog X.w X.K X.mg X.base CX0 k f fd ps sp) (hr : Room k X.A) (hb : Binds X.K fd ps []) (hc : selfFirst X.K C = true) (hsub : subIn X.K (.type "int") (.ref C) = some false)
    (hs : findIn X.K (.ref C) (PySem.dunder "mul") = some (some (.ref f))) (hg : findIn X.K (.ref C) (PySem.dunderR "mul") = some (some (.ref g))) (hf : isFn X.K (.ref f) = true) : OpR X (binaryOp .Mult) (rOwnI C sp) := by
  intro pins s σ H x y v u Q I rx ry h
  obtain ⟨⟨a, dx, fs, rfl, ha⟩, ⟨i, rfl⟩, h⟩ := h
  cases rx
  obtain ⟨t, rfl⟩ := id ry
  obtain ⟨mA, J, _⟩ := ins_rd I.hok ha
  obtain ⟨od, J, _⟩ := J.look
  obtain ⟨m, hF⟩ := I.fr
  refine binop_CI hF I.ok.mod.kin J hc hsub hs hg hf (wpAny_mono (run_fn (us := [.ref a, .int i t]) (vs := [.ref a, .int i]) F hr hb .nil pass0 I (.cons rfl (.cons ry .nil)) ?_) (fun w s' hw => back_of hw) fun _ _ z => z)
  rw [List.append_nil]
  exact h
def rIOwn (C : Addr) (sp : Sp) : R2 := fun x y H Q => (∃ a dx fs, y = .ref a ∧ Rd H a (.ins C dx fs)) ∧ (∃ i, x = .int i) ∧ sp [y, x] H Q E0
theorem op_Iown (F : FnOk X.prog X.w X.K X.mg X.base CX0 k g fd ps sp) (hr : Room k X.A) (hb : Binds X.K fd ps []) (hc : selfFirst X.K C = true) (hsub : subIn X.K (.ref C) (.type "int") = some false)
    (hs : findIn X.K (.ref C) (PySem.dunder "mul") = some (some (.ref f))) (hg : findIn X.K (.ref C) (PySem.dunderR "mul") = some (some (.ref g))) (hf : isFn X.K (.ref g) = true) : OpR X (binaryOp .Mult) (rIOwn C sp) := by
  intro pins s σ H x y v u Q I rx ry h
  obtain ⟨⟨a, dx, fs, rfl, ha⟩, ⟨i, rfl⟩, h⟩ := h
  cases ry
  obtain ⟨t, rfl⟩ := id rx
  obtain ⟨mA, J, _⟩ := ins_rd I.hok ha
  obtain ⟨od, J, _⟩ := J.look
  obtain ⟨m, hF⟩ := I.fr
  refine binop_IC hF I.ok.mod.kin J hc hsub hs hg hf (wpAny_mono (run_fn (us := [.ref a, .int i t]) (vs := [.ref a, .int i]) F hr hb .nil pass0 I (.cons rfl (.cons rx .nil)) ?_) (fun w s' hw => back_of hw) fun _ _ z => z)
  rw [List.append_nil]
  exact h
end
end My


/-! Own3: o[i], for x in o, by own __getitem__ and __iter__. -/
namespace My
open PySem PySem.Spec PyProof.Rows L2
section
variable {X : Cx} {k : Nat} {f C : Addr} {fd : FuncData} {ps : List Str} {sp : Sp}
/-- the callee runs one deeper -/
theorem run_fn1 {pins : List (Addr × Obj)} {σ : L2.St} {H : Hp} {s : Shared} {Q : VK} {us : List Value} {vs : List V} {E' : Value → Shared → Prop} (F : FnOk X.prog X.w X.K X.mg X.base CX0 k f fd ps sp) (hr : Room (k + 1) X.A) (hb : Binds X.K fd ps [])
    (I : Inv X pins σ H s) (r : Vals vs us) (h : sp vs H Q E0) : wpAny (model X.prog X.w) X.A.in1 (call (.ref f) us) (EP X pins σ Q) E' s := by
  have hl : (us ++ []).length = ps.length := by
    rw [List.append_nil, ← r.length]
    exact F.len _ _ _ _ h
  have bt := hb s us I.kIn hl
  rw [List.append_nil] at bt
  refine wpAny_call (codeAny_mono (F.run X.A.in1 X.stack s H ⟨us, []⟩ us vs Q E0 hr.in1 I.env0.in1 bt r h) fun r s' hq => ?_)
  cases r with
  | error e => exact False.elim hq
  | ok fl =>
    cases fl with
    | ret u => exact I.after hq
    | next => exact False.elim hq
    | brk => exact False.elim hq
    | cont => exact False.elim hq
def rOwnIx (C : Addr) (sp : Sp) : R2 := fun x y H Q => (∃ a dx fs, x = .ref a ∧ Rd H a (.ins C dx fs)) ∧ sp [x, y] H Q E0
theorem pe_ownIx {a b : Expr} {ta tb : TE} {pos : Pos} (F : FnOk X.prog X.w X.K X.mg X.base CX0 k f fd ps sp) (hr : Room (k + 1) X.A) (hb : Binds X.K fd ps []) (hs : PySem.W.findIn X.K (.ref C) "__getitem__" = some (some (.ref f)))
    (hfn : PySem.W.fnIn X.K f = true) (hf : PySem.W.isFn X.K (.ref f) = true) (ha : PE X a ta) (hb' : PE X b tb)
    (hsl : ∀ (x : Addr) (i : Value), subscripted b true (.ref x) i = runValue (.builtin "lifetime.subscript" ⟨[.ref x, i], []⟩) := by intro _ _; with_unfolding_all rfl) : PE X (.Subscript a b pos) (tOp (rOwnIx C sp) ta tb) := by
  refine ⟨fun pins s σ H Q I h => ?_⟩
  refine Subscript_ (binT ha hb' I h fun v u s2 x y H2 I2 rx ry q => ?_)
  obtain ⟨⟨p, dx, fs, rfl, hp⟩, q⟩ := q
  cases rx
  obtain ⟨mA, J, _⟩ := ins_rd I2.hok hp
  obtain ⟨od, J, _⟩ := J.look
  obtain ⟨m, hF⟩ := I2.fr
  exact PySem.W.sub_K hF I2.ok.mod.kin J hs hfn hf (run_fn1 (vs := [.ref p, y]) F hr hb I2 (.cons rfl (.cons ry .nil)) q) (hsl _ _)
end
/-! ### a def whose promise speaks of the size of the heap at its entry -/
structure NOk (P : Program) (w : World) (K : PySem.W.Frag) (mg : Str → Option Value) (base : Heap) (k : Nat) (f : Addr) (fd : FuncData) (ps : List Str) (sp : Nat → Sp) : Prop where
  len : ∀ n vs H Q E, sp n vs H Q E → vs.length = ps.length
  go : ∀ (A : Around) (outer : List Env) (s : Shared) (H : Hp) (args : Args) (us : List Value) (vs : List V) (Q : VK) (E : XK), Room k A → Env0 P w K mg base A outer s H →
    BindsTo s fd args (ps.zip us) → Vals vs us → sp s.heap.objs.size vs H Q E → codeAny (model P w) A (.call (.ref f) args) (CR CX0 outer P w H s Q E) s
section
variable {P : Program} {w : World} {K : PySem.W.Frag} {mg : Str → Option Value} {base : Heap}
theorem nok_of {x qual : Str} {st : Stmt} {f : Addr} {fd : FuncData} {N ps : List Str} {k : Nat} {sp : Nat → Sp} (F : FunD K x qual (defArgs st) (defBody st) (defScope st) [] [] f fd) (S : FnScope N ps (defScope st)) (len : ∀ n vs H Q E, sp n vs H Q E → vs.length = ps.length)
    (hb : ∀ (cdv : Value) (A : Around) (outer : List Env) (s : Shared) (H : Hp) (vs : List V) (Q : VK) (E : XK), Room k (A.deeper (envOfC qual (defScope st) s.heap.objs.size f cdv)) → sp s.heap.objs.size vs H Q E →
      ∃ t, PSs (cxOf CX0 P w K mg base N qual (defScope st) f cdv A outer s H E) (defBody st) t ∧ t { nx := fun _ H' => Q .non H', rt := Q } (L2.start N vs) H) : NOk P w K mg base (k + 1) f fd ps sp := by
  obtain ⟨oc, od, dV, kV, doc, pm, an, cdv, ct, osl, rfl, lk, hcd, _, _⟩ := F.ex
  refine ⟨len, fun A outer s H args us vs Q E hr e0 bt r hsp => ?_⟩
  have hl := len _ _ _ _ _ hsp
  have kx : K.In s.heap := e0.mod.kin.keeps fun b o e => (e0.bs b o e).1
  have nl : s.heap.NoLimit := e0.mod.nolimit.keeps fun b o e => (e0.bs b o e).1
  refine codeAny_call_function hr.depth (kx _ _ lk) rfl S.co S.gen rfl (PySem.W.codeRec_of kx hcd) (bt _ _ _ _ ?_)
  refine wpAny_newFunctionEnv_cells S.kind (fun y hy => ?_) fun env he s1 z => ?_
  · obtain ⟨n, v⟩ := y
    rcases S.par n (List.of_mem_zip hy).1 with q | q
    · exact .inl q
    · exact .inr ⟨q, PySem.W.cellsFrom_some _ _ _ (.inl q)⟩
  · subst he
    refine ⟨nl.keeps z.toInCall.keep, codeAny_func ?_⟩
    obtain ⟨t, ht, hq⟩ := hb cdv A outer s H vs Q E (hr.deeper _) hsp
    have J := inv_start (CX := CX0) (E := E) (mg := mg) (base := base) (P := P) (w := w) (K := K) S hr.hd e0 hl r z
    refine wpAny_mono (ht.run [] s1 (L2.start N vs) H _ J hq) (fun fl s' hs => ?_) fun e s' hs => hs
    cases fl with
    | ret u =>
      obtain ⟨v, σ', H', L, rv, q⟩ := hs
      exact ⟨v, H', L.os, L.bare, L.base, L.hok, rv, q⟩
    | next =>
      obtain ⟨σ', H', L, q⟩ := hs
      exact ⟨V.non, H', L.os, L.bare, L.base, L.hok, rfl, q⟩
    | brk =>
      obtain ⟨_, _, _, q⟩ := hs
      exact q.elim
    | cont =>
      obtain ⟨_, _, _, q⟩ := hs
      exact q.elim
end
/-- own __iter__ that gives iter(self.f) -/
def spItF (K : PySem.W.Frag) (C : Addr) (f : Str) (n : Nat) : Sp := fun vs H Q _ => ∃ (a dx l : Addr) (fs : List (Str × V)) (xs : List V), vs = [.ref a] ∧ Rd H a (.ins C dx fs) ∧ fs.lookup f = some (.ref l) ∧ SqL K H l xs ∧ ∀ it, H it = none → n ≤ it → Q (.ref it) (upd H it (ItO l it 0))
theorem len_itF {K : PySem.W.Frag} {C : Addr} {f : Str} {n : Nat} {vs : List V} {H : Hp} {Q : VK} {E : XK} (h : spItF K C f n vs H Q E) : vs.length = 1 := by
  obtain ⟨_, _, _, _, _, rfl, _⟩ := h
  rfl
section
variable {X : Cx} {k : Nat} {fi C : Addr} {fd : FuncData} {ps : List Str} {fld : Str}
/-- pyIter of such an instance -/
theorem own_pyIter {pins : List (Addr × Obj)} {σ : L2.St} {H : Hp} {s : Shared} {a dx l : Addr} {fs : List (Str × V)} {xs : List V} {E' : Value → Shared → Prop} {Q : Value → Shared → Prop} {A : Around} (hA : A.frames = X.A.frames) (F : NOk X.prog X.w X.K X.mg X.base k fi fd ps (spItF X.K C fld)) (hr : Room k A) (hb : Binds X.K fd ps [])
    (hs : PySem.W.findIn X.K (.ref C) "__iter__" = some (some (.ref fi))) (hf : PySem.W.isFn X.K (.ref fi) = true) (I : Inv X pins σ H s) (ha : Rd H a (.ins C dx fs)) (hl : fs.lookup fld = some (.ref l)) (hx : SqL X.K H l xs)
    (hq : ∀ it s', H it = none → s.heap.objs.size ≤ it → Inv X pins σ (upd H it (ItO l it 0)) s' → Q (.ref it) s') : wpAny (model X.prog X.w) A (pyIter (.ref a)) Q E' s := by
  obtain ⟨mA, J, _⟩ := ins_rd I.hok ha
  obtain ⟨od, J, _⟩ := J.look
  obtain ⟨m, hF⟩ := I.fr
  refine PySem.W.owit_iter hF I.ok.mod.kin J hs hf ?_
  have hsp : spItF X.K C fld s.heap.objs.size [.ref a] H (fun v H' => ∃ it, v = .ref it ∧ H it = none ∧ s.heap.objs.size ≤ it ∧ H' = upd H it (ItO l it 0)) E0 := ⟨a, dx, l, fs, xs, rfl, ha, hl, hx, fun it h1 h2 => ⟨it, rfl, h1, h2, rfl⟩⟩
  have e0 : Env0 X.prog X.w X.K X.mg X.base A X.stack s H := by
    have e := I.env0
    exact ⟨by rw [hA]; exact e.frames, e.mod, e.bs, e.bsz, e.funs, e.frf, e.hok, e.bare⟩
  have hlen : ([Value.ref a] ++ []).length = ps.length := by
    rw [← F.len _ _ _ _ _ hsp]
    rfl
  have bt := hb s [.ref a] I.kIn hlen
  rw [List.append_nil] at bt
  refine wpAny_call (codeAny_mono (F.go A X.stack s H ⟨[.ref a], []⟩ [.ref a] [.ref a] _ E0 hr e0 bt (.cons rfl .nil) hsp) fun r s' hq' => ?_)
  cases r with
  | error e => exact False.elim hq'
  | ok fl =>
    cases fl with
    | next => exact False.elim hq'
    | brk => exact False.elim hq'
    | cont => exact False.elim hq'
    | ret u =>
      obtain ⟨v, H', I', rv, it, ev, h1, h2, eH⟩ := I.after hq'
      subst ev
      rw [eH] at I'
      cases rv
      have eo := itO_get I' upd_same
      have hT : s'.TypeIs (.ref it) "list_iterator" := ⟨_, eo, rfl⟩
      unfold PySem.W.OwitIt
      exact wpAny_specialOf (name := Str.ofString "__next__") hT slot_listiter_next.lookup (hq it s' h1 h2 I')
def iOwn (K : PySem.W.Frag) (C : Addr) (fld : Str) (te : TE) : TI := fun σ H R => te σ H fun x H1 => ∃ (a dx l : Addr) (fs : List (Str × V)), x = .ref a ∧ Rd H1 a (.ins C dx fs) ∧ fs.lookup fld = some (.ref l) ∧ (∃ xs, SqL K H1 l xs) ∧ R (Itl K l) H1
theorem pi_own {tg e : Expr} {te : TE} (F : NOk X.prog X.w X.K X.mg X.base k fi fd ps (spItF X.K C fld)) (hr : Room k X.A) (hb : Binds X.K fd ps []) (hs : PySem.W.findIn X.K (.ref C) "__iter__" = some (some (.ref fi))) (hf : PySem.W.isFn X.K (.ref fi) = true)
    (he : PE X e te) : PI X tg e (iOwn X.K C fld te) := by
  refine ⟨fun pins s σ H R I h => ?_⟩
  refine thn (he.run pins s σ H _ I h) fun v s1 ⟨x, H1, I1, r1, a, dx, l, fs, ex, ha, hl, ⟨xs, hx⟩, q⟩ => ?_
  subst ex
  cases r1
  refine own_pyIter rfl F hr hb hs hf I1 ha hl hx fun it s' h1 h2 I' => ?_
  have hi : upd H1 it (ItO l it 0) it = some (ItO l it 0) := upd_same
  have eo := itO_get I' hi
  have st : s'.heap.IsListIter it l 0 := ⟨_, eo, rfl, rfl⟩
  have hi' := hi
  unfold ItO at hi'
  refine ⟨it, [it], _, _, ItX.dropH (upd H1 it (ItO l it 0)) it, rfl, ItX.inv_drop I' hi', turn_list l it, st, fun b hb' => ?_, ?_⟩
  · have e : b = it := by simpa using hb'
    rw [e]
    exact ItX.inv_fp I' hi (Nat.le_trans I1.sz h2)
  · rw [ItX.dropH_upd h1]
    exact q
end
end My


/-! Own4: sorted texts of any number; == with a built-in on the left. -/
namespace My
open PySem PySem.Spec PyProof.Rows L2
section
variable {X : Cx}
def leS (a b : Str) : Bool := decide (a.cps.toList ≤ b.cps.toList)
/-- sorted(xs), texts, any number -/
def rSortedL (K : PySem.W.Frag) : List V → Hp → VK → Prop := fun vs H Q => ∃ (a : Addr) (xs : List Str), vs = [V.ref a] ∧ SqL K H a (xs.map V.str) ∧ ∀ p : Addr, H p = none → Q (.ref p) (upd H p (.lst ((xs.mergeSort leS).map V.str)))
theorem each_strs : ∀ {us : List Value} {xs : List Str}, StrsAre us xs → PySem.W.EachIs (fun v b => ∃ t, v = Value.str b t) us xs
  | _, _, .nil => .nil
  | _, _, .cons x t h => .cons ⟨t, rfl⟩ (each_strs h)
theorem strs_each : ∀ {us : List Value} {xs : List Str}, PySem.W.EachIs (fun v b => ∃ t, v = Value.str b t) us xs → StrsAre us xs
  | _, _, .nil => .nil
  | _, _, .cons ⟨t, e⟩ h => by subst e; exact .cons _ t (strs_each h)
theorem cr_sortedL (hu : X.A.units + 2 < cLine) : CallR X (.builtin "sorted") (rSortedL X.K) := by
  intro pins s σ H vs us Q I r h
  obtain ⟨a, xs, rfl, hs, q⟩ := h
  obtain ⟨its, rv, hl, hz⟩ := I.list hs
  rw [Vals.ref1 r]
  rw [List.length_map] at hz
  have e := each_strs rv.strs
  refine PySem.W.sorted_data (enc := fun b => .str b) hl.isList e (e.mono fun v b ⟨t, ht⟩ => ⟨[], by subst ht; exact .str _ _⟩) (PySem.W.AllAlike.of fun b b' => by simp [PySem.W.alike]) (PySem.W.Sortable.others fun b => ⟨fun z => (nomatch z), fun _ z => (nomatch z)⟩) hz (fun b _ => by show X.A.units + 2 + 0 < cLine; exact hu) fun out ho eo => ?_
  rw [PySem.W.dataLe_str (fun b => b)] at eo
  obtain ⟨ep, he'⟩ := PyProof.Rows.sortedAll_at s.heap its out.toArray
  have hlen : ((xs.mergeSort leS).map V.str).length ≤ sizeLine := by rw [List.length_map, List.length_mergeSort]; exact hz
  exact ⟨.ref _, upd H (s.heap.objs.size + 1) (.lst ((xs.mergeSort leS).map V.str)), I.laid (t' := s.toks) (fun _ _ => PyProof.Rows.sortedAll_old) (Nat.le_succ _) ⟨hlen, out, ep, vals_of_strs (strs_each eo), he'⟩, rfl, q _ (I.hok.fresh (Nat.le_succ _))⟩
end
end My


/-! Own5: == with a built-in on the left and an instance on the right. -/
namespace My
open PySem PySem.Spec PyProof.Rows L2 PySem.W
open AutoSeq1 (wpAny_loadPart')
section
variable {prog : Program} {w : World} {A : Around} {E : Value → Shared → Prop} {s : Shared} {K : Frag} {x C L f dx : Addr} {h₀ : Heap} {m : Str → Option Value} {ox : Obj} {od : Option Obj}
theorem cmp_KR {a : Value} {T id : String} {Q : Value → Shared → Prop} (hu : A.units < cLine) (F : Fr h₀ L s.heap m) (X₀ : K.In h₀) (I : InstAt s.heap x ox C od) (ha : s.TypeIs a T) (hsub : subIn K (.ref C) (.type T) = some false) (h1 : Slot T (cmpInfo .Eq).2.1 id)
    (hc : ∀ Q' : Value → Shared → Prop, Q' .notImplemented s → wpAny (model prog w) A (call (.builtin id) [a, .ref x]) Q' E s)
    (hs : findIn K (.ref C) "__eq__" = some (some (.ref f))) (hf : isFn K (.ref f) = true)
    (h : wpAny (model prog w) A (call (.ref f) [.ref x, a]) (PySem.W.CmpBack Q) E s) : wpAny (model prog w) A (richCompare .Eq a (.ref x)) Q E s := by
  have X := X₀.keeps F.keep
  have one : wpAny (model prog w) A (tryCompare (.ref x) "__eq__" a) (fun r s' => ∃ v, r = some v ∧ Q v s') E s := by
    unfold tryCompare
    refine wpAny_bind (ifBound_K X I hs hf (wpAny_mono h (fun v s' hv => ?_) fun _ _ e => e))
    cases v <;> first | exact hv.elim | exact wpAny_pure ⟨_, rfl, hv⟩
  rcases hi : cmpInfo CmpOp.Eq with ⟨sym, g, r⟩
  have hi2 : (cmpInfo CmpOp.Eq).2.2 = "__eq__" := rfl
  rw [hi] at h1 hi2
  simp only [richCompare, hi, ha.oneThing_none]
  refine wpAny_holding (wpAny_bind (wpAny_cRoomFor hu ?_))
  refine wpAny_bind (wpAny_typeOf ha (wpAny_bind (I.type.here ?_)))
  have hne : (Value.type T != Value.ref C) = true := rfl
  simp only [hne, if_true]
  refine wpAny_bind ((looks_subIn X hsub).here ?_)
  simp only [Bool.false_eq_true, if_false, Bool.not_false, if_true]
  refine wpAny_bind (m := tryCompare a _ (.ref x)) (wpAny_tryCompare_declines ha h1 (hc _ ⟨rfl, ?_⟩))
  have hi3 : r = "__eq__" := hi2
  subst hi3
  refine wpAny_bind (m := tryCompare (.ref x) _ a) (wpAny_mono one (fun r s' z => ?_) fun _ _ e => e)
  obtain ⟨v, rfl, hq⟩ := z
  exact wpAny_pure hq
theorem decl_none {Q : Value → Shared → Prop} (h : Q .notImplemented s) : wpAny (model prog w) A (call (.builtin "NoneType.__eq__") [.none, .ref x]) Q E s := by
  refine GQ.call_here F.slot_NoneType_eq rfl F.entry_NoneType_eq (F.args_NoneType_eq_2 _ _) ?_
  obtain ⟨hp, g, d, tk, os⟩ := s
  wp_walk
  exact h
theorem decl_int {i : Int} {t : Tok} {Q : Value → Shared → Prop} (I : s.heap.get? x = some (instObj C dx)) (h : Q .notImplemented s) : wpAny (model prog w) A (call (.builtin "int.__eq__") [.int i t, .ref x]) Q E s := by
  refine GQ.call_here F.slot_int_eq rfl F.entry_int_eq (F.args_int_eq_2 _ _) ?_
  obtain ⟨hp, g, d, tk, os⟩ := s
  wp_walk using wpAny_loadPart' I, wpAny_load I
  exact h
theorem decl_str {z : Str} {t : Tok} {Q : Value → Shared → Prop} (I : s.heap.get? x = some (instObj C dx)) (h : Q .notImplemented s) : wpAny (model prog w) A (call (.builtin "str.__eq__") [.str z t, .ref x]) Q E s := by
  refine GQ.call_here F.slot_str_eq rfl F.entry_str_eq (F.args_str_eq_2 _ _) ?_
  obtain ⟨hp, g, d, tk, os⟩ := s
  wp_walk using wpAny_loadPart' I, wpAny_load I
  exact h
theorem decl_list {l : Addr} {ol : Obj} {Q : Value → Shared → Prop} (X : K.In s.heap) (I : InstAt s.heap x ox C od) (hsub : subIn K (.ref C) (.type "list") = some false) (hl : s.heap.get? l = some ol) (hc : ol.cls = .type "list") (h : Q .notImplemented s) : wpAny (model prog w) A (call (.builtin "list.__eq__") [.ref l, .ref x]) Q E s := by
  refine GQ.call_here F.slot_list_eq ⟨_, hl, hc⟩ F.entry_list_eq (F.args_list_eq_2 _ _) ?_
  show wpAny _ _ (isInstance (.ref x) (.type "list") >>= _) _ _ _
  unfold isInstance
  refine wpAny_bind (wpAny_bind (I.type.here ((looks_subIn X hsub).here ?_)))
  obtain ⟨hp, g, d, tk, os⟩ := s
  wp_walk
  exact h
theorem decl_dict {l : Addr} {ol : Obj} {Q : Value → Shared → Prop} (X : K.In s.heap) (I : InstAt s.heap x ox C od) (hsub : subIn K (.ref C) (.type "dict") = some false) (hl : s.heap.get? l = some ol) (hc : ol.cls = .type "dict") (h : Q .notImplemented s) : wpAny (model prog w) A (call (.builtin "dict.__eq__") [.ref l, .ref x]) Q E s := by
  refine GQ.call_here F.slot_dict_eq ⟨_, hl, hc⟩ F.entry_dict_eq (F.args_dict_eq_2 _ _) ?_
  show wpAny _ _ (isInstance (.ref x) (.type "dict") >>= _) _ _ _
  unfold isInstance
  refine wpAny_bind (wpAny_bind (I.type.here ((looks_subIn X hsub).here ?_)))
  obtain ⟨hp, g, d, tk, os⟩ := s
  wp_walk
  exact h
end
/-- what may stand on the left -/
def LeftB (K : Frag) (H : Hp) (x : V) : Prop := x = .non ∨ (∃ i, x = .int i) ∨ (∃ z, x = .str z) ∨ (∃ l xs, x = .ref l ∧ SqL K H l xs) ∨ ∃ l kvs, x = .ref l ∧ Rd H l (.dK kvs)
def subsNo (K : Frag) (C : Addr) : Bool := ["NoneType", "int", "str", "list", "dict"].all fun T => subIn K (.ref C) (.type T) == some false
def rOwnEqR (K : Frag) (C : Addr) (sp : Sp) : R2 := fun x y H Q => (∃ a dx fs, y = .ref a ∧ Rd H a (.ins C dx fs)) ∧ LeftB K H x ∧ sp [y, x] H Q E0
section
variable {X : Cx} {k : Nat} {f C : Addr} {fd : FuncData} {ps : List Str} {sp : Sp}
theorem op_ownEqR (F : FnOk X.prog X.w X.K X.mg X.base CX0 k f fd ps sp) (hr : Room k X.A) (hb : Binds X.K fd ps []) (hn : subsNo X.K C = true)
    (hs : PySem.W.findIn X.K (.ref C) "__eq__" = some (some (.ref f))) (hf : PySem.W.isFn X.K (.ref f) = true) : OpR X (compareOp .Eq) (rOwnEqR X.K C sp) := by
  intro pins s σ H x y v u Q I rx ry h
  obtain ⟨⟨a, dx, fs, rfl, ha⟩, hl, h⟩ := h
  cases ry
  have sub : ∀ T ∈ ["NoneType", "int", "str", "list", "dict"], subIn X.K (.ref C) (.type T) = some false := fun T hT => beq_iff_eq.mp (List.all_eq_true.mp hn T hT)
  obtain ⟨mA, J, _⟩ := ins_rd I.hok ha
  have ob := J.obj
  obtain ⟨od, J, _⟩ := J.look
  obtain ⟨m, hF⟩ := I.fr
  show wpAny (model X.prog X.w) X.A (richCompare .Eq v (.ref a)) (EP X pins σ Q) X.xe s
  have run : wpAny (model X.prog X.w) X.A (call (.ref f) [.ref a, v]) (PySem.W.CmpBack (EP X pins σ Q)) X.xe s :=
    wpAny_mono (run_fn (us := [.ref a, v]) (vs := [.ref a, x]) F hr hb .nil pass0 I (.cons rfl (.cons rx .nil)) (by rw [List.append_nil]; exact h)) (fun w s' hw => back_of hw) fun _ _ z => z
  rcases hl with rfl | ⟨i, rfl⟩ | ⟨z, rfl⟩ | ⟨l, xs, rfl, hx⟩ | ⟨l, kvs, rfl, hx⟩
  · cases rx
    exact cmp_KR hr.units0 hF I.ok.mod.kin J (T := "NoneType") rfl (sub _ (by decide)) PySem.F.slot_NoneType_eq (fun Q' q => decl_none q) hs hf run
  · obtain ⟨t, rfl⟩ := rx
    exact cmp_KR hr.units0 hF I.ok.mod.kin J (T := "int") rfl (sub _ (by decide)) PySem.F.slot_int_eq (fun Q' q => decl_int ob q) hs hf run
  · obtain ⟨t, rfl⟩ := rx
    exact cmp_KR hr.units0 hF I.ok.mod.kin J (T := "str") rfl (sub _ (by decide)) PySem.F.slot_str_eq (fun Q' q => decl_str ob q) hs hf run
  · cases rx
    obtain ⟨its, rv, ⟨o, n, ho, hc, _⟩, _⟩ := I.list hx
    exact cmp_KR hr.units0 hF I.ok.mod.kin J (T := "list") ⟨o, ho, hc⟩ (sub _ (by decide)) PySem.F.slot_list_eq (fun Q' q => decl_list I.kIn J (sub _ (by decide)) ho hc q) hs hf run
  · cases rx
    obtain ⟨z, lo, vs, rel, dd⟩ := dk_rd I.hok hx
    obtain ⟨ep, o, es, ho, hc0, _⟩ := dd.dictAt
    have hc := hc0.1
    exact cmp_KR hr.units0 hF I.ok.mod.kin J (T := "dict") ⟨o, ho, hc⟩ (sub _ (by decide)) PySem.F.slot_dict_eq (fun Q' q => decl_dict I.kIn J (sub _ (by decide)) ho hc q) hs hf run
end
end My


/-! Own6: list(o) of an instance whose __iter__ is iter(self.f). -/
namespace My
open PySem PySem.Spec PyProof.Rows L2
theorem sql_upd {K : PySem.W.Frag} {H : Hp} {l q : Addr} {xs : List V} {o : HO} (h : SqL K H l xs) (hq : H q = none) : SqL K (upd H q o) l xs := by
  rcases h with h | h
  · refine .inl ?_
    rcases h with h | ⟨u, h⟩
    · exact .inl (by rw [upd_ne (ne_of_none h hq)]; exact h)
    · exact .inr ⟨u, by rw [upd_ne (ne_of_none h hq)]; exact h⟩
  · exact .inr h
section
variable {X : Cx} {k : Nat} {fi C : Addr} {fd : FuncData} {ps : List Str} {fld : Str} {pins : List (Addr × Obj)} {σ : L2.St} {A1 : Around}
theorem ownL_loop {H : Hp} {it l q : Addr} {xs : List V} {Rs : Result → Shared → Prop} (hh : A1.in1.handled = none) (hqn : H q = none) (hx : SqL X.K H l xs) (hz : xs.length ≤ sizeLine) (hi : FpOk X pins H it) (hne : it ≠ q)
    (hdone : ∀ s, Inv X pins σ (upd H q (.lst xs)) s → Rs (.ok (.ret .none)) s) :
    ∀ (n i : Nat) (s : Shared), xs.length - i = n → i ≤ xs.length → Inv X pins σ (upd H q (.lst (xs.take i))) s → s.heap.IsListIter it l i → codeAny (model X.prog X.w) A1 (.builtin "list.extend.loop" ⟨[.ref q, .ref it, .none], []⟩) Rs s := by
  obtain ⟨f0, f1, f2, f3, f4, f5⟩ := hi
  intro n
  induction n with
  | zero =>
    intro i s hn hi I st
    have e : xs.take i = xs := List.take_of_length_le (by omega)
    rw [e] at I
    obtain ⟨its, rv, p, _⟩ := I.list (sql_upd hx hqn)
    have hl := rv.length
    refine codeAny_builtin PySem.F.entry_extend_loop ?_
    rw [Around.under_plainId PySem.F.plain_extend_loop _]
    show wpAny _ A1.in1 (pyNext (.ref it) >>= _) _ _ s
    refine wpAny_bind (wpAny_pyNext_list_end hh st p.isList (by simp; omega) fun h' eb => ?_)
    refine wpAny_pure (hdone _ (I.turned (t' := s.toks) (fun b o hb e => eb b o hb e) ?_ f1 f3 f4 f5))
    rw [upd_ne hne]
    exact f0
  | succ n ih =>
    intro i s hn hi I st
    have hlt : i < xs.length := by omega
    obtain ⟨its, rv, p, _⟩ := I.list (sql_upd hx hqn)
    obtain ⟨u, hu, ru⟩ := rv.get (List.getElem?_eq_getElem hlt)
    refine codeAny_builtin PySem.F.entry_extend_loop ?_
    rw [Around.under_plainId PySem.F.plain_extend_loop _]
    show wpAny _ A1.in1 (pyNext (.ref it) >>= _) _ _ s
    refine wpAny_bind (wpAny_pyNext_list_item st p.isList (x := u) (by simpa using hu) fun h' st' sb => ?_)
    have I1 : Inv X pins σ (upd H q (.lst (xs.take i))) { s with heap := h' } := I.turned (t' := s.toks) (fun b o hb e => (sb.2 b hb).trans e) (by rw [upd_ne hne]; exact f0) f1 f3 f4 f5
    show wpAny _ A1.in1 (updateSeq q (·.push u) >>= _) _ _ _
    obtain ⟨z, its2, m, r2, hl2, e2⟩ := I1.lstM upd_same
    have hlen : its2.length = i := by rw [← r2.length, List.length_take]; omega
    refine wpAny_bind (wpAny_updateSeq e2 rfl (wpAny_pure ⟨plainId_quiet PySem.F.plain_extend_loop _, ?_⟩) (by rw [List.size_toArray]; omega) (by show (its2.toArray.push u).size ≤ sizeLine + 1; rw [Array.size_push, List.size_toArray]; omega))
    have I2 := I1.lset (f := (·.push u)) (its' := its2 ++ [u]) (ys := xs.take i ++ [xs[i]]) (t' := s.toks) upd_same e2 (by simp) (r2.append (.cons ru .nil)) (by rw [List.length_append, List.length_take, List.length_singleton]; omega)
    rw [upd_upd, List.take_append_getElem hlt] at I2
    refine ih (i + 1) _ (by omega) hlt I2 ?_
    exact st'.at fun o e => (Heap.get?_update_other _ _ (fun z => hne z.symm)).trans e
theorem ownL_hint {M : Model} {A : Around} {E : Value → Shared → Prop} {s : Shared} {a : Addr} {Q : Bool → Shared → Prop} {K : PySem.W.Frag} {ox : Obj} {od : Option Obj} (h1 : PySem.W.findIn K (.ref C) "__len__" = some none) (h2 : PySem.W.findIn K (.ref C) "__length_hint__" = some none) (hK : K.In s.heap) (J : PySem.W.InstAt s.heap a ox C od) (h : Q true s) :
    wpAny M A (Builtin.List.listLengthHint (.ref a)) Q E s := by
  unfold Builtin.List.listLengthHint
  refine wpAny_bind (wpAny_bind (J.type.here ((PySem.W.looks_findIn hK h1).here ?_)))
  refine PySem.W.KFB.if_not rfl ?_
  refine PySem.W.KFB.if_not rfl ?_
  refine wpAny_bind (wpAny_bind (J.type.here ((PySem.W.looks_findIn hK h2).here ?_)))
  exact wpAny_pure h
/-- list(o) -/
def rListOwn (K : PySem.W.Frag) (C : Addr) (fld : Str) : List V → Hp → VK → Prop := fun xs H Q => ∃ (a dx l : Addr) (fs : List (Str × V)) (ys : List V), xs = [.ref a] ∧ Rd H a (.ins C dx fs) ∧ fs.lookup fld = some (.ref l) ∧ SqL K H l ys ∧ ∀ q, H q = none → Q (.ref q) (upd H q (.lst ys))
theorem rd_upd {H : Hp} {l q : Addr} {o u : HO} (h : Rd H l u) (hq : H q = none) : Rd (upd H q o) l u := by
  rcases h with h | ⟨z, h⟩
  · exact .inl (by rw [upd_ne (ne_of_none h hq)]; exact h)
  · exact .inr ⟨z, by rw [upd_ne (ne_of_none h hq)]; exact h⟩
theorem rd_ne {H : Hp} {l q : Addr} {u : HO} (h : Rd H l u) (hq : H q = none) : q ≠ l := by
  rintro rfl
  rcases h with h | ⟨z, h⟩ <;> (rw [hq] at h; cases h)
theorem call_listOwnF (hcalm : X.calm = true) (F : NOk X.prog X.w X.K X.mg X.base k fi fd ps (spItF X.K C fld)) (hr : Room (k + 2) X.A) (hb : Binds X.K fd ps []) (hs : PySem.W.findIn X.K (.ref C) "__iter__" = some (some (.ref fi))) (hf : PySem.W.isFn X.K (.ref fi) = true)
    (h1 : PySem.W.findIn X.K (.ref C) "__len__" = some none) (h2 : PySem.W.findIn X.K (.ref C) "__length_hint__" = some none) : CallR X (.type "list") (rListOwn X.K C fld) := by
  intro pins s σ H xs us Q I rv h
  obtain ⟨a, dx, l, fs, ys, rfl, ha, hl, hx, hq⟩ := h
  obtain ⟨u, rfl, ru⟩ := rv.one
  cases ru
  have hz : ys.length ≤ sizeLine := let ⟨_, _, _, z⟩ := I.list hx; z
  refine callType_codes (Q₁ := fun obj s₁ => obj = .ref s.heap.objs.size ∧ s₁ = { s with heap := s.heap.push { cls := .type "list", data := .seq #[] } }) PySem.F.called_list (PySem.F.typeCall_list_1 _) PySem.F.entry_list_init
    (code_list_new _ ⟨rfl, rfl⟩) fun obj s₁ h₁ => ?_
  obtain ⟨rfl, rfl⟩ := h₁
  have hS : (s.heap.push { cls := .type "list", data := .seq #[] }).get? s.heap.objs.size = some { cls := .type "list", data := .seq #[] } := Heap.get?_push_size _ rfl
  refine ⟨⟨_, hS, rfl⟩, PySem.F.args_list_init_2 _ _, ?_⟩
  have fr : H s.heap.objs.size = none := I.hok.fresh (Nat.le_refl _)
  have I1 : Inv X pins σ (upd H s.heap.objs.size (.lst [])) { s with heap := s.heap.push { cls := .type "list", data := .seq #[] } } := I.lnew (its := []) (t' := s.toks) .nil (Nat.zero_le _)
  show wpAny _ _ (do let old ← Builtin.List.listItems (.ref s.heap.objs.size); Builtin.List.listUpdate (.ref s.heap.objs.size) (fun _ => #[]); letGo old.toList.reverse; Builtin.List.listExtendWith (.ref s.heap.objs.size) (.ref a) .none) _ _ _
  refine wpAny_bind ?_
  unfold Builtin.List.listItems
  refine wpAny_bind (wpAny_seqItems hS rfl (wpAny_pure ?_))
  show wpAny _ _ (updateSeq s.heap.objs.size (fun _ => #[]) >>= fun _ => letGo (#[] : Array Value).toList.reverse >>= fun _ => Builtin.List.listExtendWith (.ref s.heap.objs.size) (.ref a) .none) _ _ _
  refine wpAny_bind (wpAny_updateSeq hS rfl ?_)
  have I2 := I1.lset (f := fun _ => #[]) (its := []) (its' := []) (ys := []) (t' := s.toks) upd_same hS rfl .nil (Nat.zero_le _)
  rw [upd_upd] at I2
  refine wpAny_bind (wpAny_letGo ?_)
  have ha2 : Rd (upd H s.heap.objs.size (.lst [])) a (.ins C dx fs) := rd_upd ha fr
  have hx2 : SqL X.K (upd H s.heap.objs.size (.lst [])) l ys := sql_upd hx fr
  have hne := rd_ne ha fr
  revert I2
  generalize (Shared.mk _ _ _ _ _ : Shared) = s2
  intro I2
  obtain ⟨mA, J, _⟩ := ins_rd I2.hok ha2
  obtain ⟨od, J, _⟩ := J.look
  unfold Builtin.List.listExtendWith
  refine wpAny_bind (J.type.here ?_)
  have e1 : Builtin.List.listSameRef (.ref s.heap.objs.size) (.ref a) = false := by simp [Builtin.List.listSameRef, hne]
  have e2 : (Value.ref C == Value.type "list") = false := rfl
  have e3 : (Value.ref C == Value.type "tuple") = false := rfl
  simp only [e1, e2, e3, Bool.or_false, Bool.false_eq_true, if_false]
  refine wpAny_bind (own_pyIter (A := X.A.in1.in1) rfl F hr.in1.in1 hb hs hf I2 ha2 hl hx2 fun it s3 n1 n2 I3 => ?_)
  have hi : upd (upd H s.heap.objs.size (.lst [])) it (ItO l it 0) it = some (ItO l it 0) := upd_same
  have eo := itO_get I3 hi
  have st : s3.heap.IsListIter it l 0 := ⟨_, eo, rfl, rfl⟩
  have hi' := hi
  unfold ItO at hi'
  have fp := ItX.inv_fp I3 hi (Nat.le_trans I2.sz n2)
  have I4 := ItX.inv_drop I3 hi'
  have ed : ItX.dropH (upd (upd H s.heap.objs.size (.lst [])) it (ItO l it 0)) it = upd H s.heap.objs.size (.lst []) := ItX.dropH_upd n1
  rw [ed] at I4
  rw [ed] at fp
  have hne2 : it ≠ s.heap.objs.size := by
    rintro rfl
    rw [upd_same] at n1
    cases n1
  have fp0 : FpOk X pins H it := ⟨by rw [upd_ne hne2] at n1; exact n1, fp.2⟩
  have fin : ∀ s', Inv X pins σ (upd H s.heap.objs.size (.lst ys)) s' → wants (fun r s₂ => r = .none ∧ EP X pins σ Q (.ref s.heap.objs.size) s₂) X.xe (.ok (.ret .none)) s' := fun s' I' => ⟨rfl, .ref s.heap.objs.size, _, I', rfl, hq _ fr⟩
  obtain ⟨mA', J', _⟩ := ins_rd I4.hok ha2
  obtain ⟨od', J', _⟩ := J'.look
  refine wpAny_bind (wpAny_holding (ownL_hint h1 h2 I4.kIn J' ?_))
  obtain ⟨z, its, kk, r3, hl3, e3⟩ := I4.lstM upd_same
  cases r3
  have hd : X.A.in1.in1.handled = none := I.ok.hd hcalm
  refine wpAny_ite_split (fun _ => ?_) (fun _ => wpAny_pure ⟨plainId_quiet PySem.F.plain_extend_loop _, ownL_loop (A1 := X.A.in1) hd fr hx hz fp0 hne2 fin _ 0 s3 rfl (Nat.zero_le _) I4 st⟩)
  refine wpAny_bind (wpAny_rule ?_)
  refine wpAny_bind ?_
  show wpAny _ _ (updateSeq s.heap.objs.size (·.push .none) >>= fun _ => updateSeq s.heap.objs.size (·.pop)) _ _ _
  refine wpAny_bind (wpAny_updateSeq e3 rfl ?_)
  have I5 := I4.lset (f := (·.push Value.none)) (its' := [Value.none]) (ys := [.non]) (t' := s3.toks) upd_same e3 (by simp) (.cons rfl .nil) (by rw [List.length_singleton, sizeLine_eq]; decide)
  obtain ⟨z4, its4, k4, r4, hl4, e4⟩ := I5.lstM upd_same
  obtain ⟨u4, rfl, ru4⟩ := r4.one
  refine wpAny_updateSeq e4 rfl ?_ (by show 1 ≤ sizeLine; rw [sizeLine_eq]; decide) (by show 0 ≤ sizeLine + 1; exact Nat.zero_le _)
  have I6 := I5.lset (f := (·.pop)) (its := [u4]) (its' := []) (ys := []) (t' := s3.toks) upd_same e4 (by rfl) .nil (Nat.zero_le _)
  rw [upd_upd, upd_upd] at I6
  refine wpAny_pure ⟨plainId_quiet PySem.F.plain_extend_loop _, ownL_loop (A1 := X.A.in1) hd fr hx hz fp0 hne2 fin _ 0 _ rfl (Nat.zero_le _) I6 ?_⟩
  exact (st.at fun o e => (Heap.get?_update_other _ _ (fun z => hne2 z.symm)).trans e).at fun o e => (Heap.get?_update_other _ _ (fun z => hne2 z.symm)).trans e
end
end My


/-! Own7: == of two dicts, isinstance with locked instances, xs[::-1]. -/
namespace My
open PySem PySem.Spec PyProof.Rows L2
/-! ### == of two dicts of flat values, both answers -/
def hitV (kvs : List (Key × V)) (p : Key × V) : Bool := match valV kvs p.1 with
  | some y => eqV p.2 y
  | none => false
def eqKV (ks kvs : List (Key × V)) : Bool := ks.length == kvs.length && ks.all (hitV kvs)
theorem hits_any {A : Around} {s : Shared} {kvs : List (Key × V)} {vb : List (Key × Value)} (rb : KV kvs vb) (fb : ∀ k y, valV kvs k = some y → flatV y = true) {ks : List (Key × V)} {va : List (Key × Value)} (ra : KV ks va) :
    (∀ p ∈ ks, flatV p.2 = true) → PySem.W.KeqHits A s vb va (ks.all (hitV kvs)) := by
  unfold KV at ra
  induction ra with
  | nil => intro _; exact .nil
  | @cons p q ps qs h t ih =>
    intro hp
    obtain ⟨h1, h2⟩ := h
    have f := hp p List.mem_cons_self
    have it := ih fun p' hm => hp p' (List.mem_cons_of_mem _ hm)
    have rr := rb.val p.1
    obtain ⟨k, v⟩ := q
    have h1' : p.1 = k := h1
    rw [List.all_cons]
    cases hv : valV kvs p.1 with
    | none =>
      rw [hv] at rr
      have e := RelO.none_of rr
      rw [h1'] at e
      rw [show hitV kvs p = false from by unfold hitV; rw [hv], Bool.false_and]
      exact .miss e
    | some y =>
      rw [hv] at rr
      obtain ⟨z, hz, rz⟩ := rr.some_of
      rw [h1'] at hz
      rw [show hitV kvs p = eqV p.2 y from by unfold hitV; rw [hv]]
      exact .hit hz (eqAt_V h2 rz f (fb _ _ hv)) it
def rEqDict : R2 := fun x y H Q => ∃ a b ks kvs, x = .ref a ∧ y = .ref b ∧ Rd H a (.dK ks) ∧ Rd H b (.dK kvs) ∧ (∀ p ∈ ks, flatV p.2 = true) ∧ (∀ k y, valV kvs k = some y → flatV y = true) ∧ Q (.bl (eqKV ks kvs)) H
section
variable {X : Cx}
theorem op_eqDict (hu : X.A.units < cLine) : OpR X (compareOp .Eq) rEqDict := by
  intro pins s σ H x y v u Q I rx ry h
  obtain ⟨a, b, ks, kvs, rfl, rfl, ea, eb, fa, fb, q⟩ := h
  obtain rfl : v = Value.ref a := rx
  obtain rfl : u = Value.ref b := ry
  obtain ⟨_, ya, va, ra, da⟩ := dk_rd I.hok ea
  obtain ⟨_, yb, vb, rb, db⟩ := dk_rd I.hok eb
  refine PySem.W.keq_eq (knd := mixKind X.prog X.w) (r := ks.all (hitV kvs)) ya yb da db hu (fun _ => hits_any rb fb ra fa) (fin_bl I q ?_)
  unfold eqKV
  rw [ra.length, rb.length]
/-! ### isinstance -/
inductive TyD (K : PySem.W.Frag) (H : Hp) : V → Value → Prop where
  | x {x : V} {t : Value} (h : TyX K H x t) : TyD K H x t
  | ins {a C dx : Addr} {fs : List (Str × V)} (e : Rd H a (.ins C dx fs)) (c : C8.InsC K C) : TyD K H (.ref a) (.ref C)
theorem kit_ofD {pins : List (Addr × Obj)} {σ : L2.St} {H : Hp} {s : Shared} {x : V} {u t : Value} (I : Inv X pins σ H s) (rx : RelV x u) (ty : TyD X.K H x t) : ∃ P : Heap → Prop, PySem.W.KitX X.K u t P ∧ P s.heap ∧ u ≠ .builtin "__main__.__loader__#opaque" := by
  cases ty with
  | x h => exact kit_of I rx h
  | @ins a C dx fs e c =>
    cases rx
    obtain ⟨mA, O, _⟩ := ins_rd I.hok e
    obtain ⟨od, J, _⟩ := O.look
    exact ⟨_, PySem.W.kitx_own (c.cl.get _) c.cl.hd c.ha c.hn c.htk c.hm, J, fun z => nomatch z⟩
def rIsiD (K : PySem.W.Frag) : List V → Hp → VK → Prop := fun xs H Q => ∃ (x c : V) (t u : Value) (b : Bool), xs = [x, c] ∧ ClsV c u ∧ TyD K H x t ∧ PySem.W.kitOne K t u = some b ∧ Q (.bl b) H
theorem call_isiD : CallR X (.builtin "isinstance") (rIsiD X.K) := by
  intro pins s σ H xs us Q I r h
  obtain ⟨x, c, t, u, b, rfl, k, ty, e, q⟩ := h
  obtain ⟨u1, u2, rfl, r1, r2⟩ := vals2 r
  have e2 := k.eq r2
  subst e2
  obtain ⟨P, Z, p, hx⟩ := kit_ofD I r1 ty
  exact PySem.W.kia_one Z I.kIn p e hx fun tk => ⟨.bl b, H, I.tok tk, rfl, q⟩
/-- o == y, o an instance with own __eq__ -/
def rOwnEqD (K : PySem.W.Frag) (C : Addr) (sp : Sp) : R2 := fun x y H Q => (∃ a dx fs, x = .ref a ∧ Rd H a (.ins C dx fs)) ∧ (∃ t, TyD K H y t ∧ PySem.W.notFirst K C t = true) ∧ sp [x, y] H Q E0
theorem op_ownEqD {k : Nat} {f C : Addr} {fd : FuncData} {ps : List Str} {sp : Sp} (F : FnOk X.prog X.w X.K X.mg X.base CX0 k f fd ps sp) (hr : Room k X.A) (hb : Binds X.K fd ps [])
    (hs : PySem.W.findIn X.K (.ref C) "__eq__" = some (some (.ref f))) (hf : PySem.W.isFn X.K (.ref f) = true) : OpR X (compareOp .Eq) (rOwnEqD X.K C sp) := by
  intro pins s σ H x y v u Q I rx ry h
  obtain ⟨⟨a, dx, fs, rfl, ha⟩, ⟨t, ty, nf⟩, h⟩ := h
  cases rx
  obtain ⟨mA, J, _⟩ := ins_rd I.hok ha
  obtain ⟨od, J, _⟩ := J.look
  obtain ⟨P, Z, p, hx⟩ := kit_ofD I ry ty
  obtain ⟨m, hF⟩ := I.fr
  show wpAny (model X.prog X.w) X.A (richCompare .Eq (.ref a) u) (EP X pins σ Q) X.xe s
  refine PySem.W.cmp_K (op := .Eq) (tb := t) (hr.units0) hF I.ok.mod.kin J (Z.ty _ _ I.kIn p) nf hs hf (wpAny_mono (run_fn (us := [.ref a, u]) (vs := [.ref a, y]) F hr hb .nil pass0 I (.cons rfl (.cons ry .nil)) ?_) (fun w s' hw => back_of hw) fun _ _ z => z)
  rw [List.append_nil]
  exact h
end
/-! ### xs[::-1] -/
theorem range_pick {α : Type} : ∀ l : List α, (List.range l.length).filterMap (fun k => l[k]?) = l
  | [] => rfl
  | x :: r => by
    rw [List.length_cons, List.range_succ_eq_map, List.filterMap_cons]
    simp only [List.getElem?_cons_zero, List.filterMap_map]
    exact congrArg (x :: ·) (range_pick r)
theorem pick_rev (xs : List Value) : slicePick xs.toArray none none (some (-1)) = xs.reverse.toArray := by
  have e : sliceBounds none none (some (-1)) xs.toArray.size = ((xs.length : Int) - 1, -1, -1) := by simp [sliceBounds]
  unfold slicePick
  rw [e]
  dsimp only
  have e2 : sliceRange ((xs.length : Int) - 1) (-1) (-1) = (List.range xs.length).map fun k => xs.length - 1 - k := by
    unfold sliceRange
    have c : (if (-1 : Int) > 0 then (if (xs.length : Int) - 1 < -1 then (-1 - ((xs.length : Int) - 1) + -1 - 1) / -1 else 0) else (if (xs.length : Int) - 1 > -1 then ((xs.length : Int) - 1 - -1 - -1 - 1) / (- -1) else 0)) = (xs.length : Int) := by
      rw [if_neg (by decide)]
      by_cases h : (xs.length : Int) - 1 > -1
      · rw [if_pos h]
        simp
      · rw [if_neg h]
        omega
    simp only [c, Int.toNat_natCast]
    apply List.map_congr_left
    intro k hk
    have hk := List.mem_range.mp hk
    omega
  rw [e2, List.filterMap_map]
  congr 1
  have e3 : ∀ n, n ≤ xs.length → (List.range n).filterMap ((fun x => xs.toArray[x]?) ∘ fun k => xs.length - 1 - k) = (List.range n).filterMap (fun k => xs.reverse[k]?) := by
    intro n
    induction n with
    | zero => intro _; rfl
    | succ n ih =>
      intro hn
      rw [List.range_succ, List.filterMap_append, List.filterMap_append, ih (by omega)]
      congr 1
      have : xs.toArray[xs.length - 1 - n]? = xs.reverse[n]? := by
        rw [List.getElem?_reverse (by omega)]
        simp
      rw [List.filterMap_cons, List.filterMap_cons]
      have this2 : ((fun x => xs.toArray[x]?) ∘ fun k => xs.length - 1 - k) n = xs.reverse[n]? := this
      rw [this2]
      rfl
  have e4 := range_pick xs.reverse
  rw [List.length_reverse] at e4
  rw [e3 _ (Nat.le_refl _), e4]
def tRev (K : PySem.W.Frag) (te : TE) : TE := fun σ H Q => te σ H fun x H1 => ∃ a xs, x = .ref a ∧ SqL K H1 a xs ∧ ∀ p, H1 p = none → Q (.ref p) (upd H1 p (.lst xs.reverse))
theorem vals_rev : ∀ {vs : List V} {us : List Value}, Vals vs us → Vals vs.reverse us.reverse
  | _, _, .nil => .nil
  | _, _, .cons h t => by
    rw [List.reverse_cons, List.reverse_cons]
    exact (vals_rev t).append (.cons h .nil)
section
variable {X : Cx} {e m : Expr} {te : TE} {p2 pos : Pos}
theorem pe_rev (he : PE X e te) (hm : PE X m (tUn (rU fun i => .int (-i)) (tC (.int 1)))) : PE X (.Subscript e (.Slice none none (some m) p2) pos) (tRev X.K te) := by
  refine ⟨fun pins s σ H Q I h => ?_⟩
  refine Subscript_ (thn (he.run pins s σ H _ I h) fun v s1 ⟨x, H1, I1, r1, q1⟩ => ?_)
  refine wpAny_Slice (wpAny_pure (wpAny_pure ?_))
  rw [evalPart_some]
  refine thn (hm.run pins s1 σ H1 (fun v H' => v = .int (-1) ∧ H' = H1) I1 ⟨1, rfl, rfl, rfl⟩) fun vs s3 ⟨w, H3, I3, rw3, ew, eH⟩ => ?_
  subst ew eH
  obtain ⟨tk, rfl⟩ := rw3
  obtain ⟨a, xs, rfl, hx, q⟩ := q1
  cases r1
  have I4 : Inv X pins σ H3 { s3 with heap := s3.heap.push { cls := .type "slice", data := .fields #[.none, .none, .int (-1) tk] } } := I3.kept (t' := s3.toks) fun b ob q => Heap.get?_push_of_some _ q
  obtain ⟨its, r, ht, hz⟩ := I4.list hx
  have hlen := r.length
  show wpAny (model X.prog X.w) X.A (subscriptTail e (.Slice none none (some m) p2) (.ref a) (.ref s3.heap.objs.size)) (EP X pins σ Q) X.xe { s3 with heap := s3.heap.push { cls := .type "slice", data := .fields #[.none, .none, .int (-1) tk] } }
  refine tail_any (ops := [.ref a, .ref s3.heap.objs.size]) ht.isList.typeIs slot_list_getitem.lookup ?_ (by with_unfolding_all rfl)
  refine wpAny_getItem_list_slice ht.isList (Heap.IsSliceOf.new ..) .none .none (.int (-1) tk) (by simp) ?_ (by rw [List.size_toArray] <;> omega)
  rw [pick_rev]
  refine ⟨.ref _, _, I4.laid (t' := s3.toks) (o := .lst xs.reverse) (fun b ob q => Heap.get?_push_of_some _ q) (Nat.le_refl _) ?_, rfl, q _ (I4.hok.fresh (Nat.le_refl _))⟩
  exact ⟨by rw [List.length_reverse]; exact hz, _, 0, vals_rev r, Heap.get?_push_size _ rfl⟩
end
end My


/-! Q9: new dicts, own operators, isinstance over plain values. -/
namespace My
open PySem PySem.Spec PyProof.Rows L2
abbrev PDx := Sd → (List (Key × D) → Prop) → Prop
/-- a new dict comes -/
def LD (K : PySem.W.Frag) (s c : Addr) (H0 : Hp) (t : TE) (p : PDx) : Prop := ∀ (σ : L2.St) (σd : Sd) (H : Hp) (Q : VK) (P : List (Key × D) → Prop), Rel K s c H0 σ H σd → p σd P →
  (∀ kds a kvs H', P kds → H' a = some (.dK kvs) → H a = none → DRk K s H' kvs kds → Stp s c H H' → Q (.ref a) H') → t σ H Q
section
variable {K : PySem.W.Frag} {s c : Addr} {H0 : Hp}
def pNewM (p : PDx) : PEx := fun σd P => p σd fun kds => P (.dm kds)
theorem LD.le {t : TE} {p : PDx} (h : LD K s c H0 t p) : LE K s c H0 t (pNewM p) := fun σ σd H Q P R hp k =>
  h σ σd H Q _ R hp fun kds a kvs H1 h1 ha hn hd st => k _ _ H1 h1 ⟨a, kvs, rfl, ha, hd, (R.src.ne hn).1, (R.src.ne hn).2⟩ st
def pFrzM (p : PDx) : PEx := fun σd P => p σd fun kds => P (.dat (.dic kds))
theorem LD.frz {t : TE} {p : PDx} (h : LD K s c H0 t p) : LE K s c H0 (tFrz t) (pFrzM p) := fun σ σd H Q P R hp k => by
  refine h σ σd H _ _ R hp fun kds a kvs H1 h1 ha hn hd st => ⟨a, _, rfl, ha, trivial, fun o => ?_⟩
  have nn := R.src.ne hn
  have kl : Kp a H1 (upd H1 a (.frz o (.dK kvs))) := Kp.self
  have im : Im H1 (upd H1 a (.frz o (.dK kvs))) := kl.im ⟨_, ha, rfl⟩
  refine k _ _ _ h1 (.dic upd_same (hd.im im)) ⟨fun b o' nb hb => ?_, st.src.kp nn.1.symm nn.2.symm kl⟩
  exact kl _ _ (fun z => by subst z; rw [hn] at hb; cases hb) (st.kp _ _ nb hb)
def pNewD (a : PDx) (i : Nat) : PSx := fun e σd => a σd fun kds => e.nx (σd.set i (some (.dm kds)))
theorem rel_put {s c a : Addr} {H0 H H1 : Hp} {σ : L2.St} {σd : Sd} {i : Nat} {x : Cell} (R : Rel K s c H0 σ H σd) (st : Stp s c H H1) (hn : H a = none) (hc : CellR K s c H1 (.ref a) x) (hro : roC (some x) = false := by rfl) : Rel K s c H0 (σ.set i (some (.ref a))) H1 (σd.set i (some x)) := by
  have nn := R.src.ne hn
  refine (R.stp st).set (x := x) hc (fun _ b eb => by cases eb; exact Kp.none R.kp0 nn.1 hn) (fun _ b eb j nj lj hj => ?_) (fun z => by rw [hro] at z; cases z)
  cases eb
  obtain ⟨y, hy, hr⟩ := R.slot j _ hj
  rw [hy] at lj
  cases y with
  | none => cases lj
  | some y =>
    obtain ⟨b, eb, ⟨u, hb, _⟩, _⟩ := loose_at (i := 0) (l := 0) hr lj
    cases eb
    rw [hn] at hb
    cases hb
theorem S_newD {t : TE} {a : PDx} (i : Nat) (ha : LD K s c H0 t a) : LS K s c H0 (tAsg t (gName i)) (pNewD a i) := fun σ σd H E e R h k => by
  refine ha σ σd H _ _ R h fun kds a kvs H1 h1 hv hn hd st => ?_
  exact k.nx _ _ H1 h1 (rel_put R st hn ⟨a, kvs, rfl, hv, hd, R.src.ne hn⟩) (st.im R.src)
def pDNil : PDx := fun _ P => P []
theorem L_dnewK : LD K s c H0 tDNewK pDNil := fun σ σd H Q P R h k => by
  intro p hp
  exact k [] p [] _ h upd_same hp .nil (stp_new R.src hp)
def LCD (K : PySem.W.Frag) (r : List V → Hp → VK → Prop) (f : List Cell → (List (Key × D) → Prop) → Prop) : Prop := ∀ (s c : Addr) (vs : List V) (xs : List Cell) (H : Hp) (Q : VK) (P : List (Key × D) → Prop), CellsR K s c H vs xs → Src H s c → f xs P →
  (∀ kds a kvs H', P kds → H' a = some (.dK kvs) → H a = none → DRk K s H' kvs kds → Stp s c H H' → Q (.ref a) H') → r vs H Q
def pCBD (f : List Cell → (List (Key × D) → Prop) → Prop) (a : PAx) : PDx := fun σd P => a σd fun xs => f xs P
theorem L_cbd {r : List V → Hp → VK → Prop} {f : List Cell → (List (Key × D) → Prop) → Prop} {t : TA} {a : PAx} (hr : LCD K r f) (ha : LA K s c H0 t a) : LD K s c H0 (tCB r t) (pCBD f a) := fun σ σd H Q P R h k => by
  refine ha σ σd H _ _ R h fun xs vs H1 h1 r1 s1 => ?_
  exact hr s c vs xs H1 Q P r1 s1.src h1 fun kds a kvs H2 h2 ha hn hd s2 => k kds a kvs H2 h2 ha (Kp.none s1.kp (s1.src.ne hn).1 hn) hd (s1.trans s2)
/-! ### dict(d), dict(pairs), list(d) -/
def rDictD : List V → Hp → VK → Prop := fun xs H Q => ∃ (a : Addr) (kvs : List (Key × V)), xs = [.ref a] ∧ Rd H a (.dK kvs) ∧ ∀ p, H p = none → Q (.ref p) (upd H p (.dK kvs))
def gDictD : List Cell → (List (Key × D) → Prop) → Prop := fun xs P => ∃ x kds, xs = [x] ∧ dicK x = some kds ∧ P kds
theorem C_dictD : LCD K rDictD gDictD := fun s c vs xs H Q P hx S h k => by
  obtain ⟨x, kds, rfl, e, h⟩ := h
  obtain ⟨v, rfl, hv⟩ := one_of hx
  obtain ⟨a, kvs, rfl, ha, hd⟩ := dicK_at hv e
  refine ⟨a, kvs, rfl, ha, fun p hp => ?_⟩
  have e2 := stp_new (o := .dK kvs) S hp
  exact k _ _ _ _ h upd_same hp (hd.im (e2.im S)) e2
def rListD : List V → Hp → VK → Prop := fun xs H Q => ∃ (a : Addr) (kvs : List (Key × V)), xs = [.ref a] ∧ Rd H a (.dK kvs) ∧ ∀ p, H p = none → Q (.ref p) (upd H p (.lst (kvs.map fun kv => kV kv.1)))
def gListD : List Cell → (List D → Prop) → Prop := fun xs P => ∃ x kds, xs = [x] ∧ dicK x = some kds ∧ P (kds.map fun kd => keyD kd.1)
theorem DRk.keys {s : Addr} {H : Hp} : ∀ {kvs : List (Key × V)} {kds : List (Key × D)}, DRk K s H kvs kds → ∀ H', DRs K s H' (kvs.map fun kv => kV kv.1) (kds.map fun kd => keyD kd.1)
  | _, _, .nil, _ => .nil
  | _, _, .cons _ r, H' => .cons (keyD_dr _) (DRk.keys r H')
theorem C_listD : LCN K rListD gListD := fun s c vs xs H Q P hx S h k => by
  obtain ⟨x, kds, rfl, e, h⟩ := h
  obtain ⟨v, rfl, hv⟩ := one_of hx
  obtain ⟨a, kvs, rfl, ha, hd⟩ := dicK_at hv e
  refine ⟨a, kvs, rfl, ha, fun p hp => ?_⟩
  have e2 := stp_new (o := .lst (kvs.map fun kv => kV kv.1)) S hp
  exact k _ _ _ _ h upd_same hp (hd.keys _) e2
def rDictP (K : PySem.W.Frag) : List V → Hp → VK → Prop := fun xs H Q => ∃ (a : Addr) (ps : List Addr) (kvs : List (Key × V)), xs = [.ref a] ∧ SqL K H a (ps.map V.ref) ∧ Paired (fun p kv => SqT K H p [kV kv.1, kv.2]) ps kvs ∧ ∀ p, H p = none → Q (.ref p) (upd H p (.dK (mergeK [] kvs)))
def mergeG (kds more : List (Key × D)) : List (Key × D) := more.foldl (fun acc kd => putG acc kd.1 kd.2) kds
def pairD (kd : Key × D) : D := .tup [keyD kd.1, kd.2]
def gDictP : List Cell → (List (Key × D) → Prop) → Prop := fun xs P => ∃ x kds, xs = [x] ∧ seqL x = some (kds.map pairD) ∧ P (mergeG [] kds)
theorem DRk.merge {s : Addr} {H : Hp} : ∀ {more : List (Key × V)} {mored : List (Key × D)}, DRk K s H more mored → ∀ {kvs : List (Key × V)} {kds : List (Key × D)}, DRk K s H kvs kds → DRk K s H (mergeK kvs more) (mergeG kds mored)
  | _, _, .nil, _, _, h => h
  | _, _, .cons x r, _, _, h => DRk.merge r (h.put _ x)
theorem key_of_dr {s : Addr} {H : Hp} {v : V} {k : Key} (h : DR K s H v (keyD k)) : v = kV k := by
  cases k with
  | inl i => cases h; rfl
  | inr z => cases h; rfl
theorem pairs_at {s : Addr} {H : Hp} : ∀ {vs : List V} {kds : List (Key × D)}, DRs K s H vs (kds.map pairD) → ∃ ps kvs, vs = ps.map V.ref ∧ Paired (fun p kv => SqT K H p [kV kv.1, kv.2]) ps kvs ∧ DRk K s H kvs kds
  | _, [], h => by cases h; exact ⟨[], [], rfl, .nil, .nil⟩
  | _, kd :: kds, h => by
    cases h with
    | cons x r =>
      obtain ⟨ps, kvs, rfl, h1, h2⟩ := pairs_at r
      cases x with
      | @tup a us _ ha hu =>
        cases hu with
        | cons y z => cases z with
          | cons y2 z2 =>
            cases z2
            rw [key_of_dr y] at ha
            exact ⟨a :: ps, (kd.1, _) :: kvs, rfl, .cons (.inl (.inl ha)) h1, .cons y2 h2⟩
theorem C_dictP : LCD K (rDictP K) gDictP := fun s c vs xs H Q P hx S h k => by
  obtain ⟨x, kds, rfl, e, h⟩ := h
  obtain ⟨v, rfl, hv⟩ := one_of hx
  obtain ⟨a, us, rfl, ha, hd⟩ := seqL_at hv e
  obtain ⟨ps, kvs, rfl, h1, h2⟩ := pairs_at hd
  refine ⟨a, ps, kvs, rfl, ha, h1, fun p hp => ?_⟩
  have e2 := stp_new (o := .dK (mergeK [] kvs)) S hp
  exact k _ _ _ _ h upd_same hp (DRk.merge (h2.im (e2.im S)) .nil) e2
/-! ### operators that give a new list -/
def LOpN (K : PySem.W.Frag) (r : R2) (f : Cell → Cell → (List D → Prop) → Prop) : Prop := ∀ (s c : Addr) (v w : V) (x y : Cell) (H : Hp) (Q : VK) (P : List D → Prop), CellR K s c H v x → CellR K s c H w y → Src H s c → f x y P →
  (∀ ds a us H', P ds → H' a = some (.lst us) → H a = none → DRs K s H' us ds → Stp s c H H' → Q (.ref a) H') → r v w H Q
def pOpN (f : Cell → Cell → (List D → Prop) → Prop) (a b : PEx) : PNx := fun σd P => a σd fun x => b σd fun y => f x y P
theorem L_opN {r : R2} {f : Cell → Cell → (List D → Prop) → Prop} {ta tb : TE} {a b : PEx} (ho : LOpN K r f) (ha : LE K s c H0 ta a) (hb : LE K s c H0 tb b) : LN K s c H0 (tOp r ta tb) (pOpN f a b) := fun σ σd H Q P R h k => by
  refine ha σ σd H _ _ R h fun x v H1 h1 r1 s1 => ?_
  refine hb σ σd H1 _ _ (R.stp s1) h1 fun y w H2 h2 r2 s2 => ?_
  have st := s1.trans s2
  exact ho s c v w x y H2 Q P (r1.stp s1.src s2) r2 s2.src h2 fun ds a us H3 h3 ha hn hd s3 => k ds a us H3 h3 ha (Kp.none st.kp (st.src.ne hn).1 hn) hd (st.trans s3)
def fCat : Cell → Cell → (List D → Prop) → Prop := fun x y P => ∃ ds es, x = .lm ds ∧ y = .lm es ∧ ds.length + es.length ≤ 100000 ∧ P (ds ++ es)
theorem O_cat : LOpN K rCat fCat := fun s c v w x y H Q P hx hy S h k => by
  obtain ⟨ds, es, rfl, rfl, hl, h⟩ := h
  obtain ⟨a, us, rfl, ha, hd, _⟩ := hx
  obtain ⟨b, ws, rfl, hb, he, _⟩ := hy
  refine ⟨a, b, us, ws, rfl, rfl, ha, hb, by rw [hd.len, he.len]; exact Nat.le_trans hl (by decide), fun p hp => ?_⟩
  have e2 := stp_new (o := .lst (us ++ ws)) S hp
  exact k _ _ _ _ h upd_same hp ((hd.append he).im (e2.im S)) e2
theorem DRs.rev {s : Addr} {H : Hp} : ∀ {vs : List V} {ds : List D}, DRs K s H vs ds → DRs K s H vs.reverse ds.reverse
  | _, _, .nil => .nil
  | _, _, .cons x r => by
    rw [List.reverse_cons, List.reverse_cons]
    exact (DRs.rev r).snoc x
def pRev (a : PEx) : PNx := fun σd P => a σd fun x => ∃ ds, seqL x = some ds ∧ P ds.reverse
theorem L_rev {t : TE} {a : PEx} (ha : LE K s c H0 t a) : LN K s c H0 (tRev K t) (pRev a) := fun σ σd H Q P R h k => by
  refine ha σ σd H _ _ R h fun x v H1 h1 r1 s1 => ?_
  obtain ⟨ds, e, h⟩ := h1
  obtain ⟨b, vs, rfl, hb, hd⟩ := seqL_at r1 e
  refine ⟨b, vs, rfl, hb, fun p hp => ?_⟩
  have e2 := stp_new (o := .lst vs.reverse) s1.src hp
  exact k _ _ _ _ h upd_same (Kp.none s1.kp (s1.src.ne hp).1 hp) (hd.rev.im (e2.im s1.src)) (s1.trans e2)
def gSortedL : List Cell → (List D → Prop) → Prop := fun xs P => ∃ (x : Cell) (zs : List Str), xs = [x] ∧ seqL x = some (zs.map D.str) ∧ P ((zs.mergeSort leS).map D.str)
theorem C_sortedL : LCN K (rSortedL K) gSortedL := fun s c vs xs H Q P hx S h k => by
  obtain ⟨x, zs, rfl, e, h⟩ := h
  obtain ⟨v, rfl, hv⟩ := one_of hx
  obtain ⟨a, us, rfl, ha, hd⟩ := seqL_at hv e
  cases strs_of hd
  refine ⟨a, zs, rfl, ha, fun p hp => ?_⟩
  exact k _ _ _ _ h upd_same hp (strs_dr _) (stp_new (o := .lst ((zs.mergeSort leS).map V.str)) S hp)
/-! ### == of dicts -/
def flatD : D → Bool
  | .non => true
  | .bl _ => true
  | .int _ => true
  | .str _ => true
  | _ => false
theorem flatD_at {s : Addr} {H : Hp} {v : V} {d : D} (h : DR K s H v d) (f : flatD d = true) : flatV v = true := by
  cases h <;> first | rfl | cases f
def hitD (kds : List (Key × D)) (p : Key × D) : Bool := match p.2, valD kds p.1 with
  | .int i, some (.int j) => i == j
  | _, _ => false
def allInt (kds : List (Key × D)) : Prop := ∀ p ∈ kds, ∃ i, p.2 = .int i
def eqKD (ks kds : List (Key × D)) : Bool := ks.length == kds.length && ks.all (hitD kds)
theorem valD_mem {kds : List (Key × D)} {k : Key} {d : D} (h : valD kds k = some d) : (k, d) ∈ kds := by
  unfold valD at h
  obtain ⟨p, h1, h2⟩ := Option.map_eq_some_iff.mp h
  have h3 := List.find?_some h1
  have h4 := List.mem_of_find?_eq_some h1
  obtain ⟨a, b⟩ := p
  cases of_decide_eq_true h3
  cases h2
  exact h4
theorem DRk.hit {s : Addr} {H : Hp} {kvs : List (Key × V)} {kds : List (Key × D)} (hb : DRk K s H kvs kds) (ib : allInt kds) : ∀ {ks : List (Key × V)} {kes : List (Key × D)}, DRk K s H ks kes → allInt kes → (∀ p ∈ ks, flatV p.2 = true) ∧ ks.all (hitV kvs) = kes.all (hitD kds)
  | _, _, .nil, _ => ⟨fun p hp => (by cases hp), rfl⟩
  | _, _, .cons (k := k) (v := v) (d := d) x r, ia => by
    obtain ⟨h1, h2⟩ := DRk.hit hb ib r fun p hp => ia p (List.mem_cons_of_mem _ hp)
    obtain ⟨i, hi⟩ := ia _ List.mem_cons_self
    cases (show d = .int i from hi)
    cases x
    refine ⟨fun p hp => ?_, ?_⟩
    · rcases List.mem_cons.mp hp with rfl | hp
      · rfl
      · exact h1 p hp
    · rw [List.all_cons, List.all_cons, h2]
      congr 1
      have o := hb.val k
      unfold hitV hitD
      dsimp only
      cases hv : valV kvs k with
      | none =>
        rw [hv] at o
        cases hd : valD kds k with
        | none => rfl
        | some y => rw [hd] at o; exact o.elim
      | some y =>
        rw [hv] at o
        cases hd : valD kds k with
        | none => rw [hd] at o; exact o.elim
        | some z =>
          rw [hd] at o
          obtain ⟨j, hj⟩ := ib _ (valD_mem hd)
          cases (show z = .int j from hj)
          cases (show DR K s H y (.int j) from o)
          rfl
def fEqDict : P2 := fun x y P => ∃ ks kds, dicK x = some ks ∧ dicK y = some kds ∧ allInt ks ∧ allInt kds ∧ P (cB (eqKD ks kds))
theorem O_eqDict : LOp K rEqDict fEqDict := fun s c v w x y H Q P hx hy S h k => by
  obtain ⟨ks, kds, e1, e2, i1, i2, h⟩ := h
  obtain ⟨a, kvs, rfl, ha, hd⟩ := dicK_at hx e1
  obtain ⟨b, kws, rfl, hb, he⟩ := dicK_at hy e2
  obtain ⟨h1, h2⟩ := DRk.hit he i2 hd i1
  refine ⟨a, b, kvs, kws, rfl, rfl, ha, hb, h1, fun j y hv => ?_, ?_⟩
  · have o := he.val j
    rw [hv] at o
    cases hd2 : valD kds j with
    | none => rw [hd2] at o; exact o.elim
    | some z =>
      rw [hd2] at o
      obtain ⟨i, hi⟩ := i2 _ (valD_mem hd2)
      cases (show z = .int i from hi)
      cases (show DR K s H y (.int i) from o)
      rfl
  · rw [show eqKV kvs kws = eqKD ks kds from by unfold eqKV eqKD; rw [hd.len, he.len, h2]]
    exact k _ _ H h (.bl _) (.refl S)
def fIsB (g : Bool → Bool) : P2 := fun x y P => ∃ a b, x = cB a ∧ y = cB b ∧ P (cB (g (decide (a = b))))
theorem O_notB : LOp K rNotB (fIsB not) := fun s c v w x y H Q P hx hy S h k => by
  obtain ⟨a, b, rfl, rfl, h⟩ := h
  exact ⟨a, b, bl_eq hx, bl_eq hy, k _ _ H h (.bl _) (.refl S)⟩
/-! ### isinstance -/
def tyN : D → Option String
  | .non => some "NoneType"
  | .bl _ => some "bool"
  | .int _ => some "int"
  | .str _ => some "str"
  | .tup _ => some "tuple"
  | .lst _ => some "list"
  | .dic _ => some "dict"
  | _ => none
theorem tyN_at {s : Addr} {H : Hp} {v : V} {d : D} {T : String} (h : DR K s H v d) (e : tyN d = some T) : TyX K H v (.type T) := by
  cases h with
  | non => cases e; exact .base .non
  | bl b => cases e; exact .base (.bl b)
  | int i => cases e; exact .base (.int i)
  | str z => cases e; exact .base (.str z)
  | tup h r => cases e; exact .base (.tup h)
  | lst h r => cases e; exact .base (.frz h)
  | dic h r => cases e; exact .fDict h
  | dit h r => cases e
  | ins h r => cases e
  | src => cases e
def bTys : List String := ["NoneType", "bool", "int", "str", "tuple", "list", "dict"]
theorem tyN_mem {d : D} {T : String} (e : tyN d = some T) : T ∈ bTys := by
  cases d <;> first | (cases e; decide) | cases e
/-- isinstance(x, T), T a built-in type -/
def pIsT (T : String) (a : PEx) : PEx := fun σd P => a σd fun x => ∃ d S b, x = .dat d ∧ tyN d = some S ∧ kitB S T = some b ∧ P (cB b)
theorem L_isT {T : String} {t : TE} {a : PEx} (ha : LE K s c H0 t a) : LE K s c H0 (tCB (rIsiD K) (tCons t (tCons (tC (.ty T)) tNil))) (pIsT T a) := fun σ σd H Q P R h k => by
  refine ha σ σd H _ _ R h fun x v H1 h1 r1 s1 => ?_
  obtain ⟨d, S, b, rfl, e, eb, h⟩ := h1
  exact ⟨v, .ty T, .type S, .type T, b, rfl, .ty T, .x (tyN_at r1 e), kit_ty eb, k _ _ H1 h (.bl _) s1⟩
/-- isinstance(x, C), C an own class -/
def isC (C : Addr) : D → Option Bool
  | .ins C' _ => if C' = C then some true else none
  | d => (tyN d).map fun _ => false
def notBs (K : PySem.W.Frag) (C : Addr) : Bool := bTys.all fun T => PySem.W.kitOne K (.type T) (.ref C) == some false
def pIsC (C : Addr) (a : PEx) : PEx := fun σd P => a σd fun x => ∃ d b, x = .dat d ∧ isC C d = some b ∧ P (cB b)
theorem isC_not {C : Addr} {d : D} {b : Bool} (h : isC C d = some b) : (∃ fs, d = .ins C fs ∧ b = true) ∨ ∃ T, tyN d = some T ∧ b = false := by
  by_cases hi : ∃ C' gs, d = .ins C' gs
  · obtain ⟨C', gs, rfl⟩ := hi
    have h : (if C' = C then some true else none) = some b := h
    by_cases e : C' = C
    · rw [if_pos e] at h
      cases h
      subst e
      exact .inl ⟨_, rfl, rfl⟩
    · rw [if_neg e] at h
      cases h
  · cases d <;> first
      | (cases h; exact .inr ⟨_, rfl, rfl⟩)
      | (exfalso; exact hi ⟨_, _, rfl⟩)
      | cases h
theorem L_isC {C : Addr} {t : TE} {a : PEx} (ic : C8.InsC K C) (nb : notBs K C = true) (ha : LE K s c H0 t a) : LE K s c H0 (tCB (rIsiD K) (tCons t (tCons (tC (.ref C)) tNil))) (pIsC C a) := fun σ σd H Q P R h k => by
  refine ha σ σd H _ _ R h fun x v H1 h1 r1 s1 => ?_
  obtain ⟨d, b, rfl, e, h⟩ := h1
  rcases isC_not e with ⟨fs, rfl, rfl⟩ | ⟨T, eT, rfl⟩
  · cases id r1 with
    | ins hi hf => exact ⟨_, .ref C, .ref C, .ref C, true, rfl, .own C, .ins (.inr ⟨_, hi⟩) ic, ic.me, k _ _ H1 h (.bl _) s1⟩
  · exact ⟨v, .ref C, .type T, .ref C, false, rfl, .own C, .x (tyN_at r1 eT), beq_iff_eq.mp (List.all_eq_true.mp nb T (tyN_mem eT)), k _ _ H1 h (.bl _) s1⟩
/-! ### own operators -/
variable {C : Addr} {q : QP}
theorem up_of {s c : Addr} {H : Hp} {vs : List V} {ds : List D} {P : D → Prop} {Q : VK} {E : XK} (mo : Mono q) (S : Src H s c) (hd : DRs K s H vs ds) (h : q ds P) (k : ∀ d v H', P d → DR K s H' v d → Stp s c H H' → Q v H') : up K q vs H Q E :=
  ⟨s, c, ds, S, hd, mo _ _ _ (fun d hp v H' r st => k d v H' hp r st) h⟩
def fOwn (C : Addr) (q : QP) : P2 := fun x y P => ∃ fs gs, x = .dat (.ins C fs) ∧ y = .dat (.ins C gs) ∧ q [.ins C fs, .ins C gs] fun d => P (.dat d)
theorem ins_rd' {s : Addr} {H : Hp} {v : V} {fs : List (Str × D)} (h : DR K s H v (.ins C fs)) : ∃ a dx us, v = .ref a ∧ Rd H a (.ins C dx us) := by
  cases h with
  | ins hi hf => exact ⟨_, _, _, rfl, .inr ⟨_, hi⟩⟩
theorem O_own (mo : Mono q) : LOp K (rOwn C (up K q)) (fOwn C q) := fun s c v w x y H Q P hx hy S h k => by
  obtain ⟨fs, gs, rfl, rfl, h⟩ := h
  exact ⟨ins_rd' hx, ins_rd' hy, up_of mo S (.cons hx (.cons hy .nil)) h fun d v H' hp r st => k _ _ H' hp r st⟩
def fOwnI (C : Addr) (q : QP) : P2 := fun x y P => ∃ fs i, x = .dat (.ins C fs) ∧ y = cI i ∧ q [.ins C fs, .int i] fun d => P (.dat d)
theorem O_ownI (mo : Mono q) : LOp K (rOwnI C (up K q)) (fOwnI C q) := fun s c v w x y H Q P hx hy S h k => by
  obtain ⟨fs, i, rfl, rfl, h⟩ := h
  exact ⟨ins_rd' hx, ⟨i, int_eq hy⟩, up_of mo S (.cons hx (.cons hy .nil)) h fun d v H' hp r st => k _ _ H' hp r st⟩
def fIOwn (C : Addr) (q : QP) : P2 := fun x y P => ∃ fs i, y = .dat (.ins C fs) ∧ x = cI i ∧ q [.ins C fs, .int i] fun d => P (.dat d)
theorem O_Iown (mo : Mono q) : LOp K (rIOwn C (up K q)) (fIOwn C q) := fun s c v w x y H Q P hx hy S h k => by
  obtain ⟨fs, i, rfl, rfl, h⟩ := h
  exact ⟨ins_rd' hy, ⟨i, int_eq hx⟩, up_of mo S (.cons hy (.cons hx .nil)) h fun d v H' hp r st => k _ _ H' hp r st⟩
def firstNo (K : PySem.W.Frag) (C : Addr) : Bool := PySem.W.notFirst K C (.ref C) && bTys.all fun T => PySem.W.notFirst K C (.type T)
def fOwnEq (C : Addr) (q : QP) : P2 := fun x y P => ∃ fs d b, x = .dat (.ins C fs) ∧ y = .dat d ∧ isC C d = some b ∧ q [.ins C fs, d] fun d => P (.dat d)
theorem O_ownEq (mo : Mono q) (ic : C8.InsC K C) (nf : firstNo K C = true) : LOp K (rOwnEqD K C (up K q)) (fOwnEq C q) := fun s c v w x y H Q P hx hy S h k => by
  obtain ⟨fs, d, b, rfl, rfl, e, h⟩ := h
  obtain ⟨n1, n2⟩ := Bool.and_eq_true_iff.mp nf
  refine ⟨ins_rd' hx, ?_, up_of mo S (.cons hx (.cons hy .nil)) h fun d v H' hp r st => k _ _ H' hp r st⟩
  rcases isC_not e with ⟨gs, rfl, rfl⟩ | ⟨T, eT, rfl⟩
  · obtain ⟨a, dx, us, rfl, hi⟩ := ins_rd' hy
    exact ⟨.ref C, .ins hi ic, n1⟩
  · exact ⟨.type T, .x (tyN_at hy eT), List.all_eq_true.mp n2 T (tyN_mem eT)⟩
def leftD : D → Bool
  | .non => true
  | .int _ => true
  | .str _ => true
  | .lst _ => true
  | .dic _ => true
  | _ => false
def fOwnEqR (C : Addr) (q : QP) : P2 := fun x y P => ∃ fs d, y = .dat (.ins C fs) ∧ x = .dat d ∧ leftD d = true ∧ q [.ins C fs, d] fun d => P (.dat d)
theorem O_ownEqR (mo : Mono q) : LOp K (rOwnEqR K C (up K q)) (fOwnEqR C q) := fun s c v w x y H Q P hx hy S h k => by
  obtain ⟨fs, d, rfl, rfl, e, h⟩ := h
  refine ⟨ins_rd' hy, ?_, up_of mo S (.cons hy (.cons hx .nil)) h fun d v H' hp r st => k _ _ H' hp r st⟩
  cases id hx with
  | non => exact .inl rfl
  | int i => exact .inr (.inl ⟨i, rfl⟩)
  | str z => exact .inr (.inr (.inl ⟨z, rfl⟩))
  | lst hl r => exact .inr (.inr (.inr (.inl ⟨_, _, rfl, .inl (.inr ⟨_, hl⟩)⟩)))
  | dic hl r => exact .inr (.inr (.inr (.inr ⟨_, _, rfl, .inr ⟨_, hl⟩⟩)))
  | bl b => cases e
  | tup h r => cases e
  | dit h r => cases e
  | ins h r => cases e
  | src => cases e
def fOwnIx (C : Addr) (q : QP) : P2 := fun x y P => ∃ fs d, x = .dat (.ins C fs) ∧ y = .dat d ∧ q [.ins C fs, d] fun d => P (.dat d)
theorem O_ownIx (mo : Mono q) : LOp K (rOwnIx C (up K q)) (fOwnIx C q) := fun s c v w x y H Q P hx hy S h k => by
  obtain ⟨fs, d, rfl, rfl, h⟩ := h
  exact ⟨ins_rd' hx, up_of mo S (.cons hx (.cons hy .nil)) h fun d v H' hp r st => k _ _ H' hp r st⟩
def fOwnIn (C : Addr) (q : QP) (g : Bool → Bool) : P2 := fun x y P => ∃ fs d, y = .dat (.ins C fs) ∧ x = .dat d ∧ q [.ins C fs, d] fun e => ∃ b, e = .bl b ∧ P (cB (g b))
theorem O_ownIn {g : Bool → Bool} (mo : Mono q) : LOp K (rOwnIn C (up K q) g) (fOwnIn C q g) := fun s c v w x y H Q P hx hy S h k => by
  obtain ⟨fs, d, rfl, rfl, h⟩ := h
  refine ⟨ins_rd' hy, up_of mo S (.cons hy (.cons hx .nil)) h fun d v H' hp r st => ?_⟩
  obtain ⟨b, rfl, hp⟩ := hp
  cases r
  exact ⟨b, rfl, k _ _ H' hp (.bl _) st⟩
theorem fld_lst {s : Addr} {H : Hp} {v : V} {fs : List (Str × D)} {fld : Str} {ds : List D} (h : DR K s H v (.ins C fs)) (e : fs.lookup fld = some (.lst ds)) : ∃ a dx us l o vs, v = .ref a ∧ Rd H a (.ins C dx us) ∧ us.lookup fld = some (.ref l) ∧ H l = some (.frz o (.lst vs)) ∧ DRs K s H vs ds := by
  cases h with
  | ins hi hf =>
    obtain ⟨u, hu, hr⟩ := hf.look e
    cases hr with
    | lst hl hd => exact ⟨_, _, _, _, _, _, rfl, .inr ⟨_, hi⟩, hu, hl, hd⟩
def pIOwn (C : Addr) (fld : Str) (a : PEx) : PNx := fun σd P => a σd fun x => ∃ fs ds, x = .dat (.ins C fs) ∧ fs.lookup fld = some (.lst ds) ∧ P ds
theorem I_own {fld : Str} {t : TE} {a : PEx} (ha : LE K s c H0 t a) : LI K s c H0 (iOwn K C fld t) (pIOwn C fld a) := fun σ σd H R P Rl h k => by
  refine ha σ σd H _ _ Rl h fun x v H1 h1 r1 s1 => ?_
  obtain ⟨fs, ds, rfl, e, h⟩ := h1
  obtain ⟨b, dx, us, l, o, vs, rfl, hi, hu, hl, hd⟩ := fld_lst r1 e
  refine ⟨b, dx, l, us, rfl, hi, hu, ⟨vs, .inl (.inr ⟨o, hl⟩)⟩, ?_⟩
  have w : Walk (Itl K l) ds.length (fun H => H l = some (.frz o (.lst vs))) (YAt vs) := by
    rw [← hd.len]
    exact walk_list.mono (fun H h => .inl (.inr ⟨o, h⟩)) fun i H x H' _ _ y => y
  refine k ds _ _ _ H1 h s1 w hl (fun A B im h => frz_im im h) fun i A x B hi im hG y => ?_
  obtain ⟨e, hx⟩ := y
  subst e
  obtain ⟨d, h1, h2⟩ := (hd.im im).get hx
  exact ⟨Same.refl _, d, h1, h2⟩
def gListOwn (C : Addr) (fld : Str) : List Cell → (List D → Prop) → Prop := fun xs P => ∃ fs ds, xs = [.dat (.ins C fs)] ∧ fs.lookup fld = some (.lst ds) ∧ P ds
theorem C_listOwn {fld : Str} : LCN K (rListOwn K C fld) (gListOwn C fld) := fun s c vs xs H Q P hx S h k => by
  obtain ⟨fs, ds, rfl, e, h⟩ := h
  obtain ⟨v, rfl, hv⟩ := one_of hx
  obtain ⟨b, dx, us, l, o, ws, rfl, hi, hu, hl, hd⟩ := fld_lst hv e
  refine ⟨b, dx, l, us, ws, rfl, hi, hu, .inl (.inr ⟨o, hl⟩), fun p hp => ?_⟩
  have e2 := stp_new (o := .lst ws) S hp
  exact k _ _ _ _ h upd_same hp (hd.im (e2.im S)) e2
end
end My


/-! Own8: an own class by its methods' promises. -/
namespace My
open PySem PySem.Spec PyProof.Rows L2
section
variable (P : Program) (w : World) (K : PySem.W.Frag) (mg : Str → Option Value) (base : Heap) (C : Addr)
/-- the method m of C -/
def OkM (m : Str) (k : Nat) (ps : List Str) (sp : Sp) : Prop := ∃ f fd, Meth K C m f ∧ PySem.W.fnIn K f = true ∧ Binds K fd ps [] ∧ FnOk P w K mg base CX0 k f fd ps sp
/-- __init__ -/
def OkI (k : Nat) (ps : List Str) (sp : Sp) : Prop := ∃ f fd, Mk K C f ∧ Binds K fd ps [] ∧ FnOk P w K mg base CX0 k f fd ps sp
/-- the property x of C -/
def OkP (x : Str) (k : Nat) (ps : List Str) (sp : Sp) : Prop := ∃ p g fd, PropOf K C x p g ∧ Binds K fd ps [] ∧ FnOk P w K mg base CX0 k g fd ps sp
/-- __iter__ that is iter(self.fld) -/
def OkIt (fld : Str) (k : Nat) (ps : List Str) : Prop := ∃ f fd, Meth K C "__iter__" f ∧ Binds K fd ps [] ∧ NOk P w K mg base k f fd ps (spItF K C fld)
end
/-- what is known of an own class -/
structure ClsK (K : PySem.W.Frag) (C : Addr) : Prop where
  cls : Cls K C
  ins : C8.InsC K C
  nb : notBs K C = true
  fn : firstNo K C = true
  sf : PySem.W.selfFirst K C = true
  s1 : PySem.W.subIn K (.type "int") (.ref C) = some false
  s2 : PySem.W.subIn K (.ref C) (.type "int") = some false
  sn : subsNo K C = true
  l1 : PySem.W.findIn K (.ref C) "__len__" = some none
  l2 : PySem.W.findIn K (.ref C) "__length_hint__" = some none
section
variable {X : Cx} {C : Addr} {m m2 x : Str} {k k2 : Nat} {ps ps2 : List Str} {sp sp2 : Sp} {a b o e f : Expr} {es : List Expr} {ta tb to : TE} {t : TA} {p pos apos : Pos}
theorem opM {op : Operator} (G : OkM X.prog X.w X.K X.mg X.base C m k ps sp) (hr : Room k X.A) (Z : ClsK X.K C) (hm : PySem.dunder op.info.2 = m := by rfl) : OpR X (binaryOp op) (rOwn C sp) := by
  obtain ⟨f, fd, M, _, B, F⟩ := G
  subst hm
  exact op_own F hr B Z.sf M.at_ M.fn
theorem opM_mulI (G : OkM X.prog X.w X.K X.mg X.base C "__mul__" k ps sp) (G2 : OkM X.prog X.w X.K X.mg X.base C "__rmul__" k2 ps2 sp2) (hr : Room k X.A) (Z : ClsK X.K C) : OpR X (binaryOp .Mult) (rOwnI C sp) := by
  obtain ⟨f, fd, M, _, B, F⟩ := G
  obtain ⟨f2, fd2, M2, _, B2, F2⟩ := G2
  exact op_ownI F hr B Z.sf Z.s1 M.at_ M2.at_ M.fn
theorem opM_mulA {h : Addr} (hM : Meth X.K C "__rmul__" h) (G : OkM X.prog X.w X.K X.mg X.base C "__mul__" k ps sp) (hr : Room k X.A) (Z : ClsK X.K C) : OpR X (binaryOp .Mult) (rOwnI C sp) := by
  obtain ⟨f, fd, M, _, B, F⟩ := G
  exact op_ownI F hr B Z.sf Z.s1 M.at_ hM.at_ M.fn
theorem opM_Imul (G : OkM X.prog X.w X.K X.mg X.base C "__mul__" k ps sp) (G2 : OkM X.prog X.w X.K X.mg X.base C "__rmul__" k2 ps2 sp2) (hr : Room k2 X.A) (Z : ClsK X.K C) : OpR X (binaryOp .Mult) (rIOwn C sp2) := by
  obtain ⟨f, fd, M, _, B, F⟩ := G
  obtain ⟨f2, fd2, M2, _, B2, F2⟩ := G2
  exact op_Iown F2 hr B2 Z.sf Z.s2 M.at_ M2.at_ M2.fn
theorem opM_eq (G : OkM X.prog X.w X.K X.mg X.base C "__eq__" k ps sp) (hr : Room k X.A) : OpR X (compareOp .Eq) (rOwnEqD X.K C sp) := by
  obtain ⟨f, fd, M, _, B, F⟩ := G
  exact op_ownEqD F hr B M.at_ M.fn
theorem opM_eqR (G : OkM X.prog X.w X.K X.mg X.base C "__eq__" k ps sp) (hr : Room k X.A) (Z : ClsK X.K C) : OpR X (compareOp .Eq) (rOwnEqR X.K C sp) := by
  obtain ⟨f, fd, M, _, B, F⟩ := G
  exact op_ownEqR F hr B Z.sn M.at_ M.fn
theorem opM_in (G : OkM X.prog X.w X.K X.mg X.base C "__contains__" k ps sp) (hr : Room k X.A) : OpR X (compareOp .In) (rOwnIn C sp id) := by
  obtain ⟨f, fd, M, _, B, F⟩ := G
  exact op_ownIn F hr B M.at_ M.fn
theorem pe_ixM (G : OkM X.prog X.w X.K X.mg X.base C "__getitem__" k ps sp) (hr : Room (k + 1) X.A) (ha : PE X a ta) (hb : PE X b tb) (hsl : ∀ (x : Addr) (i : Value), subscripted b true (.ref x) i = runValue (.builtin "lifetime.subscript" ⟨[.ref x, i], []⟩) := by intro _ _; with_unfolding_all rfl) : PE X (.Subscript a b pos) (tOp (rOwnIx C sp) ta tb) := by
  obtain ⟨f, fd, M, hf, B, F⟩ := G
  exact pe_ownIx F hr B M.at_ hf M.fn ha hb hsl
theorem pe_methM {pl : Sem Bool} (ho : PE X o to) (G : OkM X.prog X.w X.K X.mg X.base C m k ps sp) (hr : Room k X.A) (Z : ClsK X.K C) (ha : PA X (e :: es) t)
    (hst : starEach (e :: es) X.env = (false, eval e X.env) :: starEach es X.env := by rfl) (hpl : (backTo pos (starEach es X.env)).any (·.1) = false := by rfl)
    (ht : eval (.Call (.Attribute o m apos) (e :: es) [] pos) X.env = (eval o X.env >>= fun ov => standAt apos.atName >>= fun _ => holding [ov] (getMethod ov m pl) >>= fun fp => callWith pos fp.1 fp.2 (backTo pos (starEach (e :: es) X.env)) (backToKw pos (keywordEach [] X.env))) := by rfl) :
    PE X (.Call (.Attribute o m apos) (e :: es) [] pos) (tMethR C m sp to t) := by
  obtain ⟨f, fd, M, _, B, F⟩ := G
  exact pe_methR (pl := pl) ho Z.cls M F hr B ha hst hpl ht
theorem pe_propM (ho : PE X o to) (G : OkP X.prog X.w X.K X.mg X.base C x k ps sp) (hr : Room (k + 1) X.A) (Z : ClsK X.K C) (hab : attributeBase o x X.env (eval o X.env) = eval o X.env := by rfl) : PE X (.Attribute o x pos) (tPropR C sp to) := by
  obtain ⟨q, g, fd, M, B, F⟩ := G
  exact pe_propR ho Z.cls M F hr B hab
theorem pe_mkM (G : OkI X.prog X.w X.K X.mg X.base C k ps sp) (hr : Room (k + 1) X.A) (hg : Gl X x) (hm : X.mg x = some (.ref C)) (ha : PA X (e :: es) t) (hdb : (x == ("__debug__" : Str)) = false := by decide)
    (he : starEach (e :: es) X.env = (false, eval e X.env) :: starEach es X.env := by rfl) (hpl : (backTo pos (starEach es X.env)).any (·.1) = false := by rfl) : PE X (.Call (.Name x p) (e :: es) [] pos) (tMake C sp [] E0 t) := by
  obtain ⟨f, fd, M, B, F⟩ := G
  exact pe_make M F hr hg hm B .nil pass0 ha hdb he hpl
theorem pi_itM {fld : Str} {tg : Expr} (G : OkIt X.prog X.w X.K X.mg X.base C fld k ps) (hr : Room k X.A) (he : PE X e ta) : PI X tg e (iOwn X.K C fld ta) := by
  obtain ⟨f, fd, M, B, F⟩ := G
  exact pi_own F hr B M.at_ M.fn he
theorem call_listM {fld : Str} (hcalm : X.calm = true) (G : OkIt X.prog X.w X.K X.mg X.base C fld k ps) (hr : Room (k + 2) X.A) (Z : ClsK X.K C) : CallR X (.type "list") (rListOwn X.K C fld) := by
  obtain ⟨f, fd, M, B, F⟩ := G
  exact call_listOwnF hcalm F hr B M.at_ M.fn Z.l1 Z.l2
/-- len(d) -/
def rLenD : List V → Hp → VK → Prop := fun xs H Q => ∃ (a : Addr) (kvs : List (Key × V)), xs = [.ref a] ∧ Rd H a (.dK kvs) ∧ Q (.int kvs.length) H
theorem call_lenD : CallR X (.builtin "len") rLenD := by
  intro pins s σ H xs us Q I r h
  obtain ⟨a, kvs, rfl, hd, q⟩ := h
  obtain ⟨u, rfl, ru⟩ := vals1 r
  cases ru
  exact d_len I hd fun t s' I' => ⟨.int kvs.length, H, I', ⟨t, rfl⟩, q⟩
end
section
variable {K : PySem.W.Frag} {s c : Addr} {H0 : Hp}
def gLenD : List Cell → (Cell → Prop) → Prop := fun xs P => ∃ x kds, xs = [x] ∧ dicK x = some kds ∧ P (cI kds.length)
theorem C_lenD : LC K rLenD gLenD := fun s c vs xs H Q P hx S h k => by
  obtain ⟨x, kds, rfl, e, h⟩ := h
  obtain ⟨v, rfl, hv⟩ := one_of hx
  obtain ⟨a, kvs, rfl, ha, hd⟩ := dicK_at hv e
  refine ⟨a, kvs, rfl, ha, ?_⟩
  rw [hd.len]
  exact k _ _ H h (.int _) (.refl S)
theorem len_up {q : QP} {n : Nat} {vs : List V} {H : Hp} {Q : VK} {E : XK} (hq : ∀ ds P, q ds P → ds.length = n) (h : up K q vs H Q E) : vs.length = n := by
  obtain ⟨s, c, ds, S, hd, h⟩ := h
  rw [hd.len]
  exact hq _ _ h
end
end My


/-! QX: new things returned; exceptions over plain values. -/
namespace My
open PySem PySem.Spec PyProof.Rows L2
/-! ### defs that return a new list or dict which the caller may change -/
section
variable {K : PySem.W.Frag} {s c : Addr} {H0 : Hp}
def pRetL (i : Nat) : PSx := fun e σd => ∃ x, σd[i]? = some (some x) ∧ looseC (some x) = true ∧ e.rn x
theorem S_retL (i : Nat) : LS K s c H0 (tRet (tVar i)) (pRetL i) := fun σ σd H E e R h k => by
  obtain ⟨x, h1, lo, h2⟩ := h
  obtain ⟨v, hv, hr⟩ := R.at h1
  refine ⟨v, hv, k.rn x v H h2 lo hr (fun a ea => ?_) R.src R.kp0⟩
  subst ea
  exact R.new i a hv (by rw [h1]; exact lo)
def pRetNw (p : PNx) : PSx := fun e σd => p σd fun ds => e.rn (.lm ds)
theorem S_retNw {t : TE} {p : PNx} (ha : LN K s c H0 t p) : LS K s c H0 (tRet t) (pRetNw p) := fun σ σd H E e R h k => by
  refine ha σ σd H _ _ R h fun ds a vs H1 h1 hv hn hd st => ?_
  have nn := R.src.ne hn
  exact k.rn (.lm ds) _ H1 h1 rfl ⟨a, vs, rfl, hv, hd, nn⟩ (fun b eb => by cases eb; exact Kp.none R.kp0 nn.1 hn) st.src (R.kp0.trans st.kp)
abbrev QL := List D → (Cell → Prop) → Prop
def MonoL (q : QL) : Prop := ∀ ds P P', (∀ x, P x → P' x) → q ds P → q ds P'
def upL (K : PySem.W.Frag) (q : QL) : Sp := fun vs H Q _ => ∃ (s c : Addr) (ds : List D), Src H s c ∧ DRs K s H vs ds ∧ q ds fun x => ∀ v H', looseC (some x) = true → CellR K s c H' v x → (∀ a, v = .ref a → H a = none) → Stp s c H H' → Q v H'
theorem len_upL {q : QL} {n : Nat} {vs : List V} {H : Hp} {Q : VK} {E : XK} (hq : ∀ ds P, q ds P → ds.length = n) (h : upL K q vs H Q E) : vs.length = n := by
  obtain ⟨s, c, ds, S, hd, h⟩ := h
  rw [hd.len]
  exact hq _ _ h
theorem run_upL {t : TS} {p : PSx} {N : List Str} {q : QL} {vs : List V} {H : Hp} {Q : VK} {E : XK} (hl : ∀ s c H0, LS K s c H0 t p) (hq : ∀ ds P, q ds P → p { nx := fun _ => False, rt := fun _ => False, rn := P } (startD N ds)) (h : upL K q vs H Q E) :
    t { nx := fun _ H' => Q .non H', rt := Q } (L2.start N vs) H := by
  obtain ⟨s, c, ds, S, hd, h⟩ := h
  refine hl s c H (L2.start N vs) (startD N ds) H _ _ (rel_start S hd) (hq ds _ h) ⟨fun _ _ _ h1 => h1.elim, fun _ _ _ h1 => h1.elim, fun _ _ _ h1 => h1.elim, fun _ _ _ h1 => h1.elim, fun x v H' h1 lo r1 n1 S1 k1 => ?_⟩
  exact h1 v H' lo r1 n1 ⟨k1, S1⟩
def pCallL (q : QL) (a : PAx) : PNx := fun σd P => a σd fun xs => ∃ ds, datsC xs = some ds ∧ q ds fun x => ∃ es, x = .lm es ∧ P es
theorem L_callL {q : QL} {t : TA} {a : PAx} {E : XK} (m : MonoL q) (ha : LA K s c H0 t a) : LN K s c H0 (tCall (upL K q) [] E t) (pCallL q a) := fun σ σd H Q P R h k => by
  refine ha σ σd H _ _ R h fun xs vs H1 h1 r1 s1 => ?_
  obtain ⟨ds, e, h⟩ := h1
  refine ⟨s, c, ds, s1.src, by rw [List.append_nil]; exact datsC_at r1 e, m _ _ _ (fun x hx v H2 lo r2 n2 s2 => ?_) h⟩
  obtain ⟨es, rfl, hp⟩ := hx
  obtain ⟨b, us, rfl, hb, hd, q1, q2⟩ := r2
  exact k es b us H2 hp hb (Kp.none s1.kp q1 (n2 b rfl)) hd (s1.trans s2)
def pMethL (C : Addr) (m : Str) (q : QL) (a : PEx) (b : PAx) : PNx := fun σd P => a σd fun x => ∃ fs, x = .dat (.ins C fs) ∧ fs.lookup m = none ∧ b σd fun xs => ∃ ds, datsC xs = some ds ∧ q (.ins C fs :: ds) fun x => ∃ es, x = .lm es ∧ P es
theorem L_methL {C : Addr} {m : Str} {q : QL} {ta : TE} {t : TA} {a : PEx} {b : PAx} (mo : MonoL q) (ha : LE K s c H0 ta a) (hb : LA K s c H0 t b) : LN K s c H0 (tMethR C m (upL K q) ta t) (pMethL C m q a b) := fun σ σd H Q P R h k => by
  refine ha σ σd H _ _ R h fun x v H1 h1 r1 s1 => ?_
  obtain ⟨fs, rfl, e, h1⟩ := h1
  cases id r1 with
  | ins hi hf =>
    refine ⟨_, _, _, rfl, .inr ⟨_, hi⟩, hf.look_none e, ?_⟩
    refine hb σ σd H1 _ _ (R.stp s1) h1 fun xs vs H2 h2 r2 s2 => ?_
    obtain ⟨ds, ed, h⟩ := h2
    have st := s1.trans s2
    refine ⟨s, c, .ins C fs :: ds, s2.src, .cons (CellR.stp (x := .dat (.ins C fs)) s1.src s2 r1) (datsC_at r2 ed), mo _ _ _ (fun x hx v H3 lo r3 n3 s3 => ?_) h⟩
    obtain ⟨es, rfl, hp⟩ := hx
    obtain ⟨b, us, rfl, hb2, hd, q1, q2⟩ := r3
    exact k es b us H3 hp hb2 (Kp.none st.kp q1 (n3 b rfl)) hd (st.trans s3)
def pPropL (C : Addr) (q : QL) (a : PEx) : PNx := fun σd P => a σd fun x => ∃ fs, x = .dat (.ins C fs) ∧ q [.ins C fs] fun x => ∃ es, x = .lm es ∧ P es
theorem L_propL {C : Addr} {q : QL} {ta : TE} {a : PEx} (mo : MonoL q) (ha : LE K s c H0 ta a) : LN K s c H0 (tPropR C (upL K q) ta) (pPropL C q a) := fun σ σd H Q P R h k => by
  refine ha σ σd H _ _ R h fun x v H1 h1 r1 s1 => ?_
  obtain ⟨fs, rfl, h⟩ := h1
  cases id r1 with
  | ins hi hf =>
    refine ⟨_, _, _, rfl, .inr ⟨_, hi⟩, s, c, [.ins C fs], s1.src, .cons r1 .nil, mo _ _ _ (fun x hx v H3 lo r3 n3 s3 => ?_) h⟩
    obtain ⟨es, rfl, hp⟩ := hx
    obtain ⟨b, us, rfl, hb2, hd, q1, q2⟩ := r3
    exact k es b us H3 hp hb2 (Kp.none s1.kp q1 (n3 b rfl)) hd (s1.trans s3)
/-- xs.clear(), the list in slot i -/
def pClear (i : Nat) : PSx := fun e σd => ∃ ds, σd[i]? = some (some (.lm ds)) ∧ e.nx (σd.set i (some (.lm [])))
end
/-! ### statements that may raise -/
abbrev PSXx := PEnds → (Ex → Sd → Prop) → Sd → Prop
def LSX (K : PySem.W.Frag) (s c : Addr) (H0 : Hp) (t : WX → TS) (p : PSXx) : Prop := ∀ (σ : L2.St) (σd : Sd) (H : Hp) (E : Ends) (e : PEnds) (W : WX) (xr : Ex → Sd → Prop), Rel K s c H0 σ H σd → p e xr σd → EndsR K s c H0 H E e →
  (∀ x cls d σ' σd' H', xr x σd' → ExR K s H' cls d x → Rel K s c H0 σ' H' σd' → Im H H' → W cls d σ' H') → t W E σ H
section
variable {K : PySem.W.Frag} {s c : Addr} {H0 : Hp}
theorem X_lift {t : TS} {p : PSx} (h : LS K s c H0 t p) : LSX K s c H0 (fun _ => t) (fun e _ => p e) := fun σ σd H E e W xr R hp k kx => h σ σd H E e R hp k
def pSeqX (a b : PSXx) : PSXx := fun e xr σd => a { e with nx := b e xr } xr σd
theorem X_seq {t u : WX → TS} {a b : PSXx} (ha : LSX K s c H0 t a) (hb : LSX K s c H0 u b) : LSX K s c H0 (fun W => tSeq (t W) (u W)) (pSeqX a b) := fun σ σd H E e W xr R h k kx =>
  ha σ σd H _ _ W xr R h ⟨fun σ' σd' H' h1 R1 i => hb σ' σd' H' E e W xr R1 h1 (k.im i) fun x cls d σ2 σd2 H2 a1 a2 a3 a4 => kx x cls d σ2 σd2 H2 a1 a2 a3 (i.trans a4), k.rt, k.bk, k.ct, k.rn⟩ kx
def pIfX (t : PTx) (a b : PSXx) : PSXx := fun e xr σd => t σd fun x => if x = true then a e xr σd else b e xr σd
theorem X_if {t : TT} {u w : WX → TS} {p : PTx} {a b : PSXx} (ht : LT K s c H0 t p) (ha : LSX K s c H0 u a) (hb : LSX K s c H0 w b) : LSX K s c H0 (fun W => tIfS t (u W) (w W)) (pIfX p a b) := fun σ σd H E e W xr R h k kx => by
  refine ht σ σd H _ _ R h fun x H1 h1 s1 => ?_
  have im := s1.im R.src
  cases x with
  | true => exact ha σ σd H1 E e W xr (R.stp s1) h1 (k.im im) fun x cls d σ2 σd2 H2 a1 a2 a3 a4 => kx x cls d σ2 σd2 H2 a1 a2 a3 (im.trans a4)
  | false => exact hb σ σd H1 E e W xr (R.stp s1) h1 (k.im im) fun x cls d σ2 σd2 H2 a1 a2 a3 a4 => kx x cls d σ2 σd2 H2 a1 a2 a3 (im.trans a4)
def pForX (it : PNx) (g : PGx) (b : PSXx) : PSXx := fun e xr σd => it σd fun ds => ∃ inv : Nat → Sd → Prop, inv 0 σd ∧ (∀ i d σd', ds[i]? = some d → inv i σd' → g d σd' fun σd2 => b { e with nx := inv (i + 1), ct := inv (i + 1), bk := e.nx } xr σd2) ∧ ∀ σd', inv ds.length σd' → e.nx σd'
theorem X_for {ti : TI} {g : TG} {tb : WX → TS} {it : PNx} {pg : PGx} {b : PSXx} {ts : List Nat} (hi : LI K s c H0 ti it) (hg : LG K s c H0 g pg ts) (hb : LSX K s c H0 tb b) : LSX K s c H0 (fun W => tFor ti g (tb W)) (pForX it pg b) := fun σ σd H E e W xr R h k kx => by
  refine hi σ σd H _ _ R h fun ds J G Y H1 h1 s1 w g0 gp hy => ?_
  obtain ⟨inv, i0, turn, fin⟩ := h1
  have im1 := s1.im R.src
  refine for_it w (fun i σ' H' => ∃ σd', inv i σd' ∧ Rel K s c H0 σ' H' σd' ∧ Im H1 H') ⟨σd, i0, R.stp s1, Im.refl _⟩ (fun i σ' H' _ ⟨_, _, _, im⟩ => gp _ _ im g0) ?_ ?_
  · rintro i x σ' A B hlt ⟨σd', hinv, R', im⟩ y
    obtain ⟨sm, d, hd, hr⟩ := hy i A x B hlt im (gp _ _ im g0) y
    have R2 : Rel K s c H0 σ' B σd' := R'.stp (.same R'.src sm)
    have imB := im.trans (Same.im sm)
    refine hg σ' σd' B x d _ _ R2 hr (turn i d σd' hd hinv) fun σ2 σd2 h2 R3 _ _ _ => ?_
    exact hb σ2 σd2 B _ _ W xr R3 h2 ⟨fun σ3 σd3 C h3 R4 im2 => ⟨σd3, h3, R4, imB.trans im2⟩, k.rt, fun σ3 σd3 C h3 R4 im2 => k.nx σ3 σd3 C h3 R4 (im1.trans (imB.trans im2)), fun σ3 σd3 C h3 R4 im2 => ⟨σd3, h3, R4, imB.trans im2⟩, k.rn⟩
      fun x cls d σ4 σd4 H4 a1 a2 a3 a4 => kx x cls d σ4 σd4 H4 a1 a2 a3 (im1.trans (imB.trans a4))
  · rintro σ' A ⟨σd', hinv, R', im⟩
    exact k.nx σ' σd' A (fin σd' hinv) R' (im1.trans im)
def pFrzX (i : Nat) (p : PSXx) : PSXx := fun e xr σd => ∃ x d, σd[i]? = some (some x) ∧ frzC x = some d ∧ p e xr (σd.set i (some (.dat d)))
/-! ### raise -/
def LMk (K : PySem.W.Frag) (s c : Addr) (H0 : Hp) (m : L2.St → Hp → XK → Prop) (p : Sd → (Ex → Prop) → Prop) : Prop := ∀ (σ : L2.St) (σd : Sd) (H : Hp) (Q : XK) (P : Ex → Prop), Rel K s c H0 σ H σd → p σd P →
  (∀ x cls d H', P x → ExR K s H' cls d x → Stp s c H H' → Q cls d H') → m σ H Q
def tRaise (m : L2.St → Hp → XK → Prop) (W : WX) : TS := fun _ σ H => m σ H fun cls d H' => W cls d σ H'
def pRaise (p : Sd → (Ex → Prop) → Prop) : PSXx := fun _ xr σd => p σd fun x => xr x σd
theorem X_raise {m : L2.St → Hp → XK → Prop} {p : Sd → (Ex → Prop) → Prop} (hm : LMk K s c H0 m p) : LSX K s c H0 (tRaise m) (pRaise p) := fun σ σd H E e W xr R h k kx =>
  hm σ σd H _ _ R h fun x cls d H' h1 r1 st => kx x cls d σ σd H' h1 r1 (R.stp st) (st.im R.src)
/-- class E(..): def __init__(self, y): self.f = y -/
def sp_exc1 (C : Addr) (f : Str) : Sp := fun vs H Q _ => ∃ (a : Addr) (y : V), vs = [.ref a, y] ∧ H a = some (exo a C none) ∧ ∀ dx, H dx = none → dx ≠ a → Q .non (upd (upd H dx (exd dx [(f, y)])) a (exo a C (some dx)))
theorem len_exc1 {C : Addr} {f : Str} {vs : List V} {H : Hp} {Q : VK} {E : XK} (h : sp_exc1 C f vs H Q E) : vs.length = 2 := by
  obtain ⟨_, _, rfl, _⟩ := h
  rfl
theorem run_exc1 {C : Addr} {f : Str} {N : List Str} {vs : List V} {H : Hp} {Q : VK} {E : XK} (T : OexC K C) (hno : PySem.W.findIn K (.ref C) f = some none) (hN : N.length = 2) (h : sp_exc1 C f vs H Q E) :
    tOst K f (tVar 0) (tVar 1) { nx := fun _ H' => Q .non H', rt := Q } (L2.start N vs) H := by
  obtain ⟨a, y, rfl, ha, q⟩ := h
  unfold L2.start
  rw [show N.length - [V.ref a, y].length = 0 from by rw [hN]; rfl]
  exact ⟨_, rfl, _, rfl, a, C, rfl, T, hno, .inl ⟨ha, q⟩⟩
def sp_exc2 (C : Addr) (f g : Str) : Sp := fun vs H Q _ => ∃ (a : Addr) (y z : V), vs = [.ref a, y, z] ∧ H a = some (exo a C none) ∧ ∀ dx, H dx = none → dx ≠ a → Q .non (upd (upd (upd H dx (exd dx [(f, y)])) a (exo a C (some dx))) dx (exd dx [(g, z), (f, y)]))
theorem len_exc2 {C : Addr} {f g : Str} {vs : List V} {H : Hp} {Q : VK} {E : XK} (h : sp_exc2 C f g vs H Q E) : vs.length = 3 := by
  obtain ⟨_, _, _, rfl, _⟩ := h
  rfl
theorem run_exc2 {C : Addr} {f g : Str} {N : List Str} {vs : List V} {H : Hp} {Q : VK} {E : XK} (T : OexC K C) (hf : PySem.W.findIn K (.ref C) f = some none) (hg : PySem.W.findIn K (.ref C) g = some none) (hN : N.length = 3) (h : sp_exc2 C f g vs H Q E) :
    tSeq (tOst K f (tVar 0) (tVar 1)) (tOst K g (tVar 0) (tVar 2)) { nx := fun _ H' => Q .non H', rt := Q } (L2.start N vs) H := by
  obtain ⟨a, y, z, rfl, ha, q⟩ := h
  unfold L2.start
  rw [show N.length - [V.ref a, y, z].length = 0 from by rw [hN]; rfl]
  refine ⟨_, rfl, _, rfl, a, C, rfl, T, hf, .inl ⟨ha, fun dx hdx ne => ?_⟩⟩
  exact ⟨_, rfl, _, rfl, a, C, rfl, T, hg, .inr ⟨dx, _, upd_same, by rw [upd_ne ne, upd_same], by show 1 ≤ 900; decide, q dx hdx ne⟩⟩
def pMkE1 (C : Addr) (f : Str) (a : PEx) : Sd → (Ex → Prop) → Prop := fun σd P => a σd fun x => ∃ d, x = .dat d ∧ P ⟨C, [(f, d)]⟩
theorem mk_same {H : Hp} {a dx : Addr} {o : HO} {fs : List (Str × V)} (ha : H a = none) (hd : H dx = none) (ne : dx ≠ a) {H2 : Hp} (h2 : ∀ b, b ≠ a → b ≠ dx → H2 b = H b) : Same H (upd (del H2 a) dx (.xd fs)) := fun b u e => by
  have b1 : b ≠ a := fun z => by subst z; rw [ha] at e; cases e
  have b2 : b ≠ dx := fun z => by subst z; rw [hd] at e; cases e
  rw [upd_ne b2, del_ne b1, h2 b b1 b2]
  exact e
theorem L_mkE1 {C : Addr} {f : Str} {t : TE} {a : PEx} (ha : LE K s c H0 t a) : LMk K s c H0 (tMkO C (sp_exc1 C f) [] (tCons t tNil)) (pMkE1 C f a) := fun σ σd H Q P R h k => by
  refine ha σ σd H _ _ R h fun x v H1 h1 r1 s1 => ?_
  obtain ⟨d, rfl, h⟩ := h1
  refine ⟨by show 1 ≤ 1000; decide, fun b hb => ⟨b, v, rfl, upd_same, fun dx hdx ne => ⟨rfl, dx, [(f, v)], upd_same, by rw [upd_ne ne, upd_same], by rw [upd_ne ne] at hdx; exact hdx, ?_⟩⟩⟩
  have hd1 : H1 dx = none := by rw [upd_ne ne] at hdx; exact hdx
  have sm : Same H1 (upd (del (upd (upd (upd H1 b (exo b C none)) dx (exd dx [(f, v)])) b (exo b C (some dx))) b) dx (.xd [(f, v)])) := mk_same (o := .lst []) hb hd1 ne fun e n1 n2 => by rw [upd_ne n1, upd_ne n2, upd_ne n1]
  have st := s1.trans (.same s1.src sm)
  exact k _ _ _ _ h ⟨rfl, .inr ⟨dx, _, rfl, upd_same, .cons (DR.im (Same.im sm) r1) .nil⟩⟩ st
def pMkE2 (C : Addr) (f g : Str) (a b : PEx) : Sd → (Ex → Prop) → Prop := fun σd P => a σd fun x => b σd fun y => ∃ d e, x = .dat d ∧ y = .dat e ∧ P ⟨C, [(g, e), (f, d)]⟩
theorem L_mkE2 {C : Addr} {f g : Str} {t u : TE} {a b : PEx} (ha : LE K s c H0 t a) (hb : LE K s c H0 u b) : LMk K s c H0 (tMkO C (sp_exc2 C f g) [] (tCons t (tCons u tNil))) (pMkE2 C f g a b) := fun σ σd H Q P R h k => by
  refine ha σ σd H _ _ R h fun x v H1 h1 r1 s1 => ?_
  refine hb σ σd H1 _ _ (R.stp s1) h1 fun y w H2 h2 r2 s2 => ?_
  obtain ⟨d, e, rfl, rfl, h⟩ := h2
  have r1 : DR K s H2 v d := CellR.stp (x := .dat d) s1.src s2 r1
  refine ⟨by show 2 ≤ 1000; decide, fun o ho => ⟨o, v, w, rfl, upd_same, fun dx hdx ne => ⟨rfl, dx, [(g, w), (f, v)], by rw [upd_ne ne.symm, upd_same], upd_same, by rw [upd_ne ne] at hdx; exact hdx, ?_⟩⟩⟩
  have hd1 : H2 dx = none := by rw [upd_ne ne] at hdx; exact hdx
  have sm : Same H2 (upd (del (upd (upd (upd (upd H2 o (exo o C none)) dx (exd dx [(f, v)])) o (exo o C (some dx))) dx (exd dx [(g, w), (f, v)])) o) dx (.xd [(g, w), (f, v)])) := mk_same (o := .lst []) ho hd1 ne fun e n1 n2 => by rw [upd_ne n2, upd_ne n1, upd_ne n2, upd_ne n1]
  have st := (s1.trans s2).trans (.same s2.src sm)
  exact k _ _ _ _ h ⟨rfl, .inr ⟨dx, _, rfl, upd_same, .cons (DR.im (Same.im sm) r2) (.cons (DR.im (Same.im sm) r1) .nil)⟩⟩ st
/-! ### promises with an end for exceptions -/
abbrev QX := List D → (D → Prop) → (Ex → Prop) → Prop
def MonoX (q : QX) : Prop := ∀ ds P P' X X', (∀ d, P d → P' d) → (∀ x, X x → X' x) → q ds P X → q ds P' X'
def upX (K : PySem.W.Frag) (q : QX) : Sp := fun vs H Q E => ∃ (s c : Addr) (ds : List D), Src H s c ∧ DRs K s H vs ds ∧ q ds (fun d => ∀ v H', DR K s H' v d → Stp s c H H' → Q v H') fun x => ∀ cls d H', ExR K s H' cls d x → Stp s c H H' → E cls d H'
theorem len_upX {q : QX} {n : Nat} {vs : List V} {H : Hp} {Q : VK} {E : XK} (hq : ∀ ds P X, q ds P X → ds.length = n) (h : upX K q vs H Q E) : vs.length = n := by
  obtain ⟨s, c, ds, S, hd, h⟩ := h
  rw [hd.len]
  exact hq _ _ _ h
theorem run_upX {t : WX → TS} {p : PSXx} {N : List Str} {q : QX} {vs : List V} {H : Hp} {Q : VK} {E : XK} (hl : ∀ s c H0, LSX K s c H0 t p) (hq : ∀ ds P X, q ds P X → p { nx := fun _ => P .non, rt := P } (fun x _ => X x) (startD N ds)) (h : upX K q vs H Q E) :
    t (fun cls d _ H' => E cls d H') { nx := fun _ H' => Q .non H', rt := Q } (L2.start N vs) H := by
  obtain ⟨s, c, ds, S, hd, h⟩ := h
  refine hl s c H (L2.start N vs) (startD N ds) H _ _ _ _ (rel_start S hd) (hq ds _ _ h) ⟨fun σ σd H' h1 R _ => ?_, fun d v H' h1 r1 S1 k1 => ?_, fun _ _ _ h1 => h1.elim, fun _ _ _ h1 => h1.elim, fun _ _ _ h1 => h1.elim⟩ fun x cls d σ' σd' H' h1 r1 R _ => ?_
  · exact h1 .non H' .non ⟨R.kp0, R.src⟩
  · exact h1 v H' r1 ⟨k1, S1⟩
  · exact h1 cls d H' r1 ⟨R.kp0, R.src⟩
/-- __init__ that may raise -/
abbrev QIX := List D → (List (Str × D) → Prop) → (Ex → Prop) → Prop
def MonoIX (q : QIX) : Prop := ∀ ds P P' X X', (∀ fs, P fs → P' fs) → (∀ x, X x → X' x) → q ds P X → q ds P' X'
def upIX (K : PySem.W.Frag) (C : Addr) (q : QIX) : Sp := fun vs H Q E => ∃ (s c : Addr) (ds : List D) (Hb : Hp) (x dx : Addr) (us : List V), vs = .ref x :: us ∧ H = upd (upd Hb dx (.own x)) x (.ins C dx []) ∧ Hb x = none ∧ Hb dx = none ∧ dx ≠ x ∧ Src Hb s c ∧ DRs K s Hb us ds ∧
  q ds (fun fds => ∀ H' dx' fs, H' x = some (.ins C dx' fs) → DRf K s H' fs fds → Stp s c Hb H' → Q .non H') fun ex => ∀ cls d H', ExR K s H' cls d ex → Stp s c Hb H' → E cls d H'
theorem len_upIX {C : Addr} {q : QIX} {n : Nat} {vs : List V} {H : Hp} {Q : VK} {E : XK} (hq : ∀ ds P X, q ds P X → ds.length = n) (h : upIX K C q vs H Q E) : vs.length = n + 1 := by
  obtain ⟨s, c, ds, Hb, x, dx, us, rfl, _, _, _, _, _, hd, h⟩ := h
  rw [List.length_cons, hd.len, hq _ _ _ h]
theorem run_upIX {t : WX → TS} {p : PSXx} {N : List Str} {C : Addr} {q : QIX} {vs : List V} {H : Hp} {Q : VK} {E : XK} (hl : ∀ s c H0, LSX K s c H0 t p) (hq : ∀ x ds P X, q ds P X → p { nx := fun σd => ∃ fs r, σd = some (.om x C fs) :: r ∧ P fs, rt := fun _ => False } (fun ex _ => X ex) (some (.om x C []) :: startD (N.drop 1) ds)) (h : upIX K C q vs H Q E) :
    t (fun cls d _ H' => E cls d H') { nx := fun _ H' => Q .non H', rt := Q } (L2.start N vs) H := by
  obtain ⟨s, c, ds, Hb, x, dx, us, rfl, rfl, hx, hdx, ne, S, hd, h⟩ := h
  refine hl s c Hb _ _ _ _ _ _ _ (rel_startI (N := N) S hd hx hdx ne) (hq x ds _ _ h) ⟨fun σ σd H' h1 R _ => ?_, fun d v H' h1 => h1.elim, fun _ _ _ h1 => h1.elim, fun _ _ _ h1 => h1.elim, fun _ _ _ h1 => h1.elim⟩ fun ex cls d σ' σd' H' h1 r1 R _ => h1 cls d H' r1 ⟨R.kp0, R.src⟩
  obtain ⟨fs, r, rfl, h2⟩ := h1
  obtain ⟨w, hw, dx', us', ew, hu, hf, _⟩ := R.at (i := 0) (x := .om x C fs) rfl
  cases ew
  exact h2 H' dx' us' hu hf ⟨R.kp0, R.src⟩
/-! ### calls that may raise, at the head of a statement -/
def LCX (K : PySem.W.Frag) (s c : Addr) (H0 : Hp) (t : WX → TE) (p : Sd → (D → Prop) → (Ex → Prop) → Prop) : Prop := ∀ (σ : L2.St) (σd : Sd) (H : Hp) (Q : VK) (W : WX) (P : D → Prop) (X : Ex → Prop), Rel K s c H0 σ H σd → p σd P X →
  (∀ d v H', P d → DR K s H' v d → Stp s c H H' → Q v H') → (∀ x cls d H', X x → ExR K s H' cls d x → Stp s c H H' → W cls d σ H') → t W σ H Q
def pRetX (p : Sd → (D → Prop) → (Ex → Prop) → Prop) : PSXx := fun e xr σd => p σd e.rt fun x => xr x σd
theorem X_ret {t : WX → TE} {p : Sd → (D → Prop) → (Ex → Prop) → Prop} (h : LCX K s c H0 t p) : LSX K s c H0 (fun W => tRet (t W)) (pRetX p) := fun σ σd H E e W xr R hp k kx =>
  h σ σd H _ W _ _ R hp (fun d v H' h1 r1 st => k.rt d v H' h1 r1 st.src (R.kp0.trans st.kp)) fun x cls d H' h1 r1 st => kx x cls d σ σd H' h1 r1 (R.stp st) (st.im R.src)
def pAsgX (p : Sd → (D → Prop) → (Ex → Prop) → Prop) (i : Nat) : PSXx := fun e xr σd => p σd (fun d => e.nx (σd.set i (some (.dat d)))) fun x => xr x σd
theorem X_asg {t : WX → TE} {p : Sd → (D → Prop) → (Ex → Prop) → Prop} (i : Nat) (h : LCX K s c H0 t p) : LSX K s c H0 (fun W => tAsg (t W) (gName i)) (pAsgX p i) := fun σ σd H E e W xr R hp k kx =>
  h σ σd H _ W _ _ R hp (fun d v H' h1 r1 st => k.nx _ _ H' h1 ((R.stp st).setD r1) (st.im R.src)) fun x cls d H' h1 r1 st => kx x cls d σ σd H' h1 r1 (R.stp st) (st.im R.src)
def pDropX (p : Sd → (D → Prop) → (Ex → Prop) → Prop) : PSXx := fun e xr σd => p σd (fun _ => e.nx σd) fun x => xr x σd
theorem X_drop {t : WX → TE} {p : Sd → (D → Prop) → (Ex → Prop) → Prop} (h : LCX K s c H0 t p) : LSX K s c H0 (fun W => tDrop (t W)) (pDropX p) := fun σ σd H E e W xr R hp k kx =>
  h σ σd H _ W _ _ R hp (fun d v H' h1 r1 st => k.nx σ σd H' h1 (R.stp st) (st.im R.src)) fun x cls d H' h1 r1 st => kx x cls d σ σd H' h1 r1 (R.stp st) (st.im R.src)
def pCallX (q : QX) (a : PAx) : Sd → (D → Prop) → (Ex → Prop) → Prop := fun σd P X => a σd fun xs => ∃ ds, datsC xs = some ds ∧ q ds P X
theorem L_callX {q : QX} {t : TA} {a : PAx} (m : MonoX q) (ha : LA K s c H0 t a) : LCX K s c H0 (fun W => tCallS (upX K q) (WE W) t) (pCallX q a) := fun σ σd H Q W P X R h k kx => by
  refine ha σ σd H _ _ R h fun xs vs H1 h1 r1 s1 => ?_
  obtain ⟨ds, e, h⟩ := h1
  exact ⟨s, c, ds, s1.src, datsC_at r1 e, m _ _ _ _ _ (fun d hd v H2 r2 s2 => k d v H2 hd r2 (s1.trans s2)) (fun x hx cls d H2 r2 s2 => kx x cls d H2 hx r2 (s1.trans s2)) h⟩
/-- the same where nothing is let out -/
theorem L_callX0 {q : QX} {t : TA} {a : PAx} (m : MonoX q) (ha : LA K s c H0 t a) : LE K s c H0 (tCall (upX K q) [] E0 t) (fun σd P => pCallX q a σd (fun d => P (.dat d)) fun _ => False) := fun σ σd H Q P R h k => by
  refine ha σ σd H _ _ R h fun xs vs H1 h1 r1 s1 => ?_
  obtain ⟨ds, e, h⟩ := h1
  exact ⟨s, c, ds, s1.src, by rw [List.append_nil]; exact datsC_at r1 e, m _ _ _ _ _ (fun d hd v H2 r2 s2 => k (.dat d) v H2 hd r2 (s1.trans s2)) (fun x hx => hx.elim) h⟩
def tMakeS (C : Addr) (sp : Sp) (E : L2.St → XK) (t : TA) : TE := fun σ H Q => t σ H fun vs H1 => ∀ x dx, H1 x = none → H1 dx = none → dx ≠ x → sp (V.ref x :: vs) (upd (upd H1 dx (.own x)) x (.ins C dx [])) (fun v H2 => v = .non ∧ Q (.ref x) H2) (E σ)
def pMakeX (C : Addr) (q : QIX) (a : PAx) : Sd → (D → Prop) → (Ex → Prop) → Prop := fun σd P X => a σd fun xs => ∃ ds, datsC xs = some ds ∧ q ds (fun fs => P (.ins C fs)) X
theorem L_makeX {C : Addr} {q : QIX} {t : TA} {a : PAx} (mo : MonoIX q) (ha : LA K s c H0 t a) : LCX K s c H0 (fun W => tFrz (tMakeS C (upIX K C q) (WE W) t)) (pMakeX C q a) := fun σ σd H Q W P X R h k kx => by
  refine ha σ σd H _ _ R h fun xs vs H1 h1 r1 s1 => ?_
  obtain ⟨ds, e, h⟩ := h1
  intro x dx hx hdx ne
  refine ⟨s, c, ds, H1, x, dx, vs, rfl, rfl, hx, hdx, ne, s1.src, datsC_at r1 e, mo _ _ _ _ _ (fun fds hfd H' dx' fs hx' hf st => ⟨rfl, x, _, rfl, hx', trivial, fun o => ?_⟩) (fun ex hex cls d H' rx st => kx ex cls d H' hex rx (s1.trans st)) h⟩
  have nn := s1.src.ne hx
  have kl : Kp x H' (upd H' x (.frz o (.ins C dx' fs))) := Kp.self
  have im := kl.im ⟨_, hx', rfl⟩
  exact k _ _ _ hfd (.ins upd_same (hf.im im)) (s1.trans ⟨st.kp.via hx kl, st.src.kp nn.1.symm nn.2.symm kl⟩)
theorem L_makeX0 {C : Addr} {q : QIX} {t : TA} {a : PAx} (mo : MonoIX q) (ha : LA K s c H0 t a) : LE K s c H0 (tFrz (tMake C (upIX K C q) [] E0 t)) (fun σd P => pMakeX C q a σd (fun d => P (.dat d)) fun _ => False) := fun σ σd H Q P R h k => by
  refine ha σ σd H _ _ R h fun xs vs H1 h1 r1 s1 => ?_
  obtain ⟨ds, e, h⟩ := h1
  intro x dx hx hdx ne
  rw [List.append_nil]
  refine ⟨s, c, ds, H1, x, dx, vs, rfl, rfl, hx, hdx, ne, s1.src, datsC_at r1 e, mo _ _ _ _ _ (fun fds hfd H' dx' fs hx' hf st => ⟨rfl, x, _, rfl, hx', trivial, fun o => ?_⟩) (fun ex hex => hex.elim) h⟩
  have nn := s1.src.ne hx
  have kl : Kp x H' (upd H' x (.frz o (.ins C dx' fs))) := Kp.self
  have im := kl.im ⟨_, hx', rfl⟩
  exact k _ _ _ hfd (.ins upd_same (hf.im im)) (s1.trans ⟨st.kp.via hx kl, st.src.kp nn.1.symm nn.2.symm kl⟩)
/-- o.m(..) that may raise: t holds the positional arguments, then the keywords' -/
def tMethS (C : Addr) (m : Str) (sp : Sp) (E : L2.St → XK) (te : TE) (t : TA) : TE := fun σ H Q => te σ H fun y H1 => ∃ a dx fs, y = .ref a ∧ Rd H1 a (.ins C dx fs) ∧ fs.lookup m = none ∧ t σ H1 fun vs H2 => sp (y :: vs) H2 Q (E σ)
def pMethX (C : Addr) (m : Str) (q : QX) (a : PEx) (b : PAx) : Sd → (D → Prop) → (Ex → Prop) → Prop := fun σd P X => a σd fun x => ∃ fs, x = .dat (.ins C fs) ∧ fs.lookup m = none ∧ b σd fun xs => ∃ ds, datsC xs = some ds ∧ q (.ins C fs :: ds) P X
theorem L_methX {C : Addr} {m : Str} {q : QX} {ta : TE} {t : TA} {a : PEx} {b : PAx} (mo : MonoX q) (ha : LE K s c H0 ta a) (hb : LA K s c H0 t b) : LCX K s c H0 (fun W => tMethS C m (upX K q) (WE W) ta t) (pMethX C m q a b) := fun σ σd H Q W P X R h k kx => by
  refine ha σ σd H _ _ R h fun x v H1 h1 r1 s1 => ?_
  obtain ⟨fs, rfl, e, h1⟩ := h1
  cases id r1 with
  | ins hi hf =>
    refine ⟨_, _, _, rfl, .inr ⟨_, hi⟩, hf.look_none e, ?_⟩
    refine hb σ σd H1 _ _ (R.stp s1) h1 fun xs vs H2 h2 r2 s2 => ?_
    obtain ⟨ds, ed, h⟩ := h2
    have st := s1.trans s2
    exact ⟨s, c, .ins C fs :: ds, s2.src, .cons (CellR.stp (x := .dat (.ins C fs)) s1.src s2 r1) (datsC_at r2 ed), mo _ _ _ _ _ (fun d hd v H3 r3 s3 => k d _ H3 hd r3 (st.trans s3)) (fun ex hx cls d H3 r3 s3 => kx ex cls d H3 hx r3 (st.trans s3)) h⟩
/-! ### try .. except c as n -/
def tTry (K : PySem.W.Frag) (c0 : Value) (i : Nat) (tb : WX → TS) (ts : Addr → Value → Option Addr → TS) : TS := fun D σ H => tb (wAs K c0 i ts (fun _ _ _ _ => False) D) D σ H
def pTry (i : Nat) (Cs : List Addr) (pb : PSXx) (ps : Addr → Value → Option Addr → PSx) : PSx := fun e σd => pb e (fun x σd' => x.C ∈ Cs ∧ ∀ a cls d, ps a cls d { nx := fun z => e.nx (z.set i none), rt := e.rt, bk := fun z => e.bk (z.set i none), ct := fun z => e.ct (z.set i none), rn := e.rn } (σd'.set i (some (.ex a cls d x)))) σd
theorem S_try {c0 : Value} {i : Nat} {Cs : List Addr} {tb : WX → TS} {ts : Addr → Value → Option Addr → TS} {pb : PSXx} {ps : Addr → Value → Option Addr → PSx} (hC : ∀ C ∈ Cs, PySem.W.exmOne K (.ref C) c0 = some true) (hb : LSX K s c H0 tb pb) (hs : ∀ a cls d, LS K s c H0 (ts a cls d) (ps a cls d)) :
    LS K s c H0 (tTry K c0 i tb ts) (pTry i Cs pb ps) := fun σ σd H E e R h k => by
  refine hb σ σd H E e _ _ R h k fun x cls d σ' σd' H' hx rx R' im => ?_
  obtain ⟨hm, hp⟩ := hx
  obtain ⟨rfl, hd⟩ := id rx
  refine ⟨true, hC _ hm, fun _ a ha => ?_, fun z => nomatch z⟩
  have R2 : Rel K s c H0 (σ'.set i (some (.ref a))) H' (σd'.set i (some (.ex a (.ref x.C) d x))) := R'.set (x := .ex a (.ref x.C) d x) ⟨rfl, rx⟩ (fun z => nomatch z) (fun z => nomatch z)
  have k2 := k.im im
  exact hs a _ d _ _ H' _ _ R2 (hp a _ d) ⟨fun σ2 σd2 H2 h2 R3 i2 => k2.nx _ _ H2 h2 R3.wipe1 i2, k2.rt, fun σ2 σd2 H2 h2 R3 i2 => k2.bk _ _ H2 h2 R3.wipe1 i2, fun σ2 σd2 H2 h2 R3 i2 => k2.ct _ _ H2 h2 R3.wipe1 i2, k2.rn⟩
/-! ### in the suite -/
def pXf (a : Addr) (cls : Value) (d : Option Addr) (i : Nat) (C : Addr) (f : Str) : PEx := fun σd P => ∃ x dd, σd[i]? = some (some (.ex a cls d x)) ∧ x.C = C ∧ x.fs.lookup f = some dd ∧ P (.dat dd)
theorem L_xf {a C : Addr} {cls : Value} {d : Option Addr} {f : Str} (i : Nat) : LE K s c H0 (tXf a cls d C f (tVar i)) (pXf a cls d i C f) := fun σ σd H Q P R h k => by
  obtain ⟨x, dd, h1, rfl, h2, h⟩ := h
  obtain ⟨v, hv, rfl, hc, hr⟩ := R.at h1
  refine ⟨_, hv, rfl, hc, ?_⟩
  rcases hr with ⟨e, _⟩ | ⟨ad, us, e1, e2, hf⟩
  · rw [e] at h2
    cases h2
  · obtain ⟨u, hu, ru⟩ := hf.look h2
    exact ⟨ad, us, u, e1, e2, hu, k _ _ H h ru (.refl R.src)⟩
/-- isinstance(e, c), e the caught one -/
def rIsX (K : PySem.W.Frag) (a : Addr) (cls : Value) (d : Option Addr) : List V → Hp → VK → Prop := fun xs H Q => ∃ (C : Addr) (v : V) (u : Value) (b : Bool), xs = [.ref a, v] ∧ cls = .ref C ∧ ExcC K C ∧ ClsV v u ∧ (d = none ∨ ∃ dd us, d = some dd ∧ H dd = some (.xd us)) ∧ PySem.W.kitOne K (.ref C) u = some b ∧ Q (.bl b) H
def pIsX (a : Addr) (cls : Value) (d : Option Addr) (i : Nat) (g : Addr → Option Bool) : PEx := fun σd P => ∃ x b, σd[i]? = some (some (.ex a cls d x)) ∧ g x.C = some b ∧ P (cB b)
theorem L_isX {a : Addr} {cls : Value} {d : Option Addr} {g : Addr → Option Bool} {v : V} {u : Value} (i : Nat) (hv : ClsV v u) (hg : ∀ C b, g C = some b → ExcC K C ∧ PySem.W.kitOne K (.ref C) u = some b) : LE K s c H0 (tCB (rIsX K a cls d) (tCons (tVar i) (tCons (tC v) tNil))) (pIsX a cls d i g) := fun σ σd H Q P R h k => by
  obtain ⟨x, b, h1, h2, h⟩ := h
  obtain ⟨w, hw, rfl, hc, hr⟩ := R.at h1
  obtain ⟨h3, h4⟩ := hg _ _ h2
  refine ⟨_, hw, x.C, v, u, b, rfl, hc, h3, hv, ?_, h4, k _ _ H h (.bl b) (.refl R.src)⟩
  rcases hr with ⟨_, e⟩ | ⟨ad, us, e1, e2, _⟩
  · exact .inl e
  · exact .inr ⟨ad, us, e1, e2⟩
end
end My


/-! OwnX: making and methods that may raise (what is let out is told at the slots), keywords, isinstance of a caught exception. -/
namespace My
open PySem PySem.Spec PyProof.Rows L2
section
variable {X : Cx} {CX : CXT} {k : Nat} {f C : Addr} {fd : FuncData} {ps ks : List Str} {sp : Sp} {E : L2.St → XK} {x m : Str} {p pos apos : Pos} {e o : Expr} {es : List Expr} {kws : List Keyword} {to : TE} {t tk : TA}
theorem run_makeS {pins : List (Addr × Obj)} {σ : L2.St} {H : Hp} {s : Shared} {Q : VK} {us : List Value} {vs : List V} (M : Mk X.K C f) (F : FnOk X.prog X.w X.K X.mg X.base CX k f fd ps sp) (hr : Room (k + 1) X.A) (hb : Binds X.K fd ps [])
    (hx : PassesAt CX X σ (E σ)) (I : Inv X pins σ H s) (r : Vals vs us)
    (h : ∀ x dx, H x = none → H dx = none → dx ≠ x → sp (.ref x :: vs) (upd (upd H dx (.own x)) x (.ins C dx [])) (fun v H2 => v = .non ∧ Q (.ref x) H2) (E σ)) : wpAny (model X.prog X.w) X.A (call (.ref C) us) (EP X pins σ Q) X.xe s := by
  have hq := h (s.heap.objs.size + 1) s.heap.objs.size (I.hok.fresh (Nat.le_succ _)) (I.hok.fresh (Nat.le_refl _)) (Nat.ne_of_lt (Nat.lt_succ_self _))
  have J := Inv.made (C := C) I
  have rr : Vals (V.ref (s.heap.objs.size + 1) :: vs) (Value.ref (s.heap.objs.size + 1) :: us) := .cons rfl r
  have hl : ((Value.ref (s.heap.objs.size + 1) :: us) ++ []).length = ps.length := by
    rw [List.append_nil, ← rr.length]
    exact F.len _ _ _ _ hq
  have bt := hb _ (Value.ref (s.heap.objs.size + 1) :: us) J.kIn hl
  rw [List.append_nil] at bt
  refine wpAny_call (make_map (f := f) I.kIn M.makes M.init (beq_iff_eq.mp M.fn) (codeAny_mono (F.run _ X.stack _ _ ⟨Value.ref (s.heap.objs.size + 1) :: us, []⟩ (Value.ref (s.heap.objs.size + 1) :: us) _ _ (E σ) (hr.make C us []) (J.env0.make C us []) bt rr hq) fun z s' hz => ?_))
  cases z with
  | error er => exact hx pins _ _ er s' J hz
  | ok fl =>
    cases fl with
    | ret u =>
      obtain ⟨v, H', I3, rv, ev, q3⟩ := J.after hz
      subst ev
      exact ⟨rv, V.ref (s.heap.objs.size + 1), H', I3, rfl, q3⟩
    | next => exact hz.elim
    | brk => exact hz.elim
    | cont => exact hz.elim
theorem pe_makeS (M : Mk X.K C f) (F : FnOk X.prog X.w X.K X.mg X.base CX k f fd ps sp) (hr : Room (k + 1) X.A) (hg : Gl X x) (hm : X.mg x = some (.ref C)) (hb : Binds X.K fd ps []) (hx : ∀ σ, PassesAt CX X σ (E σ)) (ha : PA X (e :: es) t) (hdb : (x == ("__debug__" : Str)) = false := by decide)
    (he : starEach (e :: es) X.env = (false, eval e X.env) :: starEach es X.env := by rfl) (hpl : (backTo pos (starEach es X.env)).any (·.1) = false := by rfl) : PE X (.Call (.Name x p) (e :: es) [] pos) (tMakeS C sp E t) := by
  refine ⟨fun pins s σ H Q I h => wpAny_Call_Name_kw (ld_glob I hg hm ?_ hdb)⟩
  refine PySem.W.callWith_K (h₀ := X.base) I.ok.mod.kin M.kp (thn (ha.run pos pins s σ H _ I h) fun us s1 ⟨vs, H1, I1, r, q⟩ => ⟨I1.kIn, run_makeS M F hr hb (hx σ) I1 r q⟩) he hpl
/-- keyword-only parameters behind the positional ones, given in their order -/
def KwOnly (K : PySem.W.Frag) (fd : FuncData) (ps ks : List Str) : Prop := ∀ (s : Shared) (us ws : List Value), K.In s.heap → ws.length = ks.length → (us ++ ws).length = ps.length → BindsTo s fd ⟨us, ks.zip ws⟩ (ps.zip (us ++ ws))
theorem run_fnKS {pins : List (Addr × Obj)} {σ : L2.St} {H : Hp} {s : Shared} {Q : VK} {us ws : List Value} {vs zs : List V} (F : FnOk X.prog X.w X.K X.mg X.base CX k f fd ps sp) (hr : Room k X.A) (hb : KwOnly X.K fd ps ks) (hx : PassesAt CX X σ (E σ)) (hk : ws.length = ks.length)
    (I : Inv X pins σ H s) (r : Vals vs us) (rz : Vals zs ws) (h : sp (vs ++ zs) H Q (E σ)) : wpAny (model X.prog X.w) X.A (call (.ref f) us (ks.zip ws)) (EP X pins σ Q) X.xe s := by
  have rr := r.append rz
  have hl : (us ++ ws).length = ps.length := by rw [← rr.length]; exact F.len _ _ _ _ h
  refine wpAny_call (codeAny_mono (F.run X.A X.stack s H ⟨us, ks.zip ws⟩ (us ++ ws) (vs ++ zs) Q (E σ) hr I.env0 (hb s us ws I.kIn hk hl) rr h) fun z s' hz => ?_)
  cases z with
  | error er => exact hx pins H s er s' I hz
  | ok fl =>
    cases fl with
    | ret u => exact I.after hz
    | next => exact hz.elim
    | brk => exact hz.elim
    | cont => exact hz.elim
/-- the value of the one keyword -/
theorem kw_one {n : Str} {te : TE} {kp : Pos} {pins : List (Addr × Obj)} {σ : L2.St} {H : Hp} {s : Shared} {Q : V → Hp → Prop} {R : List Value → Shared → Prop} (he : PE X e te) (I : Inv X pins σ H s) (h : te σ H Q)
    (hr : ∀ u v H' s', Inv X pins σ H' s' → RelV v u → Q v H' → R [u] s') : wpAny (model X.prog X.w) X.A (evalAll ((backToKw pos (keywordEach [⟨some n, e, kp⟩] X.env)).map (·.2))) R X.xe s := by
  show wpAny _ _ (evalAll ((do let v ← eval e X.env; standAt pos; pure v) :: [])) _ _ s
  refine wpAny_evalAll_cons (wpAny_bind (thn (he.run pins s σ H _ I h) fun u s1 ⟨v, H1, I1, r1, q1⟩ => wpAny_bind (wpAny_standAt (wpAny_pure (wpAny_evalAll_nil ?_)))))
  exact hr u v H1 s1 I1 r1 q1
/-- o.m(k = e) -/
theorem pe_methK01 {pl : Sem Bool} {n : Str} {te : TE} {kp : Pos} (ho : PE X o to) (c : Cls X.K C) (hm : Meth X.K C m f) (F : FnOk X.prog X.w X.K X.mg X.base CX k f fd ps sp) (hr : Room k X.A) (hb : KwOnly X.K fd ps [n]) (hx : ∀ σ, PassesAt CX X σ (E σ)) (he : PE X e te)
    (hall : (backToKw pos (keywordEach [⟨some n, e, kp⟩] X.env)).all (·.1.isSome) = true := by rfl) (hks : (backToKw pos (keywordEach [⟨some n, e, kp⟩] X.env)).filterMap (·.1) = [n] := by rfl)
    (hpl : ((backTo pos (starEach [] X.env)).any (·.1) || (backToKw pos (keywordEach [⟨some n, e, kp⟩] X.env)).any (·.1.isNone)) = false := by rfl)
    (ht : eval (.Call (.Attribute o m apos) [] [⟨some n, e, kp⟩] pos) X.env = (eval o X.env >>= fun ov => standAt apos.atName >>= fun _ => holding [ov] (getMethod ov m pl) >>= fun fp => callWith pos fp.1 fp.2 (backTo pos (starEach [] X.env)) (backToKw pos (keywordEach [⟨some n, e, kp⟩] X.env))) := by rfl) :
    PE X (.Call (.Attribute o m apos) [] [⟨some n, e, kp⟩] pos) (tMethS C m sp E to (tCons te tNil)) := by
  refine ⟨fun pins s σ H Q I h => ?_⟩
  refine PySem.W.methodCall_KW (pl := pl) (thn (ho.run pins s σ H _ I h) fun u s1 hh => ?_) ht
  obtain ⟨y, H1, I1, ry, a, dx, fs, rfl, hi, hl, q⟩ := hh
  cases ry
  refine meth_rd I1 hi c hm hl ?_
  have q : te σ H1 fun v H2 => sp ([V.ref a] ++ [v]) H2 Q (E σ) := q
  refine PySem.W.callWith_KW0 (first := [.ref a]) (h₀ := X.base) I.ok.mod.kin hm.kp hall (kw_one he I1 q fun z v H2 s2 I2 rz q2 => ⟨I2.kIn, ?_⟩) hpl
  rw [hks]
  exact run_fnKS (us := [.ref a]) (vs := [.ref a]) (ws := [z]) (zs := [v]) (ks := [n]) F hr hb (hx σ) rfl I2 (.cons rfl .nil) (.cons rz .nil) q2
/-- o.m(d, k = e) -/
theorem pe_methK11 {pl : Sem Bool} {n : Str} {d : Expr} {td te : TE} {kp : Pos} (ho : PE X o to) (c : Cls X.K C) (hm : Meth X.K C m f) (F : FnOk X.prog X.w X.K X.mg X.base CX k f fd ps sp) (hr : Room k X.A) (hb : KwOnly X.K fd ps [n]) (hx : ∀ σ, PassesAt CX X σ (E σ)) (hd : PE X d td) (he : PE X e te)
    (hall : (backToKw pos (keywordEach [⟨some n, e, kp⟩] X.env)).all (·.1.isSome) = true := by rfl) (hks : (backToKw pos (keywordEach [⟨some n, e, kp⟩] X.env)).filterMap (·.1) = [n] := by rfl)
    (hst : starEach [d] X.env = (false, eval d X.env) :: starEach [] X.env := by rfl)
    (hpl : ((backTo pos (starEach [d] X.env)).any (·.1) || (backToKw pos (keywordEach [⟨some n, e, kp⟩] X.env)).any (·.1.isNone)) = false := by rfl)
    (ht : eval (.Call (.Attribute o m apos) [d] [⟨some n, e, kp⟩] pos) X.env = (eval o X.env >>= fun ov => standAt apos.atName >>= fun _ => holding [ov] (getMethod ov m pl) >>= fun fp => callWith pos fp.1 fp.2 (backTo pos (starEach [d] X.env)) (backToKw pos (keywordEach [⟨some n, e, kp⟩] X.env))) := by rfl) :
    PE X (.Call (.Attribute o m apos) [d] [⟨some n, e, kp⟩] pos) (tMethS C m sp E to (tCons td (tCons te tNil))) := by
  refine ⟨fun pins s σ H Q I h => ?_⟩
  refine PySem.W.methodCall_KW (pl := pl) (thn (ho.run pins s σ H _ I h) fun u s1 hh => ?_) ht
  obtain ⟨y, H1, I1, ry, a, dx, fs, rfl, hi, hl, q⟩ := hh
  cases ry
  refine meth_rd I1 hi c hm hl ?_
  have q : tCons td tNil σ H1 fun vs H2 => te σ H2 fun v H3 => sp ((V.ref a :: vs) ++ [v]) H3 Q (E σ) := q
  refine PySem.W.callWith_KW (first := [.ref a]) (h₀ := X.base) I.ok.mod.kin hm.kp hall (thn ((pa_cons hd pa_nil hst).run pos pins s1 σ H1 _ I1 q) fun us s2 hv => ?_) hpl hst
  obtain ⟨vs, H2, I2, rv, q2⟩ := hv
  refine kw_one he I2 q2 fun z v H3 s3 I3 rz q3 => ⟨I3.kIn, ?_⟩
  rw [hks]
  exact run_fnKS (us := .ref a :: us) (vs := .ref a :: vs) (ws := [z]) (zs := [v]) (ks := [n]) F hr hb (hx σ) rfl I3 (.cons rfl rv) (.cons rz .nil) q3
theorem kw_binds {K : PySem.W.Frag} {nm qual : Str} {params : Arguments} {body : List Stmt} {scope : Scope} {kwv : List (Str × V)} (F : FunD K nm qual params body scope [] kwv f fd)
    (h : ∀ (kV doc pm : Value) (an : Option Addr) (cdv ct : Value) (us ws : List Value), ws.length = ks.length → (us ++ ws).length = ps.length → bindArgs (PySem.W.fnOf nm qual params body scope .none kV doc pm an cdv ct) ⟨us, ks.zip ws⟩ = pure (ps.zip (us ++ ws))) : KwOnly K fd ps ks := by
  obtain ⟨oc, od, dV, kV, doc, pm, an, cdv, ct, osl, rfl, lk, hcd, hD, hK⟩ := F.ex
  rcases hD with ⟨_, rfl⟩ | ⟨z, _⟩
  · exact fun s us ws _ h1 h2 => .of_eq (h kV doc pm an cdv ct us ws h1 h2)
  · exact absurd rfl z
end
/-! ### isinstance of a caught exception -/
theorem call_isX {X : Cx} {a : Addr} {oe : Obj} {cls : Value} {d : Option Addr} {pn : List (Addr × Obj)} (hz : Zc cls d oe) (hf : ∃ vs, oe.data = .fields vs) : CallR (X.suite a ((a, oe) :: pn)) (.builtin "isinstance") (rIsX X.K a cls d) := by
  intro pins s σ H xs us Q I r h
  obtain ⟨C, v, u, b, rfl, rfl, T, hv, hd, hk, q⟩ := h
  obtain ⟨u1, u2, rfl, r1, r2⟩ := vals2 r
  cases r1
  have e2 := hv.eq r2
  subst e2
  obtain ⟨ha, _⟩ := I.pin (a, oe) (List.mem_append_left _ List.mem_cons_self)
  obtain ⟨vs, hvs⟩ := hf
  have hcl : (PySem.W.clsIn X.K C).isSome = true := by
    obtain ⟨cd, h1, _⟩ := PySem.W.any_some T.hd
    rw [h1]
    rfl
  rcases hd with rfl | ⟨dd, fs, rfl, hx⟩
  · have J : PySem.W.InstAt s.heap a oe C none := ⟨ha, hz.1, by unfold PySem.W.notCls; rw [hvs] <;> rfl, by rw [hz.2]; trivial⟩
    exact PySem.W.kia_one (PySem.W.handS_kitx_exc T.hg T.hk T.hs T.hd T.ha T.hn T.ht T.hm) I.kIn J hk (fun z => nomatch z) fun tk => ⟨.bl b, H, I.kept (t' := tk) fun _ _ z => z, rfl, q⟩
  · have ok : ObjOk X.prog X.w H s.heap dd (.xd fs) := I.hok dd _ hx
    obtain ⟨mA, hns, hr⟩ := ok
    obtain ⟨od, ho, hl⟩ := lookIn_ns hns
    have J : PySem.W.InstAt s.heap a oe C (some od) := ⟨ha, hz.1, by unfold PySem.W.notCls; rw [hvs] <;> rfl, by rw [hz.2]; exact ho⟩
    exact PySem.W.kia_one (PySem.W.kitx_exc hcl T.hg T.hk T.hs T.ha T.hn T.ht T.hm) I.kIn J hk (fun z => nomatch z) fun tk => ⟨.bl b, H, I.kept (t' := tk) fun _ _ z => z, rfl, q⟩
end My


/-! Q10: two fors in one comprehension; more of lists, tuples, dicts. -/
namespace My
open PySem PySem.Spec PyProof.Rows L2
/-- no slot that may change or is lent holds what stands at L -/
def Off (σ : L2.St) (σd : Sd) (L : Addr) : Prop := ∀ j : Nat, (looseC ((σd[j]?).join) = true ∨ roC ((σd[j]?).join) = true) → σ[j]? ≠ some (some (.ref L))
section
variable {K : PySem.W.Frag} {s c L : Addr} {H0 H F : Hp} {σ σ' : L2.St} {σd σd' : Sd}
theorem Off.stand (h : Off σ σd L) (st : Stand σ σd σ' σd') : Off σ' σd' L := fun j q => by
  obtain ⟨h1, h2⟩ := st j q
  rw [h1]
  rw [h2] at q
  exact h j q
theorem wipe_stand : ∀ vs : List Nat, Stand σ σd (wipe σ vs) (wipeD σd vs)
  | [] => .refl _ _
  | v :: vs => by
    refine (wipe_stand vs).trans fun j h => ?_
    show ((wipe σ vs).set v none)[j]? = _ ∧ ((wipeD σd vs).set v none)[j]? = _
    have h : looseC ((((wipeD σd vs).set v none)[j]?).join) = true ∨ roC ((((wipeD σd vs).set v none)[j]?).join) = true := h
    rw [set_at] at h
    by_cases e : v = j
    · rw [if_pos e] at h
      by_cases q : j < (wipeD σd vs).length
      · rw [if_pos q] at h
        rcases h with h | h <;> cases h
      · rw [if_neg q] at h
        rcases h with h | h <;> cases h
    · rw [set_at, set_at, if_neg e, if_neg e]
      exact ⟨rfl, rfl⟩
theorem off_new (R : Rel K s c H0 σ H σd) (hL : H L = none) : Off σ σd L := fun j q hj => by
  obtain ⟨x, hx, hr⟩ := R.slot j _ hj
  rw [hx] at q
  cases x with
  | none => rcases q with q | q <;> cases q
  | some x =>
    cases x with
    | dat d => rcases q with q | q <;> cases q
    | un => rcases q with q | q <;> cases q
    | ex a cls d x => rcases q with q | q <;> cases q
    | lm ds => obtain ⟨b, us, eb, hb, _⟩ := hr; cases eb; rw [hL] at hb; cases hb
    | dm ds => obtain ⟨b, us, eb, hb, _⟩ := hr; cases eb; rw [hL] at hb; cases hb
    | tm ds => obtain ⟨b, us, eb, hb, _⟩ := hr; cases eb; rw [hL] at hb; cases hb
    | om o C ds => obtain ⟨b, us, eb, hb, _⟩ := hr; cases eb; rw [hL] at hb; cases hb
    | rl ds => obtain ⟨b, us, eb, hb, _⟩ := hr; cases eb; rw [hL] at hb; cases hb
    | rd ds => obtain ⟨b, us, eb, hb, _⟩ := hr; cases eb; rw [hL] at hb; cases hb
    | rt ds => obtain ⟨b, us, eb, hb, _⟩ := hr; cases eb; rw [hL] at hb; cases hb
/-- the list at L, which no slot holds, is written -/
theorem rel_off {us us' : List V} (R : Rel K s c H0 σ F σd) (off : Off σ σd L) (hF : F L = some (.lst us)) (hL0 : H0 L = none) (nL : L ≠ s ∧ L ≠ c) : Rel K s c H0 σ (upd F L (.lst us')) σd := by
  have kl : Kp L F (upd F L (.lst us')) := Kp.self
  have imL := kl.im ⟨_, hF, rfl⟩
  refine ⟨R.src.kp nL.1.symm nL.2.symm kl, R.kp0.via hL0 kl, R.len, fun j u hj => ?_, R.new, R.apart, R.old⟩
  obtain ⟨q, hq, hrq⟩ := R.slot j u hj
  refine ⟨q, hq, ?_⟩
  cases u with
  | none => cases q with
    | none => trivial
    | some q => exact hrq
  | some u => cases q with
    | none => exact hrq
    | some q =>
      have nb : (looseC (some q) = true ∨ roC (some q) = true) → u ≠ .ref L := fun h z => by
        subst z
        exact off j (by rw [hq]; exact h) hj
      cases q with
      | dat d => exact DR.im imL hrq
      | un => trivial
      | ex a cls d x => exact ⟨hrq.1, hrq.2.im imL⟩
      | lm es => obtain ⟨b, ws, rfl, hb, hdd, q1, q2⟩ := hrq; exact ⟨b, ws, rfl, kl _ _ (fun z => nb (.inl rfl) (by rw [z])) hb, hdd.im imL, q1, q2⟩
      | dm es => obtain ⟨b, ws, rfl, hb, hdd, q1, q2⟩ := hrq; exact ⟨b, ws, rfl, kl _ _ (fun z => nb (.inl rfl) (by rw [z])) hb, hdd.im imL, q1, q2⟩
      | tm es => obtain ⟨b, ws, rfl, hb, hdd, q1, q2⟩ := hrq; exact ⟨b, ws, rfl, kl _ _ (fun z => nb (.inl rfl) (by rw [z])) hb, hdd.im imL, q1, q2⟩
      | om b C es => obtain ⟨dx, ws, rfl, hb, hdd, q1, q2⟩ := hrq; exact ⟨dx, ws, rfl, kl _ _ (fun z => nb (.inl rfl) (by rw [z])) hb, hdd.im imL, q1, q2⟩
      | rl es => obtain ⟨b, ws, rfl, hb, hdd, q1, q2⟩ := hrq; exact ⟨b, ws, rfl, kl _ _ (fun z => nb (.inr rfl) (by rw [z])) hb, hdd.im imL, q1, q2⟩
      | rd es => obtain ⟨b, ws, rfl, hb, hdd, q1, q2⟩ := hrq; exact ⟨b, ws, rfl, kl _ _ (fun z => nb (.inr rfl) (by rw [z])) hb, hdd.im imL, q1, q2⟩
      | rt es => obtain ⟨b, ws, rfl, hb, hdd, q1, q2⟩ := hrq; exact ⟨b, ws, rfl, kl _ _ (fun z => nb (.inr rfl) (by rw [z])) hb, hdd.im imL, q1, q2⟩
end
section
variable {K : PySem.W.Frag} {s c : Addr} {H0 : Hp}
/-- [e for g in it if t for g1 in it1 if t1] -/
def pLc2 (it : PNx) (g : PGx) (t : PTx) (it1 : PNx) (g1 : PGx) (t1 : PTx) (el : PEx) (vs vs1 : List Nat) : PNx := fun σd P => it σd fun ds => ∃ inv : Nat → List D → Prop, inv 0 [] ∧
  (∀ i d acc, ds[i]? = some d → inv i acc → g d (wipeD σd vs) fun σd2 => t σd2 fun b => if b = true then it1 σd2 fun es => ∃ inv1 : Nat → List D → Prop, inv1 0 acc ∧
    (∀ j e acc1, es[j]? = some e → inv1 j acc1 → acc1.length ≤ 100000 ∧ g1 e (wipeD σd2 vs1) fun σd3 => t1 σd3 fun b1 => if b1 = true then el σd3 fun x => ∃ y, x = .dat y ∧ inv1 (j + 1) (acc1 ++ [y]) else inv1 (j + 1) acc1) ∧ ∀ acc1, inv1 es.length acc1 → inv (i + 1) acc1 else inv (i + 1) acc) ∧ ∀ acc, inv ds.length acc → P acc
theorem L_lc2 {ti ti1 : TI} {g g1 : TG} {tt tt1 : TT} {te : TE} {it it1 : PNx} {pg pg1 : PGx} {t t1 : PTx} {el : PEx} {vs vs1 ts ts1 : List Nat} (hi : LI K s c H0 ti it) (hg : LG K s c H0 g pg ts) (ht : LT K s c H0 tt t) (hi1 : LI K s c H0 ti1 it1) (hg1 : LG K s c H0 g1 pg1 ts1) (ht1 : LT K s c H0 tt1 t1) (he : LE K s c H0 te el)
    (sub : ∀ x ∈ ts, x ∈ vs := by decide) (sub1 : ∀ x ∈ ts1, x ∈ vs1 := by decide) : LN K s c H0 (tLc2 ti g tt ti1 g1 tt1 te vs vs1) (pLc2 it pg t it1 pg1 t1 el vs vs1) := fun σ σd H Q P R h k => by
  refine hi σ σd H _ _ R h fun ds J G Y H1 h1 s1 w g0 gp hy => ?_
  obtain ⟨inv, i0, turn, fin⟩ := h1
  intro L hL
  have nL := s1.src.ne hL
  have R1 := R.stp s1
  have hL0 : H0 L = none := Kp.none R1.kp0 nL.1 hL
  have hLH : H L = none := Kp.none s1.kp nL.1 hL
  have off : Off σ σd L := off_new R1 hL
  have sm0 := same_new (o := .lst []) hL
  -- what holds between the turns
  let Pv : Nat → Hp → Prop := fun i A => ∃ acc us, inv i acc ∧ A L = some (.lst us) ∧ DRs K s A us acc ∧ Rel K s c H0 σ A σd ∧ Im H1 A ∧ Kp s H A
  refine ⟨fun i m A => m = ds.length - i ∧ i ≤ ds.length ∧ Pv i A, ⟨ds.length, by omega, Nat.zero_le _, [], [], i0, upd_same, .nil, R1.stp (.same s1.src sm0), Same.im sm0, s1.kp.trans (kp_same sm0)⟩, ?_⟩
  rintro i m A ⟨rfl, hile, acc, us, hinv, hA, hdr, RA, im, kpA⟩
  have gA := gp _ _ im g0
  by_cases hlt : i < ds.length
  · refine .inr ⟨w.goes i A hlt gA, Pv (i + 1), fun A' p' => ⟨_, by omega, rfl, hlt, p'⟩, fun x B y => ?_⟩
    obtain ⟨sm, d, hd, hr⟩ := hy i A x B hlt im gA (w.yields i A x B hlt gA y)
    have RB : Rel K s c H0 σ B σd := RA.stp (.same RA.src sm)
    have imB := im.trans (Same.im sm)
    have hB : B L = some (.lst us) := sm _ _ hA
    refine hg (wipe σ vs) (wipeD σd vs) B x d _ _ (RB.wipe vs) hr (turn i d acc hd hinv) fun σ2 σd2 h2 R2 l2 k2 st2 => ⟨wipe_back l2 k2 sub, ?_⟩
    have off2 : Off σ2 σd2 L := (off.stand (wipe_stand vs)).stand st2
    refine ht σ2 σd2 B _ _ R2 h2 fun b C h3 s3 => ?_
    have hC : C L = some (.lst us) := s3.kp _ _ nL.1 hB
    have imC := imB.trans (s3.im R2.src)
    have RC := RB.stp s3
    have R2C := R2.stp s3
    have kpC : Kp s H C := (kpA.trans (kp_same sm)).trans s3.kp
    have hdC := hdr.im ((Same.im sm).trans (s3.im R2.src))
    cases b with
    | false =>
      rw [if_neg Bool.false_ne_true] at h3 ⊢
      exact ⟨acc, us, h3, hC, hdC, RC, imC, kpC⟩
    | true =>
      rw [if_pos rfl] at h3 ⊢
      refine hi1 σ2 σd2 C _ _ R2C h3 fun es J1 G1 Y1 C1 h4 s4 w1 g01 gp1 hy1 => ?_
      obtain ⟨inv1, i01, turn1, fin1⟩ := h4
      have hC1 : C1 L = some (.lst us) := s4.kp _ _ nL.1 hC
      let Pw : Nat → Hp → Prop := fun j A => ∃ acc1 us1, inv1 j acc1 ∧ A L = some (.lst us1) ∧ DRs K s A us1 acc1 ∧ Rel K s c H0 σ A σd ∧ Rel K s c H0 σ2 A σd2 ∧ Im C1 A ∧ Kp s H A
      have im4 := s4.im R2C.src
      refine ⟨fun j m A => m = es.length - j ∧ j ≤ es.length ∧ Pw j A, ⟨es.length, by omega, Nat.zero_le _, acc, us, i01, hC1, hdC.im im4, RC.stp s4, R2C.stp s4, Im.refl _, kpC.trans s4.kp⟩, ?_⟩
      rintro j m A1 ⟨rfl, hjle, acc1, us1, hinv1, hA1, hdr1, RA1, R2A1, im1, kpA1⟩
      have gA1 := gp1 _ _ im1 g01
      by_cases hlt1 : j < es.length
      · refine .inr ⟨w1.goes j A1 hlt1 gA1, Pw (j + 1), fun A' p' => ⟨_, by omega, rfl, hlt1, p'⟩, fun x1 B1 y1 => ?_⟩
        obtain ⟨sm1, e1, he1, hr1⟩ := hy1 j A1 x1 B1 hlt1 im1 gA1 (w1.yields j A1 x1 B1 hlt1 gA1 y1)
        obtain ⟨hlen, turn1⟩ := turn1 j e1 acc1 he1 hinv1
        have RB1 := RA1.stp (.same RA1.src sm1)
        have R2B1 := R2A1.stp (.same R2A1.src sm1)
        have hB1 : B1 L = some (.lst us1) := sm1 _ _ hA1
        refine hg1 (wipe σ2 vs1) (wipeD σd2 vs1) B1 x1 e1 _ _ (R2B1.wipe vs1) hr1 turn1 fun σ3 σd3 h5 R3 l3 k3 st3 => ⟨wipe_back l3 k3 sub1, ?_⟩
        refine ht1 σ3 σd3 B1 _ _ R3 h5 fun b1 C2 h6 s6 => ?_
        have hC2 : C2 L = some (.lst us1) := s6.kp _ _ nL.1 hB1
        have im6 := s6.im R3.src
        have RC2 := RB1.stp s6
        have R2C2 := R2B1.stp s6
        have imC2 := (im1.trans (Same.im sm1)).trans im6
        have kpC2 : Kp s H C2 := (kpA1.trans (kp_same sm1)).trans s6.kp
        have hdC2 := hdr1.im ((Same.im sm1).trans im6)
        cases b1 with
        | false =>
          rw [if_neg Bool.false_ne_true] at h6 ⊢
          exact ⟨acc1, us1, h6, hC2, hdC2, RC2, R2C2, imC2, kpC2⟩
        | true =>
          rw [if_pos rfl] at h6 ⊢
          refine he σ3 σd3 C2 _ _ (R3.stp s6) h6 fun z v F h7 r7 s7 => ?_
          obtain ⟨y2, rfl, h8⟩ := h7
          have hF : F L = some (.lst us1) := s7.kp _ _ nL.1 hC2
          have kl : Kp L F (upd F L (.lst (us1 ++ [v]))) := Kp.self
          have imL := kl.im ⟨_, hF, rfl⟩
          have im7 := s7.im RC2.src
          have hdF := hdC2.im im7
          refine ⟨us1, hF, Nat.lt_of_le_of_lt (show us1.length ≤ 100000 from by rw [hdF.len]; exact hlen) (by decide), acc1 ++ [y2], us1 ++ [v], h8, upd_same, (hdF.im imL).snoc (DR.im imL r7), rel_off (RC2.stp s7) off hF hL0 nL, rel_off (R2C2.stp s7) off2 hF hL0 nL, (imC2.trans im7).trans imL, (kpC2.trans s7.kp).via hLH kl⟩
      · have e : j = es.length := by omega
        subst e
        exact .inl ⟨w1.stops A1 gA1, acc1, us1, fin1 acc1 hinv1, hA1, hdr1, RA1, ((imC.trans im4).trans im1), kpA1⟩
  · have e : i = ds.length := by omega
    subst e
    exact .inl ⟨w.stops A gA, k acc L us A (fin acc hinv) hA hLH hdr ⟨kpA, RA.src⟩⟩
/-! ### more operators -/
def fCatA : P2 := fun x y P => ∃ ds es, x = .dat (.tup ds) ∧ y = .dat (.tup es) ∧ ds.length + es.length ≤ 100000 ∧ P (.dat (.tup (ds ++ es)))
theorem O_catA : LOp K (rCatA K) fCatA := fun s c v w x y H Q P hx hy S h k => by
  obtain ⟨ds, es, rfl, rfl, hl, h⟩ := h
  obtain ⟨a, us, rfl, ha, hd⟩ := tup_at hx
  obtain ⟨b, ws, rfl, hb, he⟩ := tup_at hy
  refine ⟨a, b, us, ws, rfl, rfl, .inl (.inl ha), .inl (.inl hb), by rw [hd.len, he.len]; exact Nat.le_trans hl (by decide), fun z => ?_, fun _ z => ?_, fun _ _ p hp => ?_⟩
  · subst z
    cases hd
    exact k _ _ H h (.tup hb he) (.refl S)
  · subst z
    cases he
    rw [List.append_nil] at h
    exact k _ _ H h (.tup ha hd) (.refl S)
  · have e2 := stp_new (o := .tup (us ++ ws)) S hp
    exact k _ _ _ h (.tup upd_same ((hd.append he).im (e2.im S))) e2
def fRep : Cell → Cell → (List D → Prop) → Prop := fun x y P => ∃ (ds : List D) (n : Nat), x = .lm ds ∧ y = cI n ∧ n ≤ 1000 ∧ ds.length * n ≤ 100000 ∧ P (List.replicate n ds).flatten
theorem DRs.rep {s : Addr} {H : Hp} {vs : List V} {ds : List D} (h : DRs K s H vs ds) : ∀ n : Nat, DRs K s H (List.replicate n vs).flatten (List.replicate n ds).flatten
  | 0 => .nil
  | n + 1 => by
    rw [List.replicate_succ, List.replicate_succ, List.flatten_cons, List.flatten_cons]
    exact h.append (DRs.rep h n)
theorem O_rep : LOpN K rRep fRep := fun s c v w x y H Q P hx hy S h k => by
  obtain ⟨ds, n, rfl, rfl, hn, hl, h⟩ := h
  obtain ⟨a, us, rfl, ha, hd, _⟩ := hx
  refine ⟨a, n, us, rfl, int_eq hy, ha, by omega, by omega, by rw [hd.len, Int.toNat_natCast]; exact Nat.le_trans hl (by decide), fun p hp => ?_⟩
  rw [Int.toNat_natCast]
  have e2 := stp_new (o := .lst (List.replicate n us).flatten) S hp
  exact k _ _ _ _ h upd_same hp ((hd.rep n).im (e2.im S)) e2
/-! ### xs.clear(), xs.extend(t) -/
theorem S_clear (i : Nat) : LS K s c H0 (tDrop (tBM K "list" rClear (tVar i) tNil)) (pClear i) := fun σ σd H E e R h k => by
  obtain ⟨ds, hi, h⟩ := h
  obtain ⟨v, hv, hr⟩ := R.at hi
  obtain ⟨l, vs, rfl, hl, hd, n1, n2⟩ := id hr
  refine ⟨_, hv, .inl ⟨rfl, _, SqL.of hl⟩, l, vs, rfl, rfl, hl, ?_⟩
  have kl : Kp l H (upd H l (.lst [])) := Kp.self
  exact k.nx σ _ _ h (R.write hv hi rfl ⟨l, [], rfl, upd_same, .nil, n1, n2⟩) (kl.im ⟨_, hl, rfl⟩)
def rExtT (K : PySem.W.Frag) : V → List V → Hp → VK → Prop := fun x vs H Q => ∃ l b xs zs, x = .ref l ∧ vs = [.ref b] ∧ H l = some (.lst xs) ∧ SqT K H b zs ∧ xs.length + zs.length ≤ sizeLine ∧ Q .non (upd H l (.lst (xs ++ zs)))
def pExt (i : Nat) (a : PEx) : PSx := fun e σd => ∃ ds, σd[i]? = some (some (.lm ds)) ∧ a σd fun x => ∃ es, x = .dat (.tup es) ∧ ds.length + es.length ≤ 100000 ∧ e.nx (σd.set i (some (.lm (ds ++ es))))
theorem S_ext {t : TE} {a : PEx} (i : Nat) (ha : LE K s c H0 t a) : LS K s c H0 (tDrop (tBM K "list" (rExtT K) (tVar i) (tCons t tNil))) (pExt i a) := fun σ σd H E e R h k => by
  obtain ⟨ds, hi, h⟩ := h
  obtain ⟨v, hv, hr⟩ := R.at hi
  obtain ⟨l, vs, rfl, hl, hd, n1, n2⟩ := id hr
  refine ⟨_, hv, .inl ⟨rfl, _, SqL.of hl⟩, ?_⟩
  refine ha σ σd H _ _ R h fun x w H1 h1 r1 s1 => ?_
  obtain ⟨es, rfl, hz, h2⟩ := h1
  have R1 := R.stp s1
  obtain ⟨l', vs', e', hl1, hd1, _⟩ := hr.stp R.src s1
  cases e'
  obtain ⟨b, ws, rfl, hb, hw⟩ := tup_at r1
  have kl : Kp l H1 (upd H1 l (.lst (vs' ++ ws))) := Kp.self
  have im := kl.im ⟨_, hl1, rfl⟩
  refine ⟨l, b, vs', ws, rfl, rfl, hl1, .inl (.inl hb), by rw [hd1.len, hw.len]; exact Nat.le_trans hz (by decide), ?_⟩
  exact k.nx σ _ _ h2 (R1.write hv hi rfl ⟨l, _, rfl, upd_same, (hd1.im im).append (hw.im im), n1, n2⟩) ((s1.im R.src).trans im)
end
section
variable {X : Cx}
theorem mt_extT : MtM X "list.extend" (rExtT X.K) := by
  intro pins s σ H x vs v us Q I rx rv h
  obtain ⟨l, b, xs, zs, rfl, rfl, hH, hB, hz, q⟩ := h
  cases rx
  obtain ⟨u, rfl, ru⟩ := rv.one
  cases ru
  obtain ⟨z, its, n, r, hl, e⟩ := I.lstM hH
  obtain ⟨its2, r2, p2, hz2⟩ := I.tuple hB
  obtain ⟨o, ho, hc, n2, hd⟩ := id p2
  have hl1 := r.length
  have hl2 := r2.length
  refine GQ.call_here PySem.F.slot_list_extend ⟨_, e, rfl⟩ PySem.F.entry_list_extend (PySem.F.args_list_extend_2 _ _) ?_
  show wpAny _ _ (selfAndOne "list.extend" ⟨[.ref l, .ref b], []⟩ >>= fun p => Builtin.List.listExtendWith p.1 p.2 .none) _ _ _
  refine wpAny_bind (wpAny_of_eq (a := (Value.ref l, Value.ref b)) (by first | rfl | kernel_rfl) ?_)
  dsimp only
  unfold Builtin.List.listExtendWith
  refine wpAny_bind (wpAny_typeOf ⟨o, ho, hc⟩ ?_)
  have h1 : (Builtin.List.listSameRef (.ref l) (.ref b) || Value.type "tuple" == Value.type "list" || Value.type "tuple" == Value.type "tuple") = true := by simp
  simp only [h1, if_true]
  refine wpAny_bind ?_
  unfold Builtin.List.listItems
  refine wpAny_bind (wpAny_seqItems ho hd (wpAny_pure ?_))
  refine wpAny_bind ?_
  refine wpAny_bind (wpAny_seqItems e rfl (wpAny_pure ?_))
  have hsz : its.toArray.size + its2.toArray.size ≤ sizeLine := by rw [List.size_toArray, List.size_toArray]; omega
  have hlong : (!its.toArray.isEmpty && Builtin.List.listTooLong (its.toArray.size + its2.toArray.size)) = false := by rw [notLongL hsz, Bool.and_false]
  simp only [hlong, Bool.false_eq_true, if_false]
  show wpAny _ _ (updateSeq l (· ++ its2.toArray) >>= fun _ => ret .none) _ _ s
  refine wpAny_bind (wpAny_updateSeq e rfl ?_ (by rw [List.size_toArray] at *; omega) (by rw [Array.size_append]; omega))
  refine wpAny_pure ?_
  exact ⟨.non, _, I.lset (its' := its ++ its2) hH e (by simp) (r.append r2) (by rw [List.length_append]; omega), rfl, q⟩
end
end My


/-! OwnZ: zip of a list and a tuple. -/
namespace My
open PySem PySem.Spec PyProof.Rows L2
abbrev mzA (g : Heap) (p : Addr) : Heap := g.push { cls := .type "list_iterator", data := .fields #[.ref p, .int 0 0] }
abbrev mzB (g : Heap) (p q : Addr) : Heap := (mzA g p).push { cls := .type "tuple_iterator", data := .fields #[.ref q, .int 0 0] }
abbrev mzC (g : Heap) (p q : Addr) : Heap := (mzB g p q).push { cls := .type "tuple", data := .seq #[.ref g.objs.size, .ref (mzA g p).objs.size] }
abbrev mzD (g : Heap) (p q : Addr) : Heap := (mzC g p q).push { cls := .type "tuple", data := .seq #[.none, .none] }
abbrev mzE (g : Heap) (p q : Addr) : Heap := (mzD g p q).push { cls := .type "zip", data := .fields #[.none, .bool false, .bool false, .ref (mzB g p q).objs.size, .ref (mzC g p q).objs.size] }
theorem meets_mz (p q : Addr) (us ws : Array Value) :
    Meets (Builtin.«zip.__new__» ⟨[.type "zip", .ref p, .ref q], []⟩) (fun _ R s => s.heap.IsList p us ∧ s.heap.IsTuple q ws ∧ R (.ok (.ret (.ref (mzD s.heap p q).objs.size))) { s with heap := mzE s.heap p q }) :=
  .of_wp fun prog w A R s h => by
    obtain ⟨hp, gg, dd, tk, os⟩ := s
    obtain ⟨a1, a2, h⟩ := h
    have hsub := sub_zip
    have b1 : Heap.IsList (Shared.heap ⟨hp, gg, dd, tk, os⟩) p us := a1
    have b2 : Heap.IsTuple (Shared.heap ⟨hp.push { cls := .type "list_iterator", data := .fields #[.ref p, .int 0 0] }, gg, dd, tk, os⟩) q ws := Heap.IsTuple.push a2 _
    wp_walk using wpAny_pyIter_list b1, wpAny_pyIter_tuple b2
    exact ⟨_, rfl, h⟩
section
variable {prog : Program} {w : World} {A : Around} {E : Value → Shared → Prop} {s : Shared}
theorem call_mz {p q : Addr} {us ws : Array Value} {Q : Value → Shared → Prop} (a1 : s.heap.IsList p us) (a2 : s.heap.IsTuple q ws)
    (h : ∀ h', IsZip h' (s.heap.objs.size + 4) (s.heap.objs.size + 2) (s.heap.objs.size + 3) .none → IsTupOf2 h' (s.heap.objs.size + 2) (.ref s.heap.objs.size) (.ref (s.heap.objs.size + 1)) → IsTupOf2 h' (s.heap.objs.size + 3) .none .none →
      h'.IsListIter s.heap.objs.size p 0 → h'.IsTupleIter (s.heap.objs.size + 1) q 0 → (∀ c o, s.heap.get? c = some o → h'.get? c = some o) → Q (.ref (s.heap.objs.size + 4)) { s with heap := h' }) :
    wpAny (model prog w) A (call (.type "zip") [.ref p, .ref q]) Q E s := by
  refine callType_new F.called_zip (by decide) (F.typeCall_zip_2 _ _) (F.newCall_zip_2 _ _) (fun obj => F.args_object_init_3 obj _ _) F.entry_zip_new (meets_mz p q us ws) ⟨a1, a2, ?_⟩
  have n1 : (mzA s.heap p).objs.size = s.heap.objs.size + 1 := Heap.size_push ..
  have n2 : (mzB s.heap p q).objs.size = s.heap.objs.size + 2 := by rw [Heap.size_push, n1]
  have n3 : (mzC s.heap p q).objs.size = s.heap.objs.size + 3 := by rw [Heap.size_push, n2]
  have n4 : (mzD s.heap p q).objs.size = s.heap.objs.size + 4 := by rw [Heap.size_push, n3]
  have up1 : ∀ {g : Heap} {o : Obj} {c : Addr} {x : Obj}, g.get? c = some x → (g.push o).get? c = some x := fun e => Heap.get?_push_of_some _ e
  have k5 : (mzE s.heap p q).get? (mzD s.heap p q).objs.size = some _ := Heap.get?_push_size _ rfl
  have k4 : (mzE s.heap p q).get? (mzC s.heap p q).objs.size = some _ := up1 (Heap.get?_push_size _ rfl)
  have k3 : (mzE s.heap p q).get? (mzB s.heap p q).objs.size = some _ := up1 (up1 (Heap.get?_push_size _ rfl))
  have k2 : (mzE s.heap p q).get? (mzA s.heap p).objs.size = some _ := up1 (up1 (up1 (Heap.get?_push_size _ rfl)))
  have k1 : (mzE s.heap p q).get? s.heap.objs.size = some _ := up1 (up1 (up1 (up1 (Heap.get?_push_size _ rfl))))
  show _ ∧ _
  rw [n2, n3, n4] at k5
  rw [n1, n2] at k3
  rw [n3] at k4
  rw [n1] at k2
  rw [n4]
  exact ⟨⟨_, k5, rfl⟩, h _ k5 k3 k4 ⟨_, k1, rfl, rfl⟩ ⟨_, k2, rfl, rfl⟩ fun c o x => up1 (up1 (up1 (up1 (up1 x))))⟩
end
/-- the list at a, the tuple at b, the items in new pairs -/
def Itm (K : PySem.W.Frag) (a b : Addr) : It :=
  ⟨fun i H => ∃ (vs us : List V) (x y : V), SqL K H a vs ∧ SqT K H b us ∧ vs[i]? = some x ∧ us[i]? = some y,
    fun i H v H' => ∃ T x y, v = .ref T ∧ H T = none ∧ H' = upd H T (.tup [x, y]) ∧ (∀ vs, SqL K H a vs → vs[i]? = some x) ∧ ∀ us, SqT K H b us → us[i]? = some y,
    fun i H => ∃ vs us : List V, SqL K H a vs ∧ SqT K H b us ∧ i ≤ vs.length ∧ i ≤ us.length ∧ (i = vs.length ∨ i = us.length)⟩
theorem sep_of {z TI TO i1 i2 a b : Addr} (D : ZipApart z TI TO i1 i2 a b) : ZipSep2 z TI TO i1 i2 [i1, a] [i2, b] where
  TIz := D.TIz
  TOz := D.TOz
  TITO := D.TITO
  TIi1 := D.TIi1
  mem1 := by simp
  zf1 := fun h => by
    rcases List.mem_cons.mp h with e | e
    · exact D.i1z e.symm
    · exact D.l1z (List.mem_singleton.mp e).symm
  Tf1 := fun h => by
    rcases List.mem_cons.mp h with e | e
    · exact D.TOi1 e
    · exact D.l1TO (List.mem_singleton.mp e).symm
  TIi2 := D.TIi2
  mem2 := by simp
  zf2 := fun h => by
    rcases List.mem_cons.mp h with e | e
    · exact D.i2z e.symm
    · exact D.l2z (List.mem_singleton.mp e).symm
  Tf2 := fun h => by
    rcases List.mem_cons.mp h with e | e
    · exact D.TOi2 e
    · exact D.l2TO (List.mem_singleton.mp e).symm
  sep1_2 := fun h => by
    rcases List.mem_cons.mp h with e | e
    · exact D.i12 e
    · exact D.l2i1 (List.mem_singleton.mp e).symm
  sep2_1 := fun h => by
    rcases List.mem_cons.mp h with e | e
    · exact D.i12 e.symm
    · exact D.l1i2 (List.mem_singleton.mp e).symm
theorem turn_mz {P : Program} {w : World} {K : PySem.W.Frag} {elts : List Expr} {kk : Nat} {tpos : Pos} {a b z TI TO i1 i2 : Addr} (D : ZipApart z TI TO i1 i2 a b) :
    Turn P w K (.Tuple elts kk tpos) (Itm K a b) [z, TI, TO, i1, i2] z (fun i h => IsZip h z TI TO .none ∧ IsTupOf2 h TI (.ref i1) (.ref i2) ∧ (∃ x y, IsTupOf2 h TO x y) ∧ h.IsListIter i1 a i ∧ h.IsTupleIter i2 b i) where
  mem := by simp
  obj := fun i h st c hc => by
    obtain ⟨zz, zi, ⟨_, _, zo⟩, ⟨o1, f1, _, g1⟩, ⟨o2, f2, _, g2⟩⟩ := st
    have m : c = z ∨ c = TI ∨ c = TO ∨ c = i1 ∨ c = i2 := by simpa using hc
    rcases m with rfl | rfl | rfl | rfl | rfl
    · exact ⟨_, zz, fun v n => nomatch n⟩
    · exact ⟨_, zi, fun v n => nomatch n⟩
    · exact ⟨_, zo, fun v n => nomatch n⟩
    · exact ⟨o1, f1, fun v n => by rw [g1] at n; cases n⟩
    · exact ⟨o2, f2, fun v n => by rw [g2] at n; cases n⟩
  keep := fun i h h' st k => by
    obtain ⟨zz, zi, ⟨x, y, zo⟩, f1, f2⟩ := st
    exact ⟨k z (by simp) _ zz, k TI (by simp) _ zi, ⟨x, y, k TO (by simp) _ zo⟩, f1.at fun o n => k i1 (by simp) o n, f2.at fun o n => k i2 (by simp) o n⟩
  item := by
    intro X hP hw hK hc i pins s σ H E I hf st hg
    subst hP hw hK
    obtain ⟨zz, zi, ⟨_, _, zo⟩, f1, f2⟩ := st
    obtain ⟨vs, us, x, y, qa, qb, gx, gy⟩ := hg
    obtain ⟨is1, r1, p1, _⟩ := I.list qa
    obtain ⟨is2, r2, p2, _⟩ := I.tuple qb
    obtain ⟨u1, hu1, ru1⟩ := r1.get gx
    obtain ⟨u2, hu2, ru2⟩ := r2.get gy
    have zl : z < s.heap.objs.size := Heap.lt_size zz
    have hh : X.A.in1.handled = none := I.ok.hd hc
    have b1 : i < is1.toArray.size := by rw [List.size_toArray]; exact (List.getElem?_eq_some_iff.mp hu1).1
    have b2 : i < is2.toArray.size := by rw [List.size_toArray]; exact (List.getElem?_eq_some_iff.mp hu2).1
    refine wpAny_pyNext_zipD2_item (sep_of D) (Draws.list hh i1 a D.l1i1 is1.toArray) (Draws.tuple hh i2 b D.l2i2 is2.toArray) zz zi zo ⟨f1, p1.isList⟩ ⟨f2, p2⟩ b1 b2 fun w1 w2 h' tk hw1 hw2 z' TO' st1 st2 hT hsz hk => ?_
    have q1 : w1 = u1 := by
      have n : is1.toArray[i]? = some w1 := hw1
      rw [List.getElem?_toArray, hu1] at n
      exact (Option.some.inj n).symm
    have q2 : w2 = u2 := by
      have n : is2.toArray[i]? = some w2 := hw2
      rw [List.getElem?_toArray, hu2] at n
      exact (Option.some.inj n).symm
    subst q1 q2
    refine ⟨_, rfl, wpAny_letOwnedTupleGo_zip (s := { s with heap := h', toks := tk }) z' fun h2 z2 sb => ?_⟩
    have hT2 : h2.get? s.heap.objs.size = some { cls := .type "tuple", data := .seq #[w1, w2] } := (sb.2 _ (Nat.ne_of_gt zl)).trans hT
    have nw : ObjOk X.prog X.w (upd H s.heap.objs.size (.tup [x, y])) h2 s.heap.objs.size (.tup [x, y]) := ⟨by show 2 ≤ sizeLine; decide, [w1, w2], .cons ru1 (.cons ru2 .nil), ⟨_, hT2, rfl, _, rfl⟩⟩
    have J : Inv X pins σ (upd H s.heap.objs.size (.tup [x, y])) { s with heap := h2, toks := tk } :=
      I.turnedNew (t' := tk) (ch := [z, TI, TO, i1, i2]) (fun c o hb n => (sb.2 c (fun m => hb (by simp [m]))).trans (hk c o (fun m => hb (by simp [m])) (fun m => hb (by simp [m])) (fun m => hb (by simp [m])) (fun m => hb (by simp [m])) n)) hf (Nat.le_refl _) nw
    refine ⟨.ref s.heap.objs.size, _, J, rfl, ⟨_, x, y, rfl, I.hok.fresh (Nat.le_refl _), rfl, fun l hl => by rw [I.list_inj hl qa]; exact gx, fun l hl => by rw [I.tuple_inj hl qb]; exact gy⟩, ⟨z2, (sb.2 _ D.TIz).trans (hk _ _ D.TIz D.TITO D.TIi1 D.TIi2 zi), ⟨w1, w2, (sb.2 _ D.TOz).trans TO'⟩, ?_, ?_⟩, fun c hcm => ?_⟩
    · exact st1.1.at fun o n => (sb.2 _ D.i1z).trans n
    · exact st2.1.at fun o n => (sb.2 _ D.i2z).trans n
    · have lt : c < s.heap.objs.size := by
        have m : c = z ∨ c = TI ∨ c = TO ∨ c = i1 ∨ c = i2 := by simpa using hcm
        rcases m with n | n | n | n | n
        · rw [n]; exact zl
        · rw [n]; exact Heap.lt_size zi
        · rw [n]; exact Heap.lt_size zo
        · rw [n]; obtain ⟨_, e, _⟩ := f1; exact Heap.lt_size e
        · rw [n]; obtain ⟨_, e, _⟩ := f2; exact Heap.lt_size e
      rw [upd_ne (Nat.ne_of_lt lt)]
      exact (hf c hcm).1
  done := by
    intro X hP hw hK hc i pins s σ H E I hf st hg
    subst hP hw hK
    obtain ⟨zz, zi, ⟨_, _, zo⟩, f1, f2⟩ := st
    obtain ⟨vs, us, qa, qb, l1, l2, hend⟩ := hg
    obtain ⟨is1, r1, p1, _⟩ := I.list qa
    obtain ⟨is2, r2, p2, _⟩ := I.tuple qb
    have m1 := r1.length
    have m2 := r2.length
    have hh : X.A.in1.handled = none := I.ok.hd hc
    exact wpAny_pyNext_zipD2_end (sep_of D) (Draws.list hh i1 a D.l1i1 is1.toArray) (Draws.tuple hh i2 b D.l2i2 is2.toArray) zz zi zo ⟨f1, p1.isList⟩ ⟨f2, p2⟩ (by rw [List.size_toArray]; omega) (by rw [List.size_toArray]; omega) (by rw [List.size_toArray, List.size_toArray]; omega) fun h' tk hk =>
      ⟨rfl, I.turnedL (t' := tk) (ch := [z, TI, TO, i1, i2]) (fun c o hb n => hk c o (fun m => hb (by simp [m])) (fun m => hb (by simp [m])) (fun m => hb (by simp [m])) (fun m => hb (by simp [m])) n) hf⟩
  self := fun A i s Q E st h => wpAny_pyIter_zip st.1 h
def iZipM (K : PySem.W.Frag) (t : TA) : TI := fun σ H R => t σ H fun vs H1 => ∃ a b us ws, vs = [.ref a, .ref b] ∧ SqL K H1 a us ∧ SqT K H1 b ws ∧ R (Itm K a b) H1
theorem pi_zipM {X : Cx} {e e2 : Expr} {t : TA} {p pos tpos : Pos} {elts : List Expr} {kk : Nat} (hg : Gl X "zip") (hm : X.mg "zip" = none) (ha : PA X [e, e2] t)
    (hs : starEach [e, e2] X.env = (false, eval e X.env) :: starEach [e2] X.env := by rfl) (hpl : (backTo pos (starEach [e2] X.env)).any (·.1) = false := by rfl) : PI X (.Tuple elts kk tpos) (.Call (.Name "zip" p) [e, e2] [] pos) (iZipM X.K t) := by
  refine ⟨fun pins s σ H R I h => ?_⟩
  refine Call_ (ld_blt I hg hm PyProof.Rows.boot_zip (PyProof.Rows.callWith_type1 (thn (ha.run pos pins s σ H _ I h) fun ks s1 hh => ?_) hs hpl))
  obtain ⟨vs, H1, I1, rr, a, b, us, ws, rfl, qa, qb, q⟩ := hh
  cases rr with
  | cons ra rr =>
    cases rr with
    | cons rb rr =>
      cases rr
      cases ra
      cases rb
      have fr : ∀ c, c ∈ [s1.heap.objs.size + 4, s1.heap.objs.size + 2, s1.heap.objs.size + 3, s1.heap.objs.size, s1.heap.objs.size + 1] → FpOk X pins H1 c := fun c hcm => by
        have m : c = s1.heap.objs.size + 4 ∨ c = s1.heap.objs.size + 2 ∨ c = s1.heap.objs.size + 3 ∨ c = s1.heap.objs.size ∨ c = s1.heap.objs.size + 1 := by simpa using hcm
        have le : s1.heap.objs.size ≤ c := by omega
        exact I1.fpOk le (I1.hok.fresh le)
      obtain ⟨is1, r1, p1, _⟩ := I1.list qa
      obtain ⟨is2, r2, p2, _⟩ := I1.tuple qb
      obtain ⟨o2, ho2, _⟩ := id p2
      refine call_mz p1.isList (show s1.heap.IsTuple b is2.toArray from p2) fun h' k1 k2 k3 k4 k5 hk => wpAny_pyIter_zip k1 ?_
      have I2 : Inv X pins σ H1 { s1 with heap := h' } := I1.kept (t' := s1.toks) hk
      exact ⟨s1.heap.objs.size + 4, [s1.heap.objs.size + 4, s1.heap.objs.size + 2, s1.heap.objs.size + 3, s1.heap.objs.size, s1.heap.objs.size + 1], _, _, H1, rfl, I2, turn_mz (PySem.W.ktu_apart s1.heap.objs.size a b p1.lt (Heap.lt_size ho2)), ⟨k1, k2, ⟨_, _, k3⟩, k4, k5⟩, fr, q⟩
theorem walk_mz {K : PySem.W.Frag} {a b : Addr} {us ws : List V} {n : Nat} (hn : n = min us.length ws.length) : Walk (Itm K a b) n (fun H => SqL K H a us ∧ SqT K H b ws) (YPair (fun i => us[i]?) (fun i => ws[i]?)) := by
  subst hn
  refine ⟨fun i _ hi q => ?_, fun _ q => ⟨us, ws, q.1, q.2, by omega, by omega, by omega⟩, fun i H v H' _ q y => ?_⟩
  · have b1 : i < us.length := by omega
    have b2 : i < ws.length := by omega
    exact ⟨us, ws, us[i], ws[i], q.1, q.2, by simp [b1], by simp [b2]⟩
  · obtain ⟨T, x, z, y1, y2, y3, y4, y5⟩ := y
    exact ⟨T, x, z, y1, y2, y3, y4 us q.1, y5 ws q.2⟩
section
variable {K : PySem.W.Frag} {s c : Addr} {H0 : Hp}
def pIZM (a : PAx) : PNx := fun σd P => a σd fun xs => ∃ ds es, xs = [.dat (.lst ds), .dat (.tup es)] ∧ P (zipD ds es)
theorem I_zipM {t : TA} {a : PAx} (ha : LA K s c H0 t a) : LI K s c H0 (iZipM K t) (pIZM a) := fun σ σd H R P Rl h k => by
  refine ha σ σd H _ _ Rl h fun xs vs H1 h1 r1 s1 => ?_
  obtain ⟨ds, es, rfl, h⟩ := h1
  obtain ⟨v, u, rfl, hv, hu⟩ := two_of r1
  cases hv with
  | @lst l o us _ hl hd =>
    cases hu with
    | @tup m ws _ hm he =>
      have hm : SqT K H1 m ws := .inl (.inl hm)
      refine ⟨l, m, us, ws, rfl, .inl (.inr ⟨o, hl⟩), hm, ?_⟩
      have w : Walk (Itm K l m) (zipD ds es).length (fun H => H l = some (.frz o (.lst us)) ∧ SqT K H m ws) (YPair (fun i => us[i]?) (fun i => ws[i]?)) := by
        refine (walk_mz (n := (zipD ds es).length) ?_).mono (fun H h => ⟨.inl (.inr ⟨o, h.1⟩), h.2⟩) fun i H x H' _ _ y => y
        rw [zipD_len, ← hd.len, ← he.len]
      refine k (zipD ds es) _ _ _ H1 h s1 w ⟨hl, hm⟩ (fun A B im h => ⟨frz_im im h.1, sqT_im im h.2⟩) fun i A x B hi im hG y => ?_
      obtain ⟨T, x1, y1, rfl, hT, rfl, e1, e2⟩ := y
      have sm := same_new (o := .tup [x1, y1]) hT
      obtain ⟨d, h3, h4⟩ := (hd.im im).get e1
      obtain ⟨d2, h5, h6⟩ := (he.im im).get e2
      exact ⟨sm, _, zipD_at h3 h5, .tup upd_same (.cons (h4.im (Same.im sm)) (.cons (h6.im (Same.im sm)) .nil))⟩
end
end My


/-! Q11: defs to which lists are lent; list(range(n)); written dicts; locking before a statement that may raise. -/
namespace My
open PySem PySem.Spec PyProof.Rows L2
/-- what a def gets of a cell: lists and dicts are lent -/
def argC : Cell → Option Cell
  | .dat d => some (.dat d)
  | .lm ds => some (.rl ds)
  | .dm ds => some (.rd ds)
  | .tm ds => some (.rt ds)
  | .rl ds => some (.rl ds)
  | .rd ds => some (.rd ds)
  | .rt ds => some (.rt ds)
  | _ => none
def argsC : List Cell → Option (List Cell)
  | [] => some []
  | x :: xs => match argC x, argsC xs with
    | some y, some ys => some (y :: ys)
    | _, _ => none
def isArg : Cell → Bool
  | .dat _ => true
  | .rl _ => true
  | .rd _ => true
  | .rt _ => true
  | _ => false
section
variable {K : PySem.W.Frag} {s c : Addr} {H H' : Hp}
theorem argC_at {v : V} {x y : Cell} (h : CellR K s c H v x) (e : argC x = some y) : CellR K s c H v y ∧ isArg y = true := by
  cases x <;> cases e <;> exact ⟨h, rfl⟩
theorem argsC_at : ∀ {vs : List V} {xs ys : List Cell}, CellsR K s c H vs xs → argsC xs = some ys → CellsR K s c H vs ys ∧ ∀ y ∈ ys, isArg y = true
  | _, _, ys, .nil, e => by cases e; exact ⟨.nil, fun y h => nomatch h⟩
  | _, _, ys, .cons (x := x) (xs := xs) h r, e => by
    unfold argsC at e
    cases h1 : argC x with
    | none => rw [h1] at e; cases e
    | some d =>
      cases h2 : argsC xs with
      | none => rw [h1, h2] at e; cases e
      | some ds =>
        rw [h1, h2] at e
        cases e
        obtain ⟨a1, a2⟩ := argC_at h h1
        obtain ⟨b1, b2⟩ := argsC_at r h2
        refine ⟨.cons a1 b1, fun y hy => ?_⟩
        rcases List.mem_cons.mp hy with rfl | hy
        · exact a2
        · exact b2 y hy
theorem CellsR.len : ∀ {vs : List V} {xs : List Cell}, CellsR K s c H vs xs → vs.length = xs.length
  | _, _, .nil => rfl
  | _, _, .cons _ r => by rw [List.length_cons, List.length_cons, CellsR.len r]
def startC (N : List Str) (xs : List Cell) : Sd := xs.map some ++ List.replicate (N.length - xs.length) none
theorem arg_slot {v : V} {x : Cell} (h : CellR K s c H v x) (e : isArg x = true) : looseC (some x) = false ∧ (roC (some x) = true → ∀ a, v = .ref a → H a ≠ none) := by
  cases x with
  | dat d => exact ⟨rfl, fun z => nomatch z⟩
  | rl ds =>
    obtain ⟨a, vs, rfl, ha, _⟩ := h
    exact ⟨rfl, fun _ b eb => by cases eb; rw [ha]; exact Option.some_ne_none _⟩
  | rd ds =>
    obtain ⟨a, vs, rfl, ha, _⟩ := h
    exact ⟨rfl, fun _ b eb => by cases eb; rw [ha]; exact Option.some_ne_none _⟩
  | rt ds =>
    obtain ⟨a, vs, rfl, ha, _⟩ := h
    exact ⟨rfl, fun _ b eb => by cases eb; rw [ha]; exact Option.some_ne_none _⟩
  | _ => cases e
theorem start_slotC (n : Nat) : ∀ {vs : List V} {xs : List Cell}, CellsR K s c H vs xs → (∀ x ∈ xs, isArg x = true) → ∀ (i : Nat) (v : Option V), (vs.map some ++ List.replicate n none)[i]? = some v →
    ∃ x, (xs.map some ++ List.replicate n none)[i]? = some x ∧ SlotR K s c H v x ∧ looseC x = false ∧ (roC x = true → ∀ a, v = some (.ref a) → H a ≠ none)
  | _, _, .nil, _, i, v, h => by
    have h : (List.replicate n (none : Option V))[i]? = some v := h
    rw [List.getElem?_replicate] at h
    show ∃ x, (List.replicate n (none : Option Cell))[i]? = some x ∧ _
    by_cases q : i < n
    · rw [if_pos q] at h
      cases h
      exact ⟨none, by rw [List.getElem?_replicate, if_pos q], trivial, rfl, fun z => nomatch z⟩
    · rw [if_neg q] at h
      cases h
  | _, _, .cons x r, g, 0, v, h => by
    cases h
    obtain ⟨a1, a2⟩ := arg_slot x (g _ List.mem_cons_self)
    exact ⟨_, rfl, x, a1, fun z a e => a2 z a (Option.some.inj e)⟩
  | _, _, .cons x r, g, i + 1, v, h => start_slotC n r (fun y hy => g y (List.mem_cons_of_mem _ hy)) i v h
theorem rel_startC {vs : List V} {xs : List Cell} {N : List Str} (S : Src H s c) (h : CellsR K s c H vs xs) (g : ∀ x ∈ xs, isArg x = true) : Rel K s c H (L2.start N vs) H (startC N xs) := by
  unfold L2.start startC
  rw [h.len]
  have hs := start_slotC (K := K) (s := s) (c := c) (H := H) (N.length - xs.length) h g
  have nl : ∀ i a, (vs.map some ++ List.replicate (N.length - xs.length) none)[i]? = some (some (V.ref a)) → looseC (((xs.map some ++ List.replicate (N.length - xs.length) none)[i]?).join) = true → False := fun i a e lo => by
    obtain ⟨x, h1, _, h3, _⟩ := hs i _ e
    rw [h1] at lo
    cases x with
    | none => cases lo
    | some x => rw [show (some (some x)).join = some x from rfl, h3] at lo; cases lo
  refine ⟨S, Kp.refl _ _, by simp [h.len], fun i v e => ?_, fun i a e lo => (nl i a e lo).elim, fun i j a n l1 l2 e1 e2 => nl i a e1 l1, fun i a e lo => ?_⟩
  · obtain ⟨x, h1, h2, _⟩ := hs i v e
    exact ⟨x, h1, h2⟩
  · obtain ⟨x, h1, _, _, h3⟩ := hs i _ e
    rw [h1] at lo
    cases x with
    | none => cases lo
    | some x => exact h3 lo a rfl
theorem rel_startIC {C x dx : Addr} {Hb : Hp} {us : List V} {xs : List Cell} {N : List Str} (S : Src Hb s c) (h : CellsR K s c Hb us xs) (g : ∀ x ∈ xs, isArg x = true) (hx : Hb x = none) (hdx : Hb dx = none) (ne : dx ≠ x) :
    Rel K s c Hb (L2.start N (.ref x :: us)) (upd (upd Hb dx (.own x)) x (.ins C dx [])) (some (.om x C []) :: startC (N.drop 1) xs) := by
  have nx := S.ne hx
  have sm : Same Hb (upd (upd Hb dx (.own x)) x (.ins C dx [])) := (same_new hdx).trans (same_new (by rw [upd_ne ne.symm]; exact hx))
  have S' := S.same sm
  have B := rel_startC (K := K) (N := N.drop 1) S h g
  have R0 := B.stp (.same S sm)
  unfold L2.start at R0 B ⊢
  have hN : N.length - (V.ref x :: us).length = (N.drop 1).length - us.length := by
    rw [List.length_cons, List.length_drop]
    omega
  rw [hN]
  have nl : ∀ i : Nat, looseC (((startC (N.drop 1) xs)[i]?).join) = true → False := fun i lo => by
    unfold startC at lo
    have hs := start_slotC (K := K) (s := s) (c := c) (H := Hb) ((N.drop 1).length - xs.length) h g
    have hlen : (us.map some ++ List.replicate ((N.drop 1).length - xs.length) none).length = (xs.map some ++ List.replicate ((N.drop 1).length - xs.length) none).length := by simp [h.len]
    by_cases q : i < (us.map some ++ List.replicate ((N.drop 1).length - xs.length) (none : Option V)).length
    · obtain ⟨y, h1, _, h3, _⟩ := hs i _ (List.getElem?_eq_getElem q)
      rw [h1] at lo
      cases y with
      | none => cases lo
      | some y => rw [show (some (some y)).join = some y from rfl, h3] at lo; cases lo
    · rw [List.getElem?_eq_none (by rw [← hlen]; exact Nat.le_of_not_lt q)] at lo
      cases lo
  refine ⟨S', kp_same sm, ?_, fun i v hi => ?_, fun i a hi lo => ?_, fun i j a nij l1 l2 hi hj => ?_, fun i a hi lo => ?_⟩
  · have := R0.len
    simp only [List.map_cons, List.cons_append, List.length_cons]
    rw [this]
  · cases i with
    | zero =>
      cases hi
      exact ⟨_, rfl, dx, [], rfl, upd_same, .nil, nx⟩
    | succ i => exact R0.slot i v hi
  · cases i with
    | zero => cases hi; exact hx
    | succ i => exact (nl i lo).elim
  · cases i with
    | zero => cases j with
      | zero => exact nij rfl
      | succ j => exact nl j l2
    | succ i => exact nl i l1
  · cases i with
    | zero => cases lo
    | succ i => exact B.old i a hi lo
end
section
variable {K : PySem.W.Frag} {s c : Addr} {H0 : Hp}
abbrev QC := List Cell → (D → Prop) → Prop
def MonoC (q : QC) : Prop := ∀ xs P P', (∀ d, P d → P' d) → q xs P → q xs P'
def upC (K : PySem.W.Frag) (q : QC) : Sp := fun vs H Q _ => ∃ (s c : Addr) (xs : List Cell), Src H s c ∧ CellsR K s c H vs xs ∧ (∀ x ∈ xs, isArg x = true) ∧ q xs fun d => ∀ v H', DR K s H' v d → Stp s c H H' → Q v H'
theorem len_upC {q : QC} {n : Nat} {vs : List V} {H : Hp} {Q : VK} {E : XK} (hq : ∀ xs P, q xs P → xs.length = n) (h : upC K q vs H Q E) : vs.length = n := by
  obtain ⟨s, c, xs, S, hd, _, h⟩ := h
  rw [hd.len]
  exact hq _ _ h
theorem run_upC {t : TS} {p : PSx} {N : List Str} {q : QC} {vs : List V} {H : Hp} {Q : VK} {E : XK} (hl : ∀ s c H0, LS K s c H0 t p) (hq : ∀ xs P, q xs P → p { nx := fun _ => P .non, rt := P } (startC N xs)) (h : upC K q vs H Q E) :
    t { nx := fun _ H' => Q .non H', rt := Q } (L2.start N vs) H := by
  obtain ⟨s, c, xs, S, hd, g, h⟩ := h
  refine hl s c H (L2.start N vs) (startC N xs) H _ _ (rel_startC S hd g) (hq xs _ h) ⟨fun σ σd H' h1 R _ => ?_, fun d v H' h1 r1 S1 k1 => ?_, fun _ _ _ h1 => h1.elim, fun _ _ _ h1 => h1.elim, fun _ _ _ h1 => h1.elim⟩
  · exact h1 .non H' .non ⟨R.kp0, R.src⟩
  · exact h1 v H' r1 ⟨k1, S1⟩
def pCallC (q : QC) (a : PAx) : PEx := fun σd P => a σd fun xs => ∃ ys, argsC xs = some ys ∧ q ys fun d => P (.dat d)
theorem L_callC {q : QC} {t : TA} {a : PAx} {E : XK} (m : MonoC q) (ha : LA K s c H0 t a) : LE K s c H0 (tCall (upC K q) [] E t) (pCallC q a) := fun σ σd H Q P R h k => by
  refine ha σ σd H _ _ R h fun xs vs H1 h1 r1 s1 => ?_
  obtain ⟨ys, e, h⟩ := h1
  obtain ⟨r2, g⟩ := argsC_at r1 e
  exact ⟨s, c, ys, s1.src, by rw [List.append_nil]; exact r2, g, m _ _ _ (fun d hd v H2 r2 s2 => k (.dat d) _ H2 hd r2 (s1.trans s2)) h⟩
/-- __init__ that may raise, to which lists are lent -/
abbrev QIC := List Cell → (List (Str × D) → Prop) → (Ex → Prop) → Prop
def MonoIC (q : QIC) : Prop := ∀ xs P P' X X', (∀ fs, P fs → P' fs) → (∀ x, X x → X' x) → q xs P X → q xs P' X'
def upIC (K : PySem.W.Frag) (C : Addr) (q : QIC) : Sp := fun vs H Q E => ∃ (s c : Addr) (xs : List Cell) (Hb : Hp) (x dx : Addr) (us : List V), vs = .ref x :: us ∧ H = upd (upd Hb dx (.own x)) x (.ins C dx []) ∧ Hb x = none ∧ Hb dx = none ∧ dx ≠ x ∧ Src Hb s c ∧ CellsR K s c Hb us xs ∧ (∀ x ∈ xs, isArg x = true) ∧
  q xs (fun fds => ∀ H' dx' fs, H' x = some (.ins C dx' fs) → DRf K s H' fs fds → Stp s c Hb H' → Q .non H') fun ex => ∀ cls d H', ExR K s H' cls d ex → Stp s c Hb H' → E cls d H'
theorem len_upIC {C : Addr} {q : QIC} {n : Nat} {vs : List V} {H : Hp} {Q : VK} {E : XK} (hq : ∀ xs P X, q xs P X → xs.length = n) (h : upIC K C q vs H Q E) : vs.length = n + 1 := by
  obtain ⟨s, c, xs, Hb, x, dx, us, rfl, _, _, _, _, _, hd, _, h⟩ := h
  rw [List.length_cons, hd.len, hq _ _ _ h]
theorem run_upIC {t : WX → TS} {p : PSXx} {N : List Str} {C : Addr} {q : QIC} {vs : List V} {H : Hp} {Q : VK} {E : XK} (hl : ∀ s c H0, LSX K s c H0 t p) (hq : ∀ x xs P X, q xs P X → p { nx := fun σd => ∃ fs r, σd = some (.om x C fs) :: r ∧ P fs, rt := fun _ => False } (fun ex _ => X ex) (some (.om x C []) :: startC (N.drop 1) xs)) (h : upIC K C q vs H Q E) :
    t (fun cls d _ H' => E cls d H') { nx := fun _ H' => Q .non H', rt := Q } (L2.start N vs) H := by
  obtain ⟨s, c, xs, Hb, x, dx, us, rfl, rfl, hx, hdx, ne, S, hd, g, h⟩ := h
  refine hl s c Hb _ _ _ _ _ _ _ (rel_startIC (N := N) S hd g hx hdx ne) (hq x xs _ _ h) ⟨fun σ σd H' h1 R _ => ?_, fun d v H' h1 => h1.elim, fun _ _ _ h1 => h1.elim, fun _ _ _ h1 => h1.elim, fun _ _ _ h1 => h1.elim⟩ fun ex cls d σ' σd' H' h1 r1 R _ => h1 cls d H' r1 ⟨R.kp0, R.src⟩
  obtain ⟨fs, r, rfl, h2⟩ := h1
  obtain ⟨w, hw, dx', us', ew, hu, hf, _⟩ := R.at (i := 0) (x := .om x C fs) rfl
  cases ew
  exact h2 H' dx' us' hu hf ⟨R.kp0, R.src⟩
def pMakeC (C : Addr) (q : QIC) (a : PAx) : Sd → (D → Prop) → (Ex → Prop) → Prop := fun σd P X => a σd fun xs => ∃ ys, argsC xs = some ys ∧ q ys (fun fs => P (.ins C fs)) X
theorem L_makeC {C : Addr} {q : QIC} {t : TA} {a : PAx} (mo : MonoIC q) (ha : LA K s c H0 t a) : LCX K s c H0 (fun W => tFrz (tMakeS C (upIC K C q) (WE W) t)) (pMakeC C q a) := fun σ σd H Q W P X R h k kx => by
  refine ha σ σd H _ _ R h fun xs vs H1 h1 r1 s1 => ?_
  obtain ⟨ys, e, h⟩ := h1
  obtain ⟨r2, g⟩ := argsC_at r1 e
  intro x dx hx hdx ne
  refine ⟨s, c, ys, H1, x, dx, vs, rfl, rfl, hx, hdx, ne, s1.src, r2, g, mo _ _ _ _ _ (fun fds hfd H' dx' fs hx' hf st => ⟨rfl, x, _, rfl, hx', trivial, fun o => ?_⟩) (fun ex hex cls d H' rx st => kx ex cls d H' hex rx (s1.trans st)) h⟩
  have nn := s1.src.ne hx
  have kl : Kp x H' (upd H' x (.frz o (.ins C dx' fs))) := Kp.self
  have im := kl.im ⟨_, hx', rfl⟩
  exact k _ _ _ hfd (.ins upd_same (hf.im im)) (s1.trans ⟨st.kp.via hx kl, st.src.kp nn.1.symm nn.2.symm kl⟩)
/-! ### locking before a statement that may raise -/
theorem X_frz {t : WX → TS} {p : PSXx} (i : Nat) (hp : LSX K s c H0 t p) : LSX K s c H0 (fun W => tFrzS i (t W)) (pFrzX i p) := fun σ σd H E e W xr R h k kx => by
  obtain ⟨x, d, hi, hx, h⟩ := h
  obtain ⟨v, hv, hr⟩ := R.at hi
  cases x with
  | lm ds =>
    cases hx
    obtain ⟨l, vs, rfl, hl, hd, n1, n2⟩ := id hr
    refine ⟨l, _, hv, hl, trivial, fun o => ?_⟩
    have kl : Kp l H (upd H l (.frz o (.lst vs))) := Kp.self
    have im := kl.im ⟨_, hl, rfl⟩
    exact hp σ _ _ E e W xr (R.write (x' := .dat (.lst ds)) (o := .frz o (.lst vs)) hv hi rfl (.lst upd_same (hd.im im))) h (k.im im) fun x cls d σ2 σd2 H2 a1 a2 a3 a4 => kx x cls d σ2 σd2 H2 a1 a2 a3 (im.trans a4)
  | dm ds =>
    cases hx
    obtain ⟨l, vs, rfl, hl, hd, n1, n2⟩ := id hr
    refine ⟨l, _, hv, hl, trivial, fun o => ?_⟩
    have kl : Kp l H (upd H l (.frz o (.dK vs))) := Kp.self
    have im := kl.im ⟨_, hl, rfl⟩
    exact hp σ _ _ E e W xr (R.write (x' := .dat (.dic ds)) (o := .frz o (.dK vs)) hv hi rfl (.dic upd_same (hd.im im))) h (k.im im) fun x cls d σ2 σd2 H2 a1 a2 a3 a4 => kx x cls d σ2 σd2 H2 a1 a2 a3 (im.trans a4)
  | tm ds =>
    cases hx
    obtain ⟨l, vs, rfl, hl, hd, n1, n2⟩ := id hr
    refine ⟨l, _, hv, hl, trivial, fun o => ?_⟩
    have kl : Kp l H (upd H l (.frz o (.dT vs))) := Kp.self
    have im := kl.im ⟨_, hl, rfl⟩
    exact hp σ _ _ E e W xr (R.write (x' := .dat (.dit ds)) (o := .frz o (.dT vs)) hv hi rfl (.dit upd_same (hd.im im))) h (k.im im) fun x cls d σ2 σd2 H2 a1 a2 a3 a4 => kx x cls d σ2 σd2 H2 a1 a2 a3 (im.trans a4)
  | dat d => cases hx
  | om x C ds => cases hx
  | un => cases hx
  | ex a cls d x => cases hx
  | rl ds => cases hx
  | rd ds => cases hx
  | rt ds => cases hx
/-! ### list(range(n)), written dicts -/
def pLstRg (a : PEx) : PNx := fun σd P => a σd fun x => ∃ n : Nat, x = cI n ∧ n ≤ 100000 ∧ P (rangeD n)
theorem rgV_dr {s : Addr} {H : Hp} (n : Nat) : DRs K s H (rgV 0 (n : Int)) (rangeD n) := by
  unfold rgV rangeD
  rw [show ((n : Int) - 0).toNat = n from by omega, show ((n : Int)).toNat = n from by omega]
  have go : ∀ l : List Nat, DRs K s H (l.map fun i => V.int (0 + (i : Nat))) (l.map fun (i : Nat) => D.int (i : Int)) := fun l => by
    induction l with
    | nil => exact .nil
    | cons a l ih => exact .cons (by show DR K s H (V.int (0 + (a : Int))) _; rw [Int.zero_add]; exact .int _) ih
  exact go _
theorem L_lstRg {t : TE} {a : PEx} (ha : LE K s c H0 t a) : LN K s c H0 (tLstRg (tRg1 t)) (pLstRg a) := fun σ σd H Q P R h k => by
  refine ha σ σd H _ _ R h fun x v H1 h1 r1 s1 => ?_
  obtain ⟨n, rfl, hn, h⟩ := h1
  refine ⟨n, int_eq r1, RgOk.of_le (by omega) (by omega) (by omega) (by omega), fun q hq => ?_⟩
  have e2 := stp_new (o := .lst (rgV 0 (n : Int))) s1.src hq
  exact k _ _ _ _ h upd_same (Kp.none s1.kp (s1.src.ne hq).1 hq) (rgV_dr n) (s1.trans e2)
/-- {'a': 1, ..} -/
def pDisp (kvs : List (Str × Int)) : PDx := fun σd P => P (kvs.map fun p => (.inr p.1, .int p.2))
theorem pairs_const {σ : L2.St} : ∀ (kvs : List (Str × Int)) {H : Hp} {Q : List (V × V) → Hp → Prop}, Q (kvs.map fun p => (V.str p.1, V.int p.2)) H → tPairs (kvs.map fun p => (tC (.str p.1), tC (.int p.2))) σ H Q
  | [], H, Q, h => h
  | p :: r, H, Q, h => pairs_const r h
theorem disp_dr {s : Addr} {H : Hp} : ∀ kvs : List (Str × Int), DRk K s H (kvs.map fun p => (.inr p.1, V.int p.2)) (kvs.map fun p => (.inr p.1, D.int p.2))
  | [] => .nil
  | p :: r => .cons (.int _) (disp_dr r)
theorem L_disp (kvs : List (Str × Int)) (hl : kvs.length ≤ 15) (hm : mergeK [] (kvs.map fun p => (.inr p.1, V.int p.2)) = kvs.map fun p => (.inr p.1, V.int p.2)) : LD K s c H0 (tDisp (kvs.map fun p => (tC (.str p.1), tC (.int p.2)))) (pDisp kvs) := fun σ σd H Q P R h k => by
  intro p hp
  refine pairs_const kvs ⟨upd_same, kvs.map fun p => (.inr p.1, V.int p.2), by rw [List.map_map]; rfl, by rw [List.length_map]; exact hl, ?_⟩
  rw [hm]
  have e2 : Stp s c H (upd (upd H p (.dK [])) p (.dK (kvs.map fun p => (.inr p.1, V.int p.2)))) := .same R.src fun b u e => by
    have q : b ≠ p := fun z => by subst z; rw [hp] at e; cases e
    rw [upd_ne q, upd_ne q]
    exact e
  exact k _ _ _ _ h upd_same hp (disp_dr kvs) e2
end
end My


/-! Q12: own classes and exceptions by their defs' promises; comprehensions over lists that may change; isinstance of an instance. -/
namespace My
open PySem PySem.Spec PyProof.Rows L2
def pLiftX (p : PSx) : PSXx := fun e _ => p e
section
variable (P : Program) (w : World) (K : PySem.W.Frag) (mg : Str → Option Value) (base : Heap) (C : Addr)
/-- __init__ of an exception class -/
def OkE (k : Nat) (ps : List Str) (sp : Sp) : Prop := ∃ f fd, OexC K C ∧ PySem.W.findIn K (.ref C) "__init__" = some (some (.ref f)) ∧ PySem.W.typeIn K (.ref f) = some (.type "function") ∧ Binds K fd ps [] ∧ FnOk P w K mg base CX0 k f fd ps sp
/-- __init__ that may raise -/
def OkIX (k : Nat) (ps : List Str) (sp : Sp) : Prop := ∃ f fd, Mk K C f ∧ Binds K fd ps [] ∧ FnOk P w K mg base (L2.CX P w) k f fd ps sp
/-- a method with keyword-only parameters that may raise -/
def OkMK (m : Str) (k : Nat) (ps ks : List Str) (sp : Sp) : Prop := ∃ f fd, Meth K C m f ∧ KwOnly K fd ps ks ∧ FnOk P w K mg base (L2.CX P w) k f fd ps sp
end
section
variable {X : Cx} {C : Addr} {m x n : Str} {k : Nat} {ps : List Str} {sp : Sp} {a b o e d : Expr} {es : List Expr} {td te to : TE} {t : TA} {p pos apos kp : Pos} {E : L2.St → XK}
theorem pmk_E (G : OkE X.prog X.w X.K X.mg X.base C k ps sp) (hr : Room (k + 1) X.A) (hg : Gl X x) (hm : X.mg x = some (.ref C)) (ha : PA X (e :: es) t)
    (hdb : (x == ("__debug__" : Str)) = false := by decide) (he : starEach (e :: es) X.env = (false, eval e X.env) :: starEach es X.env := by rfl) (hpl : (backTo pos (starEach es X.env)).any (·.1) = false := by rfl) : PMk X (.Call (.Name x p) (e :: es) [] pos) (tMkO C sp [] t) := by
  obtain ⟨f, fd, T, h1, h2, B, F⟩ := G
  exact pmk_oex T h1 h2 F hr B .nil pass0 hg hm ha hdb he hpl
theorem pe_mkX (G : OkIX X.prog X.w X.K X.mg X.base C k ps sp) (hr : Room (k + 1) X.A) (hg : Gl X x) (hm : X.mg x = some (.ref C)) (hx : ∀ σ, PassesAt (L2.CX X.prog X.w) X σ (E σ)) (ha : PA X (e :: es) t) (hdb : (x == ("__debug__" : Str)) = false := by decide)
    (he : starEach (e :: es) X.env = (false, eval e X.env) :: starEach es X.env := by rfl) (hpl : (backTo pos (starEach es X.env)).any (·.1) = false := by rfl) : PE X (.Call (.Name x p) (e :: es) [] pos) (tMakeS C sp E t) := by
  obtain ⟨f, fd, M, B, F⟩ := G
  exact pe_makeS M F hr hg hm B hx ha hdb he hpl
theorem pe_mK01 {pl : Sem Bool} (ho : PE X o to) (G : OkMK X.prog X.w X.K X.mg X.base C m k ps [n] sp) (hr : Room k X.A) (Z : ClsK X.K C) (hx : ∀ σ, PassesAt (L2.CX X.prog X.w) X σ (E σ)) (he : PE X e te)
    (hall : (backToKw pos (keywordEach [⟨some n, e, kp⟩] X.env)).all (·.1.isSome) = true := by rfl) (hks : (backToKw pos (keywordEach [⟨some n, e, kp⟩] X.env)).filterMap (·.1) = [n] := by rfl)
    (hpl : ((backTo pos (starEach [] X.env)).any (·.1) || (backToKw pos (keywordEach [⟨some n, e, kp⟩] X.env)).any (·.1.isNone)) = false := by rfl)
    (ht : eval (.Call (.Attribute o m apos) [] [⟨some n, e, kp⟩] pos) X.env = (eval o X.env >>= fun ov => standAt apos.atName >>= fun _ => holding [ov] (getMethod ov m pl) >>= fun fp => callWith pos fp.1 fp.2 (backTo pos (starEach [] X.env)) (backToKw pos (keywordEach [⟨some n, e, kp⟩] X.env))) := by rfl) :
    PE X (.Call (.Attribute o m apos) [] [⟨some n, e, kp⟩] pos) (tMethS C m sp E to (tCons te tNil)) := by
  obtain ⟨f, fd, M, B, F⟩ := G
  exact pe_methK01 (pl := pl) ho Z.cls M F hr B hx he hall hks hpl ht
theorem pe_mK11 {pl : Sem Bool} (ho : PE X o to) (G : OkMK X.prog X.w X.K X.mg X.base C m k ps [n] sp) (hr : Room k X.A) (Z : ClsK X.K C) (hx : ∀ σ, PassesAt (L2.CX X.prog X.w) X σ (E σ)) (hd : PE X d td) (he : PE X e te)
    (hall : (backToKw pos (keywordEach [⟨some n, e, kp⟩] X.env)).all (·.1.isSome) = true := by rfl) (hks : (backToKw pos (keywordEach [⟨some n, e, kp⟩] X.env)).filterMap (·.1) = [n] := by rfl)
    (hst : starEach [d] X.env = (false, eval d X.env) :: starEach [] X.env := by rfl)
    (hpl : ((backTo pos (starEach [d] X.env)).any (·.1) || (backToKw pos (keywordEach [⟨some n, e, kp⟩] X.env)).any (·.1.isNone)) = false := by rfl)
    (ht : eval (.Call (.Attribute o m apos) [d] [⟨some n, e, kp⟩] pos) X.env = (eval o X.env >>= fun ov => standAt apos.atName >>= fun _ => holding [ov] (getMethod ov m pl) >>= fun fp => callWith pos fp.1 fp.2 (backTo pos (starEach [d] X.env)) (backToKw pos (keywordEach [⟨some n, e, kp⟩] X.env))) := by rfl) :
    PE X (.Call (.Attribute o m apos) [d] [⟨some n, e, kp⟩] pos) (tMethS C m sp E to (tCons td (tCons te tNil))) := by
  obtain ⟨f, fd, M, B, F⟩ := G
  exact pe_methK11 (pl := pl) ho Z.cls M F hr B hx hd he hall hks hst hpl ht
theorem pe_methM0 {pl : Sem Bool} (ho : PE X o to) (G : OkM X.prog X.w X.K X.mg X.base C m k ps sp) (hr : Room k X.A) (Z : ClsK X.K C)
    (ht : eval (.Call (.Attribute o m apos) [] [] pos) X.env = (eval o X.env >>= fun ov => standAt apos.atName >>= fun _ => holding [ov] (getMethod ov m pl) >>= fun fp => callWith pos fp.1 fp.2 (backTo pos (starEach [] X.env)) (backToKw pos (keywordEach [] X.env))) := by rfl) :
    PE X (.Call (.Attribute o m apos) [] [] pos) (tMethR C m sp to tNil) := by
  obtain ⟨f, fd, M, _, B, F⟩ := G
  exact pe_meth0R (pl := pl) ho Z.cls M F hr B ht
end
/-- try .. except c as n, all is caught -/
theorem ps_tryT {X : Cx} {x n : Str} {c : Value} {i : Nat} {body suite : List Stmt} {b0 : Stmt} {np pos pos2 : Pos} {tb : WX → TS} {ts : Addr → Value → Option Addr → TS} (hs : X.stack = X.env :: X.outer) (hf : X.env.frame = some X.env.locals) (hN : X.N.Nodup) (hi : X.N[i]? = some n) (hln : X.env.kindOf n = some .local) (hc : Names X x c)
    (hb : ∀ (W : WX) (pn : List (Addr × Obj)) (xe : Value → Shared → Prop), Takes (X.tr pn xe) W → PassesOwn (model X.prog X.w) X.A X.env xe → PSs (X.tr pn xe) body (tb W))
    (hsu : ∀ (a : Addr) (oe : Obj) (cls : Value) (d : Option Addr) (pn : List (Addr × Obj)), Zc cls d oe → (∃ vs, oe.data = .fields vs) → PSs (X.suite a ((a, oe) :: pn)) (b0 :: suite) (ts a cls d)) :
    PS X (.Try body [.ExceptHandler (some (.Name x np)) (some n) (b0 :: suite) pos2] [] [] pos) (tTry X.K c i tb ts) := ps_try_as hs hf hN hi hln hc takes0 hb hsu
section
variable {K : PySem.W.Frag} {s c : Addr} {H0 : Hp}
/-! ### comprehensions over a list that may change, but not here -/
def LIk (K : PySem.W.Frag) (s c : Addr) (H0 : Hp) (ti : TI) (p : PNx) : Prop := ∀ (σ : L2.St) (σd : Sd) (H : Hp) (R : It → Hp → Prop) (P : List D → Prop), Rel K s c H0 σ H σd → p σd P →
  (∀ (ds : List D) (J : It) (G : Hp → Prop) (Y : Nat → Hp → V → Hp → Prop) (H' : Hp), P ds → Stp s c H H' → Walk J ds.length G Y → (∀ H1, Kp s H' H1 → Im H' H1 → G H1) →
    (∀ i H1 x H2, i < ds.length → Kp s H' H1 → Im H' H1 → Y i H1 x H2 → Same H1 H2 ∧ ∃ d, ds[i]? = some d ∧ DR K s H2 x d) → R J H') → ti σ H R
def pILk (a : PEx) : PNx := fun σd P => a σd fun x => ∃ ds, seqL x = some ds ∧ P ds
theorem seqL_kp {x : Cell} {v : V} {ds : List D} {H : Hp} (S : Src H s c) (h : CellR K s c H v x) (e : seqL x = some ds) : ∃ a vs, v = .ref a ∧ DRs K s H vs ds ∧ ∀ H1, Kp s H H1 → Im H H1 → SqL K H1 a vs := by
  cases x with
  | dat d =>
    cases d <;> first
      | (cases e; cases h with | lst h r => exact ⟨_, _, rfl, r, fun H1 _ im => .inl (.inr ⟨_, frz_im im h⟩)⟩)
      | cases e
  | lm ds =>
    cases e
    obtain ⟨a, vs, rfl, ha, hd, n1, _⟩ := h
    exact ⟨a, vs, rfl, hd, fun H1 kp _ => .inl (.inl (kp _ _ n1 ha))⟩
  | rl ds =>
    cases e
    obtain ⟨a, vs, rfl, ha, hd, n1, _⟩ := h
    exact ⟨a, vs, rfl, hd, fun H1 kp _ => .inl (.inl (kp _ _ n1 ha))⟩
  | _ => cases e
theorem I_listK {t : TE} {a : PEx} (ha : LE K s c H0 t a) : LIk K s c H0 (iList K t) (pILk a) := fun σ σd H R P Rl h k => by
  refine ha σ σd H _ _ Rl h fun x v H1 h1 r1 s1 => ?_
  obtain ⟨ds, e, h⟩ := h1
  obtain ⟨l, vs, rfl, hd, hs⟩ := seqL_kp s1.src r1 e
  refine ⟨l, rfl, ⟨vs, hs H1 (Kp.refl _ _) (Im.refl _)⟩, ?_⟩
  have w : Walk (Itl K l) ds.length (fun H => SqL K H l vs) (YAt vs) := by
    rw [← hd.len]
    exact walk_list
  refine k ds _ _ _ H1 h s1 w hs fun i A x B hi kp im y => ?_
  obtain ⟨eB, hx⟩ := y
  subst eB
  obtain ⟨d, h1, h2⟩ := (hd.im im).get hx
  exact ⟨Same.refl _, d, h1, h2⟩
theorem L_lcK {ti : TI} {g : TG} {tt : TT} {te : TE} {it : PNx} {pg : PGx} {t : PTx} {el : PEx} {vs ts : List Nat} (hi : LIk K s c H0 ti it) (hg : LG K s c H0 g pg ts) (ht : LT K s c H0 tt t) (he : LE K s c H0 te el) (sub : ∀ x ∈ ts, x ∈ vs := by decide) :
    LN K s c H0 (tLc ti g tt te vs) (pLc it pg t el vs) := fun σ σd H Q P R h k => by
  refine hi σ σd H _ _ R h fun ds J G Y H1 h1 s1 w gp hy => ?_
  obtain ⟨hlen, inv, i0, turn, fin⟩ := h1
  intro L hL
  have nL := s1.src.ne hL
  have R1 := R.stp s1
  have hL0 : H0 L = none := Kp.none R1.kp0 nL.1 hL
  have hLH : H L = none := Kp.none s1.kp nL.1 hL
  have off := off_new R1 hL
  have sm0 := same_new (o := .lst []) hL
  refine lc_it w (fun i A => ∃ acc us, inv i acc ∧ acc.length ≤ i ∧ A L = some (.lst us) ∧ DRs K s A us acc ∧ Rel K s c H0 σ A σd ∧ Im H1 A ∧ Kp s H1 A) ⟨[], [], i0, Nat.le_refl _, upd_same, .nil, R1.stp (.same s1.src sm0), Same.im sm0, kp_same sm0⟩
    (fun i A _ ⟨_, _, _, _, _, _, _, im, kp⟩ => gp _ kp im) ?_ ?_
  · rintro i x A B hlt ⟨acc, us, hinv, hal, hA, hdr, RA, im, kpA⟩ y
    obtain ⟨sm, d, hd, hr⟩ := hy i A x B hlt kpA im y
    have RB : Rel K s c H0 σ B σd := RA.stp (.same RA.src sm)
    have imB := im.trans (Same.im sm)
    have hB : B L = some (.lst us) := sm _ _ hA
    refine hg (wipe σ vs) (wipeD σd vs) B x d _ _ (RB.wipe vs) hr (turn i d acc hd hinv) fun σ2 σd2 h2 R2 l2 k2 _ => ⟨wipe_back l2 k2 sub, ?_⟩
    refine ht σ2 σd2 B _ _ R2 h2 fun b C h3 s3 => ?_
    have hC : C L = some (.lst us) := s3.kp _ _ nL.1 hB
    have imC := imB.trans (s3.im R2.src)
    have RC := RB.stp s3
    have kpC : Kp s H1 C := (kpA.trans (kp_same sm)).trans s3.kp
    have hdC := hdr.im ((Same.im sm).trans (s3.im R2.src))
    cases b with
    | false =>
      rw [if_neg Bool.false_ne_true] at h3
      exact ⟨acc, us, h3, Nat.le_succ_of_le hal, hC, hdC, RC, imC, kpC⟩
    | true =>
      rw [if_pos rfl] at h3
      refine he σ2 σd2 C _ _ (R2.stp s3) h3 fun z v F h4 r4 s4 => ?_
      obtain ⟨e, rfl, h5⟩ := h4
      have hF : F L = some (.lst us) := s4.kp _ _ nL.1 hC
      have kl : Kp L F (upd F L (.lst (us ++ [v]))) := Kp.self
      have imL := kl.im ⟨_, hF, rfl⟩
      have RF := RC.stp s4
      have hdF := hdC.im (s4.im RC.src)
      exact ⟨us, hF, Nat.lt_of_le_of_lt (show us.length ≤ 100000 from by rw [hdF.len]; omega) (by decide), acc ++ [e], us ++ [v], h5, by rw [List.length_append, List.length_singleton]; omega, upd_same, (hdF.im imL).snoc (DR.im imL r4), rel_off RF off hF hL0 nL, (imC.trans (s4.im RC.src)).trans imL, (kpC.trans s4.kp).via hL kl⟩
  · rintro A ⟨acc, us, hinv, hal, hA, hdr, RA, im, kpA⟩
    exact k acc L us A (fin acc hinv) hA hLH hdr ⟨s1.kp.trans kpA, RA.src⟩
/-! ### isinstance(x, T) where x may be an instance of C -/
def isTI (C : Addr) (T : String) : D → Option Bool
  | .ins C' _ => if C' = C then some false else none
  | d => (tyN d).bind fun S => kitB S T
def pIsTI (C : Addr) (T : String) (a : PEx) : PEx := fun σd P => a σd fun x => ∃ d b, x = .dat d ∧ isTI C T d = some b ∧ P (cB b)
theorem isTI_not {C : Addr} {T : String} {d : D} {b : Bool} (h : isTI C T d = some b) : (∃ fs, d = .ins C fs ∧ b = false) ∨ ∃ S, tyN d = some S ∧ kitB S T = some b := by
  by_cases hi : ∃ C' gs, d = .ins C' gs
  · obtain ⟨C', gs, rfl⟩ := hi
    have h : (if C' = C then some false else none) = some b := h
    by_cases e : C' = C
    · rw [if_pos e] at h
      cases h
      subst e
      exact .inl ⟨_, rfl, rfl⟩
    · rw [if_neg e] at h
      cases h
  · have g : ((tyN d).bind fun S => kitB S T) = some b := by
      cases d <;> first
        | exact h
        | (exfalso; exact hi ⟨_, _, rfl⟩)
    obtain ⟨S, h1, h2⟩ := Option.bind_eq_some_iff.mp g
    exact .inr ⟨S, h1, h2⟩
theorem L_isTI {C : Addr} {T : String} {t : TE} {a : PEx} (ic : C8.InsC K C) (hk : PySem.W.kitOne K (.ref C) (.type T) = some false) (ha : LE K s c H0 t a) : LE K s c H0 (tCB (rIsiD K) (tCons t (tCons (tC (.ty T)) tNil))) (pIsTI C T a) := fun σ σd H Q P R h k => by
  refine ha σ σd H _ _ R h fun x v H1 h1 r1 s1 => ?_
  obtain ⟨d, b, rfl, e, h⟩ := h1
  rcases isTI_not e with ⟨fs, rfl, rfl⟩ | ⟨S, eS, eb⟩
  · cases id r1 with
    | ins hi hf => exact ⟨_, .ty T, .ref C, .type T, false, rfl, .ty T, .ins (.inr ⟨_, hi⟩) ic, hk, k _ _ H1 h (.bl _) s1⟩
  · exact ⟨v, .ty T, .type S, .type T, b, rfl, .ty T, .x (tyN_at r1 eS), kit_ty eb, k _ _ H1 h (.bl _) s1⟩
end
end My


/-! Reprs: what repr of data asks. -/
namespace My
open PySem PySem.Spec PyProof.Rows L2 TL
structure Show (d : PyData) (n k : Nat) : Prop where
  sh : PyData.showable d = true
  nd : d.hasDict = false
  dp : d.depth ≤ k
  len : d.shown.length ≤ n
theorem Show.mono {d : PyData} {n m k j : Nat} (h : Show d n k) (h1 : n ≤ m) (h2 : k ≤ j) : Show d m j := ⟨h.sh, h.nd, Nat.le_trans h.dp h2, Nat.le_trans h.len h1⟩
theorem Show.str {z : Str} {n k : Nat} (h : ∀ c ∈ tl z, c < 16 ^ 8) (hn : 10 * z.length + 2 ≤ n) : Show (.str z) n k := ⟨rfl, rfl, Nat.zero_le _, Nat.le_trans (StrLaws.reprText_len z h) hn⟩
theorem Show.int {i : Int} {n k : Nat} (h : i.natAbs < 10 ^ 60) (hn : 61 ≤ n) : Show (.int i) n k :=
  ⟨decide_eq_true (log2_small h), rfl, Nat.zero_le _, Nat.le_trans (numS_len h) hn⟩
theorem showAll {n k : Nat} : ∀ {ds : List PyData}, (∀ d ∈ ds, Show d n k) → PyData.showableAll ds = true ∧ PyData.hasDictAll ds = false ∧ PyData.depthAll ds ≤ k ∧ piled (PyData.shownAll ds) ≤ ds.length * (n + 2)
  | [], _ => ⟨rfl, rfl, Nat.zero_le _, Nat.zero_le _⟩
  | d :: ds, h => by
    have h1 := h d List.mem_cons_self
    obtain ⟨a1, a2, a3, a4⟩ := showAll (ds := ds) fun x hx => h x (List.mem_cons_of_mem _ hx)
    refine ⟨?_, ?_, ?_, ?_⟩
    · show (PyData.showable d && PyData.showableAll ds) = true
      rw [h1.sh, a1]; rfl
    · show (PyData.hasDict d || PyData.hasDictAll ds) = false
      rw [h1.nd, a2]; rfl
    · show max d.depth (PyData.depthAll ds) ≤ k
      exact Nat.max_le.mpr ⟨h1.dp, a3⟩
    · show piled (d.shown :: PyData.shownAll ds) ≤ _
      rw [piled_cons, List.length_cons, Nat.succ_mul]
      have := h1.len
      omega
theorem Show.tup {ds : List PyData} {n k m j : Nat} (h : ∀ d ∈ ds, Show d n k) (hm : ds.length * (n + 2) + 3 ≤ m) (hk : k + 1 ≤ j) : Show (.tuple ds) m j := by
  obtain ⟨a1, a2, a3, a4⟩ := showAll h
  refine ⟨a1, a2, ?_, ?_⟩
  · show PyData.depthAll ds + 1 ≤ j
    omega
  · show (tupleText (PyData.shownAll ds)).length ≤ m
    have := fmt_text (PyData.shownAll ds)
    omega
/-- repr of a thing whose data is known -/
theorem repr_at {K : PySem.W.Frag} {H : Hp} {Q : VK} {v : V} {d : PyData} {n k : Nat} {xs : List V} (h : Dp K H v d) (hv : ∃ a, v = .ref a) (s : Show d n k) (hn : n ≤ 1000000) (hk : k ≤ 60) (q : Q (.str d.shown) H) : cRepr K [v] H Q := by
  obtain ⟨a, rfl⟩ := hv
  exact ⟨a, d, rfl, h, s.sh, s.nd, Nat.le_trans s.dp hk, Nat.le_trans s.len (Nat.le_trans hn (by decide)), q⟩
end My


/-! K55a: steps of a route as plain data; what the defs of k55 promise. -/
namespace My
open PySem PySem.Spec PyProof.Rows L2 TL
structure AD where
  Route : Addr
  OfficeError : Addr
  BadName : Addr
  NameTaken : Addr
  UnknownName : Addr
  BadEnds : Addr
  BadWidening : Addr
  BadPosition : Addr
def xcs (C : AD) : List Addr := [C.BadName, C.NameTaken, C.UnknownName, C.BadEnds, C.BadWidening, C.BadPosition]
def kx (C : AD) (T : Addr) : Addr → Option Bool := fun E => if E ∈ xcs C then some (decide (E = T)) else none
abbrev kx_BadName (C : AD) := kx C C.BadName
abbrev kx_NameTaken (C : AD) := kx C C.NameTaken
abbrev kx_UnknownName (C : AD) := kx C C.UnknownName
abbrev kx_BadEnds (C : AD) := kx C C.BadEnds
abbrev kx_BadWidening (C : AD) := kx C C.BadWidening
abbrev kx_BadPosition (C : AD) := kx C C.BadPosition
def kx_ValueError (C : AD) : Addr → Option Bool := fun E => if E ∈ xcs C then some true else none
structure Fl (K : PySem.W.Frag) (C : AD) : Prop where
  n_steps : NoAttr K C.Route "_steps"
  exm : ∀ E ∈ xcs C, PySem.W.exmOne K (.ref E) (.ref C.OfficeError) = some true
  exc : ∀ E ∈ xcs C, ExcC K E
  kit : ∀ E ∈ xcs C, ∀ T ∈ xcs C, PySem.W.kitOne K (.ref E) (.ref T) = some (decide (E = T))
  kve : ∀ E ∈ xcs C, PySem.W.kitOne K (.ref E) (.type "ValueError") = some true
  k_list : PySem.W.kitOne K (.ref C.Route) (.type "list") = some false
  k_tuple : PySem.W.kitOne K (.ref C.Route) (.type "tuple") = some false
  nd : (xcs C).Nodup
  xf_BadName : XfC K C.BadName
  xf_NameTaken : XfC K C.NameTaken
  xf_UnknownName : XfC K C.UnknownName
  xf_BadEnds : XfC K C.BadEnds
  xf_BadWidening : XfC K C.BadWidening
  xf_BadPosition : XfC K C.BadPosition
  no_BadName_name : PySem.W.findIn K (.ref C.BadName) "name" = some none
  no_NameTaken_name : PySem.W.findIn K (.ref C.NameTaken) "name" = some none
  no_UnknownName_name : PySem.W.findIn K (.ref C.UnknownName) "name" = some none
  no_BadEnds_low : PySem.W.findIn K (.ref C.BadEnds) "low" = some none
  no_BadEnds_high : PySem.W.findIn K (.ref C.BadEnds) "high" = some none
  no_BadWidening_by : PySem.W.findIn K (.ref C.BadWidening) "by" = some none
  no_BadPosition_to : PySem.W.findIn K (.ref C.BadPosition) "to" = some none
section
variable {K : PySem.W.Frag} {C : AD}
theorem Fl.kx (B : Fl K C) {T : Addr} (hT : T ∈ xcs C) : ∀ E b, My.kx C T E = some b → ExcC K E ∧ PySem.W.kitOne K (.ref E) (.ref T) = some b := fun E b h => by
  unfold My.kx at h
  by_cases m : E ∈ xcs C
  · rw [if_pos m] at h
    cases h
    exact ⟨B.exc E m, B.kit E m T hT⟩
  · rw [if_neg m] at h
    cases h
theorem Fl.kx_BadName (B : Fl K C) : ∀ E b, My.kx_BadName C E = some b → ExcC K E ∧ PySem.W.kitOne K (.ref E) (.ref C.BadName) = some b := B.kx (by simp [xcs])
theorem Fl.kx_NameTaken (B : Fl K C) : ∀ E b, My.kx_NameTaken C E = some b → ExcC K E ∧ PySem.W.kitOne K (.ref E) (.ref C.NameTaken) = some b := B.kx (by simp [xcs])
theorem Fl.kx_UnknownName (B : Fl K C) : ∀ E b, My.kx_UnknownName C E = some b → ExcC K E ∧ PySem.W.kitOne K (.ref E) (.ref C.UnknownName) = some b := B.kx (by simp [xcs])
theorem Fl.kx_BadEnds (B : Fl K C) : ∀ E b, My.kx_BadEnds C E = some b → ExcC K E ∧ PySem.W.kitOne K (.ref E) (.ref C.BadEnds) = some b := B.kx (by simp [xcs])
theorem Fl.kx_BadWidening (B : Fl K C) : ∀ E b, My.kx_BadWidening C E = some b → ExcC K E ∧ PySem.W.kitOne K (.ref E) (.ref C.BadWidening) = some b := B.kx (by simp [xcs])
theorem Fl.kx_BadPosition (B : Fl K C) : ∀ E b, My.kx_BadPosition C E = some b → ExcC K E ∧ PySem.W.kitOne K (.ref E) (.ref C.BadPosition) = some b := B.kx (by simp [xcs])
theorem Fl.kx_ValueError (B : Fl K C) : ∀ E b, My.kx_ValueError C E = some b → ExcC K E ∧ PySem.W.kitOne K (.ref E) (.type "ValueError") = some b := fun E b h => by
  unfold My.kx_ValueError at h
  by_cases m : E ∈ xcs C
  · rw [if_pos m] at h
    cases h
    exact ⟨B.exc E m, B.kve E m⟩
  · rw [if_neg m] at h
    cases h
theorem X_liftX {s c : Addr} {H0 : Hp} {t : TS} {p : PSx} (h : LS K s c H0 t p) : LSX K s c H0 (fun _ => t) (pLiftX p) := X_lift h
end
/-! ### steps -/
inductive Step where
  | part (n : Str)
  | meas (n : Str) (lo hi : Int)
  | late (n : Str) (os : List (List Str))
def optD (o : List Str) : D := .tup (o.map .str)
namespace Step
def nm : Step → Str
  | part n => n
  | meas n _ _ => n
  | late n _ => n
def kd : Step → Str
  | part _ => "part"
  | meas _ _ _ => "measure"
  | late _ _ => "late"
def rest : Step → List D
  | part _ => []
  | meas _ lo hi => [.int lo, .int hi]
  | late _ os => [.tup (os.map optD)]
def d (s : Step) : D := .tup (.str s.kd :: .str s.nm :: s.rest)
def isLate : Step → Bool
  | late _ _ => true
  | _ => false
def isPart : Step → Bool
  | part _ => true
  | _ => false
def isMeas : Step → Bool
  | meas _ _ _ => true
  | _ => false
def opts : Step → List (List Str)
  | late _ os => os
  | _ => []
def wid (n : Int) : Step → Step
  | meas m lo hi => meas m (lo - n) (hi + n)
  | s => s
end Step
def rowsD (rs : List Step) : D := .lst (rs.map Step.d)
def rowD (r : List Nat) : D := .tup (r.map fun (k : Nat) => .int (k : Int))
def route (C : AD) (rs : List Step) : D := .ins C.Route [("_steps", rowsD rs)]
/-! ### errors -/
inductive Due where
  | badName (n : Str) | taken (n : Str) | unknown (n : Str) | ends (lo hi : Int) | widen (i : Int) | position (i : Int)
namespace Due
def d : Due → List D
  | badName n => [.str "BadName", .str n]
  | taken n => [.str "NameTaken", .str n]
  | unknown n => [.str "UnknownName", .str n]
  | ends lo hi => [.str "BadEnds", .int lo, .int hi]
  | widen i => [.str "BadWidening", .int i]
  | position i => [.str "BadPosition", .int i]
def ex (C : AD) : Due → Ex
  | badName n => ⟨C.BadName, [("name", .str n)]⟩
  | taken n => ⟨C.NameTaken, [("name", .str n)]⟩
  | unknown n => ⟨C.UnknownName, [("name", .str n)]⟩
  | ends lo hi => ⟨C.BadEnds, [("high", .int hi), ("low", .int lo)]⟩
  | widen i => ⟨C.BadWidening, [("by", .int i)]⟩
  | position i => ⟨C.BadPosition, [("to", .int i)]⟩
end Due
/-! ### names -/
def letters : List Nat := ("abcdefghijklmnopqrstuvwxyz" : Str).cps.toList
def digits : List Nat := ("0123456789" : Str).cps.toList
def isNm (z : Str) : Bool := match z.cps.toList with
  | [] => false
  | c :: cs => decide (z.length ≤ 12) && (decide (c ∈ letters) && (c :: cs).all fun x => decide (x ∈ letters) || decide (x ∈ digits))
def isSt (z : Str) : Bool := isNm z && !decide (z = "frame")
def badE : Step → Option Due
  | .meas _ lo hi => if hi < lo then some (.ends lo hi) else none
  | _ => none
def dueF (seen : List Str) : List Step → Option Due
  | [] => none
  | r :: rs => if isSt r.nm = false then some (.badName r.nm) else if r.nm ∈ seen then some (.taken r.nm) else match badE r with
    | some e => some e
    | none => dueF (seen ++ [r.nm]) rs
def latesF (rs : List Step) : List Step := rs.filter Step.isLate
def stepR (acc : List (List Nat)) (n : Nat) : List (List Nat) := acc.flatMap fun r => (List.range n).map fun k => r ++ [k]
def rowsF (ns : List Nat) : List (List Nat) := ns.foldl stepR [[]]
def sizesF (rs : List Step) : List Nat := (latesF rs).map fun s => s.opts.length
def runF (ls : List Step) (row : List Nat) : List Str := ((ls.zip row).map fun p => p.1.opts.getD p.2 []).flatten
def Fits (ls : List Step) (row : List Nat) : Prop := row.length = ls.length ∧ ∀ (i : Nat) (s : Step) (k : Nat), ls[i]? = some s → row[i]? = some k → k < s.opts.length
def wideF (n : Int) (rs : List Step) : List Step := rs.map (Step.wid n)
def foundF (name : Str) (rs : List Step) : List Step := rs.filter fun s => decide (s.nm = name) && !s.isPart
def othersF (name : Str) (rs : List Step) : List Step := rs.filter fun s => !decide (s.nm = name)
def movedF (name : Str) (to : Int) (rs : List Step) : Due ⊕ List Step :=
  if (foundF name rs).length = 0 then .inl (.unknown name) else if 0 ≤ to ∧ to < rs.length then .inr ((othersF name rs).take to.toNat ++ foundF name rs ++ (othersF name rs).drop to.toNat) else .inl (.position to)
/-! ### sizes -/
def Asc (z : Str) : Prop := ∀ c ∈ z.cps.toList, c < 128
def Nm (n : Nat) (z : Str) : Prop := z.length ≤ n ∧ Asc z
def Due.Ok : Due → Prop
  | .badName n => Asc n
  | .taken n => Asc n
  | .unknown n => Asc n
  | _ => True
def Step.body (B : Nat) : Step → Prop
  | .part _ => True
  | .meas _ lo hi => lo.natAbs < B ∧ hi.natAbs < B
  | .late _ os => os.length ≤ 3 ∧ ∀ o ∈ os, o.length ≤ 4 ∧ ∀ w ∈ o, Nm 13 w
structure Fine (n B : Nat) (rs : List Step) : Prop where
  len : rs.length ≤ 14
  late : (latesF rs).length ≤ 2
  nm : ∀ r ∈ rs, Nm n r.nm
  body : ∀ r ∈ rs, r.body B
def B1 : Nat := 3 * 10 ^ 60
def B2 : Nat := 5 * 10 ^ 60
def Valid (rs : List Step) : Prop := dueF [] rs = none
def toldD (C : AD) : Due ⊕ List Step → D
  | .inl e => .lst [.tup e.d]
  | .inr rs => route C rs
def duesF (rs : List Step) : Due ⊕ List Step := match dueF [] rs with
  | some e => .inl e
  | none => .inr rs
def widesF (n : Int) (rs : List Step) : Due ⊕ List Step := if n < 0 then .inl (.widen n) else .inr (wideF n rs)
def goalD : Due ⊕ List Step → D
  | .inl e => .tup e.d
  | .inr rs => rowsD rs
/-! ### promises -/
section
variable (C : AD)
def q_is_nameR : QP := fun ds P => ∃ z, ds = [.str z] ∧ z.length ≤ 1000 ∧ P (.bl (isNm z))
def q_is_step_nameR : QP := fun ds P => ∃ z, ds = [.str z] ∧ z.length ≤ 1000 ∧ P (.bl (isSt z))
def q_index_rows : QL := fun ds P => ∃ ns : List Nat, ds = [.lst (ns.map fun (n : Nat) => .int (n : Int))] ∧ ns.length ≤ 2 ∧ (∀ n ∈ ns, n ≤ 3) ∧ P (.lm ((rowsF ns).map rowD))
def q_Route_init : QIC := fun xs P X => ∃ x rs, xs = [x] ∧ seqC x = some (rs.map Step.d) ∧ Fine 26 B2 rs ∧ match dueF [] rs with
  | none => P [("_steps", rowsD rs)]
  | some e => X (e.ex C)
def q_Route_steps : QL := fun ds P => ∃ rs, ds = [route C rs] ∧ P (.lm (rs.map Step.d))
def outX (P : D → Prop) (X : Ex → Prop) : Due ⊕ List Step → Prop
  | .inl e => X (e.ex C)
  | .inr rs => P (route C rs)
def q_Route_widened : QX := fun ds P X => ∃ rs n, ds = [route C rs, .int n] ∧ Fine 26 B1 rs ∧ Valid rs ∧ n.natAbs < 10 ^ 60 ∧ outX C P X (widesF n rs)
def q_Route_moved : QX := fun ds P X => ∃ rs nm to, ds = [route C rs, .str nm, .int to] ∧ Fine 26 B2 rs ∧ Valid rs ∧ outX C P X (movedF nm to rs)
def q_Route_late_steps : QP := fun ds P => ∃ rs, ds = [route C rs] ∧ Fine 26 B2 rs ∧ P (rowsD (latesF rs))
def q_Route_late_rows : QL := fun ds P => ∃ rs, ds = [route C rs] ∧ Fine 26 B2 rs ∧ P (.lm ((rowsF (sizesF rs)).map rowD))
def q_Route_late_run : QP := fun ds P => ∃ rs row, ds = [route C rs, rowD row] ∧ Fine 26 B2 rs ∧ Fits (latesF rs) row ∧ P (optD (runF (latesF rs) row))
def q_law_pick : QC := fun xs P => ∃ x ds, xs = [.dat .src, x] ∧ seqL x = some ds ∧ ds ≠ [] ∧ ds.length ≤ 100000 ∧ ∀ d ∈ ds, P d
def q_law_fresh : QC := fun xs P => ∃ (x : Cell) (ns : List Str), xs = [.dat .src, x] ∧ seqL x = some (ns.map .str) ∧ ns.length ≤ 14 ∧ (∀ n ∈ ns, 1 ≤ n.length ∧ Nm 12 n) ∧ ∀ z, 1 ≤ z.length → Nm 12 z → P (.str z)
def q_law_number : QP := fun ds P => ds = [.src] ∧ ∀ i : Int, i.natAbs < 10 ^ 60 → P (.int i)
def q_law_measure : QP := fun ds P => ∃ n, ds = [.src, .str n] ∧ ∀ lo hi : Int, lo.natAbs < B1 → hi.natAbs < B1 → P (Step.meas n lo hi).d
def q_law_step : QP := fun ds P => ∃ k n, ds = [.src, .str k, .str n] ∧ (k = "part" ∨ k = "measure" ∨ k = "late") ∧ ∀ s : Step, s.kd = k → s.nm = n → s.body B1 → P s.d
def q_law_steps : QP := fun ds P => ds = [.src] ∧ ∀ rs, Fine 12 B1 rs → P (rowsD rs)
def q_law_spoiled : QP := fun ds P => ∃ rs, ds = [.src, rowsD rs] ∧ rs ≠ [] ∧ Fine 12 B1 rs ∧ ∀ rs', Fine 14 B1 rs' → P (rowsD rs')
def q_law_is_name : QP := q_is_nameR
def q_law_due : QP := fun ds P => ∃ rs, ds = [rowsD rs] ∧ Fine 26 B2 rs ∧ P (match dueF [] rs with
  | none => .non
  | some e => .tup e.d)
def q_law_rows : QP := fun ds P => ∃ rs, ds = [rowsD rs] ∧ Fine 26 B2 rs ∧ P (.lst ((rowsF (sizesF rs)).map rowD))
def q_law_late_run : QP := fun ds P => ∃ rs row, ds = [rowsD rs, rowD row] ∧ Fine 26 B2 rs ∧ Fits (latesF rs) row ∧ P (optD (runF (latesF rs) row))
def q_law_wide : QP := fun ds P => ∃ rs n, ds = [rowsD rs, .int n] ∧ Fine 26 B2 rs ∧ P (rowsD (wideF n rs))
def q_law_moved : QP := fun ds P => ∃ rs nm to, ds = [rowsD rs, .str nm, .int to] ∧ Fine 26 B2 rs ∧ P (goalD (movedF nm to rs))
def q_law_told : QC := fun xs P => (∃ x a b rs, xs = [cN, x, a, b] ∧ seqC x = some (rs.map Step.d) ∧ Fine 26 B2 rs ∧ P (toldD C (duesF rs))) ∨
  (∃ rs x n, xs = [.dat (route C rs), x, cN, cI n] ∧ Fine 26 B1 rs ∧ Valid rs ∧ n.natAbs < 10 ^ 60 ∧ P (toldD C (widesF n rs))) ∨
  ∃ rs x nm to, xs = [.dat (route C rs), x, cS nm, cI to] ∧ Fine 26 B2 rs ∧ Valid rs ∧ P (toldD C (movedF nm to rs))
def q_law_same : QP := fun ds P => ∃ g : Due ⊕ List Step, ds = [toldD C g, goalD g] ∧ (∀ rs, g = .inr rs → Fine 26 B2 rs) ∧ (∀ e, g = .inl e → e.Ok) ∧ P (.bl true)
end
section
variable {C : AD}
theorem m_is_nameR : Mono q_is_nameR := fun _ _ _ m ⟨a, h1, h2, h⟩ => ⟨a, h1, h2, m _ h⟩
theorem m_is_step_nameR : Mono q_is_step_nameR := fun _ _ _ m ⟨a, h1, h2, h⟩ => ⟨a, h1, h2, m _ h⟩
theorem m_index_rows : MonoL q_index_rows := fun _ _ _ m ⟨a, h1, h2, h3, h⟩ => ⟨a, h1, h2, h3, m _ h⟩
theorem m_Route_init : MonoIC (q_Route_init C) := fun _ _ _ _ _ m mx ⟨x, rs, h1, h2, h3, h⟩ => ⟨x, rs, h1, h2, h3, by
  revert h
  cases dueF [] rs with
  | none => exact m _
  | some e => exact mx _⟩
theorem m_Route_steps : MonoL (q_Route_steps C) := fun _ _ _ m ⟨a, h1, h⟩ => ⟨a, h1, m _ h⟩
theorem outX.mono {P P' : D → Prop} {X X' : Ex → Prop} (m : ∀ d, P d → P' d) (mx : ∀ x, X x → X' x) : ∀ {o : Due ⊕ List Step}, outX C P X o → outX C P' X' o
  | .inl _, h => mx _ h
  | .inr _, h => m _ h
theorem m_Route_widened : MonoX (q_Route_widened C) := fun _ _ _ _ _ m mx ⟨rs, n, h1, h2, h3, h4, h⟩ => ⟨rs, n, h1, h2, h3, h4, outX.mono m mx h⟩
theorem m_Route_moved : MonoX (q_Route_moved C) := fun _ _ _ _ _ m mx ⟨rs, n, to, h1, h2, h3, h⟩ => ⟨rs, n, to, h1, h2, h3, outX.mono m mx h⟩
theorem m_Route_late_steps : Mono (q_Route_late_steps C) := fun _ _ _ m ⟨a, h1, h2, h⟩ => ⟨a, h1, h2, m _ h⟩
theorem m_Route_late_rows : MonoL (q_Route_late_rows C) := fun _ _ _ m ⟨a, h1, h2, h⟩ => ⟨a, h1, h2, m _ h⟩
theorem m_Route_late_run : Mono (q_Route_late_run C) := fun _ _ _ m ⟨a, b, h1, h2, h3, h⟩ => ⟨a, b, h1, h2, h3, m _ h⟩
theorem m_law_pick : MonoC q_law_pick := fun _ _ _ m ⟨x, ds, h1, h2, h3, h4, h⟩ => ⟨x, ds, h1, h2, h3, h4, fun d hd => m _ (h d hd)⟩
theorem m_law_fresh : MonoC q_law_fresh := fun _ _ _ m ⟨x, ds, h1, h2, h3, h4, h⟩ => ⟨x, ds, h1, h2, h3, h4, fun d a b => m _ (h d a b)⟩
theorem m_law_number : Mono q_law_number := fun _ _ _ m ⟨h1, h⟩ => ⟨h1, fun i hi => m _ (h i hi)⟩
theorem m_law_measure : Mono q_law_measure := fun _ _ _ m ⟨n, h1, h⟩ => ⟨n, h1, fun a b ha hb => m _ (h a b ha hb)⟩
theorem m_law_step : Mono q_law_step := fun _ _ _ m ⟨k, n, h1, h2, h⟩ => ⟨k, n, h1, h2, fun s a b c => m _ (h s a b c)⟩
theorem m_law_steps : Mono q_law_steps := fun _ _ _ m ⟨h1, h⟩ => ⟨h1, fun r hr => m _ (h r hr)⟩
theorem m_law_spoiled : Mono q_law_spoiled := fun _ _ _ m ⟨rs, h1, h2, h3, h⟩ => ⟨rs, h1, h2, h3, fun r hr => m _ (h r hr)⟩
theorem m_law_is_name : Mono q_law_is_name := m_is_nameR
theorem m_law_due : Mono q_law_due := fun _ _ _ m ⟨a, h1, h2, h⟩ => ⟨a, h1, h2, m _ h⟩
theorem m_law_rows : Mono q_law_rows := fun _ _ _ m ⟨a, h1, h2, h⟩ => ⟨a, h1, h2, m _ h⟩
theorem m_law_late_run : Mono q_law_late_run := fun _ _ _ m ⟨a, b, h1, h2, h3, h⟩ => ⟨a, b, h1, h2, h3, m _ h⟩
theorem m_law_wide : Mono q_law_wide := fun _ _ _ m ⟨a, b, h1, h2, h⟩ => ⟨a, b, h1, h2, m _ h⟩
theorem m_law_moved : Mono q_law_moved := fun _ _ _ m ⟨a, b, c, h1, h2, h⟩ => ⟨a, b, c, h1, h2, m _ h⟩
theorem m_law_told : MonoC (q_law_told C) := fun _ _ _ m h => h.imp (fun ⟨x, a, b, rs, h1, h2, h3, h⟩ => ⟨x, a, b, rs, h1, h2, h3, m _ h⟩) fun h => h.imp (fun ⟨rs, x, n, h1, h2, h3, h4, h⟩ => ⟨rs, x, n, h1, h2, h3, h4, m _ h⟩) fun ⟨rs, x, nm, to, h1, h2, h3, h⟩ => ⟨rs, x, nm, to, h1, h2, h3, m _ h⟩
theorem m_law_same : Mono (q_law_same C) := fun _ _ _ m ⟨g, h1, h2, h3, h⟩ => ⟨g, h1, h2, h3, m _ h⟩
end
end My


/-! readings, printed by gen3.py. -/
namespace My
open PySem PySem.Spec PyProof.Rows L2 TL
section
variable {K : PySem.W.Frag} {C : AD}
/-- is_name -/
abbrev n_is_nameR : List Str := ["text", "char"]
def t_is_nameR (K : PySem.W.Frag) (C : AD) : TS :=
    (tSeq (tIfS (tOr (tNot (tTest (tChain rLeI rLeI (tC (.int 1)) (tCB cLenS (tCons (tVar 0) tNil)) (tC (.int 12))))) (tTest (tOp rNotInSign (tOp rIxS (tVar 0) (tC (.int 0))) (tC (.str "abcdefghijklmnopqrstuvwxyz"))))) (tRet (tC (.bl false))) tNext)
    (tRet (tCB (rAll K) (tCons (tLc (iStr (tVar 0)) (gName 1) tYes (tOrV (tOp rInSign (tVar 1) (tC (.str "abcdefghijklmnopqrstuvwxyz"))) (tOp rInSign (tVar 1) (tC (.str "0123456789")))) [1]) tNil))))
def p_is_nameR (C : AD) : PSx :=
    (pSeq (pIfS (pOr (pNot (pTest (pChain (fIB fun i j => decide (i ≤ j)) (fIB fun i j => decide (i ≤ j)) (pC (cI 1)) (pCB gLenS (pCons (pVar 0) pNil)) (pC (cI 12))))) (pTest (pOp (fInSign not) (pOp fIxS (pVar 0) (pC (cI 0))) (pC (cS "abcdefghijklmnopqrstuvwxyz"))))) (pRet (pC (cB false))) pNext)
    (pRet (pCB gAll (pCons (pNewL (pLc (pIS (pVar 0)) (pgName 1) pYes (pOrV (pOp (fInSign id) (pVar 1) (pC (cS "abcdefghijklmnopqrstuvwxyz"))) (pOp (fInSign id) (pVar 1) (pC (cS "0123456789")))) [1])) pNil))))
theorem l_is_nameR (Z : ClsK K C.Route) (B : Fl K C) {s c : Addr} {H0 : Hp} : LS K s c H0 (t_is_nameR K C) (p_is_nameR C) :=
    (S_seq (S_if (L_or (L_not (L_test (L_chain (O_IB fun i j => decide (i ≤ j)) (O_IB fun i j => decide (i ≤ j)) (L_int 1) (L_cb C_lenS (L_cons (L_var 0) L_nil)) (L_int 12)))) (L_test (L_op O_notInSign (L_op O_ixS (L_var 0) (L_int 0)) (L_str "abcdefghijklmnopqrstuvwxyz")))) (S_ret (L_bl false)) S_next)
    (S_ret (L_cb C_all (L_cons (LN.le (L_lc (I_str (L_var 0)) (G_name 1) L_yes (L_orV (L_op O_inSign (L_var 1) (L_str "abcdefghijklmnopqrstuvwxyz")) (L_op O_inSign (L_var 1) (L_str "0123456789"))))) L_nil))))
/-- is_step_name -/
abbrev n_is_step_nameR : List Str := ["text"]
def t_is_step_nameR (K : PySem.W.Frag) (C : AD) : TS :=
    (tRet (tAndV (tCall (up K (q_is_nameR)) [] E0 (tCons (tVar 0) tNil)) (tOp rNe (tVar 0) (tC (.str "frame")))))
def p_is_step_nameR (C : AD) : PSx :=
    (pRet (pAndV (pCall (q_is_nameR) (pCons (pVar 0) pNil)) (pOp (fEq not) (pVar 0) (pC (cS "frame")))))
theorem l_is_step_nameR (Z : ClsK K C.Route) (B : Fl K C) {s c : Addr} {H0 : Hp} : LS K s c H0 (t_is_step_nameR K C) (p_is_step_nameR C) :=
    (S_ret (L_andV (L_call m_is_nameR (L_cons (L_var 0) L_nil)) (L_op O_ne (L_var 0) (L_str "frame"))))
/-- index_rows -/
abbrev n_index_rows : List Str := ["sizes", "rows", "size", "row", "index"]
def t_index_rows (K : PySem.W.Frag) (C : AD) : TS :=
    (tSeq (tAsg (tLst (tCons (tTup tNil) tNil)) (gName 1))
    (tSeq (tFor (iList K (tVar 0)) (gName 2) (tFrzS 1 (tAsg (tLc2 (iList K (tVar 1)) (gName 3) tYes (iRng1 (tCons (tVar 2) tNil)) (gName 4) tYes (tOp (rCatA K) (tVar 3) (tTup (tCons (tVar 4) tNil))) [3, 4] [4]) (gName 1))))
    (tRet (tVar 1))))
def p_index_rows (C : AD) : PSx :=
    (pSeq (pNew (pLst (pCons (pTup pNil) pNil)) 1)
    (pSeq (pFor (pIL (pVar 0)) (pgName 2) (pFrzC 1 (pNew (pLc2 (pIL (pVar 1)) (pgName 3) pYes (pIR (pCons (pVar 2) pNil)) (pgName 4) pYes (pOp fCatA (pVar 3) (pTup (pCons (pVar 4) pNil))) [3, 4] [4]) 1)))
    (pRetL 1)))
theorem l_index_rows (Z : ClsK K C.Route) (B : Fl K C) {s c : Addr} {H0 : Hp} : LS K s c H0 (t_index_rows K C) (p_index_rows C) :=
    (S_seq (S_new 1 (L_lst (L_cons (L_tup L_nil) L_nil)))
    (S_seq (S_for (I_list (L_var 0)) (G_name 2) (S_frzC 1 (S_new 1 (L_lc2 (I_list (L_var 1)) (G_name 3) L_yes (I_rng1 (L_cons (L_var 2) L_nil)) (G_name 4) L_yes (L_op O_catA (L_var 3) (L_tup (L_cons (L_var 4) L_nil)))))))
    (S_retL 1)))
/-- Route.__init__ -/
abbrev n_Route_init : List Str := ["self", "steps", "seen", "step"]
def t_Route_init (K : PySem.W.Frag) (C : AD) (W : WX) : TS :=
    (tSeq (sFld K (tVar 0) (tFrz (tCB (cList K) (tCons (tVar 1) tNil))) "_steps")
    (tSeq (tAsg tDNewK (gName 2))
    (tFor (iList K (tFldR K (tVar 0) "_steps")) (gName 3) (tSeq (tIfS (tNot (tB (tCall (up K (q_is_step_nameR)) [] E0 (tCons (tOp (rIxT K) (tVar 3) (tC (.int 1))) tNil)))) (tRaise (tMkO C.BadName (sp_exc1 C.BadName "name") [] (tCons (tOp (rIxT K) (tVar 3) (tC (.int 1))) tNil)) W) tNext)
    (tSeq (tIfS (tB (tDIn (tOp (rIxT K) (tVar 3) (tC (.int 1))) (tVar 2))) (tRaise (tMkO C.NameTaken (sp_exc1 C.NameTaken "name") [] (tCons (tOp (rIxT K) (tVar 3) (tC (.int 1))) tNil)) W) tNext)
    (tSeq (tIfS (tAnd (tTest (tOp rEq (tOp (rIxT K) (tVar 3) (tC (.int 0))) (tC (.str "measure")))) (tTest (tOp rGtI (tOp (rIxT K) (tVar 3) (tC (.int 2))) (tOp (rIxT K) (tVar 3) (tC (.int 3)))))) (tRaise (tMkO C.BadEnds (sp_exc2 C.BadEnds "low" "high") [] (tCons (tOp (rIxT K) (tVar 3) (tC (.int 2))) (tCons (tOp (rIxT K) (tVar 3) (tC (.int 3))) tNil))) W) tNext)
    (sDPut (tVar 2) (tOp (rIxT K) (tVar 3) (tC (.int 1))) (tC (.bl true)))))))))
def p_Route_init (C : AD) : PSXx :=
    (pSeqX (pLiftX (pSelf C.Route 0 "_steps" (pFrz (pCBN gList (pCons (pVar 1) pNil)))))
    (pSeqX (pLiftX (pNewD pDNil 2))
    (pForX (pIL (pFld C.Route "_steps" (pVar 0))) (pgName 3) (pSeqX (pIfX (pNot (pTest (pCall (q_is_step_nameR) (pCons (pOp fIxT (pVar 3) (pC (cI 1))) pNil)))) (pRaise (pMkE1 C.BadName "name" (pOp fIxT (pVar 3) (pC (cI 1))))) (pLiftX pNext))
    (pSeqX (pIfX (pTest (pDIn id (pOp fIxT (pVar 3) (pC (cI 1))) (pVar 2))) (pRaise (pMkE1 C.NameTaken "name" (pOp fIxT (pVar 3) (pC (cI 1))))) (pLiftX pNext))
    (pSeqX (pIfX (pAnd (pTest (pOp (fEq id) (pOp fIxT (pVar 3) (pC (cI 0))) (pC (cS "measure")))) (pTest (pOp (fIB fun i j => decide (j < i)) (pOp fIxT (pVar 3) (pC (cI 2))) (pOp fIxT (pVar 3) (pC (cI 3)))))) (pRaise (pMkE2 C.BadEnds "low" "high" (pOp fIxT (pVar 3) (pC (cI 2))) (pOp fIxT (pVar 3) (pC (cI 3))))) (pLiftX pNext))
    (pLiftX (pDPutK 2 (pOp fIxT (pVar 3) (pC (cI 1))) (pC (cB true))))))))))
theorem l_Route_init (Z : ClsK K C.Route) (B : Fl K C) {s c : Addr} {H0 : Hp} : LSX K s c H0 (t_Route_init K C) (p_Route_init C) :=
    (X_seq (X_liftX (S_self 0 Z.cls B.n_steps (LN.frz (L_cbn C_list (L_cons (L_var 1) L_nil)))))
    (X_seq (X_liftX (S_newD 2 L_dnewK))
    (X_for (I_list (L_fld Z.cls B.n_steps (L_var 0))) (G_name 3) (X_seq (X_if (L_not (L_b (L_call m_is_step_nameR (L_cons (L_op O_ixT (L_var 3) (L_int 1)) L_nil)))) (X_raise (L_mkE1 (L_op O_ixT (L_var 3) (L_int 1)))) (X_liftX S_next))
    (X_seq (X_if (L_b (L_din (L_op O_ixT (L_var 3) (L_int 1)) (L_var 2))) (X_raise (L_mkE1 (L_op O_ixT (L_var 3) (L_int 1)))) (X_liftX S_next))
    (X_seq (X_if (L_and (L_test (L_op O_eq (L_op O_ixT (L_var 3) (L_int 0)) (L_str "measure"))) (L_test (L_op (O_IB fun i j => decide (j < i)) (L_op O_ixT (L_var 3) (L_int 2)) (L_op O_ixT (L_var 3) (L_int 3))))) (X_raise (L_mkE2 (L_op O_ixT (L_var 3) (L_int 2)) (L_op O_ixT (L_var 3) (L_int 3)))) (X_liftX S_next))
    (X_liftX (S_dputK 2 (L_op O_ixT (L_var 3) (L_int 1)) (L_bl true)))))))))
/-- Route.steps -/
abbrev n_Route_steps : List Str := ["self"]
def t_Route_steps (K : PySem.W.Frag) (C : AD) : TS :=
    (tRet (tCB (cList K) (tCons (tFldR K (tVar 0) "_steps") tNil)))
def p_Route_steps (C : AD) : PSx :=
    (pRetNw (pCBN gList (pCons (pFld C.Route "_steps" (pVar 0)) pNil)))
theorem l_Route_steps (Z : ClsK K C.Route) (B : Fl K C) {s c : Addr} {H0 : Hp} : LS K s c H0 (t_Route_steps K C) (p_Route_steps C) :=
    (S_retNw (L_cbn C_list (L_cons (L_fld Z.cls B.n_steps (L_var 0)) L_nil)))
/-- Route.widened -/
abbrev n_Route_widened : List Str := ["self", "by", "steps", "step"]
def t_Route_widened (K : PySem.W.Frag) (C : AD) (W : WX) : TS :=
    (tSeq (tIfS (tTest (tOp rLtI (tVar 1) (tC (.int 0)))) (tRaise (tMkO C.BadWidening (sp_exc1 C.BadWidening "by") [] (tCons (tVar 1) tNil)) W) tNext)
    (tSeq (tAsg (tLst tNil) (gName 2))
    (tSeq (tFor (iList K (tFldR K (tVar 0) "_steps")) (gName 3) (tIfS (tTest (tOp rEq (tOp (rIxT K) (tVar 3) (tC (.int 0))) (tC (.str "measure")))) (tDrop (tBM K "list" rAppend (tVar 2) (tCons (tTup (tCons (tC (.str "measure")) (tCons (tOp (rIxT K) (tVar 3) (tC (.int 1))) (tCons (tOp rSubI (tOp (rIxT K) (tVar 3) (tC (.int 2))) (tVar 1)) (tCons (tOp rAddI (tOp (rIxT K) (tVar 3) (tC (.int 3))) (tVar 1)) tNil))))) tNil))) (tDrop (tBM K "list" rAppend (tVar 2) (tCons (tVar 3) tNil)))))
    (tRet (tFrz (tMakeS C.Route (upIC K C.Route (q_Route_init C)) (WE W) (tCons (tVar 2) tNil)))))))
def p_Route_widened (C : AD) : PSXx :=
    (pSeqX (pIfX (pTest (pOp (fIB fun i j => decide (i < j)) (pVar 1) (pC (cI 0)))) (pRaise (pMkE1 C.BadWidening "by" (pVar 1))) (pLiftX pNext))
    (pSeqX (pLiftX (pNew (pLst pNil) 2))
    (pSeqX (pLiftX (pFor (pIL (pFld C.Route "_steps" (pVar 0))) (pgName 3) (pIfS (pTest (pOp (fEq id) (pOp fIxT (pVar 3) (pC (cI 0))) (pC (cS "measure")))) (pApp 2 (pTup (pCons (pC (cS "measure")) (pCons (pOp fIxT (pVar 3) (pC (cI 1))) (pCons (pOp (fI fun i j => i - j) (pOp fIxT (pVar 3) (pC (cI 2))) (pVar 1)) (pCons (pOp (fI fun i j => i + j) (pOp fIxT (pVar 3) (pC (cI 3))) (pVar 1)) pNil)))))) (pApp 2 (pVar 3)))))
    (pRetX (pMakeC C.Route (q_Route_init C) (pCons (pVar 2) pNil))))))
theorem l_Route_widened (Z : ClsK K C.Route) (B : Fl K C) {s c : Addr} {H0 : Hp} : LSX K s c H0 (t_Route_widened K C) (p_Route_widened C) :=
    (X_seq (X_if (L_test (L_op (O_IB fun i j => decide (i < j)) (L_var 1) (L_int 0))) (X_raise (L_mkE1 (L_var 1))) (X_liftX S_next))
    (X_seq (X_liftX (S_new 2 (L_lst L_nil)))
    (X_seq (X_liftX (S_for (I_list (L_fld Z.cls B.n_steps (L_var 0))) (G_name 3) (S_if (L_test (L_op O_eq (L_op O_ixT (L_var 3) (L_int 0)) (L_str "measure"))) (S_app 2 (L_tup (L_cons (L_str "measure") (L_cons (L_op O_ixT (L_var 3) (L_int 1)) (L_cons (L_op (O_I fun i j => i - j) (L_op O_ixT (L_var 3) (L_int 2)) (L_var 1)) (L_cons (L_op (O_I fun i j => i + j) (L_op O_ixT (L_var 3) (L_int 3)) (L_var 1)) L_nil)))))) (S_app 2 (L_var 3)))))
    (X_ret (L_makeC m_Route_init (L_cons (L_var 2) L_nil))))))
/-- Route.moved -/
abbrev n_Route_moved : List Str := ["self", "name", "to", "found", "others", "step"]
def t_Route_moved (K : PySem.W.Frag) (C : AD) (W : WX) : TS :=
    (tSeq (tAsg (tLc (iList K (tFldR K (tVar 0) "_steps")) (gName 5) (tAnd (tTest (tOp rEq (tOp (rIxT K) (tVar 5) (tC (.int 1))) (tVar 1))) (tTest (tOp rNe (tOp (rIxT K) (tVar 5) (tC (.int 0))) (tC (.str "part"))))) (tVar 5) [5]) (gName 3))
    (tSeq (tIfS (tTest (tOp rEq (tCB (cLenQ K) (tCons (tVar 3) tNil)) (tC (.int 0)))) (tRaise (tMkO C.UnknownName (sp_exc1 C.UnknownName "name") [] (tCons (tVar 1) tNil)) W) tNext)
    (tSeq (tIfS (tNot (tTest (tChain rLeI rLtI (tC (.int 0)) (tVar 2) (tCB (cLenQ K) (tCons (tFldR K (tVar 0) "_steps") tNil))))) (tRaise (tMkO C.BadPosition (sp_exc1 C.BadPosition "to") [] (tCons (tVar 2) tNil)) W) tNext)
    (tSeq (tAsg (tLc (iList K (tFldR K (tVar 0) "_steps")) (gName 5) (tTest (tOp rNe (tOp (rIxT K) (tVar 5) (tC (.int 1))) (tVar 1))) (tVar 5) [5]) (gName 4))
    (tRet (tFrz (tMakeS C.Route (upIC K C.Route (q_Route_init C)) (WE W) (tCons (tOp rCat (tOp rCat (tSl (rSlL K) (tVar 4) tNoPart (tPart (tVar 2))) (tVar 3)) (tSl (rSlL K) (tVar 4) (tPart (tVar 2)) tNoPart)) tNil))))))))
def p_Route_moved (C : AD) : PSXx :=
    (pSeqX (pLiftX (pNew (pLc (pIL (pFld C.Route "_steps" (pVar 0))) (pgName 5) (pAnd (pTest (pOp (fEq id) (pOp fIxT (pVar 5) (pC (cI 1))) (pVar 1))) (pTest (pOp (fEq not) (pOp fIxT (pVar 5) (pC (cI 0))) (pC (cS "part"))))) (pVar 5) [5]) 3))
    (pSeqX (pIfX (pTest (pOp (fEq id) (pCB gLenQ (pCons (pVar 3) pNil)) (pC (cI 0)))) (pRaise (pMkE1 C.UnknownName "name" (pVar 1))) (pLiftX pNext))
    (pSeqX (pIfX (pNot (pTest (pChain (fIB fun i j => decide (i ≤ j)) (fIB fun i j => decide (i < j)) (pC (cI 0)) (pVar 2) (pCB gLenQ (pCons (pFld C.Route "_steps" (pVar 0)) pNil))))) (pRaise (pMkE1 C.BadPosition "to" (pVar 2))) (pLiftX pNext))
    (pSeqX (pLiftX (pNew (pLc (pIL (pFld C.Route "_steps" (pVar 0))) (pgName 5) (pTest (pOp (fEq not) (pOp fIxT (pVar 5) (pC (cI 1))) (pVar 1))) (pVar 5) [5]) 4))
    (pRetX (pMakeC C.Route (q_Route_init C) (pCons (pNewL (pOpN fCat (pNewL (pOpN fCat (pNewL (pSlL (pVar 4) pNoPart (pPart (pVar 2)))) (pVar 3))) (pNewL (pSlL (pVar 4) (pPart (pVar 2)) pNoPart)))) pNil)))))))
theorem l_Route_moved (Z : ClsK K C.Route) (B : Fl K C) {s c : Addr} {H0 : Hp} : LSX K s c H0 (t_Route_moved K C) (p_Route_moved C) :=
    (X_seq (X_liftX (S_new 3 (L_lc (I_list (L_fld Z.cls B.n_steps (L_var 0))) (G_name 5) (L_and (L_test (L_op O_eq (L_op O_ixT (L_var 5) (L_int 1)) (L_var 1))) (L_test (L_op O_ne (L_op O_ixT (L_var 5) (L_int 0)) (L_str "part")))) (L_var 5))))
    (X_seq (X_if (L_test (L_op O_eq (L_cb C_lenQ (L_cons (L_var 3) L_nil)) (L_int 0))) (X_raise (L_mkE1 (L_var 1))) (X_liftX S_next))
    (X_seq (X_if (L_not (L_test (L_chain (O_IB fun i j => decide (i ≤ j)) (O_IB fun i j => decide (i < j)) (L_int 0) (L_var 2) (L_cb C_lenQ (L_cons (L_fld Z.cls B.n_steps (L_var 0)) L_nil))))) (X_raise (L_mkE1 (L_var 2))) (X_liftX S_next))
    (X_seq (X_liftX (S_new 4 (L_lc (I_list (L_fld Z.cls B.n_steps (L_var 0))) (G_name 5) (L_test (L_op O_ne (L_op O_ixT (L_var 5) (L_int 1)) (L_var 1))) (L_var 5))))
    (X_ret (L_makeC m_Route_init (L_cons (LN.le (L_opN O_cat (LN.le (L_opN O_cat (LN.le (L_slL (L_var 4) L_noPart (L_part (L_var 2)))) (L_var 3))) (LN.le (L_slL (L_var 4) (L_part (L_var 2)) L_noPart)))) L_nil)))))))
/-- Route.late_steps -/
abbrev n_Route_late_steps : List Str := ["self", "step"]
def t_Route_late_steps (K : PySem.W.Frag) (C : AD) : TS :=
    (tRet (tFrz (tLc (iList K (tFldR K (tVar 0) "_steps")) (gName 1) (tTest (tOp rEq (tOp (rIxT K) (tVar 1) (tC (.int 0))) (tC (.str "late")))) (tVar 1) [1])))
def p_Route_late_steps (C : AD) : PSx :=
    (pRet (pFrz (pLc (pIL (pFld C.Route "_steps" (pVar 0))) (pgName 1) (pTest (pOp (fEq id) (pOp fIxT (pVar 1) (pC (cI 0))) (pC (cS "late")))) (pVar 1) [1])))
theorem l_Route_late_steps (Z : ClsK K C.Route) (B : Fl K C) {s c : Addr} {H0 : Hp} : LS K s c H0 (t_Route_late_steps K C) (p_Route_late_steps C) :=
    (S_ret (LN.frz (L_lc (I_list (L_fld Z.cls B.n_steps (L_var 0))) (G_name 1) (L_test (L_op O_eq (L_op O_ixT (L_var 1) (L_int 0)) (L_str "late"))) (L_var 1))))
/-- Route.late_rows -/
abbrev n_Route_late_rows : List Str := ["self", "step"]
def t_Route_late_rows (K : PySem.W.Frag) (C : AD) : TS :=
    (tRet (tCall (upL K (q_index_rows)) [] E0 (tCons (tFrz (tLc (iList K (tMethR C.Route "late_steps" (up K (q_Route_late_steps C)) (tVar 0) tNil)) (gName 1) tYes (tCB (cLenQ K) (tCons (tOp (rIxT K) (tVar 1) (tC (.int 2))) tNil)) [1])) tNil)))
def p_Route_late_rows (C : AD) : PSx :=
    (pRetNw (pCallL (q_index_rows) (pCons (pFrz (pLc (pIL (pMeth C.Route "late_steps" (q_Route_late_steps C) (pVar 0) pNil)) (pgName 1) pYes (pCB gLenQ (pCons (pOp fIxT (pVar 1) (pC (cI 2))) pNil)) [1])) pNil)))
theorem l_Route_late_rows (Z : ClsK K C.Route) (B : Fl K C) {s c : Addr} {H0 : Hp} : LS K s c H0 (t_Route_late_rows K C) (p_Route_late_rows C) :=
    (S_retNw (L_callL m_index_rows (L_cons (LN.frz (L_lc (I_list (L_meth m_Route_late_steps (L_var 0) L_nil)) (G_name 1) L_yes (L_cb C_lenQ (L_cons (L_op O_ixT (L_var 1) (L_int 2)) L_nil)))) L_nil)))
/-- Route.late_run -/
abbrev n_Route_late_run : List Str := ["self", "row", "steps", "step", "option"]
def t_Route_late_run (K : PySem.W.Frag) (C : AD) : TS :=
    (tSeq (tAsg (tLst tNil) (gName 2))
    (tSeq (tFor (iZipM K (tCons (tMethR C.Route "late_steps" (up K (q_Route_late_steps C)) (tVar 0) tNil) (tCons (tVar 1) tNil))) (gTup K 2 (gCons (gName 3) (gCons (gName 4) gNil))) (tDrop (tBM K "list" (rExtT K) (tVar 2) (tCons (tOp (rIxT K) (tOp (rIxT K) (tVar 3) (tC (.int 2))) (tVar 4)) tNil))))
    (tRet (tCB (cTuple K) (tCons (tVar 2) tNil)))))
def p_Route_late_run (C : AD) : PSx :=
    (pSeq (pNew (pLst pNil) 2)
    (pSeq (pFor (pIZM (pCons (pMeth C.Route "late_steps" (q_Route_late_steps C) (pVar 0) pNil) (pCons (pVar 1) pNil))) (pgTup (pgCons (pgName 3) (pgCons (pgName 4) pgNil))) (pExt 2 (pOp fIxT (pOp fIxT (pVar 3) (pC (cI 2))) (pVar 4))))
    (pRet (pCB gTuple (pCons (pVar 2) pNil)))))
theorem l_Route_late_run (Z : ClsK K C.Route) (B : Fl K C) {s c : Addr} {H0 : Hp} : LS K s c H0 (t_Route_late_run K C) (p_Route_late_run C) :=
    (S_seq (S_new 2 (L_lst L_nil))
    (S_seq (S_for (I_zipM (L_cons (L_meth m_Route_late_steps (L_var 0) L_nil) (L_cons (L_var 1) L_nil))) (G_tup (G_cons (G_name 3) (G_cons (G_name 4) G_nil)) (fun _ _ _ h => glen_cons (fun _ _ _ h => glen_cons (fun _ _ _ h => glen_nil h) (name_some 4) h) (name_some 3) h)) (S_ext 2 (L_op O_ixT (L_op O_ixT (L_var 3) (L_int 2)) (L_var 4))))
    (S_ret (L_cb C_tuple (L_cons (L_var 2) L_nil)))))
/-- _law_pick -/
abbrev n_law_pick : List Str := ["_law_draws", "_law_rows_here"]
def t_law_pick (K : PySem.W.Frag) (C : AD) : TS :=
    (tRet (tOp (rIxL K) (tVar 1) (tCall (up K (q_law_take)) [] E0 (tCons (tVar 0) (tCons (tCB (cLenQ K) (tCons (tVar 1) tNil)) tNil)))))
def p_law_pick (C : AD) : PSx :=
    (pRet (pOp fIxL (pVar 1) (pCall (q_law_take) (pCons (pVar 0) (pCons (pCB gLenQ (pCons (pVar 1) pNil)) pNil)))))
theorem l_law_pick (Z : ClsK K C.Route) (B : Fl K C) {s c : Addr} {H0 : Hp} : LS K s c H0 (t_law_pick K C) (p_law_pick C) :=
    (S_ret (L_op O_ixL (L_var 1) (L_call m_law_take (L_cons (L_var 0) (L_cons (L_cb C_lenQ (L_cons (L_var 1) L_nil)) L_nil)))))
/-- _law_fresh -/
abbrev n_law_fresh : List Str := ["_law_draws", "_law_names", "_law_signs", "_law_word", "_law_k", "_law_old", "_law_place"]
def t_law_fresh (K : PySem.W.Frag) (C : AD) : TS :=
    (tSeq (tAsg (tC (.str "abcdefghijklmnopqrstuvwxyz0123456789")) (gName 2))
    (tSeq (tAsg (tOp rIxS (tVar 2) (tCall (up K (q_law_take)) [] E0 (tCons (tVar 0) (tCons (tC (.int 26)) tNil)))) (gName 3))
    (tSeq (tIfS (tAnd (tTest (tOp rGtI (tCB (cLenQ K) (tCons (tVar 1) tNil)) (tC (.int 0)))) (tTest (tOp rEq (tCall (up K (q_law_take)) [] E0 (tCons (tVar 0) (tCons (tC (.int 3)) tNil))) (tC (.int 0))))) (tSeq (tAsg (tCall (upC K (q_law_pick)) [] E0 (tCons (tVar 0) (tCons (tVar 1) tNil))) (gName 5))
    (tSeq (tAsg (tCall (up K (q_law_take)) [] E0 (tCons (tVar 0) (tCons (tCB cLenS (tCons (tVar 5) tNil)) tNil))) (gName 6))
    (tAsg (tOp rCatS (tOp rCatS (tSl rSlS (tVar 5) tNoPart (tPart (tVar 6))) (tOp rIxS (tVar 2) (tCall (up K (q_law_take)) [] E0 (tCons (tVar 0) (tCons (tC (.int 26)) tNil))))) (tSl rSlS (tVar 5) (tPart (tOp rAddI (tVar 6) (tC (.int 1)))) tNoPart)) (gName 3)))) (tFor (iRng1 (tCons (tCall (upC K (q_law_pick)) [] E0 (tCons (tVar 0) (tCons (tLst (tCons (tC (.int 0)) (tCons (tC (.int 0)) (tCons (tC (.int 1)) (tCons (tC (.int 2)) (tCons (tC (.int 3)) (tCons (tC (.int 11)) tNil))))))) tNil))) tNil)) (gName 4) (tAsg (tOp rCatS (tVar 3) (tOp rIxS (tVar 2) (tCall (up K (q_law_take)) [] E0 (tCons (tVar 0) (tCons (tC (.int 36)) tNil))))) (gName 3))))
    (tSeq (tFor (iRng1 (tCons (tOp rAddI (tCB (cLenQ K) (tCons (tVar 1) tNil)) (tC (.int 1))) tNil)) (gName 4) (tSeq (tIfS (tAnd (tTest (tOp (rIn K true) (tVar 3) (tVar 1))) (tTest (tOp rNe (tVar 3) (tC (.str "frame"))))) (tRet (tVar 3)) tNext)
    (tAsg (tOp rCatS (tC (.str "n")) (tCB cStrI (tCons (tVar 4) tNil))) (gName 3))))
    (tRet (tVar 3))))))
def p_law_fresh (C : AD) : PSx :=
    (pSeq (pAsg (pC (cS "abcdefghijklmnopqrstuvwxyz0123456789")) (pgName 2))
    (pSeq (pAsg (pOp fIxS (pVar 2) (pCall (q_law_take) (pCons (pVar 0) (pCons (pC (cI 26)) pNil)))) (pgName 3))
    (pSeq (pIfS (pAnd (pTest (pOp (fIB fun i j => decide (j < i)) (pCB gLenQ (pCons (pVar 1) pNil)) (pC (cI 0)))) (pTest (pOp (fEq id) (pCall (q_law_take) (pCons (pVar 0) (pCons (pC (cI 3)) pNil))) (pC (cI 0))))) (pSeq (pAsg (pCallC (q_law_pick) (pCons (pVar 0) (pCons (pVar 1) pNil))) (pgName 5))
    (pSeq (pAsg (pCall (q_law_take) (pCons (pVar 0) (pCons (pCB gLenS (pCons (pVar 5) pNil)) pNil))) (pgName 6))
    (pAsg (pOp fCatS (pOp fCatS (pSlS (pVar 5) pNoPart (pPart (pVar 6))) (pOp fIxS (pVar 2) (pCall (q_law_take) (pCons (pVar 0) (pCons (pC (cI 26)) pNil))))) (pSlS (pVar 5) (pPart (pOp (fI fun i j => i + j) (pVar 6) (pC (cI 1)))) pNoPart)) (pgName 3)))) (pFor (pIR (pCons (pCallC (q_law_pick) (pCons (pVar 0) (pCons (pNewL (pLst (pCons (pC (cI 0)) (pCons (pC (cI 0)) (pCons (pC (cI 1)) (pCons (pC (cI 2)) (pCons (pC (cI 3)) (pCons (pC (cI 11)) pNil)))))))) pNil))) pNil)) (pgName 4) (pAsg (pOp fCatS (pVar 3) (pOp fIxS (pVar 2) (pCall (q_law_take) (pCons (pVar 0) (pCons (pC (cI 36)) pNil))))) (pgName 3))))
    (pSeq (pFor (pIR (pCons (pOp (fI fun i j => i + j) (pCB gLenQ (pCons (pVar 1) pNil)) (pC (cI 1))) pNil)) (pgName 4) (pSeq (pIfS (pAnd (pTest (pOp (fInS not) (pVar 3) (pVar 1))) (pTest (pOp (fEq not) (pVar 3) (pC (cS "frame"))))) (pRet (pVar 3)) pNext)
    (pAsg (pOp fCatS (pC (cS "n")) (pCB gStrI (pCons (pVar 4) pNil))) (pgName 3))))
    (pRet (pVar 3))))))
theorem l_law_fresh (Z : ClsK K C.Route) (B : Fl K C) {s c : Addr} {H0 : Hp} : LS K s c H0 (t_law_fresh K C) (p_law_fresh C) :=
    (S_seq (S_asg (L_str "abcdefghijklmnopqrstuvwxyz0123456789") (G_name 2))
    (S_seq (S_asg (L_op O_ixS (L_var 2) (L_call m_law_take (L_cons (L_var 0) (L_cons (L_int 26) L_nil)))) (G_name 3))
    (S_seq (S_if (L_and (L_test (L_op (O_IB fun i j => decide (j < i)) (L_cb C_lenQ (L_cons (L_var 1) L_nil)) (L_int 0))) (L_test (L_op O_eq (L_call m_law_take (L_cons (L_var 0) (L_cons (L_int 3) L_nil))) (L_int 0)))) (S_seq (S_asg (L_callC m_law_pick (L_cons (L_var 0) (L_cons (L_var 1) L_nil))) (G_name 5))
    (S_seq (S_asg (L_call m_law_take (L_cons (L_var 0) (L_cons (L_cb C_lenS (L_cons (L_var 5) L_nil)) L_nil))) (G_name 6))
    (S_asg (L_op O_catS (L_op O_catS (L_slS (L_var 5) L_noPart (L_part (L_var 6))) (L_op O_ixS (L_var 2) (L_call m_law_take (L_cons (L_var 0) (L_cons (L_int 26) L_nil))))) (L_slS (L_var 5) (L_part (L_op (O_I fun i j => i + j) (L_var 6) (L_int 1))) L_noPart)) (G_name 3)))) (S_for (I_rng1 (L_cons (L_callC m_law_pick (L_cons (L_var 0) (L_cons (LN.le (L_lst (L_cons (L_int 0) (L_cons (L_int 0) (L_cons (L_int 1) (L_cons (L_int 2) (L_cons (L_int 3) (L_cons (L_int 11) L_nil)))))))) L_nil))) L_nil)) (G_name 4) (S_asg (L_op O_catS (L_var 3) (L_op O_ixS (L_var 2) (L_call m_law_take (L_cons (L_var 0) (L_cons (L_int 36) L_nil))))) (G_name 3))))
    (S_seq (S_for (I_rng1 (L_cons (L_op (O_I fun i j => i + j) (L_cb C_lenQ (L_cons (L_var 1) L_nil)) (L_int 1)) L_nil)) (G_name 4) (S_seq (S_if (L_and (L_test (L_op O_notInS (L_var 3) (L_var 1))) (L_test (L_op O_ne (L_var 3) (L_str "frame")))) (S_ret (L_var 3)) S_next)
    (S_asg (L_op O_catS (L_str "n") (L_cb C_strI (L_cons (L_var 4) L_nil))) (G_name 3))))
    (S_ret (L_var 3))))))
/-- _law_number -/
abbrev n_law_number : List Str := ["_law_draws", "_law_digit"]
def t_law_number (K : PySem.W.Frag) (C : AD) : TS :=
    (tSeq (tAsg (tCall (up K (q_law_take)) [] E0 (tCons (tVar 0) (tCons (tC (.int 24)) tNil))) (gName 1))
    (tSeq (tIfS (tTest (tOp rLtI (tVar 1) (tC (.int 2)))) (tRet (tOp (rI CMulW fun i j => .int (i * j)) (tOp rSubI (tOp (rI CMulW fun i j => .int (i * j)) (tC (.int 2)) (tVar 1)) (tC (.int 1))) (tOp rSubI (tOp rSubI (tOp rPowI (tC (.int 10)) (tC (.int 60))) (tC (.int 1))) (tCall (up K (q_law_take)) [] E0 (tCons (tVar 0) (tCons (tC (.int 3)) tNil)))))) tNext)
    (tSeq (tIfS (tTest (tOp rLtI (tVar 1) (tC (.int 6)))) (tRet (tOp rSubI (tCall (up K (q_law_take)) [] E0 (tCons (tVar 0) (tCons (tC (.int 2001)) tNil))) (tC (.int 1000)))) tNext)
    (tRet (tOp rSubI (tCall (up K (q_law_take)) [] E0 (tCons (tVar 0) (tCons (tC (.int 9)) tNil))) (tC (.int 4)))))))
def p_law_number (C : AD) : PSx :=
    (pSeq (pAsg (pCall (q_law_take) (pCons (pVar 0) (pCons (pC (cI 24)) pNil))) (pgName 1))
    (pSeq (pIfS (pTest (pOp (fIB fun i j => decide (i < j)) (pVar 1) (pC (cI 2)))) (pRet (pOp (fIC CMulW fun i j => i * j) (pOp (fI fun i j => i - j) (pOp (fIC CMulW fun i j => i * j) (pC (cI 2)) (pVar 1)) (pC (cI 1))) (pOp (fI fun i j => i - j) (pOp (fI fun i j => i - j) (pOp (fIC CPow fun i j => i ^ j.toNat) (pC (cI 10)) (pC (cI 60))) (pC (cI 1))) (pCall (q_law_take) (pCons (pVar 0) (pCons (pC (cI 3)) pNil)))))) pNext)
    (pSeq (pIfS (pTest (pOp (fIB fun i j => decide (i < j)) (pVar 1) (pC (cI 6)))) (pRet (pOp (fI fun i j => i - j) (pCall (q_law_take) (pCons (pVar 0) (pCons (pC (cI 2001)) pNil))) (pC (cI 1000)))) pNext)
    (pRet (pOp (fI fun i j => i - j) (pCall (q_law_take) (pCons (pVar 0) (pCons (pC (cI 9)) pNil))) (pC (cI 4)))))))
theorem l_law_number (Z : ClsK K C.Route) (B : Fl K C) {s c : Addr} {H0 : Hp} : LS K s c H0 (t_law_number K C) (p_law_number C) :=
    (S_seq (S_asg (L_call m_law_take (L_cons (L_var 0) (L_cons (L_int 24) L_nil))) (G_name 1))
    (S_seq (S_if (L_test (L_op (O_IB fun i j => decide (i < j)) (L_var 1) (L_int 2))) (S_ret (L_op (O_IC CMulW fun i j => i * j) (L_op (O_I fun i j => i - j) (L_op (O_IC CMulW fun i j => i * j) (L_int 2) (L_var 1)) (L_int 1)) (L_op (O_I fun i j => i - j) (L_op (O_I fun i j => i - j) (L_op (O_IC CPow fun i j => i ^ j.toNat) (L_int 10) (L_int 60)) (L_int 1)) (L_call m_law_take (L_cons (L_var 0) (L_cons (L_int 3) L_nil)))))) S_next)
    (S_seq (S_if (L_test (L_op (O_IB fun i j => decide (i < j)) (L_var 1) (L_int 6))) (S_ret (L_op (O_I fun i j => i - j) (L_call m_law_take (L_cons (L_var 0) (L_cons (L_int 2001) L_nil))) (L_int 1000))) S_next)
    (S_ret (L_op (O_I fun i j => i - j) (L_call m_law_take (L_cons (L_var 0) (L_cons (L_int 9) L_nil))) (L_int 4))))))
/-- _law_measure -/
abbrev n_law_measure : List Str := ["_law_draws", "_law_name", "_law_low_end", "_law_high_end"]
def t_law_measure (K : PySem.W.Frag) (C : AD) : TS :=
    (tSeq (tAsg (tCall (up K (q_law_number)) [] E0 (tCons (tVar 0) tNil)) (gName 2))
    (tSeq (tAsg (tOp rAddI (tVar 2) (tCall (upC K (q_law_pick)) [] E0 (tCons (tVar 0) (tCons (tLst (tCons (tC (.int 2)) (tCons (tC (.int 0)) (tCons (tC (.int 0)) (tCons (tC (.int 1)) (tCons (tC (.int 5)) (tCons (tC (.int 1000)) tNil))))))) tNil)))) (gName 3))
    (tSeq (tIfS (tOr (tTest (tOp rGeI (tVar 3) (tOp rPowI (tC (.int 10)) (tC (.int 60))))) (tTest (tOp rEq (tCall (up K (q_law_take)) [] E0 (tCons (tVar 0) (tCons (tC (.int 12)) tNil))) (tC (.int 0))))) (tAsg (tOp rSubI (tOp rPowI (tC (.int 10)) (tC (.int 60))) (tC (.int 1))) (gName 3)) tNext)
    (tRet (tTup (tCons (tC (.str "measure")) (tCons (tVar 1) (tCons (tVar 2) (tCons (tVar 3) tNil)))))))))
def p_law_measure (C : AD) : PSx :=
    (pSeq (pAsg (pCall (q_law_number) (pCons (pVar 0) pNil)) (pgName 2))
    (pSeq (pAsg (pOp (fI fun i j => i + j) (pVar 2) (pCallC (q_law_pick) (pCons (pVar 0) (pCons (pNewL (pLst (pCons (pC (cI 2)) (pCons (pC (cI 0)) (pCons (pC (cI 0)) (pCons (pC (cI 1)) (pCons (pC (cI 5)) (pCons (pC (cI 1000)) pNil)))))))) pNil)))) (pgName 3))
    (pSeq (pIfS (pOr (pTest (pOp (fIB fun i j => decide (j ≤ i)) (pVar 3) (pOp (fIC CPow fun i j => i ^ j.toNat) (pC (cI 10)) (pC (cI 60))))) (pTest (pOp (fEq id) (pCall (q_law_take) (pCons (pVar 0) (pCons (pC (cI 12)) pNil))) (pC (cI 0))))) (pAsg (pOp (fI fun i j => i - j) (pOp (fIC CPow fun i j => i ^ j.toNat) (pC (cI 10)) (pC (cI 60))) (pC (cI 1))) (pgName 3)) pNext)
    (pRet (pTup (pCons (pC (cS "measure")) (pCons (pVar 1) (pCons (pVar 2) (pCons (pVar 3) pNil)))))))))
theorem l_law_measure (Z : ClsK K C.Route) (B : Fl K C) {s c : Addr} {H0 : Hp} : LS K s c H0 (t_law_measure K C) (p_law_measure C) :=
    (S_seq (S_asg (L_call m_law_number (L_cons (L_var 0) L_nil)) (G_name 2))
    (S_seq (S_asg (L_op (O_I fun i j => i + j) (L_var 2) (L_callC m_law_pick (L_cons (L_var 0) (L_cons (LN.le (L_lst (L_cons (L_int 2) (L_cons (L_int 0) (L_cons (L_int 0) (L_cons (L_int 1) (L_cons (L_int 5) (L_cons (L_int 1000) L_nil)))))))) L_nil)))) (G_name 3))
    (S_seq (S_if (L_or (L_test (L_op (O_IB fun i j => decide (j ≤ i)) (L_var 3) (L_op (O_IC CPow fun i j => i ^ j.toNat) (L_int 10) (L_int 60)))) (L_test (L_op O_eq (L_call m_law_take (L_cons (L_var 0) (L_cons (L_int 12) L_nil))) (L_int 0)))) (S_asg (L_op (O_I fun i j => i - j) (L_op (O_IC CPow fun i j => i ^ j.toNat) (L_int 10) (L_int 60)) (L_int 1)) (G_name 3)) S_next)
    (S_ret (L_tup (L_cons (L_str "measure") (L_cons (L_var 1) (L_cons (L_var 2) (L_cons (L_var 3) L_nil)))))))))
/-- _law_step -/
abbrev n_law_step : List Str := ["_law_draws", "_law_kind", "_law_name", "_law_options", "_law_k", "_law_steps_here", "_law_turn"]
def t_law_step (K : PySem.W.Frag) (C : AD) : TS :=
    (tSeq (tIfS (tTest (tOp rEq (tVar 1) (tC (.str "part")))) (tRet (tTup (tCons (tC (.str "part")) (tCons (tVar 2) tNil)))) tNext)
    (tSeq (tIfS (tTest (tOp rEq (tVar 1) (tC (.str "measure")))) (tRet (tCall (up K (q_law_measure)) [] E0 (tCons (tVar 0) (tCons (tVar 2) tNil)))) tNext)
    (tSeq (tAsg (tTup tNil) (gName 3))
    (tSeq (tFor (iRng1 (tCons (tOp rAddI (tC (.int 1)) (tCall (up K (q_law_take)) [] E0 (tCons (tVar 0) (tCons (tC (.int 3)) tNil)))) tNil)) (gName 4) (tSeq (tAsg (tTup tNil) (gName 5))
    (tSeq (tFor (iRng1 (tCons (tCall (upC K (q_law_pick)) [] E0 (tCons (tVar 0) (tCons (tLst (tCons (tC (.int 1)) (tCons (tC (.int 0)) (tCons (tC (.int 2)) (tCons (tC (.int 3)) (tCons (tC (.int 4)) tNil)))))) tNil))) tNil)) (gName 6) (tAsg (tOp (rCatA K) (tVar 5) (tTup (tCons (tOp rCatS (tCall (upC K (q_law_pick)) [] E0 (tCons (tVar 0) (tCons (tLst (tCons (tC (.str "+")) (tCons (tC (.str "-")) tNil))) tNil))) (tCall (upC K (q_law_pick)) [] E0 (tCons (tVar 0) (tCons (tLst (tCons (tC (.str "fix")) (tCons (tC (.str "a")) (tCons (tC (.str "cut")) (tCons (tC (.str "x0y1z2a3b4c5")) tNil))))) tNil)))) tNil))) (gName 5)))
    (tAsg (tOp (rCatA K) (tVar 3) (tTup (tCons (tVar 5) tNil))) (gName 3)))))
    (tRet (tTup (tCons (tC (.str "late")) (tCons (tVar 2) (tCons (tVar 3) tNil)))))))))
def p_law_step (C : AD) : PSx :=
    (pSeq (pIfS (pTest (pOp (fEq id) (pVar 1) (pC (cS "part")))) (pRet (pTup (pCons (pC (cS "part")) (pCons (pVar 2) pNil)))) pNext)
    (pSeq (pIfS (pTest (pOp (fEq id) (pVar 1) (pC (cS "measure")))) (pRet (pCall (q_law_measure) (pCons (pVar 0) (pCons (pVar 2) pNil)))) pNext)
    (pSeq (pAsg (pTup pNil) (pgName 3))
    (pSeq (pFor (pIR (pCons (pOp (fI fun i j => i + j) (pC (cI 1)) (pCall (q_law_take) (pCons (pVar 0) (pCons (pC (cI 3)) pNil)))) pNil)) (pgName 4) (pSeq (pAsg (pTup pNil) (pgName 5))
    (pSeq (pFor (pIR (pCons (pCallC (q_law_pick) (pCons (pVar 0) (pCons (pNewL (pLst (pCons (pC (cI 1)) (pCons (pC (cI 0)) (pCons (pC (cI 2)) (pCons (pC (cI 3)) (pCons (pC (cI 4)) pNil))))))) pNil))) pNil)) (pgName 6) (pAsg (pOp fCatA (pVar 5) (pTup (pCons (pOp fCatS (pCallC (q_law_pick) (pCons (pVar 0) (pCons (pNewL (pLst (pCons (pC (cS "+")) (pCons (pC (cS "-")) pNil)))) pNil))) (pCallC (q_law_pick) (pCons (pVar 0) (pCons (pNewL (pLst (pCons (pC (cS "fix")) (pCons (pC (cS "a")) (pCons (pC (cS "cut")) (pCons (pC (cS "x0y1z2a3b4c5")) pNil)))))) pNil)))) pNil))) (pgName 5)))
    (pAsg (pOp fCatA (pVar 3) (pTup (pCons (pVar 5) pNil))) (pgName 3)))))
    (pRet (pTup (pCons (pC (cS "late")) (pCons (pVar 2) (pCons (pVar 3) pNil)))))))))
theorem l_law_step (Z : ClsK K C.Route) (B : Fl K C) {s c : Addr} {H0 : Hp} : LS K s c H0 (t_law_step K C) (p_law_step C) :=
    (S_seq (S_if (L_test (L_op O_eq (L_var 1) (L_str "part"))) (S_ret (L_tup (L_cons (L_str "part") (L_cons (L_var 2) L_nil)))) S_next)
    (S_seq (S_if (L_test (L_op O_eq (L_var 1) (L_str "measure"))) (S_ret (L_call m_law_measure (L_cons (L_var 0) (L_cons (L_var 2) L_nil)))) S_next)
    (S_seq (S_asg (L_tup L_nil) (G_name 3))
    (S_seq (S_for (I_rng1 (L_cons (L_op (O_I fun i j => i + j) (L_int 1) (L_call m_law_take (L_cons (L_var 0) (L_cons (L_int 3) L_nil)))) L_nil)) (G_name 4) (S_seq (S_asg (L_tup L_nil) (G_name 5))
    (S_seq (S_for (I_rng1 (L_cons (L_callC m_law_pick (L_cons (L_var 0) (L_cons (LN.le (L_lst (L_cons (L_int 1) (L_cons (L_int 0) (L_cons (L_int 2) (L_cons (L_int 3) (L_cons (L_int 4) L_nil))))))) L_nil))) L_nil)) (G_name 6) (S_asg (L_op O_catA (L_var 5) (L_tup (L_cons (L_op O_catS (L_callC m_law_pick (L_cons (L_var 0) (L_cons (LN.le (L_lst (L_cons (L_str "+") (L_cons (L_str "-") L_nil)))) L_nil))) (L_callC m_law_pick (L_cons (L_var 0) (L_cons (LN.le (L_lst (L_cons (L_str "fix") (L_cons (L_str "a") (L_cons (L_str "cut") (L_cons (L_str "x0y1z2a3b4c5") L_nil)))))) L_nil)))) L_nil))) (G_name 5)))
    (S_asg (L_op O_catA (L_var 3) (L_tup (L_cons (L_var 5) L_nil))) (G_name 3)))))
    (S_ret (L_tup (L_cons (L_str "late") (L_cons (L_var 2) (L_cons (L_var 3) L_nil)))))))))
/-- _law_steps -/
abbrev n_law_steps : List Str := ["_law_draws", "_law_names", "_law_rows_here", "_law_free", "_law_k", "_law_kind", "_law_name", "_law_near", "_law_word"]
def t_law_steps (K : PySem.W.Frag) (C : AD) : TS :=
    (tSeq (tAsg (tLst tNil) (gName 1))
    (tSeq (tAsg (tLst tNil) (gName 2))
    (tSeq (tAsg (tDisp [(tC (.str "measure"), tC (.int 6)), (tC (.str "late"), tC (.int 2)), (tC (.str "part"), tC (.int 6))]) (gName 3))
    (tSeq (tFor (iRng1 (tCons (tCall (upC K (q_law_pick)) [] E0 (tCons (tVar 0) (tCons (tLst (tCons (tC (.int 4)) (tCons (tC (.int 0)) (tCons (tC (.int 1)) (tCons (tC (.int 2)) (tCons (tC (.int 3)) (tCons (tC (.int 5)) (tCons (tC (.int 7)) (tCons (tC (.int 14)) tNil))))))))) tNil))) tNil)) (gName 4) (tSeq (tAsg (tCall (upC K (q_law_pick)) [] E0 (tCons (tVar 0) (tCons (tLc (iList K (tFrz (tLst (tCons (tC (.str "late")) (tCons (tC (.str "measure")) (tCons (tC (.str "part")) tNil)))))) (gName 8) (tTest (tOp rGtI (tDGet (tVar 3) (tVar 8)) (tC (.int 0)))) (tVar 8) [8]) tNil))) (gName 5))
    (tSeq (sDPut (tVar 3) (tVar 5) (tOp rSubI (tDGet (tVar 3) (tVar 5)) (tC (.int 1))))
    (tSeq (tAsg (tCall (upC K (q_law_fresh)) [] E0 (tCons (tVar 0) (tCons (tVar 1) tNil))) (gName 6))
    (tSeq (tAsg (tCall (upC K (q_law_pick)) [] E0 (tCons (tVar 0) (tCons (tLst (tCons (tC (.str "frames")) (tCons (tC (.str "fram")) (tCons (tC (.str "abcdefghijkl")) (tCons (tC (.str "a")) (tCons (tC (.str "frame1")) (tCons (tC (.str "z9")) tNil))))))) tNil))) (gName 7))
    (tSeq (tIfS (tAnd (tTest (tOp (rIn K true) (tVar 7) (tVar 1))) (tTest (tOp rEq (tCall (up K (q_law_take)) [] E0 (tCons (tVar 0) (tCons (tC (.int 9)) tNil))) (tC (.int 0))))) (tAsg (tVar 7) (gName 6)) tNext)
    (tSeq (tDrop (tBM K "list" rAppend (tVar 1) (tCons (tVar 6) tNil)))
    (tDrop (tBM K "list" rAppend (tVar 2) (tCons (tCall (up K (q_law_step)) [] E0 (tCons (tVar 0) (tCons (tVar 5) (tCons (tVar 6) tNil)))) tNil))))))))))
    (tFrzS 2 (tRet (tVar 2)))))))
def p_law_steps (C : AD) : PSx :=
    (pSeq (pNew (pLst pNil) 1)
    (pSeq (pNew (pLst pNil) 2)
    (pSeq (pNewD (pDisp [("measure", 6), ("late", 2), ("part", 6)]) 3)
    (pSeq (pFor (pIR (pCons (pCallC (q_law_pick) (pCons (pVar 0) (pCons (pNewL (pLst (pCons (pC (cI 4)) (pCons (pC (cI 0)) (pCons (pC (cI 1)) (pCons (pC (cI 2)) (pCons (pC (cI 3)) (pCons (pC (cI 5)) (pCons (pC (cI 7)) (pCons (pC (cI 14)) pNil)))))))))) pNil))) pNil)) (pgName 4) (pSeq (pAsg (pCallC (q_law_pick) (pCons (pVar 0) (pCons (pNewL (pLc (pIL (pFrz (pLst (pCons (pC (cS "late")) (pCons (pC (cS "measure")) (pCons (pC (cS "part")) pNil)))))) (pgName 8) (pTest (pOp (fIB fun i j => decide (j < i)) (pDGet (pVar 3) (pVar 8)) (pC (cI 0)))) (pVar 8) [8])) pNil))) (pgName 5))
    (pSeq (pDPutK 3 (pVar 5) (pOp (fI fun i j => i - j) (pDGet (pVar 3) (pVar 5)) (pC (cI 1))))
    (pSeq (pAsg (pCallC (q_law_fresh) (pCons (pVar 0) (pCons (pVar 1) pNil))) (pgName 6))
    (pSeq (pAsg (pCallC (q_law_pick) (pCons (pVar 0) (pCons (pNewL (pLst (pCons (pC (cS "frames")) (pCons (pC (cS "fram")) (pCons (pC (cS "abcdefghijkl")) (pCons (pC (cS "a")) (pCons (pC (cS "frame1")) (pCons (pC (cS "z9")) pNil)))))))) pNil))) (pgName 7))
    (pSeq (pIfS (pAnd (pTest (pOp (fInS not) (pVar 7) (pVar 1))) (pTest (pOp (fEq id) (pCall (q_law_take) (pCons (pVar 0) (pCons (pC (cI 9)) pNil))) (pC (cI 0))))) (pAsg (pVar 7) (pgName 6)) pNext)
    (pSeq (pApp 1 (pVar 6))
    (pApp 2 (pCall (q_law_step) (pCons (pVar 0) (pCons (pVar 5) (pCons (pVar 6) pNil))))))))))))
    (pFrzC 2 (pRet (pVar 2)))))))
theorem l_law_steps (Z : ClsK K C.Route) (B : Fl K C) {s c : Addr} {H0 : Hp} : LS K s c H0 (t_law_steps K C) (p_law_steps C) :=
    (S_seq (S_new 1 (L_lst L_nil))
    (S_seq (S_new 2 (L_lst L_nil))
    (S_seq (S_newD 3 (L_disp [("measure", 6), ("late", 2), ("part", 6)] (by decide) (by rfl)))
    (S_seq (S_for (I_rng1 (L_cons (L_callC m_law_pick (L_cons (L_var 0) (L_cons (LN.le (L_lst (L_cons (L_int 4) (L_cons (L_int 0) (L_cons (L_int 1) (L_cons (L_int 2) (L_cons (L_int 3) (L_cons (L_int 5) (L_cons (L_int 7) (L_cons (L_int 14) L_nil)))))))))) L_nil))) L_nil)) (G_name 4) (S_seq (S_asg (L_callC m_law_pick (L_cons (L_var 0) (L_cons (LN.le (L_lc (I_list (LN.frz (L_lst (L_cons (L_str "late") (L_cons (L_str "measure") (L_cons (L_str "part") L_nil)))))) (G_name 8) (L_test (L_op (O_IB fun i j => decide (j < i)) (L_dget (L_var 3) (L_var 8)) (L_int 0))) (L_var 8))) L_nil))) (G_name 5))
    (S_seq (S_dputK 3 (L_var 5) (L_op (O_I fun i j => i - j) (L_dget (L_var 3) (L_var 5)) (L_int 1)))
    (S_seq (S_asg (L_callC m_law_fresh (L_cons (L_var 0) (L_cons (L_var 1) L_nil))) (G_name 6))
    (S_seq (S_asg (L_callC m_law_pick (L_cons (L_var 0) (L_cons (LN.le (L_lst (L_cons (L_str "frames") (L_cons (L_str "fram") (L_cons (L_str "abcdefghijkl") (L_cons (L_str "a") (L_cons (L_str "frame1") (L_cons (L_str "z9") L_nil)))))))) L_nil))) (G_name 7))
    (S_seq (S_if (L_and (L_test (L_op O_notInS (L_var 7) (L_var 1))) (L_test (L_op O_eq (L_call m_law_take (L_cons (L_var 0) (L_cons (L_int 9) L_nil))) (L_int 0)))) (S_asg (L_var 7) (G_name 6)) S_next)
    (S_seq (S_app 1 (L_var 6))
    (S_app 2 (L_call m_law_step (L_cons (L_var 0) (L_cons (L_var 5) (L_cons (L_var 6) L_nil))))))))))))
    (S_frzC 2 (S_ret (L_var 2)))))))
/-- _law_spoiled -/
abbrev n_law_spoiled : List Str := ["_law_draws", "_law_rows_here", "_law_turn", "_law_at", "_law_row", "_law_name", "_law_digit", "_law_place", "_law_sign", "_law_words", "_law_low_end", "_law_one"]
def t_law_spoiled (K : PySem.W.Frag) (C : AD) : TS :=
    (tSeq (tFor (iRng1 (tCons (tOp rAddI (tC (.int 1)) (tCall (up K (q_law_take)) [] E0 (tCons (tVar 0) (tCons (tC (.int 2)) tNil)))) tNil)) (gName 2) (tSeq (tAsg (tCall (up K (q_law_take)) [] E0 (tCons (tVar 0) (tCons (tCB (cLenQ K) (tCons (tVar 1) tNil)) tNil))) (gName 3))
    (tSeq (tAsg (tOp (rIxL K) (tVar 1) (tVar 3)) (gName 4))
    (tSeq (tAsg (tOp (rIxT K) (tVar 4) (tC (.int 1))) (gName 5))
    (tSeq (tAsg (tCall (up K (q_law_take)) [] E0 (tCons (tVar 0) (tCons (tC (.int 6)) tNil))) (gName 6))
    (tSeq (tIfS (tTest (tOp rLtI (tVar 6) (tC (.int 2)))) (tSeq (tAsg (tCall (up K (q_law_take)) [] E0 (tCons (tVar 0) (tCons (tOp rAddI (tCB cLenS (tCons (tVar 5) tNil)) (tC (.int 1))) tNil))) (gName 7))
    (tSeq (tAsg (tCall (upC K (q_law_pick)) [] E0 (tCons (tVar 0) (tCons (tLst (tCons (tC (.str "A")) (tCons (tC (.str "_")) (tCons (tC (.str "-")) (tCons (tC (.str " ")) (tCons (tC (.str "+")) (tCons (tC (.str ".")) (tCons (tC (.str "Z")) (tCons (tC (.str "{")) (tCons (tC (.str "~")) (tCons (tC (.str "/")) (tCons (tC (.str ":")) (tCons (tC (.str "@")) (tCons (tC (.str "[")) tNil)))))))))))))) tNil))) (gName 8))
    (tSeq (tAsg (tFrz (tLst (tCons (tOp rCatS (tOp rCatS (tSl rSlS (tVar 5) tNoPart (tPart (tVar 7))) (tVar 8)) (tSl rSlS (tVar 5) (tPart (tVar 7)) tNoPart)) (tCons (tC (.str "")) (tCons (tC (.str "frame")) (tCons (tOp rCatS (tC (.str "0")) (tVar 5)) (tCons (tSl rSlS (tOp rCatS (tVar 5) (tC (.str "abcdefghijkl"))) tNoPart (tPart (tC (.int 13)))) tNil))))))) (gName 9))
    (tAsg (tCall (upC K (q_law_pick)) [] E0 (tCons (tVar 0) (tCons (tVar 9) tNil))) (gName 5))))) (tIfS (tTest (tOp rLtI (tVar 6) (tC (.int 4)))) (tAsg (tOp (rIxT K) (tOp (rIxL K) (tVar 1) (tCall (up K (q_law_take)) [] E0 (tCons (tVar 0) (tCons (tCB (cLenQ K) (tCons (tVar 1) tNil)) tNil)))) (tC (.int 1))) (gName 5)) (tIfS (tOr (tTest (tOp rEq (tOp (rIxT K) (tVar 4) (tC (.int 0))) (tC (.str "measure")))) (tTest (tOp rLtI (tCB (cLenQ K) (tCons (tLc (iList K (tVar 1)) (gName 11) (tTest (tOp rEq (tOp (rIxT K) (tVar 11) (tC (.int 0))) (tC (.str "measure")))) (tVar 11) [11]) tNil)) (tC (.int 6))))) (tSeq (tAsg (tOp rSubI (tCall (up K (q_law_take)) [] E0 (tCons (tVar 0) (tCons (tC (.int 9)) tNil))) (tC (.int 4))) (gName 10))
    (tAsg (tTup (tCons (tC (.str "measure")) (tCons (tVar 5) (tCons (tVar 10) (tCons (tOp rSubI (tOp rSubI (tVar 10) (tC (.int 1))) (tCall (upC K (q_law_pick)) [] E0 (tCons (tVar 0) (tCons (tLst (tCons (tC (.int 0)) (tCons (tC (.int 0)) (tCons (tC (.int 1)) (tCons (tOp rPowI (tC (.int 10)) (tC (.int 59))) tNil))))) tNil)))) tNil))))) (gName 4))) tNext)))
    (tAsg (tFrz (tOp rCat (tOp rCat (tSl (rSlL K) (tVar 1) tNoPart (tPart (tVar 3))) (tLst (tCons (tOp (rCatA K) (tTup (tCons (tOp (rIxT K) (tVar 4) (tC (.int 0))) (tCons (tVar 5) tNil))) (tSl (rSlA K) (tVar 4) (tPart (tC (.int 2))) tNoPart)) tNil))) (tSl (rSlL K) (tVar 1) (tPart (tOp rAddI (tVar 3) (tC (.int 1)))) tNoPart))) (gName 1))))))))
    (tRet (tVar 1)))
def p_law_spoiled (C : AD) : PSx :=
    (pSeq (pFor (pIR (pCons (pOp (fI fun i j => i + j) (pC (cI 1)) (pCall (q_law_take) (pCons (pVar 0) (pCons (pC (cI 2)) pNil)))) pNil)) (pgName 2) (pSeq (pAsg (pCall (q_law_take) (pCons (pVar 0) (pCons (pCB gLenQ (pCons (pVar 1) pNil)) pNil))) (pgName 3))
    (pSeq (pAsg (pOp fIxL (pVar 1) (pVar 3)) (pgName 4))
    (pSeq (pAsg (pOp fIxT (pVar 4) (pC (cI 1))) (pgName 5))
    (pSeq (pAsg (pCall (q_law_take) (pCons (pVar 0) (pCons (pC (cI 6)) pNil))) (pgName 6))
    (pSeq (pIfS (pTest (pOp (fIB fun i j => decide (i < j)) (pVar 6) (pC (cI 2)))) (pSeq (pAsg (pCall (q_law_take) (pCons (pVar 0) (pCons (pOp (fI fun i j => i + j) (pCB gLenS (pCons (pVar 5) pNil)) (pC (cI 1))) pNil))) (pgName 7))
    (pSeq (pAsg (pCallC (q_law_pick) (pCons (pVar 0) (pCons (pNewL (pLst (pCons (pC (cS "A")) (pCons (pC (cS "_")) (pCons (pC (cS "-")) (pCons (pC (cS " ")) (pCons (pC (cS "+")) (pCons (pC (cS ".")) (pCons (pC (cS "Z")) (pCons (pC (cS "{")) (pCons (pC (cS "~")) (pCons (pC (cS "/")) (pCons (pC (cS ":")) (pCons (pC (cS "@")) (pCons (pC (cS "[")) pNil))))))))))))))) pNil))) (pgName 8))
    (pSeq (pAsg (pFrz (pLst (pCons (pOp fCatS (pOp fCatS (pSlS (pVar 5) pNoPart (pPart (pVar 7))) (pVar 8)) (pSlS (pVar 5) (pPart (pVar 7)) pNoPart)) (pCons (pC (cS "")) (pCons (pC (cS "frame")) (pCons (pOp fCatS (pC (cS "0")) (pVar 5)) (pCons (pSlS (pOp fCatS (pVar 5) (pC (cS "abcdefghijkl"))) pNoPart (pPart (pC (cI 13)))) pNil))))))) (pgName 9))
    (pAsg (pCallC (q_law_pick) (pCons (pVar 0) (pCons (pVar 9) pNil))) (pgName 5))))) (pIfS (pTest (pOp (fIB fun i j => decide (i < j)) (pVar 6) (pC (cI 4)))) (pAsg (pOp fIxT (pOp fIxL (pVar 1) (pCall (q_law_take) (pCons (pVar 0) (pCons (pCB gLenQ (pCons (pVar 1) pNil)) pNil)))) (pC (cI 1))) (pgName 5)) (pIfS (pOr (pTest (pOp (fEq id) (pOp fIxT (pVar 4) (pC (cI 0))) (pC (cS "measure")))) (pTest (pOp (fIB fun i j => decide (i < j)) (pCB gLenQ (pCons (pNewL (pLc (pIL (pVar 1)) (pgName 11) (pTest (pOp (fEq id) (pOp fIxT (pVar 11) (pC (cI 0))) (pC (cS "measure")))) (pVar 11) [11])) pNil)) (pC (cI 6))))) (pSeq (pAsg (pOp (fI fun i j => i - j) (pCall (q_law_take) (pCons (pVar 0) (pCons (pC (cI 9)) pNil))) (pC (cI 4))) (pgName 10))
    (pAsg (pTup (pCons (pC (cS "measure")) (pCons (pVar 5) (pCons (pVar 10) (pCons (pOp (fI fun i j => i - j) (pOp (fI fun i j => i - j) (pVar 10) (pC (cI 1))) (pCallC (q_law_pick) (pCons (pVar 0) (pCons (pNewL (pLst (pCons (pC (cI 0)) (pCons (pC (cI 0)) (pCons (pC (cI 1)) (pCons (pOp (fIC CPow fun i j => i ^ j.toNat) (pC (cI 10)) (pC (cI 59))) pNil)))))) pNil)))) pNil))))) (pgName 4))) pNext)))
    (pAsg (pFrz (pOpN fCat (pNewL (pOpN fCat (pNewL (pSlL (pVar 1) pNoPart (pPart (pVar 3)))) (pNewL (pLst (pCons (pOp fCatA (pTup (pCons (pOp fIxT (pVar 4) (pC (cI 0))) (pCons (pVar 5) pNil))) (pSlA (pVar 4) (pPart (pC (cI 2))) pNoPart)) pNil))))) (pNewL (pSlL (pVar 1) (pPart (pOp (fI fun i j => i + j) (pVar 3) (pC (cI 1)))) pNoPart)))) (pgName 1))))))))
    (pRet (pVar 1)))
theorem l_law_spoiled (Z : ClsK K C.Route) (B : Fl K C) {s c : Addr} {H0 : Hp} : LS K s c H0 (t_law_spoiled K C) (p_law_spoiled C) :=
    (S_seq (S_for (I_rng1 (L_cons (L_op (O_I fun i j => i + j) (L_int 1) (L_call m_law_take (L_cons (L_var 0) (L_cons (L_int 2) L_nil)))) L_nil)) (G_name 2) (S_seq (S_asg (L_call m_law_take (L_cons (L_var 0) (L_cons (L_cb C_lenQ (L_cons (L_var 1) L_nil)) L_nil))) (G_name 3))
    (S_seq (S_asg (L_op O_ixL (L_var 1) (L_var 3)) (G_name 4))
    (S_seq (S_asg (L_op O_ixT (L_var 4) (L_int 1)) (G_name 5))
    (S_seq (S_asg (L_call m_law_take (L_cons (L_var 0) (L_cons (L_int 6) L_nil))) (G_name 6))
    (S_seq (S_if (L_test (L_op (O_IB fun i j => decide (i < j)) (L_var 6) (L_int 2))) (S_seq (S_asg (L_call m_law_take (L_cons (L_var 0) (L_cons (L_op (O_I fun i j => i + j) (L_cb C_lenS (L_cons (L_var 5) L_nil)) (L_int 1)) L_nil))) (G_name 7))
    (S_seq (S_asg (L_callC m_law_pick (L_cons (L_var 0) (L_cons (LN.le (L_lst (L_cons (L_str "A") (L_cons (L_str "_") (L_cons (L_str "-") (L_cons (L_str " ") (L_cons (L_str "+") (L_cons (L_str ".") (L_cons (L_str "Z") (L_cons (L_str "{") (L_cons (L_str "~") (L_cons (L_str "/") (L_cons (L_str ":") (L_cons (L_str "@") (L_cons (L_str "[") L_nil))))))))))))))) L_nil))) (G_name 8))
    (S_seq (S_asg (LN.frz (L_lst (L_cons (L_op O_catS (L_op O_catS (L_slS (L_var 5) L_noPart (L_part (L_var 7))) (L_var 8)) (L_slS (L_var 5) (L_part (L_var 7)) L_noPart)) (L_cons (L_str "") (L_cons (L_str "frame") (L_cons (L_op O_catS (L_str "0") (L_var 5)) (L_cons (L_slS (L_op O_catS (L_var 5) (L_str "abcdefghijkl")) L_noPart (L_part (L_int 13))) L_nil))))))) (G_name 9))
    (S_asg (L_callC m_law_pick (L_cons (L_var 0) (L_cons (L_var 9) L_nil))) (G_name 5))))) (S_if (L_test (L_op (O_IB fun i j => decide (i < j)) (L_var 6) (L_int 4))) (S_asg (L_op O_ixT (L_op O_ixL (L_var 1) (L_call m_law_take (L_cons (L_var 0) (L_cons (L_cb C_lenQ (L_cons (L_var 1) L_nil)) L_nil)))) (L_int 1)) (G_name 5)) (S_if (L_or (L_test (L_op O_eq (L_op O_ixT (L_var 4) (L_int 0)) (L_str "measure"))) (L_test (L_op (O_IB fun i j => decide (i < j)) (L_cb C_lenQ (L_cons (LN.le (L_lc (I_list (L_var 1)) (G_name 11) (L_test (L_op O_eq (L_op O_ixT (L_var 11) (L_int 0)) (L_str "measure"))) (L_var 11))) L_nil)) (L_int 6)))) (S_seq (S_asg (L_op (O_I fun i j => i - j) (L_call m_law_take (L_cons (L_var 0) (L_cons (L_int 9) L_nil))) (L_int 4)) (G_name 10))
    (S_asg (L_tup (L_cons (L_str "measure") (L_cons (L_var 5) (L_cons (L_var 10) (L_cons (L_op (O_I fun i j => i - j) (L_op (O_I fun i j => i - j) (L_var 10) (L_int 1)) (L_callC m_law_pick (L_cons (L_var 0) (L_cons (LN.le (L_lst (L_cons (L_int 0) (L_cons (L_int 0) (L_cons (L_int 1) (L_cons (L_op (O_IC CPow fun i j => i ^ j.toNat) (L_int 10) (L_int 59)) L_nil)))))) L_nil)))) L_nil))))) (G_name 4))) S_next)))
    (S_asg (LN.frz (L_opN O_cat (LN.le (L_opN O_cat (LN.le (L_slL (L_var 1) L_noPart (L_part (L_var 3)))) (LN.le (L_lst (L_cons (L_op O_catA (L_tup (L_cons (L_op O_ixT (L_var 4) (L_int 0)) (L_cons (L_var 5) L_nil))) (L_slA (L_var 4) (L_part (L_int 2)) L_noPart)) L_nil))))) (LN.le (L_slL (L_var 1) (L_part (L_op (O_I fun i j => i + j) (L_var 3) (L_int 1))) L_noPart)))) (G_name 1))))))))
    (S_ret (L_var 1)))
/-- _law_is_name -/
abbrev n_law_is_name : List Str := ["_law_word", "_law_letters", "_law_sign"]
def t_law_is_name (K : PySem.W.Frag) (C : AD) : TS :=
    (tSeq (tAsg (tC (.str "abcdefghijklmnopqrstuvwxyz")) (gName 1))
    (tSeq (tIfS (tOr (tTest (tOp rLtI (tCB cLenS (tCons (tVar 0) tNil)) (tC (.int 1)))) (tOr (tTest (tOp rGtI (tCB cLenS (tCons (tVar 0) tNil)) (tC (.int 12)))) (tTest (tOp rNotInSign (tOp rIxS (tVar 0) (tC (.int 0))) (tVar 1))))) (tRet (tC (.bl false))) tNext)
    (tRet (tCB (rAll K) (tCons (tLc (iStr (tVar 0)) (gName 2) tYes (tOrV (tOp rInSign (tVar 2) (tVar 1)) (tOp rInSign (tVar 2) (tC (.str "0123456789")))) [2]) tNil)))))
def p_law_is_name (C : AD) : PSx :=
    (pSeq (pAsg (pC (cS "abcdefghijklmnopqrstuvwxyz")) (pgName 1))
    (pSeq (pIfS (pOr (pTest (pOp (fIB fun i j => decide (i < j)) (pCB gLenS (pCons (pVar 0) pNil)) (pC (cI 1)))) (pOr (pTest (pOp (fIB fun i j => decide (j < i)) (pCB gLenS (pCons (pVar 0) pNil)) (pC (cI 12)))) (pTest (pOp (fInSign not) (pOp fIxS (pVar 0) (pC (cI 0))) (pVar 1))))) (pRet (pC (cB false))) pNext)
    (pRet (pCB gAll (pCons (pNewL (pLc (pIS (pVar 0)) (pgName 2) pYes (pOrV (pOp (fInSign id) (pVar 2) (pVar 1)) (pOp (fInSign id) (pVar 2) (pC (cS "0123456789")))) [2])) pNil)))))
theorem l_law_is_name (Z : ClsK K C.Route) (B : Fl K C) {s c : Addr} {H0 : Hp} : LS K s c H0 (t_law_is_name K C) (p_law_is_name C) :=
    (S_seq (S_asg (L_str "abcdefghijklmnopqrstuvwxyz") (G_name 1))
    (S_seq (S_if (L_or (L_test (L_op (O_IB fun i j => decide (i < j)) (L_cb C_lenS (L_cons (L_var 0) L_nil)) (L_int 1))) (L_or (L_test (L_op (O_IB fun i j => decide (j < i)) (L_cb C_lenS (L_cons (L_var 0) L_nil)) (L_int 12))) (L_test (L_op O_notInSign (L_op O_ixS (L_var 0) (L_int 0)) (L_var 1))))) (S_ret (L_bl false)) S_next)
    (S_ret (L_cb C_all (L_cons (LN.le (L_lc (I_str (L_var 0)) (G_name 2) L_yes (L_orV (L_op O_inSign (L_var 2) (L_var 1)) (L_op O_inSign (L_var 2) (L_str "0123456789"))))) L_nil)))))
/-- _law_due -/
abbrev n_law_due : List Str := ["_law_rows_here", "_law_seen", "_law_row"]
def t_law_due (K : PySem.W.Frag) (C : AD) : TS :=
    (tSeq (tAsg (tLst tNil) (gName 1))
    (tSeq (tFor (iList K (tVar 0)) (gName 2) (tSeq (tIfS (tOr (tNot (tB (tCall (up K (q_law_is_name)) [] E0 (tCons (tOp (rIxT K) (tVar 2) (tC (.int 1))) tNil)))) (tTest (tOp rEq (tOp (rIxT K) (tVar 2) (tC (.int 1))) (tC (.str "frame"))))) (tRet (tTup (tCons (tC (.str "BadName")) (tCons (tOp (rIxT K) (tVar 2) (tC (.int 1))) tNil)))) tNext)
    (tSeq (tIfS (tTest (tOp (rIn K false) (tOp (rIxT K) (tVar 2) (tC (.int 1))) (tVar 1))) (tRet (tTup (tCons (tC (.str "NameTaken")) (tCons (tOp (rIxT K) (tVar 2) (tC (.int 1))) tNil)))) tNext)
    (tSeq (tIfS (tAnd (tTest (tOp rEq (tOp (rIxT K) (tVar 2) (tC (.int 0))) (tC (.str "measure")))) (tTest (tOp rGtI (tOp (rIxT K) (tVar 2) (tC (.int 2))) (tOp (rIxT K) (tVar 2) (tC (.int 3)))))) (tRet (tTup (tCons (tC (.str "BadEnds")) (tCons (tOp (rIxT K) (tVar 2) (tC (.int 2))) (tCons (tOp (rIxT K) (tVar 2) (tC (.int 3))) tNil))))) tNext)
    (tDrop (tBM K "list" rAppend (tVar 1) (tCons (tOp (rIxT K) (tVar 2) (tC (.int 1))) tNil)))))))
    (tRet (tC .non))))
def p_law_due (C : AD) : PSx :=
    (pSeq (pNew (pLst pNil) 1)
    (pSeq (pFor (pIL (pVar 0)) (pgName 2) (pSeq (pIfS (pOr (pNot (pTest (pCall (q_law_is_name) (pCons (pOp fIxT (pVar 2) (pC (cI 1))) pNil)))) (pTest (pOp (fEq id) (pOp fIxT (pVar 2) (pC (cI 1))) (pC (cS "frame"))))) (pRet (pTup (pCons (pC (cS "BadName")) (pCons (pOp fIxT (pVar 2) (pC (cI 1))) pNil)))) pNext)
    (pSeq (pIfS (pTest (pOp (fInS id) (pOp fIxT (pVar 2) (pC (cI 1))) (pVar 1))) (pRet (pTup (pCons (pC (cS "NameTaken")) (pCons (pOp fIxT (pVar 2) (pC (cI 1))) pNil)))) pNext)
    (pSeq (pIfS (pAnd (pTest (pOp (fEq id) (pOp fIxT (pVar 2) (pC (cI 0))) (pC (cS "measure")))) (pTest (pOp (fIB fun i j => decide (j < i)) (pOp fIxT (pVar 2) (pC (cI 2))) (pOp fIxT (pVar 2) (pC (cI 3)))))) (pRet (pTup (pCons (pC (cS "BadEnds")) (pCons (pOp fIxT (pVar 2) (pC (cI 2))) (pCons (pOp fIxT (pVar 2) (pC (cI 3))) pNil))))) pNext)
    (pApp 1 (pOp fIxT (pVar 2) (pC (cI 1))))))))
    (pRet (pC cN))))
theorem l_law_due (Z : ClsK K C.Route) (B : Fl K C) {s c : Addr} {H0 : Hp} : LS K s c H0 (t_law_due K C) (p_law_due C) :=
    (S_seq (S_new 1 (L_lst L_nil))
    (S_seq (S_for (I_list (L_var 0)) (G_name 2) (S_seq (S_if (L_or (L_not (L_b (L_call m_law_is_name (L_cons (L_op O_ixT (L_var 2) (L_int 1)) L_nil)))) (L_test (L_op O_eq (L_op O_ixT (L_var 2) (L_int 1)) (L_str "frame")))) (S_ret (L_tup (L_cons (L_str "BadName") (L_cons (L_op O_ixT (L_var 2) (L_int 1)) L_nil)))) S_next)
    (S_seq (S_if (L_test (L_op O_inS (L_op O_ixT (L_var 2) (L_int 1)) (L_var 1))) (S_ret (L_tup (L_cons (L_str "NameTaken") (L_cons (L_op O_ixT (L_var 2) (L_int 1)) L_nil)))) S_next)
    (S_seq (S_if (L_and (L_test (L_op O_eq (L_op O_ixT (L_var 2) (L_int 0)) (L_str "measure"))) (L_test (L_op (O_IB fun i j => decide (j < i)) (L_op O_ixT (L_var 2) (L_int 2)) (L_op O_ixT (L_var 2) (L_int 3))))) (S_ret (L_tup (L_cons (L_str "BadEnds") (L_cons (L_op O_ixT (L_var 2) (L_int 2)) (L_cons (L_op O_ixT (L_var 2) (L_int 3)) L_nil))))) S_next)
    (S_app 1 (L_op O_ixT (L_var 2) (L_int 1)))))))
    (S_ret L_non)))
/-- _law_rows -/
abbrev n_law_rows : List Str := ["_law_rows_here", "_law_found", "_law_step_here", "_law_shorter", "_law_row", "_law_k"]
def t_law_rows (K : PySem.W.Frag) (C : AD) : TS :=
    (tSeq (tAsg (tLst (tCons (tTup tNil) tNil)) (gName 1))
    (tSeq (tFor (iList K (tVar 0)) (gName 2) (tIfS (tTest (tOp rEq (tOp (rIxT K) (tVar 2) (tC (.int 0))) (tC (.str "late")))) (tSeq (tAsg (tFrz (tCB (cList K) (tCons (tVar 1) tNil))) (gName 3))
    (tSeq (tAsg (tLst tNil) (gName 1))
    (tFor (iList K (tVar 3)) (gName 4) (tAsg (tOp rCat (tVar 1) (tLc (iRng1 (tCons (tCB (cLenQ K) (tCons (tOp (rIxT K) (tVar 2) (tC (.int 2))) tNil)) tNil)) (gName 5) tYes (tOp (rCatA K) (tVar 4) (tTup (tCons (tVar 5) tNil))) [5])) (gName 1))))) tNext))
    (tFrzS 1 (tRet (tVar 1)))))
def p_law_rows (C : AD) : PSx :=
    (pSeq (pNew (pLst (pCons (pTup pNil) pNil)) 1)
    (pSeq (pFor (pIL (pVar 0)) (pgName 2) (pIfS (pTest (pOp (fEq id) (pOp fIxT (pVar 2) (pC (cI 0))) (pC (cS "late")))) (pSeq (pAsg (pFrz (pCBN gList (pCons (pVar 1) pNil))) (pgName 3))
    (pSeq (pNew (pLst pNil) 1)
    (pFor (pIL (pVar 3)) (pgName 4) (pNew (pOpN fCat (pVar 1) (pNewL (pLc (pIR (pCons (pCB gLenQ (pCons (pOp fIxT (pVar 2) (pC (cI 2))) pNil)) pNil)) (pgName 5) pYes (pOp fCatA (pVar 4) (pTup (pCons (pVar 5) pNil))) [5]))) 1)))) pNext))
    (pFrzC 1 (pRet (pVar 1)))))
theorem l_law_rows (Z : ClsK K C.Route) (B : Fl K C) {s c : Addr} {H0 : Hp} : LS K s c H0 (t_law_rows K C) (p_law_rows C) :=
    (S_seq (S_new 1 (L_lst (L_cons (L_tup L_nil) L_nil)))
    (S_seq (S_for (I_list (L_var 0)) (G_name 2) (S_if (L_test (L_op O_eq (L_op O_ixT (L_var 2) (L_int 0)) (L_str "late"))) (S_seq (S_asg (LN.frz (L_cbn C_list (L_cons (L_var 1) L_nil))) (G_name 3))
    (S_seq (S_new 1 (L_lst L_nil))
    (S_for (I_list (L_var 3)) (G_name 4) (S_new 1 (L_opN O_cat (L_var 1) (LN.le (L_lc (I_rng1 (L_cons (L_cb C_lenQ (L_cons (L_op O_ixT (L_var 2) (L_int 2)) L_nil)) L_nil)) (G_name 5) L_yes (L_op O_catA (L_var 4) (L_tup (L_cons (L_var 5) L_nil)))))))))) S_next))
    (S_frzC 1 (S_ret (L_var 1)))))
/-- _law_late_run -/
abbrev n_law_late_run : List Str := ["_law_rows_here", "_law_row", "_law_run", "_law_late_steps", "_law_k", "_law_step_here"]
def t_law_late_run (K : PySem.W.Frag) (C : AD) : TS :=
    (tSeq (tAsg (tTup tNil) (gName 2))
    (tSeq (tAsg (tLc (iList K (tVar 0)) (gName 5) (tTest (tOp rEq (tOp (rIxT K) (tVar 5) (tC (.int 0))) (tC (.str "late")))) (tVar 5) [5]) (gName 3))
    (tSeq (tFor (iRng1 (tCons (tCB (cLenQ K) (tCons (tVar 1) tNil)) tNil)) (gName 4) (tAsg (tOp (rCatA K) (tVar 2) (tOp (rIxT K) (tOp (rIxT K) (tOp (rIxL K) (tVar 3) (tVar 4)) (tC (.int 2))) (tOp (rIxT K) (tVar 1) (tVar 4)))) (gName 2)))
    (tRet (tVar 2)))))
def p_law_late_run (C : AD) : PSx :=
    (pSeq (pAsg (pTup pNil) (pgName 2))
    (pSeq (pNew (pLc (pIL (pVar 0)) (pgName 5) (pTest (pOp (fEq id) (pOp fIxT (pVar 5) (pC (cI 0))) (pC (cS "late")))) (pVar 5) [5]) 3)
    (pSeq (pFor (pIR (pCons (pCB gLenQ (pCons (pVar 1) pNil)) pNil)) (pgName 4) (pAsg (pOp fCatA (pVar 2) (pOp fIxT (pOp fIxT (pOp fIxL (pVar 3) (pVar 4)) (pC (cI 2))) (pOp fIxT (pVar 1) (pVar 4)))) (pgName 2)))
    (pRet (pVar 2)))))
theorem l_law_late_run (Z : ClsK K C.Route) (B : Fl K C) {s c : Addr} {H0 : Hp} : LS K s c H0 (t_law_late_run K C) (p_law_late_run C) :=
    (S_seq (S_asg (L_tup L_nil) (G_name 2))
    (S_seq (S_new 3 (L_lc (I_list (L_var 0)) (G_name 5) (L_test (L_op O_eq (L_op O_ixT (L_var 5) (L_int 0)) (L_str "late"))) (L_var 5)))
    (S_seq (S_for (I_rng1 (L_cons (L_cb C_lenQ (L_cons (L_var 1) L_nil)) L_nil)) (G_name 4) (S_asg (L_op O_catA (L_var 2) (L_op O_ixT (L_op O_ixT (L_op O_ixL (L_var 3) (L_var 4)) (L_int 2)) (L_op O_ixT (L_var 1) (L_var 4)))) (G_name 2)))
    (S_ret (L_var 2)))))
/-- _law_wide -/
abbrev n_law_wide : List Str := ["_law_rows_here", "_law_number_here", "_law_found", "_law_row"]
def t_law_wide (K : PySem.W.Frag) (C : AD) : TS :=
    (tSeq (tAsg (tLst tNil) (gName 2))
    (tSeq (tFor (iList K (tVar 0)) (gName 3) (tSeq (tIfS (tTest (tOp rEq (tOp (rIxT K) (tVar 3) (tC (.int 0))) (tC (.str "measure")))) (tAsg (tTup (tCons (tC (.str "measure")) (tCons (tOp (rIxT K) (tVar 3) (tC (.int 1))) (tCons (tOp rSubI (tOp (rIxT K) (tVar 3) (tC (.int 2))) (tVar 1)) (tCons (tOp rAddI (tOp (rIxT K) (tVar 3) (tC (.int 3))) (tVar 1)) tNil))))) (gName 3)) tNext)
    (tDrop (tBM K "list" rAppend (tVar 2) (tCons (tVar 3) tNil)))))
    (tFrzS 2 (tRet (tVar 2)))))
def p_law_wide (C : AD) : PSx :=
    (pSeq (pNew (pLst pNil) 2)
    (pSeq (pFor (pIL (pVar 0)) (pgName 3) (pSeq (pIfS (pTest (pOp (fEq id) (pOp fIxT (pVar 3) (pC (cI 0))) (pC (cS "measure")))) (pAsg (pTup (pCons (pC (cS "measure")) (pCons (pOp fIxT (pVar 3) (pC (cI 1))) (pCons (pOp (fI fun i j => i - j) (pOp fIxT (pVar 3) (pC (cI 2))) (pVar 1)) (pCons (pOp (fI fun i j => i + j) (pOp fIxT (pVar 3) (pC (cI 3))) (pVar 1)) pNil))))) (pgName 3)) pNext)
    (pApp 2 (pVar 3))))
    (pFrzC 2 (pRet (pVar 2)))))
theorem l_law_wide (Z : ClsK K C.Route) (B : Fl K C) {s c : Addr} {H0 : Hp} : LS K s c H0 (t_law_wide K C) (p_law_wide C) :=
    (S_seq (S_new 2 (L_lst L_nil))
    (S_seq (S_for (I_list (L_var 0)) (G_name 3) (S_seq (S_if (L_test (L_op O_eq (L_op O_ixT (L_var 3) (L_int 0)) (L_str "measure"))) (S_asg (L_tup (L_cons (L_str "measure") (L_cons (L_op O_ixT (L_var 3) (L_int 1)) (L_cons (L_op (O_I fun i j => i - j) (L_op O_ixT (L_var 3) (L_int 2)) (L_var 1)) (L_cons (L_op (O_I fun i j => i + j) (L_op O_ixT (L_var 3) (L_int 3)) (L_var 1)) L_nil))))) (G_name 3)) S_next)
    (S_app 2 (L_var 3))))
    (S_frzC 2 (S_ret (L_var 2)))))
/-- _law_moved -/
abbrev n_law_moved : List Str := ["_law_rows_here", "_law_name", "_law_number_here", "_law_found", "_law_others", "_law_row"]
def t_law_moved (K : PySem.W.Frag) (C : AD) : TS :=
    (tSeq (tAsg (tLc (iList K (tVar 0)) (gName 5) (tAnd (tTest (tOp rEq (tOp (rIxT K) (tVar 5) (tC (.int 1))) (tVar 1))) (tTest (tOp rNe (tOp (rIxT K) (tVar 5) (tC (.int 0))) (tC (.str "part"))))) (tVar 5) [5]) (gName 3))
    (tSeq (tIfS (tTest (tOp rEq (tCB (cLenQ K) (tCons (tVar 3) tNil)) (tC (.int 0)))) (tRet (tTup (tCons (tC (.str "UnknownName")) (tCons (tVar 1) tNil)))) tNext)
    (tSeq (tIfS (tOr (tTest (tOp rLtI (tVar 2) (tC (.int 0)))) (tTest (tOp rGeI (tVar 2) (tCB (cLenQ K) (tCons (tVar 0) tNil))))) (tRet (tTup (tCons (tC (.str "BadPosition")) (tCons (tVar 2) tNil)))) tNext)
    (tSeq (tAsg (tLc (iList K (tVar 0)) (gName 5) (tTest (tOp rNe (tOp (rIxT K) (tVar 5) (tC (.int 1))) (tVar 1))) (tVar 5) [5]) (gName 4))
    (tRet (tFrz (tOp rCat (tOp rCat (tSl (rSlL K) (tVar 4) tNoPart (tPart (tVar 2))) (tVar 3)) (tSl (rSlL K) (tVar 4) (tPart (tVar 2)) tNoPart))))))))
def p_law_moved (C : AD) : PSx :=
    (pSeq (pNew (pLc (pIL (pVar 0)) (pgName 5) (pAnd (pTest (pOp (fEq id) (pOp fIxT (pVar 5) (pC (cI 1))) (pVar 1))) (pTest (pOp (fEq not) (pOp fIxT (pVar 5) (pC (cI 0))) (pC (cS "part"))))) (pVar 5) [5]) 3)
    (pSeq (pIfS (pTest (pOp (fEq id) (pCB gLenQ (pCons (pVar 3) pNil)) (pC (cI 0)))) (pRet (pTup (pCons (pC (cS "UnknownName")) (pCons (pVar 1) pNil)))) pNext)
    (pSeq (pIfS (pOr (pTest (pOp (fIB fun i j => decide (i < j)) (pVar 2) (pC (cI 0)))) (pTest (pOp (fIB fun i j => decide (j ≤ i)) (pVar 2) (pCB gLenQ (pCons (pVar 0) pNil))))) (pRet (pTup (pCons (pC (cS "BadPosition")) (pCons (pVar 2) pNil)))) pNext)
    (pSeq (pNew (pLc (pIL (pVar 0)) (pgName 5) (pTest (pOp (fEq not) (pOp fIxT (pVar 5) (pC (cI 1))) (pVar 1))) (pVar 5) [5]) 4)
    (pRet (pFrz (pOpN fCat (pNewL (pOpN fCat (pNewL (pSlL (pVar 4) pNoPart (pPart (pVar 2)))) (pVar 3))) (pNewL (pSlL (pVar 4) (pPart (pVar 2)) pNoPart)))))))))
theorem l_law_moved (Z : ClsK K C.Route) (B : Fl K C) {s c : Addr} {H0 : Hp} : LS K s c H0 (t_law_moved K C) (p_law_moved C) :=
    (S_seq (S_new 3 (L_lc (I_list (L_var 0)) (G_name 5) (L_and (L_test (L_op O_eq (L_op O_ixT (L_var 5) (L_int 1)) (L_var 1))) (L_test (L_op O_ne (L_op O_ixT (L_var 5) (L_int 0)) (L_str "part")))) (L_var 5)))
    (S_seq (S_if (L_test (L_op O_eq (L_cb C_lenQ (L_cons (L_var 3) L_nil)) (L_int 0))) (S_ret (L_tup (L_cons (L_str "UnknownName") (L_cons (L_var 1) L_nil)))) S_next)
    (S_seq (S_if (L_or (L_test (L_op (O_IB fun i j => decide (i < j)) (L_var 2) (L_int 0))) (L_test (L_op (O_IB fun i j => decide (j ≤ i)) (L_var 2) (L_cb C_lenQ (L_cons (L_var 0) L_nil))))) (S_ret (L_tup (L_cons (L_str "BadPosition") (L_cons (L_var 2) L_nil)))) S_next)
    (S_seq (S_new 4 (L_lc (I_list (L_var 0)) (G_name 5) (L_test (L_op O_ne (L_op O_ixT (L_var 5) (L_int 1)) (L_var 1))) (L_var 5)))
    (S_ret (LN.frz (L_opN O_cat (LN.le (L_opN O_cat (LN.le (L_slL (L_var 4) L_noPart (L_part (L_var 2)))) (L_var 3))) (LN.le (L_slL (L_var 4) (L_part (L_var 2)) L_noPart)))))))))
/-- _law_told -/
abbrev n_law_told : List Str := ["_law_base", "_law_rows_here", "_law_name", "_law_number_here", "_law_hits", "e"]
def t_law_told (K : PySem.W.Frag) (C : AD) : TS :=
    (tSeq (tAsg (tLst tNil) (gName 4))
    (tSeq (tTry K (.ref C.OfficeError) 5 (fun W => (tSeq (tIfS (tTest (tOp rIsN (tVar 0) (tC .non))) (tRet (tFrz (tMakeS C.Route (upIC K C.Route (q_Route_init C)) (WE W) (tCons (tVar 1) tNil)))) tNext)
    (tSeq (tIfS (tTest (tOp rIsN (tVar 2) (tC .non))) (tRet (tMethS C.Route "widened" (upX K (q_Route_widened C)) (WE W) (tVar 0) (tCons (tVar 3) tNil))) tNext)
    (tRet (tMethS C.Route "moved" (upX K (q_Route_moved C)) (WE W) (tVar 0) (tCons (tVar 2) (tCons (tVar 3) tNil)))))))
    (fun a cls d => (tSeq (tIfS (tB (tCB (rIsX K a cls d) (tCons (tVar 5) (tCons (tC (.ref C.BadName)) tNil)))) (tDrop (tBM K "list" rAppend (tVar 4) (tCons (tTup (tCons (tC (.str "BadName")) (tCons (tXf a cls d C.BadName "name" (tVar 5)) tNil))) tNil))) tNext)
    (tSeq (tIfS (tB (tCB (rIsX K a cls d) (tCons (tVar 5) (tCons (tC (.ref C.NameTaken)) tNil)))) (tDrop (tBM K "list" rAppend (tVar 4) (tCons (tTup (tCons (tC (.str "NameTaken")) (tCons (tXf a cls d C.NameTaken "name" (tVar 5)) tNil))) tNil))) tNext)
    (tSeq (tIfS (tB (tCB (rIsX K a cls d) (tCons (tVar 5) (tCons (tC (.ref C.BadEnds)) tNil)))) (tDrop (tBM K "list" rAppend (tVar 4) (tCons (tTup (tCons (tC (.str "BadEnds")) (tCons (tXf a cls d C.BadEnds "low" (tVar 5)) (tCons (tXf a cls d C.BadEnds "high" (tVar 5)) tNil)))) tNil))) tNext)
    (tSeq (tIfS (tB (tCB (rIsX K a cls d) (tCons (tVar 5) (tCons (tC (.ref C.UnknownName)) tNil)))) (tDrop (tBM K "list" rAppend (tVar 4) (tCons (tTup (tCons (tC (.str "UnknownName")) (tCons (tXf a cls d C.UnknownName "name" (tVar 5)) tNil))) tNil))) tNext)
    (tSeq (tIfS (tB (tCB (rIsX K a cls d) (tCons (tVar 5) (tCons (tC (.ref C.BadPosition)) tNil)))) (tDrop (tBM K "list" rAppend (tVar 4) (tCons (tTup (tCons (tC (.str "BadPosition")) (tCons (tXf a cls d C.BadPosition "to" (tVar 5)) tNil))) tNil))) tNext)
    (tSeq (tIfS (tB (tCB (rIsX K a cls d) (tCons (tVar 5) (tCons (tC (.ref C.BadWidening)) tNil)))) (tDrop (tBM K "list" rAppend (tVar 4) (tCons (tTup (tCons (tC (.str "BadWidening")) (tCons (tXf a cls d C.BadWidening "by" (tVar 5)) tNil))) tNil))) tNext)
    (tIfS (tNot (tB (tCB (rIsX K a cls d) (tCons (tVar 5) (tCons (tC (.ty "ValueError")) tNil))))) (tDrop (tBM K "list" rAppend (tVar 4) (tCons (tTup (tCons (tC (.str "another class")) (tCons (tC (.str "")) tNil))) tNil))) tNext)))))))))
    (tFrzS 4 (tRet (tVar 4)))))
def p_law_told (C : AD) : PSx :=
    (pSeq (pNew (pLst pNil) 4)
    (pSeq (pTry 5 (xcs C) (pSeqX (pIfX (pTest (pOp (fIsN id) (pVar 0) (pC cN))) (pRetX (pMakeC C.Route (q_Route_init C) (pCons (pVar 1) pNil))) (pLiftX pNext))
    (pSeqX (pIfX (pTest (pOp (fIsN id) (pVar 2) (pC cN))) (pRetX (pMethX C.Route "widened" (q_Route_widened C) (pVar 0) (pCons (pVar 3) pNil))) (pLiftX pNext))
    (pRetX (pMethX C.Route "moved" (q_Route_moved C) (pVar 0) (pCons (pVar 2) (pCons (pVar 3) pNil))))))
    (fun a cls d => (pSeq (pIfS (pTest (pIsX a cls d 5 (kx_BadName C))) (pApp 4 (pTup (pCons (pC (cS "BadName")) (pCons (pXf a cls d 5 C.BadName "name") pNil)))) pNext)
    (pSeq (pIfS (pTest (pIsX a cls d 5 (kx_NameTaken C))) (pApp 4 (pTup (pCons (pC (cS "NameTaken")) (pCons (pXf a cls d 5 C.NameTaken "name") pNil)))) pNext)
    (pSeq (pIfS (pTest (pIsX a cls d 5 (kx_BadEnds C))) (pApp 4 (pTup (pCons (pC (cS "BadEnds")) (pCons (pXf a cls d 5 C.BadEnds "low") (pCons (pXf a cls d 5 C.BadEnds "high") pNil))))) pNext)
    (pSeq (pIfS (pTest (pIsX a cls d 5 (kx_UnknownName C))) (pApp 4 (pTup (pCons (pC (cS "UnknownName")) (pCons (pXf a cls d 5 C.UnknownName "name") pNil)))) pNext)
    (pSeq (pIfS (pTest (pIsX a cls d 5 (kx_BadPosition C))) (pApp 4 (pTup (pCons (pC (cS "BadPosition")) (pCons (pXf a cls d 5 C.BadPosition "to") pNil)))) pNext)
    (pSeq (pIfS (pTest (pIsX a cls d 5 (kx_BadWidening C))) (pApp 4 (pTup (pCons (pC (cS "BadWidening")) (pCons (pXf a cls d 5 C.BadWidening "by") pNil)))) pNext)
    (pIfS (pNot (pTest (pIsX a cls d 5 (kx_ValueError C)))) (pApp 4 (pTup (pCons (pC (cS "another class")) (pCons (pC (cS "")) pNil)))) pNext)))))))))
    (pFrzC 4 (pRet (pVar 4)))))
theorem l_law_told (Z : ClsK K C.Route) (B : Fl K C) {s c : Addr} {H0 : Hp} : LS K s c H0 (t_law_told K C) (p_law_told C) :=
    (S_seq (S_new 4 (L_lst L_nil))
    (S_seq (S_try B.exm (X_seq (X_if (L_test (L_op O_isN (L_var 0) L_non)) (X_ret (L_makeC m_Route_init (L_cons (L_var 1) L_nil))) (X_liftX S_next))
    (X_seq (X_if (L_test (L_op O_isN (L_var 2) L_non)) (X_ret (L_methX m_Route_widened (L_var 0) (L_cons (L_var 3) L_nil))) (X_liftX S_next))
    (X_ret (L_methX m_Route_moved (L_var 0) (L_cons (L_var 2) (L_cons (L_var 3) L_nil))))))
    (fun a cls d => (S_seq (S_if (L_b (L_isX 5 (.own _) (B.kx_BadName))) (S_app 4 (L_tup (L_cons (L_str "BadName") (L_cons (L_xf 5) L_nil)))) S_next)
    (S_seq (S_if (L_b (L_isX 5 (.own _) (B.kx_NameTaken))) (S_app 4 (L_tup (L_cons (L_str "NameTaken") (L_cons (L_xf 5) L_nil)))) S_next)
    (S_seq (S_if (L_b (L_isX 5 (.own _) (B.kx_BadEnds))) (S_app 4 (L_tup (L_cons (L_str "BadEnds") (L_cons (L_xf 5) (L_cons (L_xf 5) L_nil))))) S_next)
    (S_seq (S_if (L_b (L_isX 5 (.own _) (B.kx_UnknownName))) (S_app 4 (L_tup (L_cons (L_str "UnknownName") (L_cons (L_xf 5) L_nil)))) S_next)
    (S_seq (S_if (L_b (L_isX 5 (.own _) (B.kx_BadPosition))) (S_app 4 (L_tup (L_cons (L_str "BadPosition") (L_cons (L_xf 5) L_nil)))) S_next)
    (S_seq (S_if (L_b (L_isX 5 (.own _) (B.kx_BadWidening))) (S_app 4 (L_tup (L_cons (L_str "BadWidening") (L_cons (L_xf 5) L_nil)))) S_next)
    (S_if (L_not (L_b (L_isX 5 (.ty _) (B.kx_ValueError)))) (S_app 4 (L_tup (L_cons (L_str "another class") (L_cons (L_str "") L_nil)))) S_next)))))))))
    (S_frzC 4 (S_ret (L_var 4)))))
/-- _law_same -/
abbrev n_law_same : List Str := ["_law_base", "_law_due_here", "_law_turn", "_law_steps_here", "_law_found", "_law_runs", "_law_row"]
def t_law_same (K : PySem.W.Frag) (C : AD) : TS :=
    (tSeq (tIfS (tB (tCB (rIsiD K) (tCons (tVar 1) (tCons (tC (.ty "tuple")) tNil)))) (tRet (tAndV (tCB (rIsiD K) (tCons (tVar 0) (tCons (tC (.ty "list")) tNil))) (tOp (rEqD K) (tVar 0) (tLst (tCons (tVar 1) tNil))))) tNext)
    (tSeq (tIfS (tB (tCB (rIsiD K) (tCons (tVar 0) (tCons (tC (.ty "list")) tNil)))) (tRet (tC (.bl false))) tNext)
    (tSeq (tFor (iRng1 (tCons (tC (.int 2)) tNil)) (gName 2) (tSeq (tAsg (tPropR C.Route (upL K (q_Route_steps C)) (tVar 0)) (gName 3))
    (tSeq (tAsg (tMethR C.Route "late_rows" (upL K (q_Route_late_rows C)) (tVar 0) tNil) (gName 4))
    (tSeq (tIfS (tOr (tTest (tOp rNe (tCB (cRepr K) (tCons (tVar 3) tNil)) (tCB (cRepr K) (tCons (tVar 1) tNil)))) (tTest (tOp rNe (tCB (cRepr K) (tCons (tVar 4) tNil)) (tCB (cRepr K) (tCons (tCall (up K (q_law_rows)) [] E0 (tCons (tVar 1) tNil)) tNil))))) (tRet (tC (.bl false))) tNext)
    (tSeq (tAsg (tLc (iList K (tVar 4)) (gName 6) tYes (tMethR C.Route "late_run" (up K (q_Route_late_run C)) (tVar 0) (tCons (tVar 6) tNil)) [6]) (gName 5))
    (tSeq (tIfS (tTest (tOp rNe (tCB (cRepr K) (tCons (tVar 5) tNil)) (tCB (cRepr K) (tCons (tLc (iList K (tCall (up K (q_law_rows)) [] E0 (tCons (tVar 1) tNil))) (gName 6) tYes (tCall (up K (q_law_late_run)) [] E0 (tCons (tVar 1) (tCons (tVar 6) tNil))) [6]) tNil)))) (tRet (tC (.bl false))) tNext)
    (tSeq (tDrop (tBM K "list" rAppend (tVar 3) (tCons (tC (.int 0)) tNil)))
    (tDrop (tBM0 K "list" rClear (tVar 4))))))))))
    (tRet (tC (.bl true))))))
def p_law_same (C : AD) : PSx :=
    (pSeq (pIfS (pTest (pIsTI C.Route "tuple" (pVar 1))) (pRet (pAndV (pIsTI C.Route "list" (pVar 0)) (pOp (fEqD id) (pVar 0) (pNewL (pLst (pCons (pVar 1) pNil)))))) pNext)
    (pSeq (pIfS (pTest (pIsTI C.Route "list" (pVar 0))) (pRet (pC (cB false))) pNext)
    (pSeq (pFor (pIR (pCons (pC (cI 2)) pNil)) (pgName 2) (pSeq (pNew (pPropL C.Route (q_Route_steps C) (pVar 0)) 3)
    (pSeq (pNew (pMethL C.Route "late_rows" (q_Route_late_rows C) (pVar 0) pNil) 4)
    (pSeq (pIfS (pOr (pTest (pOp (fEq not) (pCB gRepr (pCons (pVar 3) pNil)) (pCB gRepr (pCons (pVar 1) pNil)))) (pTest (pOp (fEq not) (pCB gRepr (pCons (pVar 4) pNil)) (pCB gRepr (pCons (pCall (q_law_rows) (pCons (pVar 1) pNil)) pNil))))) (pRet (pC (cB false))) pNext)
    (pSeq (pNew (pLc (pILk (pVar 4)) (pgName 6) pYes (pMeth C.Route "late_run" (q_Route_late_run C) (pVar 0) (pCons (pVar 6) pNil)) [6]) 5)
    (pSeq (pIfS (pTest (pOp (fEq not) (pCB gRepr (pCons (pVar 5) pNil)) (pCB gRepr (pCons (pNewL (pLc (pIL (pCall (q_law_rows) (pCons (pVar 1) pNil))) (pgName 6) pYes (pCall (q_law_late_run) (pCons (pVar 1) (pCons (pVar 6) pNil))) [6])) pNil)))) (pRet (pC (cB false))) pNext)
    (pSeq (pApp 3 (pC (cI 0)))
    (pClear 4))))))))
    (pRet (pC (cB true))))))
theorem l_law_same (Z : ClsK K C.Route) (B : Fl K C) {s c : Addr} {H0 : Hp} : LS K s c H0 (t_law_same K C) (p_law_same C) :=
    (S_seq (S_if (L_b (L_isTI Z.ins B.k_tuple (L_var 1))) (S_ret (L_andV (L_isTI Z.ins B.k_list (L_var 0)) (L_op O_eqD (L_var 0) (LN.le (L_lst (L_cons (L_var 1) L_nil)))))) S_next)
    (S_seq (S_if (L_b (L_isTI Z.ins B.k_list (L_var 0))) (S_ret (L_bl false)) S_next)
    (S_seq (S_for (I_rng1 (L_cons (L_int 2) L_nil)) (G_name 2) (S_seq (S_new 3 (L_propL m_Route_steps (L_var 0)))
    (S_seq (S_new 4 (L_methL m_Route_late_rows (L_var 0) L_nil))
    (S_seq (S_if (L_or (L_test (L_op O_ne (L_cb C_repr (L_cons (L_var 3) L_nil)) (L_cb C_repr (L_cons (L_var 1) L_nil)))) (L_test (L_op O_ne (L_cb C_repr (L_cons (L_var 4) L_nil)) (L_cb C_repr (L_cons (L_call m_law_rows (L_cons (L_var 1) L_nil)) L_nil))))) (S_ret (L_bl false)) S_next)
    (S_seq (S_new 5 (L_lcK (I_listK (L_var 4)) (G_name 6) L_yes (L_meth m_Route_late_run (L_var 0) (L_cons (L_var 6) L_nil))))
    (S_seq (S_if (L_test (L_op O_ne (L_cb C_repr (L_cons (L_var 5) L_nil)) (L_cb C_repr (L_cons (LN.le (L_lc (I_list (L_call m_law_rows (L_cons (L_var 1) L_nil))) (G_name 6) L_yes (L_call m_law_late_run (L_cons (L_var 1) (L_cons (L_var 6) L_nil))))) L_nil)))) (S_ret (L_bl false)) S_next)
    (S_seq (S_app 3 (L_int 0))
    (S_clear 4))))))))
    (S_ret (L_bl true)))))
def t15_law (K : PySem.W.Frag) (C : AD) : TS :=
    (tSeq (tFor (iRng1 (tCons (tC (.int 4)) tNil)) (gName 11) (tSeq (tAsg (tCall (up K (q_law_take)) [] E0 (tCons (tVar 1) (tCons (tCB (cLenQ K) (tCons (tVar 8) tNil)) tNil))) (gName 12))
    (tSeq (tAsg (tCall (upC K (q_law_pick)) [] E0 (tCons (tVar 1) (tCons (tOp rCat (tOp rCat (tOp rCat (tOp rCat (tVar 10) (tVar 10)) (tVar 10)) (tLc (iList K (tVar 2)) (gName 17) tYes (tOp (rIxT K) (tVar 17) (tC (.int 1))) [17])) (tLst (tCons (tC (.str "frame")) (tCons (tC (.str "fix")) (tCons (tC (.str "")) (tCons (tC (.str "+fix")) tNil)))))) tNil))) (gName 13))
    (tSeq (tAsg (tCall (upC K (q_law_pick)) [] E0 (tCons (tVar 1) (tCons (tOp rCat (tLst (tCons (tUn (rU fun i => .int (-i)) (tC (.int 1))) (tCons (tCB (cLenQ K) (tCons (tVar 2) tNil)) (tCons (tOp rAddI (tCB (cLenQ K) (tCons (tVar 2) tNil)) (tC (.int 1))) tNil)))) (tOp rRep (tLstRg (tRg1 (tCB (cLenQ K) (tCons (tVar 2) tNil)))) (tC (.int 3)))) tNil))) (gName 14))
    (tSeq (tAsg (tCall (up K (q_law_moved)) [] E0 (tCons (tOp (rIxL K) (tVar 9) (tVar 12)) (tCons (tVar 13) (tCons (tVar 14) tNil)))) (gName 15))
    (tSeq (tAsg (tCall (upC K (q_law_told C)) [] E0 (tCons (tOp (rIxL K) (tVar 8) (tVar 12)) (tCons (tC .non) (tCons (tVar 13) (tCons (tVar 14) tNil))))) (gName 16))
    (tSeq (tIfS (tNot (tB (tCall (up K (q_law_same C)) [] E0 (tCons (tVar 16) (tCons (tVar 15) tNil))))) (tRet (tC (.bl false))) tNext)
    (tIfS (tB (tCB (rIsiD K) (tCons (tVar 15) (tCons (tC (.ty "list")) tNil)))) (tSeq (tDrop (tBM K "list" rAppend (tVar 8) (tCons (tVar 16) tNil)))
    (tDrop (tBM K "list" rAppend (tVar 9) (tCons (tVar 15) tNil)))) tNext))))))))
    (tRet (tCB (rAll K) (tCons (tLc (iRng1 (tCons (tCB (cLenQ K) (tCons (tVar 8) tNil)) tNil)) (gName 12) tYes (tCall (up K (q_law_same C)) [] E0 (tCons (tOp (rIxL K) (tVar 8) (tVar 12)) (tCons (tOp (rIxL K) (tVar 9) (tVar 12)) tNil))) [12]) tNil))))
def p15_law (C : AD) : PSx :=
    (pSeq (pFor (pIR (pCons (pC (cI 4)) pNil)) (pgName 11) (pSeq (pAsg (pCall (q_law_take) (pCons (pVar 1) (pCons (pCB gLenQ (pCons (pVar 8) pNil)) pNil))) (pgName 12))
    (pSeq (pAsg (pCallC (q_law_pick) (pCons (pVar 1) (pCons (pNewL (pOpN fCat (pNewL (pOpN fCat (pNewL (pOpN fCat (pNewL (pOpN fCat (pVar 10) (pVar 10))) (pVar 10))) (pNewL (pLc (pIL (pVar 2)) (pgName 17) pYes (pOp fIxT (pVar 17) (pC (cI 1))) [17])))) (pNewL (pLst (pCons (pC (cS "frame")) (pCons (pC (cS "fix")) (pCons (pC (cS "")) (pCons (pC (cS "+fix")) pNil)))))))) pNil))) (pgName 13))
    (pSeq (pAsg (pCallC (q_law_pick) (pCons (pVar 1) (pCons (pNewL (pOpN fCat (pNewL (pLst (pCons (pUn fNeg (pC (cI 1))) (pCons (pCB gLenQ (pCons (pVar 2) pNil)) (pCons (pOp (fI fun i j => i + j) (pCB gLenQ (pCons (pVar 2) pNil)) (pC (cI 1))) pNil))))) (pNewL (pOpN fRep (pNewL (pLstRg (pCB gLenQ (pCons (pVar 2) pNil)))) (pC (cI 3)))))) pNil))) (pgName 14))
    (pSeq (pAsg (pCall (q_law_moved) (pCons (pOp fIxL (pVar 9) (pVar 12)) (pCons (pVar 13) (pCons (pVar 14) pNil)))) (pgName 15))
    (pSeq (pAsg (pCallC (q_law_told C) (pCons (pOp fIxL (pVar 8) (pVar 12)) (pCons (pC cN) (pCons (pVar 13) (pCons (pVar 14) pNil))))) (pgName 16))
    (pSeq (pIfS (pNot (pTest (pCall (q_law_same C) (pCons (pVar 16) (pCons (pVar 15) pNil))))) (pRet (pC (cB false))) pNext)
    (pIfS (pTest (pIsTI C.Route "list" (pVar 15))) (pSeq (pApp 8 (pVar 16))
    (pApp 9 (pVar 15))) pNext))))))))
    (pRet (pCB gAll (pCons (pNewL (pLc (pIR (pCons (pCB gLenQ (pCons (pVar 8) pNil)) pNil)) (pgName 12) pYes (pCall (q_law_same C) (pCons (pOp fIxL (pVar 8) (pVar 12)) (pCons (pOp fIxL (pVar 9) (pVar 12)) pNil))) [12])) pNil))))
theorem l15_law (Z : ClsK K C.Route) (B : Fl K C) {s c : Addr} {H0 : Hp} : LS K s c H0 (t15_law K C) (p15_law C) :=
    (S_seq (S_for (I_rng1 (L_cons (L_int 4) L_nil)) (G_name 11) (S_seq (S_asg (L_call m_law_take (L_cons (L_var 1) (L_cons (L_cb C_lenQ (L_cons (L_var 8) L_nil)) L_nil))) (G_name 12))
    (S_seq (S_asg (L_callC m_law_pick (L_cons (L_var 1) (L_cons (LN.le (L_opN O_cat (LN.le (L_opN O_cat (LN.le (L_opN O_cat (LN.le (L_opN O_cat (L_var 10) (L_var 10))) (L_var 10))) (LN.le (L_lc (I_list (L_var 2)) (G_name 17) L_yes (L_op O_ixT (L_var 17) (L_int 1)))))) (LN.le (L_lst (L_cons (L_str "frame") (L_cons (L_str "fix") (L_cons (L_str "") (L_cons (L_str "+fix") L_nil)))))))) L_nil))) (G_name 13))
    (S_seq (S_asg (L_callC m_law_pick (L_cons (L_var 1) (L_cons (LN.le (L_opN O_cat (LN.le (L_lst (L_cons (L_un U_neg (L_int 1)) (L_cons (L_cb C_lenQ (L_cons (L_var 2) L_nil)) (L_cons (L_op (O_I fun i j => i + j) (L_cb C_lenQ (L_cons (L_var 2) L_nil)) (L_int 1)) L_nil))))) (LN.le (L_opN O_rep (LN.le (L_lstRg (L_cb C_lenQ (L_cons (L_var 2) L_nil)))) (L_int 3))))) L_nil))) (G_name 14))
    (S_seq (S_asg (L_call m_law_moved (L_cons (L_op O_ixL (L_var 9) (L_var 12)) (L_cons (L_var 13) (L_cons (L_var 14) L_nil)))) (G_name 15))
    (S_seq (S_asg (L_callC m_law_told (L_cons (L_op O_ixL (L_var 8) (L_var 12)) (L_cons L_non (L_cons (L_var 13) (L_cons (L_var 14) L_nil))))) (G_name 16))
    (S_seq (S_if (L_not (L_b (L_call m_law_same (L_cons (L_var 16) (L_cons (L_var 15) L_nil))))) (S_ret (L_bl false)) S_next)
    (S_if (L_b (L_isTI Z.ins B.k_list (L_var 15))) (S_seq (S_app 8 (L_var 16))
    (S_app 9 (L_var 15))) S_next))))))))
    (S_ret (L_cb C_all (L_cons (LN.le (L_lc (I_rng1 (L_cons (L_cb C_lenQ (L_cons (L_var 8) L_nil)) L_nil)) (G_name 12) L_yes (L_call m_law_same (L_cons (L_op O_ixL (L_var 8) (L_var 12)) (L_cons (L_op O_ixL (L_var 9) (L_var 12)) L_nil))))) L_nil))))
def t10_law (K : PySem.W.Frag) (C : AD) : TS :=
    (tSeq (tIfS (tAnd (tTest (tOp rLtI (tVar 6) (tC (.int 0)))) (tNot (tB (tCall (up K (q_law_same C)) [] E0 (tCons (tVar 7) (tCons (tTup (tCons (tC (.str "BadWidening")) (tCons (tVar 6) tNil))) tNil)))))) (tRet (tC (.bl false))) tNext)
    (tSeq (tAsg (tLst (tCons (tVar 5) tNil)) (gName 8))
    (tSeq (tAsg (tLst (tCons (tVar 2) tNil)) (gName 9))
    (tSeq (tIfS (tTest (tOp rGeI (tVar 6) (tC (.int 0)))) (tSeq (tDrop (tBM K "list" rAppend (tVar 8) (tCons (tVar 7) tNil)))
    (tDrop (tBM K "list" rAppend (tVar 9) (tCons (tCall (up K (q_law_wide)) [] E0 (tCons (tVar 2) (tCons (tVar 6) tNil))) tNil)))) tNext)
    (tSeq (tAsg (tLc (iList K (tVar 2)) (gName 17) (tTest (tOp rNe (tOp (rIxT K) (tVar 17) (tC (.int 0))) (tC (.str "part")))) (tOp (rIxT K) (tVar 17) (tC (.int 1))) [17]) (gName 10))
    (t15_law K C))))))
def p10_law (C : AD) : PSx :=
    (pSeq (pIfS (pAnd (pTest (pOp (fIB fun i j => decide (i < j)) (pVar 6) (pC (cI 0)))) (pNot (pTest (pCall (q_law_same C) (pCons (pVar 7) (pCons (pTup (pCons (pC (cS "BadWidening")) (pCons (pVar 6) pNil))) pNil)))))) (pRet (pC (cB false))) pNext)
    (pSeq (pNew (pLst (pCons (pVar 5) pNil)) 8)
    (pSeq (pNew (pLst (pCons (pVar 2) pNil)) 9)
    (pSeq (pIfS (pTest (pOp (fIB fun i j => decide (j ≤ i)) (pVar 6) (pC (cI 0)))) (pSeq (pApp 8 (pVar 7))
    (pApp 9 (pCall (q_law_wide) (pCons (pVar 2) (pCons (pVar 6) pNil))))) pNext)
    (pSeq (pNew (pLc (pIL (pVar 2)) (pgName 17) (pTest (pOp (fEq not) (pOp fIxT (pVar 17) (pC (cI 0))) (pC (cS "part")))) (pOp fIxT (pVar 17) (pC (cI 1))) [17]) 10)
    (p15_law C))))))
theorem l10_law (Z : ClsK K C.Route) (B : Fl K C) {s c : Addr} {H0 : Hp} : LS K s c H0 (t10_law K C) (p10_law C) :=
    (S_seq (S_if (L_and (L_test (L_op (O_IB fun i j => decide (i < j)) (L_var 6) (L_int 0))) (L_not (L_b (L_call m_law_same (L_cons (L_var 7) (L_cons (L_tup (L_cons (L_str "BadWidening") (L_cons (L_var 6) L_nil))) L_nil)))))) (S_ret (L_bl false)) S_next)
    (S_seq (S_new 8 (L_lst (L_cons (L_var 5) L_nil)))
    (S_seq (S_new 9 (L_lst (L_cons (L_var 2) L_nil)))
    (S_seq (S_if (L_test (L_op (O_IB fun i j => decide (j ≤ i)) (L_var 6) (L_int 0))) (S_seq (S_app 8 (L_var 7))
    (S_app 9 (L_call m_law_wide (L_cons (L_var 2) (L_cons (L_var 6) L_nil))))) S_next)
    (S_seq (S_new 10 (L_lc (I_list (L_var 2)) (G_name 17) (L_test (L_op O_ne (L_op O_ixT (L_var 17) (L_int 0)) (L_str "part"))) (L_op O_ixT (L_var 17) (L_int 1))))
    (l15_law Z B))))))
def t7_law (K : PySem.W.Frag) (C : AD) : TS :=
    (tSeq (tIfS (tOr (tNot (tB (tCall (up K (q_law_same C)) [] E0 (tCons (tVar 5) (tCons (tVar 2) tNil))))) (tNot (tB (tCall (up K (q_law_same C)) [] E0 (tCons (tCall (upC K (q_law_told C)) [] E0 (tCons (tC .non) (tCons (tCB (cTuple K) (tCons (tVar 2) tNil)) (tCons (tC .non) (tCons (tC (.int 0)) tNil))))) (tCons (tVar 2) tNil)))))) (tRet (tC (.bl false))) tNext)
    (tSeq (tAsg (tCall (upC K (q_law_pick)) [] E0 (tCons (tVar 1) (tCons (tLst (tCons (tC (.int 1)) (tCons (tC (.int 0)) (tCons (tC (.int 2)) (tCons (tC (.int 7)) (tCons (tOp rSubI (tOp rPowI (tC (.int 10)) (tC (.int 60))) (tC (.int 1))) (tCons (tUn (rU fun i => .int (-i)) (tC (.int 1))) (tCons (tUn (rU fun i => .int (-i)) (tC (.int 2))) (tCons (tOp rSubI (tC (.int 1)) (tOp rPowI (tC (.int 10)) (tC (.int 60)))) tNil))))))))) tNil))) (gName 6))
    (tSeq (tAsg (tCall (upC K (q_law_told C)) [] E0 (tCons (tVar 5) (tCons (tC .non) (tCons (tC .non) (tCons (tVar 6) tNil))))) (gName 7))
    (t10_law K C))))
def p7_law (C : AD) : PSx :=
    (pSeq (pIfS (pOr (pNot (pTest (pCall (q_law_same C) (pCons (pVar 5) (pCons (pVar 2) pNil))))) (pNot (pTest (pCall (q_law_same C) (pCons (pCallC (q_law_told C) (pCons (pC cN) (pCons (pCB gTuple (pCons (pVar 2) pNil)) (pCons (pC cN) (pCons (pC (cI 0)) pNil))))) (pCons (pVar 2) pNil)))))) (pRet (pC (cB false))) pNext)
    (pSeq (pAsg (pCallC (q_law_pick) (pCons (pVar 1) (pCons (pNewL (pLst (pCons (pC (cI 1)) (pCons (pC (cI 0)) (pCons (pC (cI 2)) (pCons (pC (cI 7)) (pCons (pOp (fI fun i j => i - j) (pOp (fIC CPow fun i j => i ^ j.toNat) (pC (cI 10)) (pC (cI 60))) (pC (cI 1))) (pCons (pUn fNeg (pC (cI 1))) (pCons (pUn fNeg (pC (cI 2))) (pCons (pOp (fI fun i j => i - j) (pC (cI 1)) (pOp (fIC CPow fun i j => i ^ j.toNat) (pC (cI 10)) (pC (cI 60)))) pNil)))))))))) pNil))) (pgName 6))
    (pSeq (pAsg (pCallC (q_law_told C) (pCons (pVar 5) (pCons (pC cN) (pCons (pC cN) (pCons (pVar 6) pNil))))) (pgName 7))
    (p10_law C))))
theorem l7_law (Z : ClsK K C.Route) (B : Fl K C) {s c : Addr} {H0 : Hp} : LS K s c H0 (t7_law K C) (p7_law C) :=
    (S_seq (S_if (L_or (L_not (L_b (L_call m_law_same (L_cons (L_var 5) (L_cons (L_var 2) L_nil))))) (L_not (L_b (L_call m_law_same (L_cons (L_callC m_law_told (L_cons L_non (L_cons (L_cb C_tuple (L_cons (L_var 2) L_nil)) (L_cons L_non (L_cons (L_int 0) L_nil))))) (L_cons (L_var 2) L_nil)))))) (S_ret (L_bl false)) S_next)
    (S_seq (S_asg (L_callC m_law_pick (L_cons (L_var 1) (L_cons (LN.le (L_lst (L_cons (L_int 1) (L_cons (L_int 0) (L_cons (L_int 2) (L_cons (L_int 7) (L_cons (L_op (O_I fun i j => i - j) (L_op (O_IC CPow fun i j => i ^ j.toNat) (L_int 10) (L_int 60)) (L_int 1)) (L_cons (L_un U_neg (L_int 1)) (L_cons (L_un U_neg (L_int 2)) (L_cons (L_op (O_I fun i j => i - j) (L_int 1) (L_op (O_IC CPow fun i j => i ^ j.toNat) (L_int 10) (L_int 60))) L_nil)))))))))) L_nil))) (G_name 6))
    (S_seq (S_asg (L_callC m_law_told (L_cons (L_var 5) (L_cons L_non (L_cons L_non (L_cons (L_var 6) L_nil))))) (G_name 7))
    (l10_law Z B))))
def t2_law (K : PySem.W.Frag) (C : AD) : TS :=
    (tSeq (tAsg (tCall (up K (q_law_due)) [] E0 (tCons (tVar 2) tNil)) (gName 3))
    (tSeq (tAsg (tCB (cList K) (tCons (tVar 2) tNil)) (gName 4))
    (tSeq (tAsg (tCall (upC K (q_law_told C)) [] E0 (tCons (tC .non) (tCons (tVar 4) (tCons (tC .non) (tCons (tC (.int 0)) tNil))))) (gName 5))
    (tSeq (tDrop (tBM0 K "list" rClear (tVar 4)))
    (tSeq (tIfS (tTest (tOp rNotN (tVar 3) (tC .non))) (tRet (tAndV (tCall (up K (q_law_same C)) [] E0 (tCons (tVar 5) (tCons (tVar 3) tNil))) (tCall (up K (q_law_same C)) [] E0 (tCons (tCall (upC K (q_law_told C)) [] E0 (tCons (tC .non) (tCons (tCB (cTuple K) (tCons (tVar 2) tNil)) (tCons (tC .non) (tCons (tC (.int 0)) tNil))))) (tCons (tVar 3) tNil))))) tNext)
    (t7_law K C))))))
def p2_law (C : AD) : PSx :=
    (pSeq (pAsg (pCall (q_law_due) (pCons (pVar 2) pNil)) (pgName 3))
    (pSeq (pNew (pCBN gList (pCons (pVar 2) pNil)) 4)
    (pSeq (pAsg (pCallC (q_law_told C) (pCons (pC cN) (pCons (pVar 4) (pCons (pC cN) (pCons (pC (cI 0)) pNil))))) (pgName 5))
    (pSeq (pClear 4)
    (pSeq (pIfS (pTest (pOp (fIsN not) (pVar 3) (pC cN))) (pRet (pAndV (pCall (q_law_same C) (pCons (pVar 5) (pCons (pVar 3) pNil))) (pCall (q_law_same C) (pCons (pCallC (q_law_told C) (pCons (pC cN) (pCons (pCB gTuple (pCons (pVar 2) pNil)) (pCons (pC cN) (pCons (pC (cI 0)) pNil))))) (pCons (pVar 3) pNil))))) pNext)
    (p7_law C))))))
theorem l2_law (Z : ClsK K C.Route) (B : Fl K C) {s c : Addr} {H0 : Hp} : LS K s c H0 (t2_law K C) (p2_law C) :=
    (S_seq (S_asg (L_call m_law_due (L_cons (L_var 2) L_nil)) (G_name 3))
    (S_seq (S_new 4 (L_cbn C_list (L_cons (L_var 2) L_nil)))
    (S_seq (S_asg (L_callC m_law_told (L_cons L_non (L_cons (L_var 4) (L_cons L_non (L_cons (L_int 0) L_nil))))) (G_name 5))
    (S_seq (S_clear 4)
    (S_seq (S_if (L_test (L_op O_notN (L_var 3) L_non)) (S_ret (L_andV (L_call m_law_same (L_cons (L_var 5) (L_cons (L_var 3) L_nil))) (L_call m_law_same (L_cons (L_callC m_law_told (L_cons L_non (L_cons (L_cb C_tuple (L_cons (L_var 2) L_nil)) (L_cons L_non (L_cons (L_int 0) L_nil))))) (L_cons (L_var 3) L_nil))))) S_next)
    (l7_law Z B))))))
/-- law -/
abbrev n_law : List Str := ["_law_script", "_law_draws", "_law_rows_here", "_law_due_here", "_law_passed", "_law_base", "_law_number_here", "_law_wide_here", "_law_others", "_law_other_rows", "_law_names", "_law_turn", "_law_k", "_law_name", "_law_place", "_law_goal", "_law_moved_one", "_law_row"]
def t_law (K : PySem.W.Frag) (C : AD) : TS :=
    (tSeq (tAsg (tCall (up K (q_law_steps)) [] E0 (tCons (tVar 1) tNil)) (gName 2))
    (tSeq (tIfS (tAnd (tTest (tOp rGtI (tCB (cLenQ K) (tCons (tVar 2) tNil)) (tC (.int 0)))) (tTest (tOp rEq (tCall (up K (q_law_take)) [] E0 (tCons (tVar 1) (tCons (tC (.int 3)) tNil))) (tC (.int 0))))) (tAsg (tCall (up K (q_law_spoiled)) [] E0 (tCons (tVar 1) (tCons (tVar 2) tNil))) (gName 2)) tNext)
    (t2_law K C)))
def p_law (C : AD) : PSx :=
    (pSeq (pAsg (pCall (q_law_steps) (pCons (pVar 1) pNil)) (pgName 2))
    (pSeq (pIfS (pAnd (pTest (pOp (fIB fun i j => decide (j < i)) (pCB gLenQ (pCons (pVar 2) pNil)) (pC (cI 0)))) (pTest (pOp (fEq id) (pCall (q_law_take) (pCons (pVar 1) (pCons (pC (cI 3)) pNil))) (pC (cI 0))))) (pAsg (pCall (q_law_spoiled) (pCons (pVar 1) (pCons (pVar 2) pNil))) (pgName 2)) pNext)
    (p2_law C)))
theorem l_law (Z : ClsK K C.Route) (B : Fl K C) {s c : Addr} {H0 : Hp} : LS K s c H0 (t_law K C) (p_law C) :=
    (S_seq (S_asg (L_call m_law_steps (L_cons (L_var 1) L_nil)) (G_name 2))
    (S_seq (S_if (L_and (L_test (L_op (O_IB fun i j => decide (j < i)) (L_cb C_lenQ (L_cons (L_var 2) L_nil)) (L_int 0))) (L_test (L_op O_eq (L_call m_law_take (L_cons (L_var 1) (L_cons (L_int 3) L_nil))) (L_int 0)))) (S_asg (L_call m_law_spoiled (L_cons (L_var 1) (L_cons (L_var 2) L_nil))) (G_name 2)) S_next)
    (l2_law Z B)))
end
end My


/-! K55b: how many values the defs of k55 take. -/
namespace My
open PySem PySem.Spec PyProof.Rows L2 TL
section
variable {C : AD}
theorem ql_is_nameR {ds : List D} {P : D → Prop} (h : q_is_nameR ds P) : ds.length = 1 := by
  obtain ⟨_, rfl, _⟩ := h
  rfl
theorem ql_is_step_nameR {ds : List D} {P : D → Prop} (h : q_is_step_nameR ds P) : ds.length = 1 := by
  obtain ⟨_, rfl, _⟩ := h
  rfl
theorem ql_index_rows {ds : List D} {P : Cell → Prop} (h : q_index_rows ds P) : ds.length = 1 := by
  obtain ⟨_, rfl, _⟩ := h
  rfl
theorem ql_Route_init {ds : List Cell} {P : List (Str × D) → Prop} {X : Ex → Prop} (h : q_Route_init C ds P X) : ds.length = 1 := by
  obtain ⟨_, _, rfl, _⟩ := h
  rfl
theorem ql_Route_steps {ds : List D} {P : Cell → Prop} (h : q_Route_steps C ds P) : ds.length = 1 := by
  obtain ⟨_, rfl, _⟩ := h
  rfl
theorem ql_Route_widened {ds : List D} {P : D → Prop} {X : Ex → Prop} (h : q_Route_widened C ds P X) : ds.length = 2 := by
  obtain ⟨_, _, rfl, _⟩ := h
  rfl
theorem ql_Route_moved {ds : List D} {P : D → Prop} {X : Ex → Prop} (h : q_Route_moved C ds P X) : ds.length = 3 := by
  obtain ⟨_, _, _, rfl, _⟩ := h
  rfl
theorem ql_Route_late_steps {ds : List D} {P : D → Prop} (h : q_Route_late_steps C ds P) : ds.length = 1 := by
  obtain ⟨_, rfl, _⟩ := h
  rfl
theorem ql_Route_late_rows {ds : List D} {P : Cell → Prop} (h : q_Route_late_rows C ds P) : ds.length = 1 := by
  obtain ⟨_, rfl, _⟩ := h
  rfl
theorem ql_Route_late_run {ds : List D} {P : D → Prop} (h : q_Route_late_run C ds P) : ds.length = 2 := by
  obtain ⟨_, _, rfl, _⟩ := h
  rfl
theorem ql_law_pick {ds : List Cell} {P : D → Prop} (h : q_law_pick ds P) : ds.length = 2 := by
  obtain ⟨_, _, rfl, _⟩ := h
  rfl
theorem ql_law_fresh {ds : List Cell} {P : D → Prop} (h : q_law_fresh ds P) : ds.length = 2 := by
  obtain ⟨_, _, rfl, _⟩ := h
  rfl
theorem ql_law_number {ds : List D} {P : D → Prop} (h : q_law_number ds P) : ds.length = 1 := by
  obtain ⟨rfl, _⟩ := h
  rfl
theorem ql_law_measure {ds : List D} {P : D → Prop} (h : q_law_measure ds P) : ds.length = 2 := by
  obtain ⟨_, rfl, _⟩ := h
  rfl
theorem ql_law_step {ds : List D} {P : D → Prop} (h : q_law_step ds P) : ds.length = 3 := by
  obtain ⟨_, _, rfl, _⟩ := h
  rfl
theorem ql_law_steps {ds : List D} {P : D → Prop} (h : q_law_steps ds P) : ds.length = 1 := by
  obtain ⟨rfl, _⟩ := h
  rfl
theorem ql_law_spoiled {ds : List D} {P : D → Prop} (h : q_law_spoiled ds P) : ds.length = 2 := by
  obtain ⟨_, rfl, _⟩ := h
  rfl
theorem ql_law_is_name {ds : List D} {P : D → Prop} (h : q_law_is_name ds P) : ds.length = 1 := by
  obtain ⟨_, rfl, _⟩ := h
  rfl
theorem ql_law_due {ds : List D} {P : D → Prop} (h : q_law_due ds P) : ds.length = 1 := by
  obtain ⟨_, rfl, _⟩ := h
  rfl
theorem ql_law_rows {ds : List D} {P : D → Prop} (h : q_law_rows ds P) : ds.length = 1 := by
  obtain ⟨_, rfl, _⟩ := h
  rfl
theorem ql_law_late_run {ds : List D} {P : D → Prop} (h : q_law_late_run ds P) : ds.length = 2 := by
  obtain ⟨_, _, rfl, _⟩ := h
  rfl
theorem ql_law_wide {ds : List D} {P : D → Prop} (h : q_law_wide ds P) : ds.length = 2 := by
  obtain ⟨_, _, rfl, _⟩ := h
  rfl
theorem ql_law_moved {ds : List D} {P : D → Prop} (h : q_law_moved ds P) : ds.length = 3 := by
  obtain ⟨_, _, _, rfl, _⟩ := h
  rfl
theorem ql_law_told {ds : List Cell} {P : D → Prop} (h : q_law_told C ds P) : ds.length = 4 := by
  rcases h with ⟨_, _, _, _, rfl, _⟩ | ⟨_, _, _, rfl, _⟩ | ⟨_, _, _, _, rfl, _⟩ <;> rfl
theorem ql_law_same {ds : List D} {P : D → Prop} (h : q_law_same C ds P) : ds.length = 2 := by
  obtain ⟨_, rfl, _⟩ := h
  rfl
end
end My


/-! K55c: names, the rows of indices. -/
namespace My
open PySem PySem.Spec PyProof.Rows L2 TL
theorem ifT {p q : Prop} (h : p) : if true = true then p else q := by rw [if_pos rfl]; exact h
theorem ifF {p q : Prop} (h : q) : if false = true then p else q := by rw [if_neg Bool.false_ne_true]; exact h
theorem if2 {b : Bool} {p q : Prop} (h1 : b = true → p) (h2 : b = false → q) : if b = true then p else q := by
  cases b with
  | true => exact ifT (h1 rfl)
  | false => exact ifF (h2 rfl)
theorem ifD {c : Prop} [Decidable c] {p q : Prop} (hc : c) (h : p) : if decide c = true then p else q := by rw [decide_eq_true hc]; exact ifT h
theorem ifN {c : Prop} [Decidable c] {p q : Prop} (hc : ¬ c) (h : q) : if decide c = true then p else q := by rw [decide_eq_false hc]; exact ifF h
theorem ifnD {c : Prop} [Decidable c] {p q : Prop} (hc : ¬ c) (h : p) : if (!decide c) = true then p else q := by rw [decide_eq_false hc]; exact ifT h
theorem ifnN {c : Prop} [Decidable c] {p q : Prop} (hc : c) (h : q) : if (!decide c) = true then p else q := by rw [decide_eq_true hc]; exact ifF h
theorem ifE {c : Prop} [Decidable c] {p q : Prop} (h1 : c → p) (h2 : ¬ c → q) : if decide c = true then p else q := by
  by_cases hc : c
  · exact ifD hc (h1 hc)
  · exact ifN hc (h2 hc)
theorem ifnE {c : Prop} [Decidable c] {p q : Prop} (h1 : ¬ c → p) (h2 : c → q) : if (!decide c) = true then p else q := by
  by_cases hc : c
  · exact ifnN hc (h2 hc)
  · exact ifnD hc (h1 hc)
theorem pLc_map {α : Type} (xs : List α) (dx fx : α → D) {it : PNx} {g : PGx} {el : PEx} {vs : List Nat} {σd : Sd} {P : List D → Prop} (hit : ∀ Q : List D → Prop, Q (xs.map dx) → it σd Q) (hl : xs.length ≤ 100000)
    (step : ∀ x, x ∈ xs → ∀ Q : D → Prop, Q (fx x) → g (dx x) (wipeD σd vs) fun σd2 => el σd2 fun c => ∃ y, c = .dat y ∧ Q y) (mg : ∀ d σd (A B : Sd → Prop), (∀ s, A s → B s) → g d σd A → g d σd B) (fin : P (xs.map fx)) : pLc it g pYes el vs σd P := by
  refine hit _ ⟨by rw [List.length_map]; exact hl, fun i acc => acc = (xs.take i).map fx, rfl, ?_, ?_⟩
  · rintro i d acc hd rfl
    rw [List.getElem?_map] at hd
    obtain ⟨x, hx, rfl⟩ := Option.map_eq_some_iff.mp hd
    refine mg _ _ _ _ (fun s h => ?_) (step x (List.mem_of_getElem? hx) (fun y => (xs.take i).map fx ++ [y] = (xs.take (i + 1)).map fx) ?_)
    · (unfold pYes; dsimp only; exact ifT h)
    · rw [List.take_add_one, hx, List.map_append]
      rfl
  · rintro acc rfl
    rw [List.length_map, List.take_length]
    exact fin
theorem mg_name (i : Nat) : ∀ (d : D) (σd : Sd) (A B : Sd → Prop), (∀ s, A s → B s) → pgName i d σd A → pgName i d σd B := fun _ _ _ _ h => h _
theorem pLc_filter {α : Type} (xs : List α) (dx fx : α → D) (keep : α → Bool) {it : PNx} {g : PGx} {t : PTx} {el : PEx} {vs : List Nat} {σd : Sd} {P : List D → Prop} (hit : ∀ Q : List D → Prop, Q (xs.map dx) → it σd Q) (hl : xs.length ≤ 100000)
    (step : ∀ x, x ∈ xs → ∀ (Q0 : Prop) (Q : D → Prop), (keep x = true → Q (fx x)) → (keep x = false → Q0) → g (dx x) (wipeD σd vs) fun σd2 => t σd2 fun b => if b = true then el σd2 fun c => ∃ y, c = .dat y ∧ Q y else Q0) (fin : P ((xs.filter keep).map fx)) : pLc it g t el vs σd P := by
  refine hit _ ⟨by rw [List.length_map]; exact hl, fun i acc => acc = ((xs.take i).filter keep).map fx, rfl, ?_, ?_⟩
  · rintro i d acc hd rfl
    rw [List.getElem?_map] at hd
    obtain ⟨x, hx, rfl⟩ := Option.map_eq_some_iff.mp hd
    refine step x (List.mem_of_getElem? hx) _ _ (fun h => ?_) (fun h => ?_)
    · show _ = ((xs.take (i + 1)).filter keep).map fx
      rw [List.take_add_one, hx, List.filter_append, List.map_append]
      simp [h]
    · show _ = ((xs.take (i + 1)).filter keep).map fx
      rw [List.take_add_one, hx, List.filter_append, List.map_append]
      simp [h]
  · rintro acc rfl
    rw [List.length_map, List.take_length]
    exact fin
/-! ### names -/
theorem len_cps (z : Str) : z.length = z.cps.toList.length := (Array.length_toList).symm
theorem isNm_nil {z : Str} (h : z.cps.toList = []) : isNm z = false := by unfold isNm; rw [h]
theorem isNm_cons {z : Str} {c : Nat} {cs : List Nat} (h : z.cps.toList = c :: cs) : isNm z = (decide (z.length ≤ 12) && (decide (c ∈ letters) && (c :: cs).all fun x => decide (x ∈ letters) || decide (x ∈ digits))) := by unfold isNm; rw [h]
theorem pr_is_nameR (C : AD) : ∀ ds P, q_is_nameR ds P → p_is_nameR C { nx := fun _ => P .non, rt := P } (startD n_is_nameR ds) := by
  rintro ds P ⟨z, rfl, hz, hP⟩
  refine ⟨_, rfl, z, rfl, by omega, 1, (z.length : Int), rfl, rfl, _, rfl, ?_⟩
  have e0 := len_cps z
  cases hc : z.cps.toList with
  | nil =>
    rw [isNm_nil hc] at hP
    rw [hc] at e0
    exact ifN (by rw [e0]; decide) ⟨_, rfl, ifT (ifT ⟨_, rfl, hP⟩)⟩
  | cons c cs =>
    rw [isNm_cons hc] at hP
    rw [hc, List.length_cons] at e0
    refine ifD (by omega) ⟨(z.length : Int), 12, rfl, rfl, _, rfl, ifnE (fun h => ?_) (fun h => ?_)⟩
    · rw [show decide (z.length ≤ 12) = false from decide_eq_false (by omega)] at hP
      exact ifT ⟨_, rfl, hP⟩
    · rw [show decide (z.length ≤ 12) = true from decide_eq_true (by omega), Bool.true_and] at hP
      refine ⟨_, rfl, z, 0, c, rfl, rfl, by omega, by rw [hc]; exact atI_pos 0 rfl, c, _, rfl, rfl, _, rfl, ifnE (fun h => ?_) (fun h => ?_)⟩
      · rw [show decide (c ∈ letters) = false from decide_eq_false h] at hP
        exact ⟨_, rfl, hP⟩
      · rw [show decide (c ∈ letters) = true from decide_eq_true h, Bool.true_and] at hP
        refine pLc_map (it := pIS (pVar 0)) (g := pgName 1) (vs := [1]) (el := pOrV (pOp (fInSign id) (pVar 1) (pC (cS "abcdefghijklmnopqrstuvwxyz"))) (pOp (fInSign id) (pVar 1) (pC (cS "0123456789")))) z.cps.toList (fun x => .str ⟨#[x]⟩) (fun x => .bl (decide (x ∈ letters) || decide (x ∈ digits))) (fun Q h => ⟨_, rfl, z, rfl, h⟩) (by rw [hc, List.length_cons]; omega) (fun x _ Q h => ?_) (mg_name 1) ?_
        · exact ⟨_, rfl, x, _, rfl, rfl, _, rfl, if2 (fun e => by rw [show decide (x ∈ letters) = true from e] at h; exact ⟨_, rfl, h⟩) (fun e => by rw [show decide (x ∈ letters) = false from e] at h; exact ⟨_, rfl, x, _, rfl, rfl, _, rfl, h⟩)⟩
        · refine ⟨_, (c :: cs).map fun x => decide (x ∈ letters) || decide (x ∈ digits), rfl, ?_, _, rfl, ?_⟩
          · show some _ = some _
            rw [hc, List.map_map]
            rfl
          · rw [List.all_map]
            exact hP
theorem pr_law_is_name (C : AD) : ∀ ds P, q_law_is_name ds P → p_law_is_name C { nx := fun _ => P .non, rt := P } (startD n_law_is_name ds) := by
  rintro ds P ⟨z, rfl, hz, hP⟩
  refine ⟨_, rfl, _, rfl, z, rfl, by omega, (z.length : Int), 1, rfl, rfl, _, rfl, ?_⟩
  have e0 := len_cps z
  cases hc : z.cps.toList with
  | nil =>
    rw [isNm_nil hc] at hP
    rw [hc] at e0
    exact ifD (by rw [e0]; decide) (ifT ⟨_, rfl, hP⟩)
  | cons c cs =>
    rw [isNm_cons hc] at hP
    rw [hc, List.length_cons] at e0
    refine ifN (by omega) ⟨_, rfl, z, rfl, by omega, (z.length : Int), 12, rfl, rfl, _, rfl, ifE (fun h => ?_) (fun h => ?_)⟩
    · rw [show decide (z.length ≤ 12) = false from decide_eq_false (by omega)] at hP
      exact ifT ⟨_, rfl, hP⟩
    · rw [show decide (z.length ≤ 12) = true from decide_eq_true (by omega), Bool.true_and] at hP
      refine ⟨_, rfl, z, 0, c, rfl, rfl, by omega, by rw [hc]; exact atI_pos 0 rfl, _, rfl, c, _, rfl, rfl, _, rfl, ifnE (fun h => ?_) (fun h => ?_)⟩
      · rw [show decide (c ∈ letters) = false from decide_eq_false h] at hP
        exact ⟨_, rfl, hP⟩
      · rw [show decide (c ∈ letters) = true from decide_eq_true h, Bool.true_and] at hP
        refine pLc_map (it := pIS (pVar 0)) (g := pgName 2) (vs := [2]) (el := pOrV (pOp (fInSign id) (pVar 2) (pVar 1)) (pOp (fInSign id) (pVar 2) (pC (cS "0123456789")))) z.cps.toList (fun x => .str ⟨#[x]⟩) (fun x => .bl (decide (x ∈ letters) || decide (x ∈ digits))) (fun Q h => ⟨_, rfl, z, rfl, h⟩) (by rw [hc, List.length_cons]; omega) (fun x _ Q h => ?_) (mg_name 2) ?_
        · exact ⟨_, rfl, _, rfl, x, _, rfl, rfl, _, rfl, if2 (fun e => by rw [show decide (x ∈ letters) = true from e] at h; exact ⟨_, rfl, h⟩) (fun e => by rw [show decide (x ∈ letters) = false from e] at h; exact ⟨_, rfl, x, _, rfl, rfl, _, rfl, h⟩)⟩
        · refine ⟨_, (c :: cs).map fun x => decide (x ∈ letters) || decide (x ∈ digits), rfl, ?_, _, rfl, ?_⟩
          · show some _ = some _
            rw [hc, List.map_map]
            rfl
          · rw [List.all_map]
            exact hP
theorem pr_is_step_nameR (C : AD) : ∀ ds P, q_is_step_nameR ds P → p_is_step_nameR C { nx := fun _ => P .non, rt := P } (startD n_is_step_nameR ds) := by
  rintro ds P ⟨z, rfl, hz, hP⟩
  refine ⟨_, rfl, _, rfl, z, rfl, hz, _, rfl, if2 (fun h => ?_) (fun h => ?_)⟩
  · refine ⟨_, rfl, _, _, rfl, rfl, rfl, _, rfl, ?_⟩
    unfold isSt at hP
    rw [h, Bool.true_and] at hP
    rw [show decide (V.str z = V.str "frame") = decide (z = "frame") from by
      by_cases e : z = "frame"
      · rw [e]; simp
      · rw [decide_eq_false e]; exact decide_eq_false fun q => e (V.str.inj q)]
    exact hP
  · unfold isSt at hP
    rw [h, Bool.false_and] at hP
    exact ⟨_, rfl, hP⟩
end My


/-! K55d: the mathematics of routes: what is due, moving, widening, rows of indices. -/
namespace My
open PySem PySem.Spec PyProof.Rows L2 TL
theorem take_at {α : Type} {xs : List α} {i : Nat} {x : α} (h : xs[i]? = some x) : xs.take (i + 1) = xs.take i ++ [x] := by rw [List.take_add_one, h]; rfl
theorem drop_at {α : Type} {xs : List α} {i : Nat} {x : α} (h : xs[i]? = some x) : xs.drop i = x :: xs.drop (i + 1) := by
  obtain ⟨h1, h2⟩ := List.getElem?_eq_some_iff.mp h
  rw [List.drop_eq_getElem_cons h1, h2]
theorem at_map {α β : Type} {f : α → β} {xs : List α} {i : Nat} {d : β} (h : (xs.map f)[i]? = some d) : ∃ x, xs[i]? = some x ∧ d = f x := by
  rw [List.getElem?_map] at h
  obtain ⟨x, h1, rfl⟩ := Option.map_eq_some_iff.mp h
  exact ⟨x, h1, rfl⟩
/-! ### two fors -/
theorem pLc2_flat {α β : Type} (a b : Nat) (xs : List α) (dx : α → D) (ys : α → List β) (dy fz : α → β → D) {it it1 : PNx} {el : PEx} {vs vs1 : List Nat} {σd : Sd} {P : List D → Prop} (hit : ∀ Q : List D → Prop, Q (xs.map dx) → it σd Q)
    (hit1 : ∀ x ∈ xs, ∀ Q : List D → Prop, Q ((ys x).map (dy x)) → it1 ((wipeD σd vs).set a (some (.dat (dx x)))) Q)
    (hel : ∀ x ∈ xs, ∀ y ∈ ys x, ∀ Q : D → Prop, Q (fz x y) → el ((wipeD ((wipeD σd vs).set a (some (.dat (dx x)))) vs1).set b (some (.dat (dy x y)))) fun c => ∃ z, c = .dat z ∧ Q z)
    (hl : (xs.flatMap fun x => (ys x).map (fz x)).length ≤ 100000) (fin : P (xs.flatMap fun x => (ys x).map (fz x))) : pLc2 it (pgName a) pYes it1 (pgName b) pYes el vs vs1 σd P := by
  refine hit _ ⟨fun i acc => acc = (xs.take i).flatMap fun x => (ys x).map (fz x), rfl, ?_, ?_⟩
  · rintro i d acc hd rfl
    obtain ⟨x, hx, rfl⟩ := at_map hd
    have hm := List.mem_of_getElem? hx
    unfold pgName pYes
    dsimp only
    refine ifT (hit1 x hm _ ⟨fun j acc1 => acc1 = ((xs.take i).flatMap fun x => (ys x).map (fz x)) ++ ((ys x).take j).map (fz x), (List.append_nil _).symm, ?_, ?_⟩)
    · rintro j e acc1 he rfl
      obtain ⟨y, hy, rfl⟩ := at_map he
      have hn := List.mem_of_getElem? hy
      refine ⟨?_, ?_⟩
      · refine Nat.le_trans ?_ hl
        rw [List.length_append, List.length_map]
        have e1 : (xs.flatMap fun x => (ys x).map (fz x)).length = ((xs.take i).flatMap fun x => (ys x).map (fz x)).length + ((xs.drop i).flatMap fun x => (ys x).map (fz x)).length := by rw [← List.length_append, ← List.flatMap_append, List.take_append_drop]
        rw [e1, drop_at hx, List.flatMap_cons, List.length_append, List.length_map]
        have := List.length_take_le' j (ys x)
        omega
      · dsimp only
        refine ifT (hel x hm y hn (fun z => ((xs.take i).flatMap fun x => (ys x).map (fz x)) ++ ((ys x).take j).map (fz x) ++ [z] = ((xs.take i).flatMap fun x => (ys x).map (fz x)) ++ ((ys x).take (j + 1)).map (fz x)) ?_)
        rw [take_at hy, List.map_append, List.append_assoc]
        rfl
    · rintro acc1 rfl
      rw [List.length_map, List.take_length, take_at hx, List.flatMap_append]
      simp
  · rintro acc rfl
    rw [List.length_map, List.take_length]
    exact fin
/-! ### rows of indices -/
theorem rev_ind {α : Type} {p : List α → Prop} (h0 : p []) (h1 : ∀ l a, p l → p (l ++ [a])) (l : List α) : p l := by
  have g : ∀ m : List α, p m.reverse := fun m => by
    induction m with
    | nil => exact h0
    | cons a m ih => rw [List.reverse_cons]; exact h1 _ _ ih
  have := g l.reverse
  rwa [List.reverse_reverse] at this
theorem rowsF_snoc (ns : List Nat) (n : Nat) : rowsF (ns ++ [n]) = stepR (rowsF ns) n := by unfold rowsF; rw [List.foldl_append]; rfl
theorem rowsF_len : ∀ (ns : List Nat) (r : List Nat), r ∈ rowsF ns → r.length = ns.length ∧ ∀ (i k n : Nat), r[i]? = some k → ns[i]? = some n → k < n := by
  refine rev_ind ?_ ?_
  · intro r hr
    have : r = [] := by simpa [rowsF] using hr
    subst this
    exact ⟨rfl, fun i k n h => by simp at h⟩
  · intro ns n ih r hr
    rw [rowsF_snoc] at hr
    unfold stepR at hr
    obtain ⟨r0, h0, h1⟩ := List.mem_flatMap.mp hr
    obtain ⟨k0, hk, rfl⟩ := List.mem_map.mp h1
    obtain ⟨l0, f0⟩ := ih r0 h0
    refine ⟨by rw [List.length_append, List.length_append, l0]; rfl, fun i k m hi hm => ?_⟩
    by_cases q : i < r0.length
    · rw [List.getElem?_append_left q] at hi
      rw [List.getElem?_append_left (by omega)] at hm
      exact f0 i k m hi hm
    · rw [List.getElem?_append_right (by omega)] at hi hm
      have e1 : i - r0.length = 0 := by
        have := (List.getElem?_eq_some_iff.mp hi).1
        simp at this
        omega
      rw [e1] at hi
      rw [← l0, e1] at hm
      cases hi
      cases hm
      exact List.mem_range.mp hk
theorem stepR_len (acc : List (List Nat)) (n : Nat) : (stepR acc n).length = acc.length * n := by
  unfold stepR
  induction acc with
  | nil => simp
  | cons a r ih => rw [List.flatMap_cons, List.length_append, ih, List.length_map, List.length_range, List.length_cons, Nat.succ_mul, Nat.add_comm]
theorem rowsF_count {ns : List Nat} (h : ∀ n ∈ ns, n ≤ 3) : (rowsF ns).length ≤ 3 ^ ns.length := by
  revert h
  refine rev_ind (p := fun ns => (∀ n ∈ ns, n ≤ 3) → (rowsF ns).length ≤ 3 ^ ns.length) ?_ ?_ ns
  · intro _
    simp [rowsF]
  · intro ns n ih h
    rw [rowsF_snoc, stepR_len, List.length_append, List.length_singleton, Nat.pow_succ]
    exact Nat.mul_le_mul (ih fun m hm => h m (List.mem_append_left _ hm)) (h n (by simp))
/-! ### what is due -/
theorem due_none : ∀ (rs : List Step) (seen : List Str), dueF seen rs = none ↔ (∀ r ∈ rs, isSt r.nm = true ∧ badE r = none ∧ r.nm ∉ seen) ∧ (rs.map Step.nm).Nodup
  | [], seen => by simp [dueF]
  | r :: rs, seen => by
    unfold dueF
    by_cases h1 : isSt r.nm = false
    · rw [if_pos h1]
      refine ⟨fun z => (nomatch z), fun z => ?_⟩
      rw [(z.1 r List.mem_cons_self).1] at h1
      cases h1
    · rw [if_neg h1]
      by_cases h2 : r.nm ∈ seen
      · rw [if_pos h2]
        exact ⟨fun z => (nomatch z), fun z => absurd h2 (z.1 r List.mem_cons_self).2.2⟩
      · rw [if_neg h2]
        cases h3 : badE r with
        | some e =>
          refine ⟨fun z => (nomatch z), fun z => ?_⟩
          rw [(z.1 r List.mem_cons_self).2.1] at h3
          cases h3
        | none =>
          show dueF (seen ++ [r.nm]) rs = none ↔ _
          rw [due_none rs]
          have h1 : isSt r.nm = true := by cases q : isSt r.nm; exact absurd q h1; rfl
          constructor
          · rintro ⟨a, b⟩
            refine ⟨fun x hx => ?_, ?_⟩
            · rcases List.mem_cons.mp hx with rfl | hx
              · exact ⟨h1, h3, h2⟩
              · obtain ⟨a1, a2, a3⟩ := a x hx
                exact ⟨a1, a2, fun z => a3 (List.mem_append_left _ z)⟩
            · rw [List.map_cons, List.nodup_cons]
              refine ⟨fun z => ?_, b⟩
              obtain ⟨x, hx, e⟩ := List.mem_map.mp z
              exact (a x hx).2.2 (List.mem_append_right _ (by rw [e]; exact List.mem_singleton.mpr rfl))
          · rintro ⟨a, b⟩
            rw [List.map_cons, List.nodup_cons] at b
            refine ⟨fun x hx => ?_, b.2⟩
            obtain ⟨a1, a2, a3⟩ := a x (List.mem_cons_of_mem _ hx)
            refine ⟨a1, a2, fun z => ?_⟩
            rcases List.mem_append.mp z with z | z
            · exact a3 z
            · exact b.1 (List.mem_map.mpr ⟨x, hx, List.mem_singleton.mp z⟩)
theorem Valid.iff {rs : List Step} : Valid rs ↔ (∀ r ∈ rs, isSt r.nm = true ∧ badE r = none) ∧ (rs.map Step.nm).Nodup := by
  unfold Valid
  rw [due_none]
  constructor
  · exact fun ⟨a, b⟩ => ⟨fun r hr => ⟨(a r hr).1, (a r hr).2.1⟩, b⟩
  · exact fun ⟨a, b⟩ => ⟨fun r hr => ⟨(a r hr).1, (a r hr).2, fun z => nomatch z⟩, b⟩
theorem wid_nm (n : Int) (s : Step) : (s.wid n).nm = s.nm := by cases s <;> rfl
theorem wid_late (n : Int) (s : Step) : (s.wid n).isLate = s.isLate := by cases s <;> rfl
theorem wide_valid {rs : List Step} {n : Int} (h : Valid rs) (hn : 0 ≤ n) : Valid (wideF n rs) := by
  rw [Valid.iff] at h ⊢
  refine ⟨fun r hr => ?_, ?_⟩
  · obtain ⟨s, hs, rfl⟩ := List.mem_map.mp hr
    obtain ⟨h1, h2⟩ := h.1 s hs
    refine ⟨by rw [wid_nm]; exact h1, ?_⟩
    cases s with
    | part m => rfl
    | late m os => rfl
    | meas m lo hi =>
      have h2 : (if hi < lo then some (Due.ends lo hi) else none) = none := h2
      by_cases q : hi < lo
      · rw [if_pos q] at h2; cases h2
      · show (if hi + n < lo - n then some (Due.ends (lo - n) (hi + n)) else none) = none
        rw [if_neg (by omega)]
  · have e : (wideF n rs).map Step.nm = rs.map Step.nm := by
      unfold wideF
      rw [List.map_map]
      exact List.map_congr_left fun s _ => wid_nm n s
    rw [e]
    exact h.2
theorem filter_two {α : Type} (p q : α → Bool) (h : ∀ x, p x = true → q x = false) : ∀ l : List α, (l.filter p).length + (l.filter q).length ≤ l.length
  | [] => by simp
  | a :: l => by
    have ih := filter_two p q h l
    cases hp : p a with
    | true =>
      rw [List.filter_cons_of_pos hp, List.filter_cons_of_neg (by rw [h a hp]; exact Bool.false_ne_true), List.length_cons, List.length_cons]
      omega
    | false =>
      rw [List.filter_cons_of_neg (by rw [hp]; exact Bool.false_ne_true), List.length_cons]
      cases hq : q a with
      | true => rw [List.filter_cons_of_pos hq, List.length_cons]; omega
      | false => rw [List.filter_cons_of_neg (by rw [hq]; exact Bool.false_ne_true)]; omega
theorem wide_fine {rs : List Step} {n : Int} (h : Fine 26 B1 rs) (hn : n.natAbs < 10 ^ 60) : Fine 26 B2 (wideF n rs) := by
  refine ⟨by unfold wideF; rw [List.length_map]; exact h.len, ?_, fun r hr => ?_, fun r hr => ?_⟩
  · have e : latesF (wideF n rs) = (latesF rs).map (Step.wid n) := by
      unfold latesF wideF
      rw [List.filter_map]
      congr 1
      exact List.filter_congr fun s _ => wid_late n s
    rw [e, List.length_map]
    exact h.late
  · obtain ⟨s, hs, rfl⟩ := List.mem_map.mp hr
    rw [wid_nm]
    exact h.nm s hs
  · obtain ⟨s, hs, rfl⟩ := List.mem_map.mp hr
    have hb := h.body s hs
    cases s with
    | part m => trivial
    | late m os => exact hb
    | meas m lo hi =>
      obtain ⟨b1, b2⟩ := hb
      unfold B1 at b1 b2
      show (lo - n).natAbs < B2 ∧ (hi + n).natAbs < B2
      unfold B2
      generalize (10 : Nat) ^ 60 = T at *
      omega
theorem Fine.mono {n m A B : Nat} {rs : List Step} (h : Fine n A rs) (h1 : n ≤ m) (h2 : A ≤ B) : Fine m B rs :=
  ⟨h.len, h.late, fun r hr => ⟨Nat.le_trans (h.nm r hr).1 h1, (h.nm r hr).2⟩, fun r hr => by
    have hb := h.body r hr
    cases r with
    | part m => trivial
    | late m os => exact hb
    | meas m lo hi => exact ⟨Nat.lt_of_lt_of_le hb.1 h2, Nat.lt_of_lt_of_le hb.2 h2⟩⟩
theorem B12 : B1 ≤ B2 := by unfold B1 B2; exact Nat.mul_le_mul_right _ (by decide)
/-! ### moving -/
theorem fo_disj (name : Str) (s : Step) (h : (decide (s.nm = name) && !s.isPart) = true) : (!decide (s.nm = name)) = false := by
  obtain ⟨h1, _⟩ := Bool.and_eq_true_iff.mp h
  rw [h1]
  rfl
abbrev mvF (name : Str) (k : Nat) (rs : List Step) : List Step := (othersF name rs).take k ++ foundF name rs ++ (othersF name rs).drop k
theorem mv_perm (name : Str) (k : Nat) (rs : List Step) : (mvF name k rs).Perm (foundF name rs ++ othersF name rs) := by
  show ((othersF name rs).take k ++ foundF name rs ++ (othersF name rs).drop k).Perm _
  refine (List.perm_append_comm.append_right _).trans ?_
  rw [List.append_assoc, List.take_append_drop]
theorem mv_mem {name : Str} {k : Nat} {rs : List Step} {s : Step} (h : s ∈ mvF name k rs) : s ∈ rs := by
  have h := (mv_perm name k rs).mem_iff.mp h
  rcases List.mem_append.mp h with h | h
  · exact (List.mem_filter.mp h).1
  · exact (List.mem_filter.mp h).1
theorem mv_valid {name : Str} {k : Nat} {rs : List Step} (h : Valid rs) : Valid (mvF name k rs) := by
  rw [Valid.iff] at h ⊢
  refine ⟨fun r hr => h.1 r (mv_mem hr), ?_⟩
  rw [((mv_perm name k rs).map Step.nm).nodup_iff, List.map_append, List.nodup_append]
  refine ⟨h.2.sublist (List.filter_sublist.map _), h.2.sublist (List.filter_sublist.map _), fun x hx y hy e => ?_⟩
  obtain ⟨s, hs, rfl⟩ := List.mem_map.mp hx
  obtain ⟨t, ht, rfl⟩ := List.mem_map.mp hy
  have h1 := (Bool.and_eq_true_iff.mp (List.mem_filter.mp hs).2).1
  have h2 := (List.mem_filter.mp ht).2
  rw [← e] at h2
  rw [h1] at h2
  cases h2
theorem mv_fine {name : Str} {k n B : Nat} {rs : List Step} (h : Fine n B rs) : Fine n B (mvF name k rs) := by
  refine ⟨?_, ?_, fun r hr => h.nm r (mv_mem hr), fun r hr => h.body r (mv_mem hr)⟩
  · rw [(mv_perm name k rs).length_eq, List.length_append]
    exact Nat.le_trans (filter_two _ _ (fo_disj name) rs) h.len
  · have e := ((mv_perm name k rs).filter Step.isLate).length_eq
    unfold latesF
    rw [e, List.filter_append, List.length_append]
    unfold foundF othersF
    rw [List.filter_filter, List.filter_filter]
    have := filter_two (fun s : Step => decide (s.nm = name) && !s.isPart) (fun s => !decide (s.nm = name)) (fo_disj name) (rs.filter Step.isLate)
    rw [List.filter_filter, List.filter_filter] at this
    have c1 : rs.filter (fun s => Step.isLate s && (decide (s.nm = name) && !s.isPart)) = rs.filter (fun s => (decide (s.nm = name) && !s.isPart) && Step.isLate s) := List.filter_congr fun s _ => Bool.and_comm _ _
    have c2 : rs.filter (fun s => Step.isLate s && !decide (s.nm = name)) = rs.filter (fun s => (!decide (s.nm = name)) && Step.isLate s) := List.filter_congr fun s _ => Bool.and_comm _ _
    rw [c1, c2]
    exact Nat.le_trans this h.late
theorem late_opts {s : Step} (h : s.isLate = true) : ∃ n os, s = .late n os := by
  cases s with
  | late n os => exact ⟨n, os, rfl⟩
  | part n => cases h
  | meas n lo hi => cases h
theorem sizes_ok {n B : Nat} {rs : List Step} (h : Fine n B rs) : (sizesF rs).length ≤ 2 ∧ ∀ m ∈ sizesF rs, m ≤ 3 := by
  unfold sizesF
  refine ⟨by rw [List.length_map]; exact h.late, fun m hm => ?_⟩
  obtain ⟨s, hs, rfl⟩ := List.mem_map.mp hm
  obtain ⟨h1, h2⟩ := List.mem_filter.mp hs
  obtain ⟨nm, os, rfl⟩ := late_opts h2
  exact (h.body _ h1).1
theorem fits_of {n B : Nat} {rs : List Step} {row : List Nat} (h : row ∈ rowsF (sizesF rs)) : Fits (latesF rs) row := by
  obtain ⟨h1, h2⟩ := rowsF_len _ _ h
  refine ⟨by rw [h1]; unfold sizesF; rw [List.length_map], fun i s k hs hk => h2 i k _ hk ?_⟩
  unfold sizesF
  rw [List.getElem?_map, hs]
  rfl
end My


/-! K55e: the route's defs. -/
namespace My
open PySem PySem.Spec PyProof.Rows L2 TL
theorem sAt0 (s : Step) : atI (D.str s.kd :: D.str s.nm :: s.rest) 0 = some (.str s.kd) := atI_pos 0 rfl
theorem sAt1 (s : Step) : atI (D.str s.kd :: D.str s.nm :: s.rest) 1 = some (.str s.nm) := atI_pos 1 rfl
theorem sAt2 (n : Str) (lo hi : Int) : atI (D.str (Step.meas n lo hi).kd :: D.str (Step.meas n lo hi).nm :: (Step.meas n lo hi).rest) 2 = some (.int lo) := atI_pos 2 rfl
theorem sAt3 (n : Str) (lo hi : Int) : atI (D.str (Step.meas n lo hi).kd :: D.str (Step.meas n lo hi).nm :: (Step.meas n lo hi).rest) 3 = some (.int hi) := atI_pos 3 rfl
theorem sAt2l (n : Str) (os : List (List Str)) : atI (D.str (Step.late n os).kd :: D.str (Step.late n os).nm :: (Step.late n os).rest) 2 = some (.tup (os.map optD)) := atI_pos 2 rfl
theorem str_dec (a b : Str) : decide (V.str a = V.str b) = decide (a = b) := by
  by_cases e : a = b
  · rw [e]; simp
  · rw [decide_eq_false e]; exact decide_eq_false fun q => e (V.str.inj q)
theorem kd_late (s : Step) : decide (V.str s.kd = V.str "late") = s.isLate := by
  rw [str_dec]
  cases s with
  | part n => exact decide_eq_false (show ¬ ("part" : Str) = "late" from by decide +kernel)
  | meas n lo hi => exact decide_eq_false (show ¬ ("measure" : Str) = "late" from by decide +kernel)
  | late n os => exact decide_eq_true rfl
theorem kd_meas (s : Step) : decide (V.str s.kd = V.str "measure") = s.isMeas := by
  rw [str_dec]
  cases s with
  | part n => exact decide_eq_false (show ¬ ("part" : Str) = "measure" from by decide +kernel)
  | meas n lo hi => exact decide_eq_true rfl
  | late n os => exact decide_eq_false (show ¬ ("late" : Str) = "measure" from by decide +kernel)
theorem kd_part (s : Step) : decide (V.str s.kd = V.str "part") = s.isPart := by
  rw [str_dec]
  cases s with
  | part n => exact decide_eq_true rfl
  | meas n lo hi => exact decide_eq_false (show ¬ ("measure" : Str) = "part" from by decide +kernel)
  | late n os => exact decide_eq_false (show ¬ ("late" : Str) = "part" from by decide +kernel)
theorem meas_of {s : Step} (h : s.isMeas = true) : ∃ n lo hi, s = .meas n lo hi := by
  cases s with
  | meas n lo hi => exact ⟨n, lo, hi, rfl⟩
  | part n => cases h
  | late n os => cases h
theorem badE_no {s : Step} (h : s.isMeas = false) : badE s = none := by
  cases s with
  | meas n lo hi => cases h
  | part n => rfl
  | late n os => rfl
theorem dueF_cons (seen : List Str) (r : Step) (rs : List Step) : dueF seen (r :: rs) = if isSt r.nm = false then some (.badName r.nm) else if r.nm ∈ seen then some (.taken r.nm) else match badE r with
    | some e => some e
    | none => dueF (seen ++ [r.nm]) rs := rfl
/-! ### index_rows -/
theorem pr_index_rows (C : AD) : ∀ ds P, q_index_rows ds P → p_index_rows C { nx := fun _ => False, rt := fun _ => False, rn := P } (startD n_index_rows ds) := by
  rintro ds P ⟨ns, rfl, h1, h2, hP⟩
  refine ⟨[], rfl, Nat.zero_le _, [.tup []], rfl, by show 1 ≤ 100000; decide, ?_⟩
  refine ⟨_, rfl, _, rfl, fun i σd => ∃ y, σd = [some (.dat (.lst (ns.map fun (n : Nat) => .int (n : Int)))), some (.lm ((rowsF (ns.take i)).map rowD)), y, none, none], ⟨none, rfl⟩, ?_, ?_⟩
  · rintro i d σd hd ⟨y, rfl⟩
    obtain ⟨n, hn, rfl⟩ := at_map hd
    have hn3 := h2 n (List.mem_of_getElem? hn)
    have hcnt : (rowsF (ns.take (i + 1))).length ≤ 9 := by
      refine Nat.le_trans (rowsF_count fun m hm => h2 m (List.mem_of_mem_take hm)) ?_
      have : (ns.take (i + 1)).length ≤ 2 := Nat.le_trans (List.length_take_le' _ _) h1
      exact Nat.le_trans (Nat.pow_le_pow_right (by decide) this) (by decide)
    have e1 : (rowsF (ns.take i)).flatMap (fun r => (List.range n).map fun k => rowD (r ++ [k])) = (rowsF (ns.take (i + 1))).map rowD := by
      rw [take_at hn, rowsF_snoc]
      unfold stepR
      rw [List.map_flatMap]
      simp only [List.map_map]
      rfl
    refine ⟨_, _, rfl, rfl, ?_⟩
    refine pLc2_flat (it := pIL (pVar 1)) (it1 := pIR (pCons (pVar 2) pNil)) (el := pOp fCatA (pVar 3) (pTup (pCons (pVar 4) pNil))) (vs := [3, 4]) (vs1 := [4]) 3 4 (rowsF (ns.take i)) rowD (fun _ => List.range n) (fun _ k => .int (k : Int)) (fun r k => rowD (r ++ [k])) (fun Q h => ⟨_, rfl, _, rfl, h⟩) (fun r _ Q h => ⟨_, rfl, (n : Int), rfl, by omega, by omega, h⟩) (fun r hr k _ Q h => ?_) ?_ ?_
    · have hl := (rowsF_len _ _ hr).1
      have ht : (ns.take i).length ≤ 2 := Nat.le_trans (List.length_take_le' _ _) h1
      refine ⟨_, rfl, _, rfl, _, rfl, by show 1 ≤ 100000; decide, _, _, rfl, rfl, ?_, _, rfl, ?_⟩
      · rw [List.length_map]
        show r.length + 1 ≤ 100000
        omega
      · unfold rowD at h
        rw [List.map_append] at h
        exact h
    · rw [e1, List.length_map]
      omega
    · rw [e1]
      exact ⟨_, rfl⟩
  · rintro σd ⟨y, rfl⟩
    rw [List.length_map, List.take_length]
    exact ⟨_, rfl, rfl, hP⟩
/-! ### the route -/
theorem pr_Route_steps (C : AD) : ∀ ds P, q_Route_steps C ds P → p_Route_steps C { nx := fun _ => False, rt := fun _ => False, rn := P } (startD n_Route_steps ds) := by
  rintro ds P ⟨rs, rfl, hP⟩
  exact ⟨_, rfl, _, _, .inl rfl, rfl, _, _, rfl, rfl, hP⟩
def seenD (rs : List Step) : List (Key × D) := rs.map fun r => (.inr r.nm, .bl true)
theorem seen_val (n : Str) : ∀ rs : List Step, (valD (seenD rs) (.inr n)).isSome = decide (n ∈ rs.map Step.nm)
  | [] => rfl
  | r :: rs => by
    show (valD ((.inr r.nm, .bl true) :: seenD rs) (.inr n)).isSome = _
    rw [valD_cons]
    by_cases e : r.nm = n
    · rw [if_pos (congrArg Sum.inr e), decide_eq_true (by rw [List.map_cons, e]; exact List.mem_cons_self)]
      rfl
    · rw [if_neg (fun z => e (Sum.inr.inj z)), seen_val n rs]
      by_cases m : n ∈ rs.map Step.nm
      · rw [decide_eq_true m, decide_eq_true (by rw [List.map_cons]; exact List.mem_cons_of_mem _ m)]
      · rw [decide_eq_false m, decide_eq_false]
        rw [List.map_cons]
        intro z
        rcases List.mem_cons.mp z with z | z
        · exact e z.symm
        · exact m z
theorem seen_put {n : Str} {rs : List Step} (h : n ∉ rs.map Step.nm) : putG (seenD rs) (.inr n) (D.bl true) = seenD rs ++ [(.inr n, .bl true)] := by
  unfold putG
  have e : ((seenD rs).any fun kv => decide (kv.1 = Sum.inr n)) = false := by
    rw [List.any_eq_false]
    intro x hx
    obtain ⟨r, hr, rfl⟩ := List.mem_map.mp hx
    intro z
    exact h (List.mem_map.mpr ⟨r, hr, Sum.inr.inj (of_decide_eq_true z)⟩)
  rw [e]
  rfl
theorem pr_Route_init (C : AD) : ∀ x xs P X, q_Route_init C xs P X → p_Route_init C { nx := fun σd => ∃ fs r, σd = some (.om x C.Route fs) :: r ∧ P fs, rt := fun _ => False } (fun ex _ => X ex) (some (.om x C.Route []) :: startC (n_Route_init.drop 1) xs) := by
  rintro x xs P X ⟨y, rs, rfl, hy, fn, h⟩
  refine ⟨_, rfl, _, _, rfl, hy, _, _, _, rfl, rfl, Nat.zero_le _, ?_⟩
  refine ⟨_, rfl, _, _, .inr ⟨_, rfl⟩, rfl, _, rfl, fun i σd => ∃ z, σd = [some (.om x C.Route [("_steps", rowsD rs)]), some y, some (.dm (seenD (rs.take i))), z] ∧ dueF [] rs = dueF ((rs.take i).map Step.nm) (rs.drop i), ⟨none, rfl, rfl⟩, ?_, ?_⟩
  · rintro i d σd hd ⟨z, rfl, hdue⟩
    obtain ⟨r, hr, rfl⟩ := at_map hd
    have hm := List.mem_of_getElem? hr
    have hnl := (fn.nm r hm).1
    have hlt := (List.getElem?_eq_some_iff.mp hr).1
    rw [drop_at hr, dueF_cons] at hdue
    refine ⟨_, rfl, _, 1, _, rfl, rfl, sAt1 r, _, rfl, r.nm, rfl, by omega, _, rfl, ?_⟩
    cases hst : isSt r.nm with
    | false =>
      rw [if_pos hst] at hdue
      rw [hdue] at h
      exact ifT ⟨_, rfl, _, 1, _, rfl, rfl, sAt1 r, _, rfl, h⟩
    | true =>
      rw [if_neg (by rw [hst]; exact fun z => nomatch z)] at hdue
      refine ifF ⟨_, rfl, _, 1, _, rfl, rfl, sAt1 r, _, rfl, .inl ⟨_, _, rfl, rfl, _, rfl, ?_⟩⟩
      rw [show id (valD (seenD (rs.take i)) (.inr r.nm)).isSome = decide (r.nm ∈ (rs.take i).map Step.nm) from seen_val _ _]
      by_cases hs : r.nm ∈ (rs.take i).map Step.nm
      · rw [if_pos hs] at hdue
        rw [hdue] at h
        exact ifD hs ⟨_, rfl, _, 1, _, rfl, rfl, sAt1 r, _, rfl, h⟩
      · rw [if_neg hs] at hdue
        refine ifN hs ⟨_, rfl, _, 0, _, rfl, rfl, sAt0 r, _, _, rfl, rfl, rfl, _, rfl, ?_⟩
        have tail : ∀ z', badE r = none → ∃ z, ([some (.om x C.Route [("_steps", rowsD rs)]), some y, some (.dm (putG (seenD (rs.take i)) (.inr r.nm) (.bl true))), z'] : Sd) = [some (.om x C.Route [("_steps", rowsD rs)]), some y, some (.dm (seenD (rs.take (i + 1)))), z] ∧ dueF [] rs = dueF ((rs.take (i + 1)).map Step.nm) (rs.drop (i + 1)) := fun z' hb => by
          refine ⟨z', ?_, ?_⟩
          · rw [seen_put hs, take_at hr]
            unfold seenD
            rw [List.map_append]
            rfl
          · rw [hb] at hdue
            rw [take_at hr, List.map_append]
            exact hdue
        have hsl : (seenD (rs.take i)).length ≤ 100000 := by
          unfold seenD
          rw [List.length_map]
          have := List.length_take_le' i rs
          have := fn.len
          omega
        refine if2 (fun e => ?_) (fun e => ?_)
        · obtain ⟨n, lo, hi, rfl⟩ := meas_of ((kd_meas r).symm.trans e)
          refine ⟨_, rfl, _, 2, _, rfl, rfl, sAt2 n lo hi, _, rfl, _, 3, _, rfl, rfl, sAt3 n lo hi, _, _, rfl, rfl, _, rfl, ifE (fun q => ?_) (fun q => ?_)⟩
          · have hb : badE (.meas n lo hi) = some (.ends lo hi) := if_pos q
            rw [hb] at hdue
            rw [hdue] at h
            exact ⟨_, rfl, _, 2, _, rfl, rfl, sAt2 n lo hi, _, rfl, _, 3, _, rfl, rfl, sAt3 n lo hi, _, _, rfl, rfl, h⟩
          · have hb : badE (.meas n lo hi) = none := if_neg q
            exact ⟨_, rfl, _, rfl, _, 1, _, rfl, rfl, sAt1 _, _, _, rfl, rfl, hsl, tail _ hb⟩
        · exact ⟨_, rfl, _, rfl, _, 1, _, rfl, rfl, sAt1 _, _, _, rfl, rfl, hsl, tail _ (badE_no ((kd_meas r).symm.trans e))⟩
  · rintro σd ⟨z, rfl, hdue⟩
    rw [List.length_map, List.drop_length] at hdue
    rw [hdue] at h
    exact ⟨_, _, rfl, h⟩
end My


/-! K55f: the route's methods, and the law's own rows, runs, widening, moving. -/
namespace My
open PySem PySem.Spec PyProof.Rows L2 TL
theorem cutL_D {α : Type} (xs : List α) (k : Nat) : cutL xs (some (k : Int)) none = xs.drop k := by
  unfold cutL
  rw [HT.sIx_nat, HT.sIx_none]
  by_cases h : k ≤ xs.length
  · rw [Nat.min_eq_left h, List.take_of_length_le]
    rw [List.length_drop]
    exact Nat.le_refl _
  · rw [Nat.min_eq_right (by omega), List.drop_length, List.drop_eq_nil_of_le (by omega), List.take_nil]
theorem cutL_T {α : Type} (xs : List α) (k : Nat) : cutL xs none (some (k : Int)) = xs.take k := by
  unfold cutL
  rw [HT.sIx_nat, HT.sIx_none, List.drop_zero, Nat.sub_zero]
  by_cases h : k ≤ xs.length
  · rw [Nat.min_eq_left h]
  · rw [Nat.min_eq_right (by omega), List.take_length, List.take_of_length_le (by omega)]
theorem int_dec (a b : Int) : decide (V.int a = V.int b) = decide (a = b) := by
  by_cases e : a = b
  · rw [e]; simp
  · rw [decide_eq_false e]; exact decide_eq_false fun q => e (V.int.inj q)
theorem wid_no {s : Step} (n : Int) (h : s.isMeas = false) : s.wid n = s := by
  cases s with
  | meas m lo hi => cases h
  | part m => rfl
  | late m os => rfl
theorem wide_snoc {rs : List Step} {i : Nat} {r : Step} (n : Int) (hr : rs[i]? = some r) : (wideF n (rs.take i)).map Step.d ++ [(r.wid n).d] = (wideF n (rs.take (i + 1))).map Step.d := by
  rw [take_at hr]
  unfold wideF
  rw [List.map_append, List.map_append]
  rfl
theorem len4 (a b c d : D) : [a, b, c, d].length ≤ 100000 := by show 4 ≤ 100000; decide
theorem len3 (a b c : D) : [a, b, c].length ≤ 100000 := by show 3 ≤ 100000; decide
theorem len2 (a b : D) : [a, b].length ≤ 100000 := by show 2 ≤ 100000; decide
theorem len1 (a : D) : [a].length ≤ 100000 := by show 1 ≤ 100000; decide
theorem wl {rs : List Step} (n : Int) (i : Nat) (h : rs.length ≤ 14) : ((wideF n (rs.take i)).map Step.d).length ≤ 100000 := by
  unfold wideF
  rw [List.length_map, List.length_map]
  have := List.length_take_le' i rs
  omega
theorem pr_Route_widened (C : AD) : ∀ ds P X, q_Route_widened C ds P X → p_Route_widened C { nx := fun _ => P .non, rt := P } (fun x _ => X x) (startD n_Route_widened ds) := by
  rintro ds P X ⟨rs, n, rfl, fn, hv, hn, h⟩
  refine ⟨_, rfl, n, 0, rfl, rfl, _, rfl, ifE (fun q => ?_) (fun q => ?_)⟩
  · rw [show widesF n rs = .inl (.widen n) from if_pos q] at h
    exact ⟨_, rfl, _, rfl, h⟩
  · rw [show widesF n rs = .inr (wideF n rs) from if_neg q] at h
    refine ⟨[], rfl, Nat.zero_le _, ?_⟩
    refine ⟨_, rfl, _, _, .inl rfl, rfl, _, rfl, fun i σd => ∃ z, σd = [some (.dat (route C rs)), some (cI n), some (.lm ((wideF n (rs.take i)).map Step.d)), z], ⟨none, rfl⟩, ?_, ?_⟩
    · rintro i d σd hd ⟨z, rfl⟩
      obtain ⟨r, hr, rfl⟩ := at_map hd
      refine ⟨_, rfl, _, 0, _, rfl, rfl, sAt0 r, _, _, rfl, rfl, rfl, _, rfl, if2 (fun e => ?_) (fun e => ?_)⟩
      · obtain ⟨m, lo, hi, rfl⟩ := meas_of ((kd_meas r).symm.trans e)
        refine ⟨_, rfl, _, rfl, _, 1, _, rfl, rfl, sAt1 _, _, rfl, _, 2, _, rfl, rfl, sAt2 m lo hi, _, rfl, lo, n, rfl, rfl, _, rfl, _, 3, _, rfl, rfl, sAt3 m lo hi, _, rfl, hi, n, rfl, rfl, _, rfl, len4 _ _ _ _, _, rfl, wl n i fn.len, some (.dat (Step.meas m lo hi).d), ?_⟩
        rw [← wide_snoc n hr]
        rfl
      · refine ⟨_, rfl, _, rfl, _, rfl, wl n i fn.len, some (.dat r.d), ?_⟩
        rw [← wide_snoc n hr, wid_no n ((kd_meas r).symm.trans e)]
        rfl
    · rintro σd ⟨z, rfl⟩
      rw [List.length_map, List.take_length]
      refine ⟨_, rfl, _, rfl, _, wideF n rs, rfl, rfl, wide_fine fn hn, ?_⟩
      rw [show dueF [] (wideF n rs) = none from wide_valid hv (by omega)]
      exact h
theorem found_step {nm : Str} {s : Step} {σd : Sd} {i j : Nat} {Q0 : Prop} {Q : D → Prop} (hi : σd[i]? = some (some (.dat s.d))) (hj : σd[j]? = some (some (cS nm))) (h1 : (decide (s.nm = nm) && !s.isPart) = true → Q s.d) (h0 : (decide (s.nm = nm) && !s.isPart) = false → Q0) :
    pAnd (pTest (pOp (fEq id) (pOp fIxT (pVar i) (pC (cI 1))) (pVar j))) (pTest (pOp (fEq not) (pOp fIxT (pVar i) (pC (cI 0))) (pC (cS "part")))) σd fun b => if b = true then pVar i σd fun c => ∃ y, c = .dat y ∧ Q y else Q0 := by
  refine ⟨_, hi, _, 1, _, rfl, rfl, sAt1 s, _, hj, _, _, rfl, rfl, rfl, _, rfl, if2 (fun e => ?_) (fun e => ?_)⟩
  · have e1 : decide (s.nm = nm) = true := (str_dec _ _).symm.trans e
    rw [e1, Bool.true_and] at h1 h0
    refine ⟨_, hi, _, 0, _, rfl, rfl, sAt0 s, _, _, rfl, rfl, rfl, _, rfl, ?_⟩
    rw [kd_part]
    exact if2 (fun e2 => ⟨_, hi, _, rfl, h1 e2⟩) (fun e2 => h0 e2)
  · have e1 : decide (s.nm = nm) = false := (str_dec _ _).symm.trans e
    rw [e1, Bool.false_and] at h0
    exact ifF (h0 rfl)
theorem other_step {nm : Str} {s : Step} {σd : Sd} {i j : Nat} {Q0 : Prop} {Q : D → Prop} (hi : σd[i]? = some (some (.dat s.d))) (hj : σd[j]? = some (some (cS nm))) (h1 : (!decide (s.nm = nm)) = true → Q s.d) (h0 : (!decide (s.nm = nm)) = false → Q0) :
    pTest (pOp (fEq not) (pOp fIxT (pVar i) (pC (cI 1))) (pVar j)) σd fun b => if b = true then pVar i σd fun c => ∃ y, c = .dat y ∧ Q y else Q0 := by
  refine ⟨_, hi, _, 1, _, rfl, rfl, sAt1 s, _, hj, _, _, rfl, rfl, rfl, _, rfl, ?_⟩
  rw [str_dec]
  exact if2 (fun e => ⟨_, hi, _, rfl, h1 e⟩) (fun e => h0 e)
theorem mvD (nm : Str) (k : Nat) (rs : List Step) : cutL ((othersF nm rs).map Step.d) none (some (k : Int)) ++ (foundF nm rs).map Step.d ++ cutL ((othersF nm rs).map Step.d) (some (k : Int)) none = (mvF nm k rs).map Step.d := by
  rw [cutL_T, cutL_D]
  show _ = ((othersF nm rs).take k ++ foundF nm rs ++ (othersF nm rs).drop k).map Step.d
  rw [List.map_append, List.map_append, List.map_take, List.map_drop]
theorem fo_len (nm : Str) (rs : List Step) : (foundF nm rs).length ≤ rs.length ∧ (othersF nm rs).length ≤ rs.length := ⟨List.length_filter_le _ _, List.length_filter_le _ _⟩
theorem pr_Route_moved (C : AD) : ∀ ds P X, q_Route_moved C ds P X → p_Route_moved C { nx := fun _ => P .non, rt := P } (fun x _ => X x) (startD n_Route_moved ds) := by
  rintro ds P X ⟨rs, nm, to, rfl, fn, hv, h⟩
  obtain ⟨l1, l2⟩ := fo_len nm rs
  have l0 := fn.len
  refine pLc_filter (it := pIL (pFld C.Route "_steps" (pVar 0))) (g := pgName 5) (t := pAnd (pTest (pOp (fEq id) (pOp fIxT (pVar 5) (pC (cI 1))) (pVar 1))) (pTest (pOp (fEq not) (pOp fIxT (pVar 5) (pC (cI 0))) (pC (cS "part"))))) (el := pVar 5) (vs := [5]) rs Step.d Step.d (fun s => decide (s.nm = nm) && !s.isPart) (fun Q h => ⟨_, rfl, _, _, .inl rfl, rfl, _, rfl, h⟩) (by omega) (fun s _ Q0 Q h1 h0 => found_step rfl rfl h1 h0) ?_
  refine ⟨_, rfl, _, _, rfl, rfl, _, _, rfl, rfl, rfl, _, rfl, if2 (fun e => ?_) (fun e => ?_)⟩
  · have e1 : (foundF nm rs).length = 0 := by
      have e := of_decide_eq_true ((int_dec _ _).symm.trans e)
      rw [List.length_map] at e
      exact Int.ofNat.inj e
    rw [show movedF nm to rs = .inl (.unknown nm) from if_pos e1] at h
    exact ⟨_, rfl, _, rfl, h⟩
  · have e1 : ¬ (foundF nm rs).length = 0 := fun z => by
      have e := of_decide_eq_false ((int_dec _ _).symm.trans e)
      rw [List.length_map] at e
      exact e (congrArg Int.ofNat z)
    refine ⟨_, rfl, 0, to, rfl, rfl, _, rfl, ?_⟩
    have er : ((rs.map Step.d).length : Int) = (rs.length : Int) := by rw [List.length_map]
    have bad : ¬ (0 ≤ to ∧ to < rs.length) → pRaise (pMkE1 C.BadPosition "to" (pVar 2)) { nx := fun _ => P .non, rt := P } (fun x _ => X x) [some (.dat (route C rs)), some (cS nm), some (cI to), some (.lm ((foundF nm rs).map Step.d)), none, none] := fun q => by
      rw [show movedF nm to rs = .inl (.position to) from (if_neg e1).trans (if_neg q)] at h
      exact ⟨_, rfl, _, rfl, h⟩
    refine ifE (fun q0 => ?_) (fun q0 => ?_)
    · refine ⟨_, rfl, _, _, .inl rfl, rfl, _, _, rfl, rfl, to, _, rfl, rfl, _, rfl, ifnE (fun q1 => ?_) (fun q1 => ?_)⟩
      · exact bad fun z => q1 (by rw [er]; exact z.2)
      · rw [er] at q1
        obtain ⟨k, rfl⟩ := Int.eq_ofNat_of_zero_le q0
        rw [show movedF nm (k : Int) rs = .inr (mvF nm k rs) from (if_neg e1).trans (if_pos ⟨q0, q1⟩)] at h
        refine pLc_filter (it := pIL (pFld C.Route "_steps" (pVar 0))) (g := pgName 5) (t := pTest (pOp (fEq not) (pOp fIxT (pVar 5) (pC (cI 1))) (pVar 1))) (el := pVar 5) (vs := [5]) rs Step.d Step.d (fun s => !decide (s.nm = nm)) (fun Q h => ⟨_, rfl, _, _, .inl rfl, rfl, _, rfl, h⟩) (by omega) (fun s _ Q0 Q h1 h0 => other_step rfl rfl h1 h0) ?_
        refine ⟨_, rfl, _, rfl, (k : Int), rfl, _, rfl, _, rfl, _, _, rfl, rfl, ?_, _, rfl, _, rfl, (k : Int), rfl, _, rfl, _, _, rfl, rfl, ?_, _, rfl, _, mvF nm k rs, rfl, congrArg some (mvD nm k rs), mv_fine fn, ?_⟩
        · rw [cutL_T, List.length_take, List.length_map, List.length_map]
          have l1 : (rs.filter fun s => decide (s.nm = nm) && !s.isPart).length ≤ rs.length := l1
          have l2 : (rs.filter fun s => !decide (s.nm = nm)).length ≤ rs.length := l2
          omega
        · rw [cutL_T, cutL_D, List.length_append, List.length_take, List.length_drop, List.length_map, List.length_map]
          have l1 : (rs.filter fun s => decide (s.nm = nm) && !s.isPart).length ≤ rs.length := l1
          have l2 : (rs.filter fun s => !decide (s.nm = nm)).length ≤ rs.length := l2
          omega
        · rw [show dueF [] (mvF nm k rs) = none from mv_valid hv]
          exact h
    · exact ⟨_, rfl, ifT (bad fun z => q0 z.1)⟩
theorem late_step {s : Step} {σd : Sd} {i : Nat} {Q0 : Prop} {Q : D → Prop} (hi : σd[i]? = some (some (.dat s.d))) (h1 : s.isLate = true → Q s.d) (h0 : s.isLate = false → Q0) :
    pTest (pOp (fEq id) (pOp fIxT (pVar i) (pC (cI 0))) (pC (cS "late"))) σd fun b => if b = true then pVar i σd fun c => ∃ y, c = .dat y ∧ Q y else Q0 := by
  refine ⟨_, hi, _, 0, _, rfl, rfl, sAt0 s, _, _, rfl, rfl, rfl, _, rfl, ?_⟩
  rw [kd_late]
  exact if2 (fun e => ⟨_, hi, _, rfl, h1 e⟩) (fun e => h0 e)
theorem pr_Route_late_steps (C : AD) : ∀ ds P, q_Route_late_steps C ds P → p_Route_late_steps C { nx := fun _ => P .non, rt := P } (startD n_Route_late_steps ds) := by
  rintro ds P ⟨rs, rfl, fn, hP⟩
  have l0 := fn.len
  refine pLc_filter (it := pIL (pFld C.Route "_steps" (pVar 0))) (g := pgName 1) (t := pTest (pOp (fEq id) (pOp fIxT (pVar 1) (pC (cI 0))) (pC (cS "late")))) (el := pVar 1) (vs := [1]) rs Step.d Step.d Step.isLate (fun Q h => ⟨_, rfl, _, _, .inl rfl, rfl, _, rfl, h⟩) (by omega) (fun s _ Q0 Q h1 h0 => late_step rfl h1 h0) ?_
  exact ⟨_, rfl, hP⟩
theorem lates_len {n B : Nat} {rs : List Step} (fn : Fine n B rs) : (latesF rs).length ≤ 2 := fn.late
theorem pr_Route_late_rows (C : AD) : ∀ ds P, q_Route_late_rows C ds P → p_Route_late_rows C { nx := fun _ => False, rt := fun _ => False, rn := P } (startD n_Route_late_rows ds) := by
  rintro ds P ⟨rs, rfl, fn, hP⟩
  have l0 := fn.late
  refine pLc_map (it := pIL (pMeth C.Route "late_steps" (q_Route_late_steps C) (pVar 0) pNil)) (g := pgName 1) (el := pCB gLenQ (pCons (pOp fIxT (pVar 1) (pC (cI 2))) pNil)) (vs := [1]) (latesF rs) Step.d (fun s => .int (s.opts.length : Int)) (fun Q h => ⟨_, rfl, _, rfl, rfl, _, rfl, rs, rfl, fn, _, rfl, h⟩) (by omega) (fun s hs Q h => ?_) (mg_name 1) ?_
  · obtain ⟨n, os, rfl⟩ := late_opts (List.mem_filter.mp hs).2
    refine ⟨_, rfl, _, 2, _, rfl, rfl, sAt2l n os, _, _, rfl, rfl, _, rfl, ?_⟩
    rw [List.length_map]
    exact h
  · obtain ⟨z1, z2⟩ := sizes_ok fn
    refine ⟨_, rfl, sizesF rs, ?_, z1, z2, _, rfl, hP⟩
    unfold sizesF
    rw [List.map_map]
    rfl
end My


/-! K55g: runs of late steps; what is due; what is told. -/
namespace My
open PySem PySem.Spec PyProof.Rows L2 TL
theorem zip_get {ds es : List D} {i : Nat} {d : D} (h : (zipD ds es)[i]? = some d) : ∃ a b, ds[i]? = some a ∧ es[i]? = some b ∧ d = .tup [a, b] := by
  unfold zipD at h
  obtain ⟨p, hp, rfl⟩ := at_map h
  obtain ⟨h1, h2⟩ := List.getElem?_zip_eq_some.mp hp
  exact ⟨_, _, h1, h2, rfl⟩
theorem run_snoc {ls : List Step} {row : List Nat} {i k : Nat} {s : Step} (hs : ls[i]? = some s) (hk : row[i]? = some k) : runF (ls.take (i + 1)) (row.take (i + 1)) = runF (ls.take i) (row.take i) ++ s.opts.getD k [] := by
  unfold runF
  have l1 := (List.getElem?_eq_some_iff.mp hs).1
  have l2 := (List.getElem?_eq_some_iff.mp hk).1
  rw [take_at hs, take_at hk, List.zip_append (by rw [List.length_take, List.length_take]; omega), List.map_append, List.flatten_append]
  simp
/-- an option of a late step -/
theorem opt_at {n B : Nat} {rs : List Step} {row : List Nat} {i k : Nat} {s : Step} (fn : Fine n B rs) (ft : Fits (latesF rs) row) (hs : (latesF rs)[i]? = some s) (hk : row[i]? = some k) : ∃ m os o, s = .late m os ∧ os[k]? = some o ∧ s.opts.getD k [] = o ∧ o.length ≤ 4 := by
  obtain ⟨h1, h2⟩ := List.mem_filter.mp (List.mem_of_getElem? hs)
  obtain ⟨m, os, rfl⟩ := late_opts h2
  have hlt : k < os.length := ft.2 i _ k hs hk
  refine ⟨m, os, os[k], rfl, List.getElem?_eq_getElem hlt, ?_, ((fn.body _ h1).2 _ (List.getElem_mem hlt)).1⟩
  show os.getD k [] = os[k]
  rw [List.getD_eq_getElem?_getD, List.getElem?_eq_getElem hlt]
  rfl
theorem run_len {n B : Nat} {rs : List Step} {row : List Nat} (fn : Fine n B rs) (ft : Fits (latesF rs) row) : ∀ i, i ≤ (latesF rs).length → (runF ((latesF rs).take i) (row.take i)).length ≤ 4 * i
  | 0, _ => by simp [runF]
  | i + 1, h => by
    have ih := run_len fn ft i (by omega)
    have hs : (latesF rs)[i]? = some (latesF rs)[i] := List.getElem?_eq_getElem (by omega)
    have hr : i < row.length := by rw [ft.1]; omega
    have hk : row[i]? = some row[i] := List.getElem?_eq_getElem hr
    obtain ⟨m, os, o, _, _, eo, ol⟩ := opt_at fn ft hs hk
    rw [run_snoc hs hk, List.length_append, eo]
    omega
theorem pr_Route_late_run (C : AD) : ∀ ds P, q_Route_late_run C ds P → p_Route_late_run C { nx := fun _ => P .non, rt := P } (startD n_Route_late_run ds) := by
  rintro ds P ⟨rs, row, rfl, fn, ft, hP⟩
  have l0 := fn.late
  have zl : (zipD ((latesF rs).map Step.d) (row.map fun (k : Nat) => .int (k : Int))).length = (latesF rs).length := by
    rw [zipD_len, List.length_map, List.length_map, ft.1, Nat.min_self]
  refine ⟨[], rfl, Nat.zero_le _, ?_⟩
  refine ⟨_, rfl, _, rfl, rfl, _, rfl, rs, rfl, fn, _, rfl, _, _, rfl, fun i σd => i ≤ (latesF rs).length ∧ ∃ a b, σd = [some (.dat (route C rs)), some (.dat (rowD row)), some (.lm ((runF ((latesF rs).take i) (row.take i)).map .str)), a, b], ⟨Nat.zero_le _, none, none, rfl⟩, ?_, ?_⟩
  · rintro i d σd hd ⟨hi, a, b, rfl⟩
    obtain ⟨x, y, hx, hy, rfl⟩ := zip_get hd
    obtain ⟨s, hs, rfl⟩ := at_map hx
    obtain ⟨k, hk, rfl⟩ := at_map hy
    have hlt := (List.getElem?_eq_some_iff.mp hs).1
    obtain ⟨m, os, o, rfl, ho, eo, ol⟩ := opt_at fn ft hs hk
    have rl := run_len fn ft i hi
    refine ⟨_, rfl, _, _, rfl, _, _, rfl, rfl, _, rfl, _, rfl, _, 2, _, rfl, rfl, sAt2l m os, _, rfl, _, (k : Int), _, rfl, rfl, atI_nat (by rw [List.getElem?_map, ho]; rfl), _, rfl, ?_, hlt, some (.dat (Step.late m os).d), some (cI (k : Int)), ?_⟩
    · rw [List.length_map, List.length_map]
      omega
    · rw [run_snoc hs hk, eo, List.map_append]
      rfl
  · rintro σd ⟨_, a, b, rfl⟩
    rw [zl, List.take_length, List.take_of_length_le (by rw [ft.1]; exact Nat.le_refl _)]
    exact ⟨_, rfl, _, _, rfl, rfl, _, rfl, hP⟩
/-! ### the law's own -/
theorem pr_law_late_run (C : AD) : ∀ ds P, q_law_late_run ds P → p_law_late_run C { nx := fun _ => P .non, rt := P } (startD n_law_late_run ds) := by
  rintro ds P ⟨rs, row, rfl, fn, ft, hP⟩
  have l0 := fn.late
  have l1 := fn.len
  have rl0 : (rangeD (((row.map fun (k : Nat) => D.int (k : Int)).length : Nat) : Int)).length = (latesF rs).length := by
    unfold rangeD
    rw [List.length_map, List.length_range, Int.toNat_natCast, List.length_map, ft.1]
  refine ⟨[], rfl, Nat.zero_le _, _, rfl, ?_⟩
  refine pLc_filter (it := pIL (pVar 0)) (g := pgName 5) (t := pTest (pOp (fEq id) (pOp fIxT (pVar 5) (pC (cI 0))) (pC (cS "late")))) (el := pVar 5) (vs := [5]) rs Step.d Step.d Step.isLate (fun Q h => ⟨_, rfl, _, rfl, h⟩) (by omega) (fun s _ Q0 Q h1 h0 => late_step rfl h1 h0) ?_
  refine ⟨_, rfl, _, _, rfl, rfl, _, rfl, ?_, ?_, fun i σd => i ≤ (latesF rs).length ∧ ∃ a, σd = [some (.dat (rowsD rs)), some (.dat (rowD row)), some (.dat (optD (runF ((latesF rs).take i) (row.take i)))), some (.lm ((latesF rs).map Step.d)), a, none], ⟨Nat.zero_le _, none, rfl⟩, ?_, ?_⟩
  · rw [List.length_map, ft.1]; omega
  · rw [List.length_map, ft.1]; omega
  · rintro i d σd hd ⟨hi, a, rfl⟩
    have hlt := (List.getElem?_eq_some_iff.mp hd).1
    rw [rl0] at hlt
    have ed : d = .int (i : Int) := by
      unfold rangeD at hd
      obtain ⟨j, hj, rfl⟩ := at_map hd
      obtain ⟨h1, h2⟩ := List.getElem?_eq_some_iff.mp hj
      rw [List.getElem_range] at h2
      rw [h2]
    subst ed
    have hs : (latesF rs)[i]? = some (latesF rs)[i] := List.getElem?_eq_getElem hlt
    have hlr : i < row.length := by rw [ft.1]; exact hlt
    have hk : row[i]? = some row[i] := List.getElem?_eq_getElem hlr
    obtain ⟨m, os, o, es, ho, eo, ol⟩ := opt_at fn ft hs hk
    have rl := run_len fn ft i hi
    refine ⟨_, rfl, _, rfl, _, rfl, _, (i : Int), _, rfl, rfl, atI_nat (by rw [List.getElem?_map, hs]; rfl), ?_⟩
    rw [es] at eo ⊢
    refine ⟨_, 2, _, rfl, rfl, sAt2l m os, _, rfl, _, rfl, _, (i : Int), _, rfl, rfl, atI_nat (by rw [List.getElem?_map, hk]; rfl), _, ((row[i] : Nat) : Int), _, rfl, rfl, atI_nat (by rw [List.getElem?_map, ho]; rfl), _, _, rfl, rfl, ?_, _, rfl, hlt, some (cI (i : Int)), ?_⟩
    · rw [List.length_map, List.length_map]
      omega
    · rw [run_snoc hs hk, es, eo]
      unfold optD
      rw [List.map_append]
      rfl
  · rintro σd ⟨_, a, rfl⟩
    rw [rl0, List.take_length, List.take_of_length_le (by rw [ft.1]; exact Nat.le_refl _)]
    exact ⟨_, rfl, _, rfl, hP⟩
theorem pr_law_due (C : AD) : ∀ ds P, q_law_due ds P → p_law_due C { nx := fun _ => P .non, rt := P } (startD n_law_due ds) := by
  rintro ds P ⟨rs, rfl, fn, h⟩
  refine ⟨[], rfl, Nat.zero_le _, ?_⟩
  refine ⟨_, rfl, _, rfl, fun i σd => ∃ z, σd = [some (.dat (rowsD rs)), some (.lm (((rs.take i).map Step.nm).map .str)), z] ∧ dueF [] rs = dueF ((rs.take i).map Step.nm) (rs.drop i), ⟨none, rfl, rfl⟩, ?_, ?_⟩
  · rintro i d σd hd ⟨z, rfl, hdue⟩
    obtain ⟨r, hr, rfl⟩ := at_map hd
    have hm := List.mem_of_getElem? hr
    have hnl := (fn.nm r hm).1
    rw [drop_at hr, dueF_cons] at hdue
    have badN : isSt r.nm = false → P (.tup [.str "BadName", .str r.nm]) := fun e => by
      rw [if_pos e] at hdue
      rw [hdue] at h
      exact h
    refine ⟨_, rfl, _, 1, _, rfl, rfl, sAt1 r, _, rfl, r.nm, rfl, by omega, _, rfl, ?_⟩
    cases hn : isNm r.nm with
    | false => exact ifT (ifT ⟨_, rfl, _, 1, _, rfl, rfl, sAt1 r, _, rfl, len2 _ _, _, rfl, badN (by unfold isSt; rw [hn]; rfl)⟩)
    | true =>
      refine ifF ⟨_, rfl, _, 1, _, rfl, rfl, sAt1 r, _, _, rfl, rfl, rfl, _, rfl, ?_⟩
      rw [str_dec]
      by_cases hf : r.nm = "frame"
      · exact ifD hf ⟨_, rfl, _, 1, _, rfl, rfl, sAt1 r, _, rfl, len2 _ _, _, rfl, badN (by unfold isSt; rw [hn, decide_eq_true hf]; rfl)⟩
      · have hst : isSt r.nm = true := by unfold isSt; rw [hn, decide_eq_false hf]; rfl
        rw [if_neg (by rw [hst]; exact fun z => nomatch z)] at hdue
        refine ifN hf ⟨_, rfl, _, 1, _, rfl, rfl, sAt1 r, _, rfl, r.nm, (rs.take i).map Step.nm, rfl, rfl, _, rfl, ?_⟩
        by_cases hs : r.nm ∈ (rs.take i).map Step.nm
        · rw [if_pos hs] at hdue
          rw [hdue] at h
          exact ifD hs ⟨_, rfl, _, 1, _, rfl, rfl, sAt1 r, _, rfl, len2 _ _, _, rfl, h⟩
        · rw [if_neg hs] at hdue
          refine ifN hs ⟨_, rfl, _, 0, _, rfl, rfl, sAt0 r, _, _, rfl, rfl, rfl, _, rfl, ?_⟩
          have hsl : (((rs.take i).map Step.nm).map D.str).length ≤ 100000 := by
            rw [List.length_map, List.length_map]
            have := List.length_take_le' i rs
            have := fn.len
            omega
          have tail : ∀ z', badE r = none → ∃ z, ([some (.dat (rowsD rs)), some (.lm (((rs.take i).map Step.nm).map D.str ++ [D.str r.nm])), z'] : Sd) = [some (.dat (rowsD rs)), some (.lm (((rs.take (i + 1)).map Step.nm).map .str)), z] ∧ dueF [] rs = dueF ((rs.take (i + 1)).map Step.nm) (rs.drop (i + 1)) := fun z' hb => by
            refine ⟨z', ?_, ?_⟩
            · rw [take_at hr, List.map_append, List.map_append]
              rfl
            · rw [hb] at hdue
              rw [take_at hr, List.map_append]
              exact hdue
          refine if2 (fun e => ?_) (fun e => ?_)
          · obtain ⟨n, lo, hi, rfl⟩ := meas_of ((kd_meas r).symm.trans e)
            refine ⟨_, rfl, _, 2, _, rfl, rfl, sAt2 n lo hi, _, rfl, _, 3, _, rfl, rfl, sAt3 n lo hi, _, _, rfl, rfl, _, rfl, ifE (fun q => ?_) (fun q => ?_)⟩
            · have hb : badE (.meas n lo hi) = some (.ends lo hi) := if_pos q
              rw [hb] at hdue
              rw [hdue] at h
              exact ⟨_, rfl, _, 2, _, rfl, rfl, sAt2 n lo hi, _, rfl, _, 3, _, rfl, rfl, sAt3 n lo hi, _, rfl, len3 _ _ _, _, rfl, h⟩
            · have hb : badE (.meas n lo hi) = none := if_neg q
              exact ⟨_, rfl, _, rfl, _, 1, _, rfl, rfl, sAt1 _, _, rfl, hsl, tail _ hb⟩
          · exact ⟨_, rfl, _, rfl, _, 1, _, rfl, rfl, sAt1 _, _, rfl, hsl, tail _ (badE_no ((kd_meas r).symm.trans e))⟩
  · rintro σd ⟨z, rfl, hdue⟩
    rw [List.length_map, List.drop_length] at hdue
    rw [hdue] at h
    exact ⟨_, rfl, h⟩
theorem pr_law_wide (C : AD) : ∀ ds P, q_law_wide ds P → p_law_wide C { nx := fun _ => P .non, rt := P } (startD n_law_wide ds) := by
  rintro ds P ⟨rs, n, rfl, fn, hP⟩
  refine ⟨[], rfl, Nat.zero_le _, ?_⟩
  refine ⟨_, rfl, _, rfl, fun i σd => ∃ z, σd = [some (.dat (rowsD rs)), some (cI n), some (.lm ((wideF n (rs.take i)).map Step.d)), z], ⟨none, rfl⟩, ?_, ?_⟩
  · rintro i d σd hd ⟨z, rfl⟩
    obtain ⟨r, hr, rfl⟩ := at_map hd
    refine ⟨_, rfl, _, 0, _, rfl, rfl, sAt0 r, _, _, rfl, rfl, rfl, _, rfl, if2 (fun e => ?_) (fun e => ?_)⟩
    · obtain ⟨m, lo, hi, rfl⟩ := meas_of ((kd_meas r).symm.trans e)
      refine ⟨_, rfl, _, 1, _, rfl, rfl, sAt1 _, _, rfl, _, 2, _, rfl, rfl, sAt2 m lo hi, _, rfl, lo, n, rfl, rfl, _, rfl, _, 3, _, rfl, rfl, sAt3 m lo hi, _, rfl, hi, n, rfl, rfl, _, rfl, len4 _ _ _ _, _, rfl, ?_⟩
      refine ⟨_, rfl, _, rfl, _, rfl, wl n i fn.len, some (.dat (Step.meas m (lo - n) (hi + n)).d), ?_⟩
      rw [← wide_snoc n hr]
      rfl
    · refine ⟨_, rfl, _, rfl, _, rfl, wl n i fn.len, some (.dat r.d), ?_⟩
      rw [← wide_snoc n hr, wid_no n ((kd_meas r).symm.trans e)]
      rfl
  · rintro σd ⟨z, rfl⟩
    rw [List.length_map, List.take_length]
    exact ⟨_, _, rfl, rfl, _, rfl, _, rfl, hP⟩
theorem pr_law_moved (C : AD) : ∀ ds P, q_law_moved ds P → p_law_moved C { nx := fun _ => P .non, rt := P } (startD n_law_moved ds) := by
  rintro ds P ⟨rs, nm, to, rfl, fn, h⟩
  obtain ⟨l1, l2⟩ := fo_len nm rs
  have l0 := fn.len
  refine pLc_filter (it := pIL (pVar 0)) (g := pgName 5) (t := pAnd (pTest (pOp (fEq id) (pOp fIxT (pVar 5) (pC (cI 1))) (pVar 1))) (pTest (pOp (fEq not) (pOp fIxT (pVar 5) (pC (cI 0))) (pC (cS "part"))))) (el := pVar 5) (vs := [5]) rs Step.d Step.d (fun s => decide (s.nm = nm) && !s.isPart) (fun Q h => ⟨_, rfl, _, rfl, h⟩) (by omega) (fun s _ Q0 Q h1 h0 => found_step rfl rfl h1 h0) ?_
  refine ⟨_, rfl, _, _, rfl, rfl, _, _, rfl, rfl, rfl, _, rfl, if2 (fun e => ?_) (fun e => ?_)⟩
  · have e1 : (foundF nm rs).length = 0 := by
      have e := of_decide_eq_true ((int_dec _ _).symm.trans e)
      rw [List.length_map] at e
      exact Int.ofNat.inj e
    rw [show movedF nm to rs = .inl (.unknown nm) from if_pos e1] at h
    exact ⟨_, rfl, _, rfl, len2 _ _, _, rfl, h⟩
  · have e1 : ¬ (foundF nm rs).length = 0 := fun z => by
      have e := of_decide_eq_false ((int_dec _ _).symm.trans e)
      rw [List.length_map] at e
      exact e (congrArg Int.ofNat z)
    refine ⟨_, rfl, to, 0, rfl, rfl, _, rfl, ?_⟩
    have er : ((rs.map Step.d).length : Int) = (rs.length : Int) := by rw [List.length_map]
    have bad : ¬ (0 ≤ to ∧ to < rs.length) → P (.tup [.str "BadPosition", .int to]) := fun q => by
      rw [show movedF nm to rs = .inl (.position to) from (if_neg e1).trans (if_neg q)] at h
      exact h
    refine ifE (fun q0 => ?_) (fun q0 => ?_)
    · exact ifT ⟨_, rfl, _, rfl, len2 _ _, _, rfl, bad fun z => by omega⟩
    · refine ⟨_, rfl, _, rfl, _, _, rfl, rfl, to, _, rfl, rfl, _, rfl, ifE (fun q1 => ?_) (fun q1 => ?_)⟩
      · exact ⟨_, rfl, _, rfl, len2 _ _, _, rfl, bad fun z => by rw [er] at q1; omega⟩
      · rw [er] at q1
        obtain ⟨k, rfl⟩ := Int.eq_ofNat_of_zero_le (show 0 ≤ to by omega)
        rw [show movedF nm (k : Int) rs = .inr (mvF nm k rs) from (if_neg e1).trans (if_pos ⟨by omega, by omega⟩)] at h
        refine pLc_filter (it := pIL (pVar 0)) (g := pgName 5) (t := pTest (pOp (fEq not) (pOp fIxT (pVar 5) (pC (cI 1))) (pVar 1))) (el := pVar 5) (vs := [5]) rs Step.d Step.d (fun s => !decide (s.nm = nm)) (fun Q h => ⟨_, rfl, _, rfl, h⟩) (by omega) (fun s _ Q0 Q h1 h0 => other_step rfl rfl h1 h0) ?_
        refine ⟨_, rfl, _, rfl, (k : Int), rfl, _, rfl, _, rfl, _, _, rfl, rfl, ?_, _, rfl, _, rfl, (k : Int), rfl, _, rfl, _, _, rfl, rfl, ?_, _, rfl, ?_⟩
        · rw [cutL_T, List.length_take, List.length_map, List.length_map]
          have l1 : (rs.filter fun s => decide (s.nm = nm) && !s.isPart).length ≤ rs.length := l1
          have l2 : (rs.filter fun s => !decide (s.nm = nm)).length ≤ rs.length := l2
          omega
        · rw [cutL_T, cutL_D, List.length_append, List.length_take, List.length_drop, List.length_map, List.length_map]
          have l1 : (rs.filter fun s => decide (s.nm = nm) && !s.isPart).length ≤ rs.length := l1
          have l2 : (rs.filter fun s => !decide (s.nm = nm)).length ≤ rs.length := l2
          omega
        · have e := mvD nm k rs
          unfold othersF foundF at e
          rw [e]
          exact h
end My


/-! K55h: the law's rows; what is told; picks, names, numbers. -/
namespace My
open PySem PySem.Spec PyProof.Rows L2 TL
theorem range_dat (n : Nat) : rangeD (n : Int) = (List.range n).map fun (k : Nat) => D.int (k : Int) := by unfold rangeD; rw [Int.toNat_natCast]
theorem range_at {n i : Nat} {d : D} (h : (rangeD (n : Int))[i]? = some d) : i < n ∧ d = .int (i : Int) := by
  rw [range_dat] at h
  obtain ⟨j, hj, rfl⟩ := at_map h
  obtain ⟨h1, h2⟩ := List.getElem?_eq_some_iff.mp hj
  rw [List.getElem_range] at h2
  rw [List.length_range] at h1
  exact ⟨h1, by rw [h2]⟩
theorem range_len (n : Nat) : (rangeD (n : Int)).length = n := by rw [range_dat, List.length_map, List.length_range]
theorem sizes_late {rs : List Step} {i : Nat} {m : Str} {os : List (List Str)} (h : rs[i]? = some (.late m os)) : sizesF (rs.take (i + 1)) = sizesF (rs.take i) ++ [os.length] := by
  unfold sizesF latesF
  rw [take_at h, List.filter_append, List.map_append]
  rfl
theorem sizes_no {rs : List Step} {i : Nat} {s : Step} (h : rs[i]? = some s) (hl : s.isLate = false) : sizesF (rs.take (i + 1)) = sizesF (rs.take i) := by
  unfold sizesF latesF
  rw [take_at h, List.filter_append, List.filter_cons_of_neg (by rw [hl]; exact Bool.false_ne_true)]
  simp
theorem fine_take {n B : Nat} {rs : List Step} (h : Fine n B rs) (i : Nat) : Fine n B (rs.take i) :=
  ⟨Nat.le_trans (List.length_take_le' _ _) h.len, Nat.le_trans ((List.take_sublist i rs).filter _).length_le h.late, fun r hr => h.nm r (List.mem_of_mem_take hr), fun r hr => h.body r (List.mem_of_mem_take hr)⟩
theorem rows9 {n B : Nat} {rs : List Step} (h : Fine n B rs) : (rowsF (sizesF rs)).length ≤ 9 := by
  obtain ⟨h1, h2⟩ := sizes_ok h
  exact Nat.le_trans (rowsF_count h2) (Nat.le_trans (Nat.pow_le_pow_right (by decide) h1) (by decide))
theorem pr_law_rows (C : AD) : ∀ ds P, q_law_rows ds P → p_law_rows C { nx := fun _ => P .non, rt := P } (startD n_law_rows ds) := by
  rintro ds P ⟨rs, rfl, fn, hP⟩
  refine ⟨[], rfl, Nat.zero_le _, [.tup []], rfl, len1 _, ?_⟩
  refine ⟨_, rfl, _, rfl, fun i σd => ∃ a b c, σd = [some (.dat (rowsD rs)), some (.lm ((rowsF (sizesF (rs.take i))).map rowD)), a, b, c, none], ⟨none, none, none, rfl⟩, ?_, ?_⟩
  · rintro i d σd hd ⟨a, b, c, rfl⟩
    obtain ⟨s, hs, rfl⟩ := at_map hd
    refine ⟨_, rfl, _, 0, _, rfl, rfl, sAt0 s, _, _, rfl, rfl, rfl, _, rfl, if2 (fun e => ?_) (fun e => ?_)⟩
    · obtain ⟨m, os, rfl⟩ := late_opts ((kd_late s).symm.trans e)
      have f1 := fine_take fn (i + 1)
      have r9 := rows9 f1
      rw [sizes_late hs, rowsF_snoc] at r9
      have hos : os.length ≤ 3 := (fn.body _ (List.mem_of_getElem? hs)).1
      refine ⟨_, rfl, _, _, rfl, rfl, _, rfl, [], rfl, Nat.zero_le _, ?_⟩
      refine ⟨_, rfl, _, rfl, fun j σd => ∃ c, σd = [some (.dat (rowsD rs)), some (.lm ((stepR ((rowsF (sizesF (rs.take i))).take j) os.length).map rowD)), some (.dat (Step.late m os).d), some (.dat (.lst ((rowsF (sizesF (rs.take i))).map rowD))), c, none], ⟨c, rfl⟩, ?_, ?_⟩
      · rintro j d σd hd ⟨c, rfl⟩
        obtain ⟨r, hr, rfl⟩ := at_map hd
        have hl := (rowsF_len _ _ (List.mem_of_getElem? hr)).1
        have hsz := (sizes_ok (fine_take fn i)).1
        have e2 : stepR ((rowsF (sizesF (rs.take i))).take (j + 1)) os.length = stepR ((rowsF (sizesF (rs.take i))).take j) os.length ++ (List.range os.length).map fun k => r ++ [k] := by
          unfold stepR
          rw [take_at hr, List.flatMap_append]
          simp
        have b1 : (stepR ((rowsF (sizesF (rs.take i))).take j) os.length).length ≤ 100 := by
          rw [stepR_len]
          have t1 := List.length_take_le' j (rowsF (sizesF (rs.take i)))
          have t2 := rows9 (fine_take fn i)
          exact Nat.le_trans (Nat.mul_le_mul (Nat.le_trans t1 t2) hos) (by decide)
        refine ⟨_, rfl, ?_⟩
        refine pLc_map (it := pIR (pCons (pCB gLenQ (pCons (pOp fIxT (pVar 2) (pC (cI 2))) pNil)) pNil)) (g := pgName 5) (el := pOp fCatA (pVar 4) (pTup (pCons (pVar 5) pNil))) (vs := [5]) (List.range os.length) (fun (k : Nat) => .int (k : Int)) (fun k => rowD (r ++ [k])) (fun Q h => ⟨_, rfl, _, 2, _, rfl, rfl, sAt2l m os, _, _, rfl, rfl, _, rfl, ?_, ?_, ?_⟩) ?_ (fun k _ Q h => ?_) (mg_name 5) ?_
        · rw [List.length_map]; omega
        · rw [List.length_map]; omega
        · rw [List.length_map, range_dat]
          exact h
        · rw [List.length_range]; omega
        · refine ⟨_, rfl, _, rfl, _, rfl, len1 _, _, _, rfl, rfl, ?_, _, rfl, ?_⟩
          · rw [List.length_map]
            show r.length + 1 ≤ 100000
            omega
          · unfold rowD at h
            rw [List.map_append] at h
            exact h
        · refine ⟨_, _, rfl, rfl, ?_, some (.dat (rowD r)), ?_⟩
          · rw [List.length_map, List.length_map, List.length_range]
            omega
          · rw [e2, List.map_append, List.map_map]
            rfl
      · rintro σd ⟨c, rfl⟩
        rw [List.length_map, List.take_length]
        refine ⟨some (.dat (Step.late m os).d), some (.dat (.lst ((rowsF (sizesF (rs.take i))).map rowD))), c, ?_⟩
        rw [sizes_late hs, rowsF_snoc]
    · refine ⟨some (.dat s.d), b, c, ?_⟩
      rw [sizes_no hs ((kd_late s).symm.trans e)]
      rfl
  · rintro σd ⟨a, b, c, rfl⟩
    rw [List.length_map, List.take_length]
    exact ⟨_, _, rfl, rfl, _, rfl, _, rfl, hP⟩
/-! ### what is told -/
theorem isx_no {C : AD} {a T : Addr} {cls : Value} {d : Option Addr} {x : Ex} {σd : Sd} {A : PSx} {e : PEnds} (hσ : σd[5]? = some (some (.ex a cls d x))) (hx : x.C ∈ xcs C) (ne : x.C ≠ T) (h : e.nx σd) : pIfS (pTest (pIsX a cls d 5 (kx C T))) A pNext e σd :=
  ⟨x, _, hσ, if_pos hx, _, rfl, ifN ne h⟩
theorem isx_yes {C : AD} {a T : Addr} {cls : Value} {d : Option Addr} {x : Ex} {σd : Sd} {A : PSx} {e : PEnds} (hσ : σd[5]? = some (some (.ex a cls d x))) (hx : x.C ∈ xcs C) (ne : x.C = T) (h : A e σd) : pIfS (pTest (pIsX a cls d 5 (kx C T))) A pNext e σd :=
  ⟨x, _, hσ, if_pos hx, _, rfl, ifD ne h⟩
theorem isx_ve {C : AD} {a : Addr} {cls : Value} {d : Option Addr} {x : Ex} {σd : Sd} {A : PSx} {e : PEnds} (hσ : σd[5]? = some (some (.ex a cls d x))) (hx : x.C ∈ xcs C) (h : e.nx σd) : pIfS (pNot (pTest (pIsX a cls d 5 (kx_ValueError C)))) A pNext e σd :=
  ⟨x, true, hσ, if_pos hx, _, rfl, ifF h⟩
theorem ex_mem (C : AD) (e : Due) : (e.ex C).C ∈ xcs C := by cases e <;> simp [Due.ex, xcs]
def suiteP (C : AD) (a : Addr) (cls : Value) (d : Option Addr) : PSx :=
    (pSeq (pIfS (pTest (pIsX a cls d 5 (kx_BadName C))) (pApp 4 (pTup (pCons (pC (cS "BadName")) (pCons (pXf a cls d 5 C.BadName "name") pNil)))) pNext)
    (pSeq (pIfS (pTest (pIsX a cls d 5 (kx_NameTaken C))) (pApp 4 (pTup (pCons (pC (cS "NameTaken")) (pCons (pXf a cls d 5 C.NameTaken "name") pNil)))) pNext)
    (pSeq (pIfS (pTest (pIsX a cls d 5 (kx_BadEnds C))) (pApp 4 (pTup (pCons (pC (cS "BadEnds")) (pCons (pXf a cls d 5 C.BadEnds "low") (pCons (pXf a cls d 5 C.BadEnds "high") pNil))))) pNext)
    (pSeq (pIfS (pTest (pIsX a cls d 5 (kx_UnknownName C))) (pApp 4 (pTup (pCons (pC (cS "UnknownName")) (pCons (pXf a cls d 5 C.UnknownName "name") pNil)))) pNext)
    (pSeq (pIfS (pTest (pIsX a cls d 5 (kx_BadPosition C))) (pApp 4 (pTup (pCons (pC (cS "BadPosition")) (pCons (pXf a cls d 5 C.BadPosition "to") pNil)))) pNext)
    (pSeq (pIfS (pTest (pIsX a cls d 5 (kx_BadWidening C))) (pApp 4 (pTup (pCons (pC (cS "BadWidening")) (pCons (pXf a cls d 5 C.BadWidening "by") pNil)))) pNext)
    (pIfS (pNot (pTest (pIsX a cls d 5 (kx_ValueError C)))) (pApp 4 (pTup (pCons (pC (cS "another class")) (pCons (pC (cS "")) pNil)))) pNext)))))))
theorem suite_ok (C : AD) (nd : (xcs C).Nodup) (x0 x1 x2 x3 : Option Cell) (e : Due) (a : Addr) (cls : Value) (d : Option Addr) (E : PEnds) (h : ∀ z, E.nx [x0, x1, x2, x3, some (.lm [.tup e.d]), z]) :
    suiteP C a cls d E [x0, x1, x2, x3, some (.lm []), some (.ex a cls d (e.ex C))] := by
  have m := ex_mem C e
  unfold xcs at nd
  simp only [List.nodup_cons, List.mem_cons, List.not_mem_nil, or_false, not_or] at nd
  obtain ⟨⟨n12, n13, n14, n15, n16⟩, ⟨n23, n24, n25, n26⟩, ⟨n34, n35, n36⟩, ⟨n45, n46⟩, n56, _⟩ := nd
  have sx : ∀ (ds : List D), ([x0, x1, x2, x3, some (.lm ds), some (.ex a cls d (e.ex C))] : Sd)[5]? = some (some (.ex a cls d (e.ex C))) := fun _ => rfl
  cases e with
  | badName n =>
    refine isx_yes rfl m rfl ⟨[], rfl, _, _, rfl, rfl, rfl, _, rfl, len2 _ _, _, rfl, Nat.zero_le _, ?_⟩
    exact isx_no (sx _) m n12 (isx_no (sx _) m n14 (isx_no (sx _) m n13 (isx_no (sx _) m n16 (isx_no (sx _) m n15 (isx_ve (sx _) m (h _))))))
  | taken n =>
    refine isx_no rfl m (Ne.symm n12) (isx_yes rfl m rfl ⟨[], rfl, _, _, rfl, rfl, rfl, _, rfl, len2 _ _, _, rfl, Nat.zero_le _, ?_⟩)
    exact isx_no (sx _) m n24 (isx_no (sx _) m n23 (isx_no (sx _) m n26 (isx_no (sx _) m n25 (isx_ve (sx _) m (h _)))))
  | ends lo hi =>
    refine isx_no rfl m (Ne.symm n14) (isx_no rfl m (Ne.symm n24) (isx_yes rfl m rfl ⟨[], rfl, _, _, rfl, rfl, rfl, _, _, rfl, rfl, rfl, _, rfl, len3 _ _ _, _, rfl, Nat.zero_le _, ?_⟩))
    exact isx_no (sx _) m (Ne.symm n34) (isx_no (sx _) m n46 (isx_no (sx _) m n45 (isx_ve (sx _) m (h _))))
  | unknown n =>
    refine isx_no rfl m (Ne.symm n13) (isx_no rfl m (Ne.symm n23) (isx_no rfl m n34 (isx_yes rfl m rfl ⟨[], rfl, _, _, rfl, rfl, rfl, _, rfl, len2 _ _, _, rfl, Nat.zero_le _, ?_⟩)))
    exact isx_no (sx _) m n36 (isx_no (sx _) m n35 (isx_ve (sx _) m (h _)))
  | position i =>
    refine isx_no rfl m (Ne.symm n16) (isx_no rfl m (Ne.symm n26) (isx_no rfl m (Ne.symm n46) (isx_no rfl m (Ne.symm n36) (isx_yes rfl m rfl ⟨[], rfl, _, _, rfl, rfl, rfl, _, rfl, len2 _ _, _, rfl, Nat.zero_le _, ?_⟩))))
    exact isx_no (sx _) m (Ne.symm n56) (isx_ve (sx _) m (h _))
  | widen i =>
    refine isx_no rfl m (Ne.symm n15) (isx_no rfl m (Ne.symm n25) (isx_no rfl m (Ne.symm n45) (isx_no rfl m (Ne.symm n35) (isx_no rfl m n56 (isx_yes rfl m rfl ⟨[], rfl, _, _, rfl, rfl, rfl, _, rfl, len2 _ _, _, rfl, Nat.zero_le _, ?_⟩)))))
    exact isx_ve (sx _) m (h _)
theorem seq_arg {x : Cell} {ds : List D} (h : seqC x = some ds) : ∃ y, argC x = some y ∧ seqC y = some ds := by
  cases x with
  | dat d => exact ⟨_, rfl, h⟩
  | lm es => exact ⟨_, rfl, h⟩
  | rl es => exact ⟨_, rfl, h⟩
  | _ => cases h
theorem pr_law_told (C : AD) (nd : (xcs C).Nodup) : ∀ xs P, q_law_told C xs P → p_law_told C { nx := fun _ => P .non, rt := P } (startC n_law_told xs) := by
  intro xs P h
  have caught : ∀ (x0 x1 x2 x3 : Option Cell) (e : Due), P (.lst [.tup e.d]) → (e.ex C).C ∈ xcs C ∧ ∀ a cls d, suiteP C a cls d { nx := fun z => pFrzC 4 (pRet (pVar 4)) { nx := fun _ => P .non, rt := P } (z.set 5 none), rt := P, bk := fun _ => False, ct := fun _ => False, rn := fun _ => False } [x0, x1, x2, x3, some (.lm []), some (.ex a cls d (e.ex C))] := fun x0 x1 x2 x3 e hp =>
    ⟨ex_mem C e, fun a cls d => suite_ok C nd x0 x1 x2 x3 e a cls d _ fun z => ⟨_, _, rfl, rfl, _, rfl, _, rfl, hp⟩⟩
  rcases h with ⟨x, a, b, rs, rfl, hx, fn, h⟩ | ⟨rs, x, n, rfl, fn, hv, hn, h⟩ | ⟨rs, x, nm, to, rfl, fn, hv, h⟩
  · obtain ⟨y, hy, hs⟩ := seq_arg hx
    refine ⟨[], rfl, Nat.zero_le _, ?_⟩
    refine ⟨_, rfl, true, rfl, rfl, _, rfl, ifT ⟨_, rfl, [y], by unfold argsC argsC; rw [hy], y, rs, rfl, hs, fn, ?_⟩⟩
    unfold duesF at h
    cases hd : dueF [] rs with
    | none =>
      rw [hd] at h
      exact h
    | some e =>
      rw [hd] at h
      exact caught _ _ _ _ e h
  · refine ⟨[], rfl, Nat.zero_le _, ?_⟩
    refine ⟨_, rfl, false, rfl, rfl, _, rfl, ifF ⟨_, rfl, true, rfl, rfl, _, rfl, ifT ⟨_, rfl, _, rfl, rfl, _, rfl, _, rfl, rs, n, rfl, fn, hv, hn, ?_⟩⟩⟩
    cases hg : widesF n rs with
    | inl e =>
      rw [hg] at h
      exact caught _ _ _ _ e h
    | inr r =>
      rw [hg] at h
      exact h
  · refine ⟨[], rfl, Nat.zero_le _, ?_⟩
    refine ⟨_, rfl, false, rfl, rfl, _, rfl, ifF ⟨_, rfl, false, rfl, rfl, _, rfl, ifF ⟨_, rfl, _, rfl, rfl, _, rfl, _, rfl, _, rfl, rs, nm, to, rfl, fn, hv, ?_⟩⟩⟩
    cases hg : movedF nm to rs with
    | inl e =>
      rw [hg] at h
      exact caught _ _ _ _ e h
    | inr r =>
      rw [hg] at h
      exact h
end My


/-! K55i: picks, names, numbers, measures, steps. -/
namespace My
open PySem PySem.Spec PyProof.Rows L2 TL
theorem seqL_C {x : Cell} {ds : List D} (h : seqL x = some ds) : seqC x = some ds := by
  cases x with
  | dat d => cases d <;> first | exact h | cases h
  | lm es => exact h
  | rl es => exact h
  | _ => cases h
theorem seq_argL {x : Cell} {ds : List D} (h : seqL x = some ds) : ∃ y, argC x = some y ∧ seqL y = some ds := by
  cases x with
  | dat d => exact ⟨_, rfl, h⟩
  | lm es => exact ⟨_, rfl, h⟩
  | rl es => exact ⟨_, rfl, h⟩
  | _ => cases h
theorem log_small {n : Nat} (h : n ≤ 8000) : ((n : Int)).natAbs.log2 < 9000 := by
  show n.log2 < 9000
  exact Nat.lt_of_le_of_lt (Nat.log2_le_self _) (by omega)
theorem log2_lt {n k : Nat} (h : n < 2 ^ k) : n.log2 ≤ k := by
  rcases Nat.eq_zero_or_pos n with z | z
  · subst z
    exact Nat.zero_le _
  · exact Nat.le_of_lt ((Nat.log2_lt (by omega)).mpr h)
theorem log_list {n : Nat} (h : n ≤ 100000) : ((n : Int)).natAbs.log2 < 9000 := Nat.lt_of_le_of_lt (log2_lt (k := 20) (Nat.lt_of_le_of_lt h (by decide))) (by decide)
theorem mulW {i j : Int} (h1 : i.natAbs < 2 ^ 1000) (h2 : j.natAbs < 2 ^ 1000) : CMulW i j := by
  have a := log2_lt h1
  have b := log2_lt h2
  show i.natAbs.log2 + j.natAbs.log2 < 1000000
  omega
theorem pr_law_pick (C : AD) : ∀ xs P, q_law_pick xs P → p_law_pick C { nx := fun _ => P .non, rt := P } (startC n_law_pick xs) := by
  rintro xs P ⟨x, ds, rfl, hx, ne, hl, h⟩
  have hp : 0 < ds.length := List.length_pos_iff.mpr ne
  refine ⟨_, rfl, _, rfl, _, rfl, _, _, rfl, seqL_C hx, _, rfl, (ds.length : Int), rfl, by omega, log_list hl, fun d h0 h1 => ?_⟩
  obtain ⟨k, rfl⟩ := Int.eq_ofNat_of_zero_le h0
  have hk : k < ds.length := by omega
  exact ⟨ds, (k : Int), ds[k], hx, rfl, atI_nat (List.getElem?_eq_getElem hk), _, rfl, h _ (List.getElem_mem hk)⟩
theorem mem_int {ns : List Nat} {d : D} (h : d ∈ ns.map fun (n : Nat) => D.int (n : Int)) : ∃ n ∈ ns, d = .int (n : Int) := by
  obtain ⟨n, hn, rfl⟩ := List.mem_map.mp h
  exact ⟨n, hn, rfl⟩
theorem mem_str {zs : List Str} {d : D} (h : d ∈ zs.map D.str) : ∃ z ∈ zs, d = .str z := by
  obtain ⟨n, hn, rfl⟩ := List.mem_map.mp h
  exact ⟨n, hn, rfl⟩
/-! ### names -/
abbrev SG : Str := "abcdefghijklmnopqrstuvwxyz0123456789"
theorem SG_len : SG.cps.toList.length = 36 := by decide +kernel
theorem SG_asc : ∀ c ∈ SG.cps.toList, c < 128 := by decide +kernel
theorem SG_at {d : Int} (h0 : 0 ≤ d) (h1 : d < 36) : ∃ c, atI SG.cps.toList d = some c ∧ c < 128 := by
  obtain ⟨k, rfl⟩ := Int.eq_ofNat_of_zero_le h0
  have hk : k < SG.cps.toList.length := by rw [SG_len]; omega
  exact ⟨SG.cps.toList[k], atI_nat (List.getElem?_eq_getElem hk), SG_asc _ (List.getElem_mem hk)⟩
theorem SG_le : SG.length ≤ 1000000 := by decide +kernel
theorem len_app (a b : Str) : (a ++ b).length = a.length + b.length := by rw [len_tl, tl_append, List.length_append, ← len_tl, ← len_tl]
theorem asc_app {a b : Str} (ha : Asc a) (hb : Asc b) : Asc (a ++ b) := fun c hc => by
  have hc : c ∈ tl (a ++ b) := hc
  rw [tl_append] at hc
  rcases List.mem_append.mp hc with h | h
  · exact ha c h
  · exact hb c h
theorem asc_one {c : Nat} (h : c < 128) : Asc ⟨#[c]⟩ := fun x hx => by
  have : x = c := by simpa using hx
  rw [this]
  exact h
theorem len_one (c : Nat) : (⟨#[c]⟩ : Str).length = 1 := rfl
theorem tl_cut (z : Str) (lo hi : Option Int) : (cutS z lo hi).cps.toList = cutL z.cps.toList lo hi := by
  unfold cutS cutL
  rw [← len_cps]
theorem asc_cut {z : Str} (h : Asc z) (lo hi : Option Int) : Asc (cutS z lo hi) := fun c hc => by
  rw [tl_cut] at hc
  unfold cutL at hc
  exact h c (List.mem_of_mem_drop (List.mem_of_mem_take hc))
theorem len_cutT (z : Str) (k : Nat) (h : k ≤ z.length) : (cutS z none (some (k : Int))).length = k := by
  rw [len_cps, tl_cut, cutL_T, List.length_take, ← len_cps]
  omega
theorem len_cutD (z : Str) (k : Nat) : (cutS z (some (k : Int)) none).length = z.length - k := by
  rw [len_cps, tl_cut, cutL_D, List.length_drop, ← len_cps]
theorem nk_ok : ∀ k : Fin 15, 1 ≤ (("n" : Str) ++ (toString ((k.val : Nat) : Int) : Str)).length ∧ (("n" : Str) ++ (toString ((k.val : Nat) : Int) : Str)).length ≤ 12 ∧ ∀ c ∈ (("n" : Str) ++ (toString ((k.val : Nat) : Int) : Str)).cps.toList, c < 128 := by decide +kernel
theorem fresh_rest {x : Cell} {ns : List Str} {P : D → Prop} (hx : seqL x = some (ns.map .str)) (hl : ns.length ≤ 14) (hP : ∀ z, 1 ≤ z.length → Nm 12 z → P (.str z)) (w : Str) (h1 : 1 ≤ w.length) (h2 : Nm 12 w) (a4 a5 a6 : Option Cell) :
    (pSeq (pFor (pIR (pCons (pOp (fI fun i j => i + j) (pCB gLenQ (pCons (pVar 1) pNil)) (pC (cI 1))) pNil)) (pgName 4) (pSeq (pIfS (pAnd (pTest (pOp (fInS not) (pVar 3) (pVar 1))) (pTest (pOp (fEq not) (pVar 3) (pC (cS "frame"))))) (pRet (pVar 3)) pNext)
    (pAsg (pOp fCatS (pC (cS "n")) (pCB gStrI (pCons (pVar 4) pNil))) (pgName 3))))
    (pRet (pVar 3))) { nx := fun _ => P .non, rt := P } [some (.dat .src), some x, some (cS SG), some (cS w), a4, a5, a6] := by
  refine ⟨_, rfl, _, _, rfl, seqL_C hx, _, _, rfl, rfl, _, rfl, ?_, ?_, fun i σd => ∃ w a4, σd = [some (.dat .src), some x, some (cS SG), some (cS w), a4, a5, a6] ∧ 1 ≤ w.length ∧ Nm 12 w, ⟨w, a4, rfl, h1, h2⟩, ?_, ?_⟩
  · dsimp only; rw [List.length_map]; omega
  · dsimp only; rw [List.length_map]; omega
  · rintro i d σd hd ⟨w, a4, rfl, h1, h2⟩
    have hd : (rangeD (((ns.map D.str).length + 1 : Nat) : Int))[i]? = some d := hd
    obtain ⟨hi, rfl⟩ := range_at hd
    rw [List.length_map] at hi
    have nx : ∃ w_1 a4_1, ([some (.dat .src), some x, some (cS SG), some (cS (("n" : Str) ++ (toString ((i : Nat) : Int) : Str))), some (cI (i : Int)), a5, a6] : Sd) = [some (.dat .src), some x, some (cS SG), some (cS w_1), a4_1, a5, a6] ∧ 1 ≤ w_1.length ∧ Nm 12 w_1 := by
      obtain ⟨e1, e2, e3⟩ := nk_ok ⟨i, by omega⟩
      exact ⟨_, _, rfl, e1, e2, e3⟩
    have hlog : ((i : Int)).natAbs.log2 < 1920 := by
      show i.log2 < 1920
      exact Nat.lt_of_le_of_lt (Nat.log2_le_self _) (by omega)
    have hlen : ("n" : Str).length + (toString ((i : Nat) : Int) : Str).length ≤ 1000000 := by
      have := (nk_ok ⟨i, by omega⟩).2.1
      rw [len_app] at this
      exact Nat.le_trans this (by decide)
    refine ⟨_, rfl, _, rfl, w, ns, rfl, seqL_C hx, _, rfl, if2 (fun _ => ?_) (fun _ => ?_)⟩
    · refine ⟨_, rfl, _, _, rfl, rfl, rfl, _, rfl, if2 (fun _ => ?_) (fun _ => ?_)⟩
      · exact ⟨_, rfl, _, rfl, hP w h1 h2⟩
      · exact ⟨_, rfl, _, rfl, hlog, _, _, rfl, rfl, hlen, _, rfl, nx⟩
    · exact ifF ⟨_, rfl, _, rfl, hlog, _, _, rfl, rfl, hlen, _, rfl, nx⟩
  · rintro σd ⟨w, a4, rfl, h1, h2⟩
    exact ⟨_, rfl, _, rfl, hP w h1 h2⟩
theorem six (a b c d e f : D) : [a, b, c, d, e, f].length ≤ 100000 := by show 6 ≤ 100000; decide
theorem pr_law_fresh (C : AD) : ∀ xs P, q_law_fresh xs P → p_law_fresh C { nx := fun _ => P .non, rt := P } (startC n_law_fresh xs) := by
  rintro xs P ⟨x, ns, rfl, hx, hl, hn, hP⟩
  refine ⟨_, rfl, ?_⟩
  refine ⟨_, rfl, _, rfl, _, rfl, 26, rfl, by decide, by decide, fun d h0 h1 => ?_⟩
  obtain ⟨c, hc, hc1⟩ := SG_at h0 (by omega : d < 36)
  refine ⟨SG, d, c, rfl, rfl, SG_le, hc, _, rfl, ?_⟩
  have partB : ∀ a4 a5 a6, (pFor (pIR (pCons (pCallC (q_law_pick) (pCons (pVar 0) (pCons (pNewL (pLst (pCons (pC (cI 0)) (pCons (pC (cI 0)) (pCons (pC (cI 1)) (pCons (pC (cI 2)) (pCons (pC (cI 3)) (pCons (pC (cI 11)) pNil)))))))) pNil))) pNil)) (pgName 4) (pAsg (pOp fCatS (pVar 3) (pOp fIxS (pVar 2) (pCall (q_law_take) (pCons (pVar 0) (pCons (pC (cI 36)) pNil))))) (pgName 3)))
      { nx := (pSeq (pFor (pIR (pCons (pOp (fI fun i j => i + j) (pCB gLenQ (pCons (pVar 1) pNil)) (pC (cI 1))) pNil)) (pgName 4) (pSeq (pIfS (pAnd (pTest (pOp (fInS not) (pVar 3) (pVar 1))) (pTest (pOp (fEq not) (pVar 3) (pC (cS "frame"))))) (pRet (pVar 3)) pNext) (pAsg (pOp fCatS (pC (cS "n")) (pCB gStrI (pCons (pVar 4) pNil))) (pgName 3)))) (pRet (pVar 3))) { nx := fun _ => P .non, rt := P }, rt := P } [some (.dat .src), some x, some (cS SG), some (cS ⟨#[c]⟩), a4, a5, a6] := fun a4 a5 a6 => by
    refine ⟨_, rfl, _, rfl, six _ _ _ _ _ _, _, rfl, _, _, rfl, rfl, List.cons_ne_nil _ _, six _ _ _ _ _ _, fun e he => ?_⟩
    obtain ⟨n, hn, rfl⟩ := mem_int (ns := [0, 0, 1, 2, 3, 11]) he
    have hn : n ≤ 11 := by
      simp only [List.mem_cons, List.not_mem_nil, or_false] at hn
      omega
    refine ⟨(n : Int), rfl, by omega, by omega, fun i σd => ∃ w a4, σd = [some (.dat .src), some x, some (cS SG), some (cS w), a4, a5, a6] ∧ 1 ≤ w.length ∧ w.length ≤ i + 1 ∧ Asc w, ⟨_, a4, rfl, Nat.le_refl _, Nat.le_refl _, asc_one hc1⟩, ?_, ?_⟩
    · rintro i d σd hd ⟨w, a4, rfl, g1, g2, g3⟩
      obtain ⟨hi, rfl⟩ := range_at hd
      refine ⟨_, rfl, _, rfl, _, rfl, _, rfl, 36, rfl, by decide, by decide, fun e e0 e1 => ?_⟩
      obtain ⟨c2, hc2, hc3⟩ := SG_at e0 e1
      refine ⟨SG, e, c2, rfl, rfl, SG_le, hc2, _, _, rfl, rfl, ?_, _, rfl, ⟨_, _, rfl, ?_, ?_, asc_app g3 (asc_one hc3)⟩⟩
      · rw [len_one]; omega
      · rw [len_app]; omega
      · rw [len_app, len_one]; omega
    · rintro σd ⟨w, a4, rfl, g1, g2, g3⟩
      rw [range_len] at g2
      exact fresh_rest hx hl hP w g1 ⟨by omega, g3⟩ a4 a5 a6
  refine ⟨_, rfl, _, _, rfl, seqL_C hx, _, _, rfl, rfl, _, rfl, if2 (fun e0 => ?_) (fun _ => ifF (partB _ _ _))⟩
  have hpos : 0 < ns.length := by
    have := of_decide_eq_true e0
    rw [List.length_map] at this
    omega
  refine ⟨_, rfl, _, rfl, 3, rfl, by decide, by decide, fun t t0 t1 => ⟨_, _, rfl, rfl, rfl, _, rfl, if2 (fun _ => ?_) (fun _ => partB _ _ _)⟩⟩
  obtain ⟨y, hy, hs⟩ := seq_argL hx
  refine ⟨_, rfl, _, rfl, [.dat .src, y], by unfold argsC argsC argsC; rw [hy]; rfl, y, _, rfl, hs, ?_, ?_, fun e he => ?_⟩
  · intro z
    rw [List.map_eq_nil_iff] at z
    rw [z] at hpos
    exact absurd hpos (by decide)
  · rw [List.length_map]; omega
  · obtain ⟨z, hz, rfl⟩ := mem_str he
    obtain ⟨z1, z2, z3⟩ := hn z hz
    refine ⟨_, rfl, ?_⟩
    refine ⟨_, rfl, _, rfl, z, rfl, by omega, _, rfl, (z.length : Int), rfl, by omega, log_small (by omega), fun p p0 p1 => ⟨_, rfl, ?_⟩⟩
    obtain ⟨k, rfl⟩ := Int.eq_ofNat_of_zero_le p0
    have hk : k < z.length := by omega
    refine ⟨_, rfl, _, rfl, (k : Int), rfl, z, rfl, by omega, _, rfl, _, rfl, _, rfl, 26, rfl, by decide, by decide, fun e e0 e1 => ?_⟩
    obtain ⟨c2, hc2, hc3⟩ := SG_at e0 (by omega : e < 36)
    have L1 := len_cutT z k (by omega)
    have L2 : (cutS z (some ((k : Int) + 1)) none).length = z.length - (k + 1) := len_cutD z (k + 1)
    refine ⟨SG, e, c2, rfl, rfl, SG_le, hc2, _, _, rfl, rfl, ?_, _, rfl, _, rfl, _, _, rfl, rfl, _, rfl, z, rfl, by omega, _, _, rfl, rfl, ?_, _, rfl, ?_⟩
    · rw [L1, len_one]; omega
    · rw [len_app, L1, len_one]
      show k + 1 + (cutS z (some ((k : Int) + 1)) none).length ≤ _
      rw [L2]
      omega
    · refine fresh_rest hx hl hP _ ?_ ⟨?_, asc_app (asc_app (asc_cut z3 _ _) (asc_one hc3)) (asc_cut z3 _ _)⟩ _ _ _
      · rw [len_app, len_app, L1, len_one]
        omega
      · rw [len_app, len_app, L1, len_one]
        show k + 1 + (cutS z (some ((k : Int) + 1)) none).length ≤ _
        rw [L2]
        omega
/-! ### numbers -/
theorem pr_law_number (C : AD) : ∀ ds P, q_law_number ds P → p_law_number C { nx := fun _ => P .non, rt := P } (startD n_law_number ds) := by
  rintro ds P ⟨rfl, hP⟩
  have T : (10 : Int) ^ 60 = ((10 ^ 60 : Nat) : Int) := by decide
  have T2 : 100000 < (10 : Nat) ^ 60 := by decide
  have T3 : (10 : Nat) ^ 60 < 2 ^ 200 := by decide
  refine ⟨_, rfl, _, rfl, 24, rfl, by decide, by decide, fun k h0 h1 => ⟨_, rfl, ?_⟩⟩
  refine ⟨_, rfl, _, _, rfl, rfl, _, rfl, ifE (fun q => ?_) (fun q => ?_)⟩
  · refine ⟨_, rfl, _, _, rfl, rfl, mulW (by decide) (Nat.lt_of_lt_of_le (show k.natAbs < 24 by omega) (by decide)), _, _, rfl, rfl, _, _, rfl, rfl, ⟨by decide, by decide, by decide⟩, _, _, rfl, rfl, _, rfl, _, rfl, 3, rfl, by decide, by decide, fun t t0 t1 => ?_⟩
    have b : ((10 : Int) ^ 60 - 1 - t).natAbs < 10 ^ 60 := by
      rw [T]
      generalize (10 : Nat) ^ 60 = U at *
      omega
    have hk : k = 0 ∨ k = 1 := by omega
    refine ⟨_, _, rfl, rfl, _, _, rfl, rfl, mulW ?_ ?_, _, rfl, hP _ ?_⟩
    · show (2 * k - 1).natAbs < 2 ^ 1000
      exact Nat.lt_of_lt_of_le (show (2 * k - 1).natAbs < 24 by omega) (by decide)
    · show ((10 : Int) ^ 60 - 1 - t).natAbs < 2 ^ 1000
      exact Nat.lt_trans b (Nat.lt_of_lt_of_le T3 (Nat.pow_le_pow_right (by decide) (by decide)))
    · show ((2 * k - 1) * ((10 : Int) ^ 60 - 1 - t)).natAbs < 10 ^ 60
      rcases hk with rfl | rfl
      · rw [show (2 * 0 - 1 : Int) = -1 from rfl, Int.neg_one_mul, Int.natAbs_neg]
        exact b
      · rw [show (2 * 1 - 1 : Int) = 1 from rfl, Int.one_mul]
        exact b
  · refine ⟨_, rfl, _, _, rfl, rfl, _, rfl, ifE (fun q => ?_) (fun q => ?_)⟩
    · refine ⟨_, rfl, _, rfl, 2001, rfl, by decide, by decide, fun t t0 t1 => ⟨_, _, rfl, rfl, _, rfl, hP _ ?_⟩⟩
      show (t - 1000).natAbs < 10 ^ 60
      exact Nat.lt_trans (show (t - 1000).natAbs < 100000 by omega) T2
    · refine ⟨_, rfl, _, rfl, 9, rfl, by decide, by decide, fun t t0 t1 => ⟨_, _, rfl, rfl, _, rfl, hP _ ?_⟩⟩
      show (t - 4).natAbs < 10 ^ 60
      exact Nat.lt_trans (show (t - 4).natAbs < 100000 by omega) T2
theorem pr_law_measure (C : AD) : ∀ ds P, q_law_measure ds P → p_law_measure C { nx := fun _ => P .non, rt := P } (startD n_law_measure ds) := by
  rintro ds P ⟨n, rfl, hP⟩
  have T : (10 : Int) ^ 60 = ((10 ^ 60 : Nat) : Int) := by decide
  have T2 : 100000 < (10 : Nat) ^ 60 := by decide
  refine ⟨_, rfl, _, rfl, rfl, fun lo hlo => ⟨_, rfl, ?_⟩⟩
  refine ⟨_, rfl, _, rfl, _, rfl, six _ _ _ _ _ _, _, rfl, _, _, rfl, rfl, List.cons_ne_nil _ _, six _ _ _ _ _ _, fun e he => ?_⟩
  obtain ⟨m, hm, rfl⟩ := mem_int (ns := [2, 0, 0, 1, 5, 1000]) he
  have hm : m ≤ 1000 := by
    simp only [List.mem_cons, List.not_mem_nil, or_false] at hm
    omega
  refine ⟨_, _, rfl, rfl, _, rfl, ?_⟩
  have l1 : lo.natAbs < B1 := by
    unfold B1
    generalize (10 : Nat) ^ 60 = U at *
    omega
  have fin : ∀ hi : Int, hi.natAbs < B1 → (pRet (pTup (pCons (pC (cS "measure")) (pCons (pVar 1) (pCons (pVar 2) (pCons (pVar 3) pNil)))))) { nx := fun _ => P .non, rt := P } [some (.dat .src), some (cS n), some (cI lo), some (cI hi)] := fun hi h => ⟨_, rfl, _, rfl, _, rfl, _, rfl, len4 _ _ _ _, _, rfl, hP lo hi l1 h⟩
  have top : (pAsg (pOp (fI fun i j => i - j) (pOp (fIC CPow fun i j => i ^ j.toNat) (pC (cI 10)) (pC (cI 60))) (pC (cI 1))) (pgName 3)) { nx := (pRet (pTup (pCons (pC (cS "measure")) (pCons (pVar 1) (pCons (pVar 2) (pCons (pVar 3) pNil)))))) { nx := fun _ => P .non, rt := P }, rt := P } [some (.dat .src), some (cS n), some (cI lo), some (cI (lo + (m : Int)))] := by
    refine ⟨_, _, rfl, rfl, ⟨by decide, by decide, by decide⟩, _, _, rfl, rfl, _, rfl, fin _ ?_⟩
    show ((10 : Int) ^ 60 - 1).natAbs < B1
    unfold B1
    rw [T]
    generalize (10 : Nat) ^ 60 = U at *
    omega
  refine ⟨_, rfl, _, _, rfl, rfl, ⟨by decide, by decide, by decide⟩, _, _, rfl, rfl, _, rfl, if2 (fun _ => ifT top) (fun _ => ?_)⟩
  refine ⟨_, rfl, _, rfl, 12, rfl, by decide, by decide, fun t t0 t1 => ⟨_, _, rfl, rfl, rfl, _, rfl, if2 (fun _ => top) (fun _ => fin _ ?_)⟩⟩
  show (lo + (m : Int)).natAbs < B1
  unfold B1
  generalize (10 : Nat) ^ 60 = U at *
  omega
end My


/-! K55j: drawn steps, spoiled steps. -/
namespace My
open PySem PySem.Spec PyProof.Rows L2 TL
theorem str_dec2 (a b : Str) : id (decide (V.str a = V.str b)) = decide (a = b) := str_dec a b
theorem word_ok : ∀ z ∈ (["+", "-"] : List Str), ∀ w ∈ (["fix", "a", "cut", "x0y1z2a3b4c5"] : List Str), z.length + w.length ≤ 1000000 ∧ (z ++ w).length ≤ 13 ∧ ∀ c ∈ (z ++ w).cps.toList, c < 128 := by decide +kernel
theorem five (a b c d e : D) : [a, b, c, d, e].length ≤ 100000 := by show 5 ≤ 100000; decide
theorem pr_law_step (C : AD) : ∀ ds P, q_law_step ds P → p_law_step C { nx := fun _ => P .non, rt := P } (startD n_law_step ds) := by
  rintro ds P ⟨k, n, rfl, hk, hP⟩
  refine ⟨_, rfl, _, _, rfl, rfl, rfl, _, rfl, ?_⟩
  rw [str_dec2]
  refine ifE (fun e => ?_) (fun e1 => ?_)
  · subst e
    exact ⟨_, rfl, _, rfl, len2 _ _, _, rfl, hP (.part n) rfl rfl trivial⟩
  refine ⟨_, rfl, _, _, rfl, rfl, rfl, _, rfl, ?_⟩
  rw [str_dec2]
  refine ifE (fun e => ?_) (fun e2 => ?_)
  · subst e
    exact ⟨_, rfl, _, rfl, _, rfl, n, rfl, fun lo hi h1 h2 => ⟨_, rfl, hP (.meas n lo hi) rfl rfl ⟨h1, h2⟩⟩⟩
  have hk : k = "late" := by
    rcases hk with h | h | h
    · exact absurd h e1
    · exact absurd h e2
    · exact h
  subst hk
  refine ⟨[], rfl, Nat.zero_le _, _, rfl, ?_⟩
  refine ⟨_, rfl, _, rfl, 3, rfl, by decide, by decide, fun t t0 t3 => ⟨_, _, rfl, rfl, _, rfl, ?_, ?_, ?_⟩⟩
  · dsimp only; omega
  · dsimp only; omega
  obtain ⟨t, rfl⟩ := Int.eq_ofNat_of_zero_le t0
  refine ⟨fun i σd => ∃ os a4 a5 a6, σd = [some (.dat .src), some (cS "late"), some (cS n), some (.dat (.tup (os.map optD))), a4, a5, a6] ∧ os.length ≤ i ∧ ∀ o ∈ os, o.length ≤ 4 ∧ ∀ w ∈ o, Nm 13 w, ⟨[], none, none, none, rfl, Nat.le_refl _, fun o ho => nomatch ho⟩, ?_, ?_⟩
  · rintro i d σd hd ⟨os, a4, a5, a6, rfl, ol, oo⟩
    have hi : i < 3 := by
      have hd : (rangeD ((1 + t : Nat) : Int))[i]? = some d := by
        rw [show ((1 + t : Nat) : Int) = 1 + (t : Int) from by omega]
        exact hd
      have := (range_at hd).1
      omega
    refine ⟨[], rfl, Nat.zero_le _, _, rfl, ?_⟩
    refine ⟨_, rfl, _, rfl, five _ _ _ _ _, _, rfl, _, _, rfl, rfl, List.cons_ne_nil _ _, five _ _ _ _ _, fun e he => ?_⟩
    obtain ⟨m, hm, rfl⟩ := mem_int (ns := [1, 0, 2, 3, 4]) he
    have hm : m ≤ 4 := by
      simp only [List.mem_cons, List.not_mem_nil, or_false] at hm
      omega
    refine ⟨(m : Int), rfl, by omega, by omega, fun j σd => ∃ o a6, σd = [some (.dat .src), some (cS "late"), some (cS n), some (.dat (.tup (os.map optD))), some (.dat d), some (.dat (optD o)), a6] ∧ o.length ≤ j ∧ ∀ w ∈ o, Nm 13 w, ⟨[], a6, rfl, Nat.le_refl _, fun w hw => nomatch hw⟩, ?_, ?_⟩
    · rintro j d2 σd hd2 ⟨o, a6, rfl, o1, o2⟩
      obtain ⟨hj, rfl⟩ := range_at hd2
      refine ⟨_, rfl, ?_⟩
      refine ⟨_, rfl, _, rfl, len2 _ _, _, rfl, _, _, rfl, rfl, List.cons_ne_nil _ _, len2 _ _, fun e he => ?_⟩
      obtain ⟨z, hz, rfl⟩ := mem_str (zs := ["+", "-"]) he
      refine ⟨_, rfl, _, rfl, len4 _ _ _ _, _, rfl, _, _, rfl, rfl, List.cons_ne_nil _ _, len4 _ _ _ _, fun e he => ?_⟩
      obtain ⟨w, hw, rfl⟩ := mem_str (zs := ["fix", "a", "cut", "x0y1z2a3b4c5"]) he
      obtain ⟨w1, w2, w3⟩ := word_ok z hz w hw
      refine ⟨z, w, rfl, rfl, w1, _, rfl, len1 _, _, _, rfl, rfl, ?_, _, rfl, o ++ [z ++ w], some (cI (j : Int)), ?_, ?_, ?_⟩
      · rw [List.length_map]
        show o.length + 1 ≤ 100000
        omega
      · unfold optD
        rw [List.map_append]
        rfl
      · rw [List.length_append, List.length_singleton]
        omega
      · intro u hu
        rcases List.mem_append.mp hu with hu | hu
        · exact o2 u hu
        · rw [List.mem_singleton.mp hu]
          exact ⟨w2, w3⟩
    · rintro σd ⟨o, a6, rfl, o1, o2⟩
      rw [range_len] at o1
      refine ⟨_, rfl, _, rfl, _, rfl, len1 _, _, _, rfl, rfl, ?_, _, rfl, os ++ [o], some (.dat d), some (.dat (optD o)), a6, ?_, ?_, ?_⟩
      · rw [List.length_map]
        show os.length + 1 ≤ 100000
        omega
      · rw [List.map_append]
        rfl
      · rw [List.length_append, List.length_singleton]
        omega
      · intro u hu
        rcases List.mem_append.mp hu with hu | hu
        · exact oo u hu
        · rw [List.mem_singleton.mp hu]
          exact ⟨by omega, o2⟩
  · rintro σd ⟨os, a4, a5, a6, rfl, ol, oo⟩
    have ol : os.length ≤ 3 := by
      have e : (rangeD (1 + (t : Int))).length = 1 + t := by
        rw [show (1 + (t : Int)) = ((1 + t : Nat) : Int) from by omega, range_len]
      have ol : os.length ≤ (rangeD (1 + (t : Int))).length := ol
      rw [e] at ol
      omega
    exact ⟨_, rfl, _, rfl, _, rfl, len3 _ _ _, _, rfl, hP (.late n os) rfl rfl ⟨ol, oo⟩⟩
/-! ### all steps -/
def freeD (a b c : Int) : List (Key × D) := [(.inr "measure", .int a), (.inr "late", .int b), (.inr "part", .int c)]
theorem k_ml : ¬ (Sum.inr "late" : Key) = .inr "measure" := by decide +kernel
theorem k_mp : ¬ (Sum.inr "part" : Key) = .inr "measure" := by decide +kernel
theorem k_lp : ¬ (Sum.inr "part" : Key) = .inr "late" := by decide +kernel
theorem free_m (a b c : Int) : valD (freeD a b c) (.inr "measure") = some (.int a) := rfl
theorem free_l (a b c : Int) : valD (freeD a b c) (.inr "late") = some (.int b) := by
  unfold freeD
  rw [valD_cons, if_neg (fun z => k_ml z.symm), valD_cons, if_pos rfl]
theorem free_p (a b c : Int) : valD (freeD a b c) (.inr "part") = some (.int c) := by
  unfold freeD
  rw [valD_cons, if_neg (fun z => k_mp z.symm), valD_cons, if_neg (fun z => k_lp z.symm), valD_cons, if_pos rfl]
theorem put_m (a b c v : Int) : putG (freeD a b c) (.inr "measure") (.int v) = freeD v b c := by
  unfold freeD putG
  have h1 := k_ml
  have h2 := k_mp
  simp [h1, h2]
theorem put_l (a b c v : Int) : putG (freeD a b c) (.inr "late") (.int v) = freeD a v c := by
  unfold freeD putG
  have h1 := k_ml
  have h2 := k_lp
  simp [h1, h2, Ne.symm (show (Sum.inr "late" : Key) ≠ .inr "measure" from h1)]
theorem put_p (a b c v : Int) : putG (freeD a b c) (.inr "part") (.int v) = freeD a b v := by
  unfold freeD putG
  have h1 := k_mp
  have h2 := k_lp
  simp [Ne.symm (show (Sum.inr "part" : Key) ≠ .inr "measure" from h1), Ne.symm (show (Sum.inr "part" : Key) ≠ .inr "late" from h2)]
def kinds : List Str := ["late", "measure", "part"]
def fv (a b c : Nat) (z : Str) : Nat := if z = "late" then b else if z = "measure" then a else c
theorem s_lm : ¬ ("measure" : Str) = "late" := by decide +kernel
theorem s_pl : ¬ ("part" : Str) = "late" := by decide +kernel
theorem s_pm : ¬ ("part" : Str) = "measure" := by decide +kernel
theorem free_val (a b c : Nat) {z : Str} (hz : z ∈ kinds) : valD (freeD a b c) (.inr z) = some (.int (fv a b c z : Nat)) := by
  unfold kinds at hz
  simp only [List.mem_cons, List.not_mem_nil, or_false] at hz
  unfold fv
  rcases hz with rfl | rfl | rfl
  · rw [if_pos rfl, free_l]
  · rw [if_neg s_lm, if_pos rfl, free_m]
  · rw [if_neg s_pl, if_neg s_pm, free_p]
theorem free_step {a b c : Nat} {z : Str} (hz : z ∈ kinds) (hk : 0 < fv a b c z) : ∃ a' b' c' : Nat, putG (freeD a b c) (.inr z) (.int ((fv a b c z : Nat) - 1)) = freeD a' b' c' ∧ a' + b' + c' + 1 = a + b + c ∧ (z = "late" → b' + 1 = b) ∧ (¬ z = "late" → b' = b) := by
  unfold kinds at hz
  simp only [List.mem_cons, List.not_mem_nil, or_false] at hz
  unfold fv at hk ⊢
  rcases hz with rfl | rfl | rfl
  · rw [if_pos rfl] at hk ⊢
    refine ⟨a, b - 1, c, ?_, by omega, fun _ => by omega, fun h => absurd rfl h⟩
    rw [put_l, show ((b - 1 : Nat) : Int) = (b : Int) - 1 from by omega]
  · rw [if_neg s_lm, if_pos rfl] at hk ⊢
    refine ⟨a - 1, b, c, ?_, by omega, fun h => absurd h s_lm, fun _ => rfl⟩
    rw [put_m, show ((a - 1 : Nat) : Int) = (a : Int) - 1 from by omega]
  · rw [if_neg s_pl, if_neg s_pm] at hk ⊢
    refine ⟨a, b, c - 1, ?_, by omega, fun h => absurd h s_pl, fun _ => rfl⟩
    rw [put_p, show ((c - 1 : Nat) : Int) = (c : Int) - 1 from by omega]
theorem some_kind {a b c : Nat} (h : 1 ≤ a + b + c) : (kinds.filter fun z => decide (0 < fv a b c z)) ≠ [] := by
  intro e
  have e := List.filter_eq_nil_iff.mp e
  have e1 := e "late" (by simp [kinds])
  have e2 := e "measure" (by simp [kinds])
  have e3 := e "part" (by simp [kinds])
  unfold fv at e1 e2 e3
  rw [if_pos rfl] at e1
  rw [if_neg s_lm, if_pos rfl] at e2
  rw [if_neg s_pl, if_neg s_pm] at e3
  have e1 : ¬ 0 < b := fun z => e1 (decide_eq_true z)
  have e2 : ¬ 0 < a := fun z => e2 (decide_eq_true z)
  have e3 : ¬ 0 < c := fun z => e3 (decide_eq_true z)
  omega
theorem near_ok : ∀ z ∈ (["frames", "fram", "abcdefghijkl", "a", "frame1", "z9"] : List Str), 1 ≤ z.length ∧ z.length ≤ 12 ∧ ∀ c ∈ z.cps.toList, c < 128 := by decide +kernel
theorem kd_of {s : Step} {z : Str} (hz : z ∈ kinds) (h : s.kd = z) : s.isLate = decide (z = "late") := by
  subst h
  rw [← kd_late, str_dec]
theorem eight (a b c d e f g h : D) : [a, b, c, d, e, f, g, h].length ≤ 100000 := by show 8 ≤ 100000; decide
theorem pr_law_steps (C : AD) : ∀ ds P, q_law_steps ds P → p_law_steps C { nx := fun _ => P .non, rt := P } (startD n_law_steps ds) := by
  rintro ds P ⟨rfl, hP⟩
  refine ⟨[], rfl, Nat.zero_le _, [], rfl, Nat.zero_le _, ?_⟩
  refine ⟨_, rfl, _, rfl, eight _ _ _ _ _ _ _ _, _, rfl, _, _, rfl, rfl, List.cons_ne_nil _ _, eight _ _ _ _ _ _ _ _, fun e he => ?_⟩
  obtain ⟨n, hn, rfl⟩ := mem_int (ns := [4, 0, 1, 2, 3, 5, 7, 14]) he
  have hn : n ≤ 14 := by
    simp only [List.mem_cons, List.not_mem_nil, or_false] at hn
    omega
  refine ⟨(n : Int), rfl, by omega, by omega, fun i σd => ∃ (ns : List Str) (rs : List Step) (a b c : Nat) (a4 a5 a6 a7 : Option Cell), σd = [some (.dat .src), some (.lm (ns.map .str)), some (.lm (rs.map Step.d)), some (.dm (freeD a b c)), a4, a5, a6, a7, none] ∧ a + b + c + i = 14 ∧ (latesF rs).length + b = 2 ∧ rs.length = i ∧ ns.length = i ∧ (∀ z ∈ ns, 1 ≤ z.length ∧ Nm 12 z) ∧ ∀ r ∈ rs, Nm 12 r.nm ∧ r.body B1,
    ⟨[], [], 6, 2, 6, none, none, none, none, rfl, rfl, rfl, rfl, rfl, fun z hz => (nomatch hz), fun z hz => (nomatch hz)⟩, ?_, ?_⟩
  · rintro i d σd hd ⟨ns, rs, a, b, c, a4, a5, a6, a7, rfl, h1, h2, h3, h4, h5, h6⟩
    obtain ⟨hi, rfl⟩ := range_at hd
    refine ⟨_, rfl, ?_⟩
    refine pLc_filter (it := pIL (pFrz (pLst (pCons (pC (cS "late")) (pCons (pC (cS "measure")) (pCons (pC (cS "part")) pNil)))))) (g := pgName 8) (t := pTest (pOp (fIB fun i j => decide (j < i)) (pDGet (pVar 3) (pVar 8)) (pC (cI 0)))) (el := pVar 8) (vs := [8]) kinds D.str D.str (fun z => decide (0 < fv a b c z)) (fun Q h => ⟨_, rfl, len3 _ _ _, _, rfl, h⟩) (by show 3 ≤ 100000; decide) (fun z hz Q0 Q k1 k0 => ?_) ?_
    · refine ⟨_, rfl, _, rfl, .inl ⟨_, _, rfl, rfl, _, free_val a b c hz, _, _, rfl, rfl, _, rfl, ifE (fun q => ?_) (fun q => ?_)⟩⟩
      · exact ⟨_, rfl, _, rfl, k1 (decide_eq_true (by omega))⟩
      · exact k0 (decide_eq_false (by omega))
    refine ⟨_, rfl, _, _, rfl, rfl, ?_, ?_, fun e he => ?_⟩
    · intro z
      exact some_kind (by omega) (List.map_eq_nil_iff.mp z)
    · rw [List.length_map]
      exact Nat.le_trans (List.length_filter_le _ _) (by show 3 ≤ 100000; decide)
    obtain ⟨z, hz, rfl⟩ := mem_str he
    obtain ⟨hz, hv⟩ := List.mem_filter.mp hz
    obtain ⟨a', b', c', e1, e2, e3, e4⟩ := free_step hz (of_decide_eq_true hv)
    refine ⟨_, rfl, ?_⟩
    refine ⟨_, rfl, _, rfl, _, rfl, .inl ⟨_, _, rfl, rfl, _, free_val a b c hz, _, _, rfl, rfl, _, rfl, _, _, rfl, rfl, by show 3 ≤ 100000; decide, ?_⟩⟩
    have tail : ∀ (w : Str) (a7 : Option Cell), 1 ≤ w.length → Nm 12 w → (pSeq (pApp 1 (pVar 6)) (pApp 2 (pCall (q_law_step) (pCons (pVar 0) (pCons (pVar 5) (pCons (pVar 6) pNil)))))) { nx := fun σd => ∃ (ns : List Str) (rs : List Step) (a b c : Nat) (a4 a5 a6 a7 : Option Cell), σd = [some (.dat .src), some (.lm (ns.map .str)), some (.lm (rs.map Step.d)), some (.dm (freeD a b c)), a4, a5, a6, a7, none] ∧ a + b + c + (i + 1) = 14 ∧ (latesF rs).length + b = 2 ∧ rs.length = i + 1 ∧ ns.length = i + 1 ∧ (∀ z ∈ ns, 1 ≤ z.length ∧ Nm 12 z) ∧ ∀ r ∈ rs, Nm 12 r.nm ∧ r.body B1, rt := P }
        [some (.dat .src), some (.lm (ns.map .str)), some (.lm (rs.map Step.d)), some (.dm (freeD a' b' c')), some (cI (i : Int)), some (cS z), some (cS w), a7, none] := fun w a7 w1 w2 => by
      refine ⟨_, rfl, _, rfl, _, rfl, by rw [List.length_map]; omega, ?_⟩
      refine ⟨_, rfl, _, rfl, _, rfl, _, rfl, _, rfl, z, w, rfl, ?_, fun s s1 s2 s3 => ⟨_, rfl, by rw [List.length_map]; omega, ns ++ [w], rs ++ [s], a', b', c', some (cI (i : Int)), some (cS z), some (cS w), a7, ?_, by omega, ?_, ?_, ?_, ?_, ?_⟩⟩
      · unfold kinds at hz
        simp only [List.mem_cons, List.not_mem_nil, or_false] at hz
        rcases hz with h | h | h
        · exact .inr (.inr h)
        · exact .inr (.inl h)
        · exact .inl h
      · rw [List.map_append, List.map_append]
        rfl
      · have kl := kd_of hz s1
        unfold latesF at h2 ⊢
        rw [List.filter_append, List.length_append]
        by_cases q : z = "late"
        · rw [List.filter_cons_of_pos (by rw [kl]; exact decide_eq_true q)]
          have := e3 q
          show _ + 1 + b' = 2
          omega
        · rw [List.filter_cons_of_neg (by rw [kl, decide_eq_false q]; exact Bool.false_ne_true)]
          have := e4 q
          show _ + 0 + b' = 2
          omega
      · rw [List.length_append, h3]; rfl
      · rw [List.length_append, h4]; rfl
      · intro u hu
        rcases List.mem_append.mp hu with hu | hu
        · exact h5 u hu
        · rw [List.mem_singleton.mp hu]
          exact ⟨w1, w2⟩
      · intro u hu
        rcases List.mem_append.mp hu with hu | hu
        · exact h6 u hu
        · rw [List.mem_singleton.mp hu]
          exact ⟨by rw [s2]; exact w2, s3⟩
    show pSeq _ _ _ ([some (.dat .src), some (.lm (ns.map .str)), some (.lm (rs.map Step.d)), some (.dm (putG (freeD a b c) (.inr z) (.int ((fv a b c z : Nat) - 1)))), some (cI (i : Int)), some (cS z), a6, a7, none] : Sd)
    rw [e1]
    refine ⟨_, rfl, _, rfl, _, rfl, _, ns, rfl, rfl, by omega, h5, fun w w1 w2 => ⟨_, rfl, ?_⟩⟩
    refine ⟨_, rfl, _, rfl, six _ _ _ _ _ _, _, rfl, _, _, rfl, rfl, List.cons_ne_nil _ _, six _ _ _ _ _ _, fun e he => ?_⟩
    obtain ⟨nr, hnr, rfl⟩ := mem_str (zs := ["frames", "fram", "abcdefghijkl", "a", "frame1", "z9"]) he
    obtain ⟨r1, r2, r3⟩ := near_ok nr hnr
    refine ⟨_, rfl, ?_⟩
    refine ⟨_, rfl, _, rfl, nr, ns, rfl, rfl, _, rfl, if2 (fun _ => ?_) (fun _ => ifF (tail w _ w1 w2))⟩
    exact ⟨_, rfl, _, rfl, 9, rfl, by decide, by decide, fun t t0 t1 => ⟨_, _, rfl, rfl, rfl, _, rfl, if2 (fun _ => ⟨_, rfl, _, rfl, tail nr _ r1 ⟨r2, r3⟩⟩) (fun _ => tail w _ w1 w2)⟩⟩
  · rintro σd ⟨ns, rs, a, b, c, a4, a5, a6, a7, rfl, h1, h2, h3, h4, h5, h6⟩
    rw [range_len] at h3
    exact ⟨_, _, rfl, rfl, _, rfl, _, rfl, hP rs ⟨by omega, by omega, fun r hr => (h6 r hr).1, fun r hr => (h6 r hr).2⟩⟩
end My


/-! K55k: spoiled steps. -/
namespace My
open PySem PySem.Spec PyProof.Rows L2 TL
def Step.ren (n : Str) : Step → Step
  | .part _ => .part n
  | .meas _ lo hi => .meas n lo hi
  | .late _ os => .late n os
theorem ren_nm (n : Str) (s : Step) : (s.ren n).nm = n := by cases s <;> rfl
theorem ren_d (n : Str) (s : Step) : (s.ren n).d = .tup (.str s.kd :: .str n :: s.rest) := by cases s <;> rfl
theorem ren_late (n : Str) (s : Step) : (s.ren n).isLate = s.isLate := by cases s <;> rfl
theorem ren_body (n : Str) (s : Step) {B : Nat} (h : s.body B) : (s.ren n).body B := by cases s <;> exact h
theorem repl_fine {n B : Nat} {rs : List Step} {k : Nat} {s t : Step} (h : Fine n B rs) (hs : rs[k]? = some s) (hl : t.isLate = true → s.isLate = true) (hn : Nm n t.nm) (hb : t.body B) : Fine n B (rs.take k ++ [t] ++ rs.drop (k + 1)) := by
  have e : rs.take k ++ [s] ++ rs.drop (k + 1) = rs := by rw [← take_at hs, List.take_append_drop]
  have hm : ∀ r ∈ rs.take k ++ [t] ++ rs.drop (k + 1), r ∈ rs ∨ r = t := fun r hr => by
    rcases List.mem_append.mp hr with hr | hr
    · rcases List.mem_append.mp hr with hr | hr
      · exact .inl (List.mem_of_mem_take hr)
      · exact .inr (List.mem_singleton.mp hr)
    · exact .inl (List.mem_of_mem_drop hr)
  refine ⟨?_, ?_, fun r hr => ?_, fun r hr => ?_⟩
  · have := h.len
    rw [← e] at this
    simpa using this
  · have l := h.late
    rw [← e] at l
    unfold latesF at l ⊢
    rw [List.filter_append, List.filter_append, List.length_append, List.length_append] at l ⊢
    have : ([t].filter Step.isLate).length ≤ ([s].filter Step.isLate).length := by
      cases q : t.isLate with
      | true => rw [List.filter_cons_of_pos q, List.filter_cons_of_pos (hl q)]; exact Nat.le_refl _
      | false => rw [List.filter_cons_of_neg (by rw [q]; exact Bool.false_ne_true)]; exact Nat.zero_le _
    omega
  · rcases hm r hr with h1 | rfl
    · exact h.nm r h1
    · exact hn
  · rcases hm r hr with h1 | rfl
    · exact h.body r h1
    · exact hb
theorem meas_step {s : Step} {σd : Sd} {i : Nat} {Q0 : Prop} {Q : D → Prop} (hi : σd[i]? = some (some (.dat s.d))) (h1 : s.isMeas = true → Q s.d) (h0 : s.isMeas = false → Q0) :
    pTest (pOp (fEq id) (pOp fIxT (pVar i) (pC (cI 0))) (pC (cS "measure"))) σd fun b => if b = true then pVar i σd fun c => ∃ y, c = .dat y ∧ Q y else Q0 := by
  refine ⟨_, hi, _, 0, _, rfl, rfl, sAt0 s, _, _, rfl, rfl, rfl, _, rfl, ?_⟩
  rw [kd_meas]
  exact if2 (fun e => ⟨_, hi, _, rfl, h1 e⟩) (fun e => h0 e)
/-- the row is put in -/
theorem spoil_tail {E : PEnds} {rs : List Step} {k : Nat} {s r : Step} {nm : Str} {x2 x6 x7 x8 x9 x10 x11 : Option Cell} (hs : rs[k]? = some s) (hl : rs.length ≤ 14) (h : E.nx [some (.dat .src), some (.dat (rowsD (rs.take k ++ [r.ren nm] ++ rs.drop (k + 1)))), x2, some (cI (k : Int)), some (.dat r.d), some (cS nm), x6, x7, x8, x9, x10, x11]) :
    (pAsg (pFrz (pOpN fCat (pNewL (pOpN fCat (pNewL (pSlL (pVar 1) pNoPart (pPart (pVar 3)))) (pNewL (pLst (pCons (pOp fCatA (pTup (pCons (pOp fIxT (pVar 4) (pC (cI 0))) (pCons (pVar 5) pNil))) (pSlA (pVar 4) (pPart (pC (cI 2))) pNoPart)) pNil))))) (pNewL (pSlL (pVar 1) (pPart (pOp (fI fun i j => i + j) (pVar 3) (pC (cI 1)))) pNoPart)))) (pgName 1)) E
      [some (.dat .src), some (.dat (rowsD rs)), x2, some (cI (k : Int)), some (.dat r.d), some (cS nm), x6, x7, x8, x9, x10, x11] := by
  have hk := (List.getElem?_eq_some_iff.mp hs).1
  have c2 : cutL (D.str r.kd :: D.str r.nm :: r.rest) (some 2) none = r.rest := cutL_D _ 2
  have rl : r.rest.length ≤ 2 := by
    cases r with
    | part n => exact Nat.zero_le _
    | meas n lo hi => exact Nat.le_refl _
    | late n os => exact Nat.le_succ _
  refine ⟨_, rfl, _, rfl, (k : Int), rfl, _, rfl, _, rfl, _, 0, _, rfl, rfl, sAt0 r, _, rfl, _, rfl, len2 _ _, _, rfl, 2, rfl, _, rfl, _, _, rfl, rfl, ?_, _, rfl, len1 _, _, _, rfl, rfl, ?_, _, rfl, _, rfl, _, _, rfl, rfl, _, rfl, _, rfl, _, _, rfl, rfl, ?_, _, rfl, ?_⟩
  · rw [c2]
    show 2 + r.rest.length ≤ _
    omega
  · rw [cutL_T, List.length_take, List.length_map]
    show _ + 1 ≤ _
    omega
  · rw [List.length_append, cutL_T, List.length_take, List.length_map]
    show _ + 1 + (cutL (rs.map Step.d) (some ((k + 1 : Nat) : Int)) none).length ≤ _
    rw [cutL_D, List.length_drop, List.length_map]
    omega
  · have e : cutL (rs.map Step.d) none (some (k : Int)) ++ [D.tup ([D.str r.kd, D.str nm] ++ cutL (D.str r.kd :: D.str r.nm :: r.rest) (some 2) none)] ++ cutL (rs.map Step.d) (some ((k + 1 : Nat) : Int)) none = (rs.take k ++ [r.ren nm] ++ rs.drop (k + 1)).map Step.d := by
      rw [c2, cutL_T, cutL_D, List.map_append, List.map_append, List.map_take, List.map_drop, List.map_cons, List.map_nil, ren_d]
      rfl
    show E.nx [some (.dat .src), some (.dat (.lst (cutL (rs.map Step.d) none (some (k : Int)) ++ [D.tup ([D.str r.kd, D.str nm] ++ cutL (D.str r.kd :: D.str r.nm :: r.rest) (some 2) none)] ++ cutL (rs.map Step.d) (some ((k + 1 : Nat) : Int)) none))), x2, some (cI (k : Int)), some (.dat r.d), some (cS nm), x6, x7, x8, x9, x10, x11]
    rw [e]
    exact h
theorem sign_ok : ∀ z ∈ (["A", "_", "-", " ", "+", ".", "Z", "{", "~", "/", ":", "@", "["] : List Str), z.length = 1 ∧ ∀ c ∈ z.cps.toList, c < 128 := by decide +kernel
theorem asc_lit : (∀ c ∈ ("" : Str).cps.toList, c < 128) ∧ (∀ c ∈ ("frame" : Str).cps.toList, c < 128) ∧ (∀ c ∈ ("0" : Str).cps.toList, c < 128) ∧ ∀ c ∈ ("abcdefghijkl" : Str).cps.toList, c < 128 := by decide +kernel
theorem len_lit : ("" : Str).length = 0 ∧ ("frame" : Str).length = 5 ∧ ("0" : Str).length = 1 ∧ ("abcdefghijkl" : Str).length = 12 := by decide +kernel
theorem thirteen (a b c d e f g h i j k l m : D) : [a, b, c, d, e, f, g, h, i, j, k, l, m].length ≤ 100000 := by show 13 ≤ 100000; decide
theorem pick4 {e : D} (h : e ∈ [D.int 0, D.int 0, D.int 1, D.int ((10 : Int) ^ (59 : Int).toNat)]) : ∃ v : Int, e = .int v ∧ 0 ≤ v ∧ v.natAbs < 10 ^ 60 := by
  simp only [List.mem_cons, List.not_mem_nil, or_false] at h
  rcases h with rfl | rfl | rfl | rfl
  · exact ⟨_, rfl, by decide, by decide⟩
  · exact ⟨_, rfl, by decide, by decide⟩
  · exact ⟨_, rfl, by decide, by decide⟩
  · exact ⟨_, rfl, by decide, by decide⟩
theorem pr_law_spoiled (C : AD) : ∀ ds P, q_law_spoiled ds P → p_law_spoiled C { nx := fun _ => P .non, rt := P } (startD n_law_spoiled ds) := by
  rintro ds P ⟨rs0, rfl, ne0, fn0, hP⟩
  have T : (10 : Int) ^ 59 = ((10 ^ 59 : Nat) : Int) := by decide
  have T2 : (10 : Nat) ^ 59 < 10 ^ 60 := by decide
  have T3 : 100000 < (10 : Nat) ^ 60 := by decide
  refine ⟨_, rfl, _, rfl, 2, rfl, by decide, by decide, fun t t0 t3 => ⟨_, _, rfl, rfl, _, rfl, ?_, ?_, ?_⟩⟩
  · dsimp only; omega
  · dsimp only; omega
  obtain ⟨t, rfl⟩ := Int.eq_ofNat_of_zero_le t0
  refine ⟨fun i σd => ∃ (rs : List Step) (a2 a3 a4 a5 a6 a7 a8 a9 a10 : Option Cell), σd = [some (.dat .src), some (.dat (rowsD rs)), a2, a3, a4, a5, a6, a7, a8, a9, a10, none] ∧ rs ≠ [] ∧ Fine (12 + i) B1 rs, ⟨rs0, none, none, none, none, none, none, none, none, none, rfl, ne0, fn0⟩, ?_, ?_⟩
  · rintro i d σd hd ⟨rs, a2, a3, a4, a5, a6, a7, a8, a9, a10, rfl, ne, fn⟩
    have hi : i < 2 := by
      have hd : (rangeD ((1 + t : Nat) : Int))[i]? = some d := by
        rw [show ((1 + t : Nat) : Int) = 1 + (t : Int) from by omega]
        exact hd
      have := (range_at hd).1
      omega
    have hpos : 0 < rs.length := List.length_pos_iff.mpr ne
    have hlen := fn.len
    refine ⟨_, rfl, _, rfl, _, _, rfl, rfl, _, rfl, ((rs.map Step.d).length : Int), rfl, by rw [List.length_map]; omega, log_small (by rw [List.length_map]; omega), fun p p0 p1 => ⟨_, rfl, ?_⟩⟩
    rw [List.length_map] at p1
    obtain ⟨k, rfl⟩ := Int.eq_ofNat_of_zero_le p0
    have hk : k < rs.length := by omega
    have hs : rs[k]? = some rs[k] := List.getElem?_eq_getElem hk
    generalize hse : rs[k] = s at hs
    have hsm := List.mem_of_getElem? hs
    obtain ⟨n1, n2⟩ := fn.nm s hsm
    have hsb := fn.body s hsm
    refine ⟨_, rfl, _, rfl, _, (k : Int), _, rfl, rfl, atI_nat (by rw [List.getElem?_map, hs]; rfl), _, rfl, ?_⟩
    refine ⟨_, rfl, _, 1, _, rfl, rfl, sAt1 s, _, rfl, ?_⟩
    refine ⟨_, rfl, _, rfl, 6, rfl, by decide, by decide, fun g g0 g1 => ⟨_, rfl, ?_⟩⟩
    have tail : ∀ (r : Step) (nm : Str) (x7 x8 x9 x10 : Option Cell), (r.isLate = true → s.isLate = true) → r.body B1 → Nm (12 + (i + 1)) nm → (pAsg (pFrz (pOpN fCat (pNewL (pOpN fCat (pNewL (pSlL (pVar 1) pNoPart (pPart (pVar 3)))) (pNewL (pLst (pCons (pOp fCatA (pTup (pCons (pOp fIxT (pVar 4) (pC (cI 0))) (pCons (pVar 5) pNil))) (pSlA (pVar 4) (pPart (pC (cI 2))) pNoPart)) pNil))))) (pNewL (pSlL (pVar 1) (pPart (pOp (fI fun i j => i + j) (pVar 3) (pC (cI 1)))) pNoPart)))) (pgName 1))
        { nx := fun σd => ∃ (rs : List Step) (a2 a3 a4 a5 a6 a7 a8 a9 a10 : Option Cell), σd = [some (.dat .src), some (.dat (rowsD rs)), a2, a3, a4, a5, a6, a7, a8, a9, a10, none] ∧ rs ≠ [] ∧ Fine (12 + (i + 1)) B1 rs, rt := P, bk := pRet (pVar 1) { nx := fun _ => P .non, rt := P }, ct := fun σd => ∃ (rs : List Step) (a2 a3 a4 a5 a6 a7 a8 a9 a10 : Option Cell), σd = [some (.dat .src), some (.dat (rowsD rs)), a2, a3, a4, a5, a6, a7, a8, a9, a10, none] ∧ rs ≠ [] ∧ Fine (12 + (i + 1)) B1 rs }
        [some (.dat .src), some (.dat (rowsD rs)), some (.dat d), some (cI (k : Int)), some (.dat r.d), some (cS nm), some (cI g), x7, x8, x9, x10, none] := fun r nm x7 x8 x9 x10 h1 h2 h3 => by
      refine spoil_tail hs hlen ⟨rs.take k ++ [r.ren nm] ++ rs.drop (k + 1), _, _, _, _, _, _, _, _, _, rfl, by simp, ?_⟩
      refine repl_fine (fn.mono (by omega) (Nat.le_refl _)) hs (fun z => h1 (by rw [ren_late] at z; exact z)) (by rw [ren_nm]; exact h3) (ren_body nm r h2)
    refine ⟨_, rfl, _, _, rfl, rfl, _, rfl, ifE (fun q => ?_) (fun q => ?_)⟩
    · refine ⟨_, rfl, _, rfl, s.nm, rfl, by omega, _, _, rfl, rfl, _, rfl, (s.nm.length : Int) + 1, rfl, by omega, log_small (n := s.nm.length + 1) (by omega), fun p p0 p1 => ⟨_, rfl, ?_⟩⟩
      obtain ⟨j, rfl⟩ := Int.eq_ofNat_of_zero_le p0
      have hj : j ≤ s.nm.length := by omega
      refine ⟨_, rfl, _, rfl, thirteen _ _ _ _ _ _ _ _ _ _ _ _ _, _, rfl, _, _, rfl, rfl, List.cons_ne_nil _ _, thirteen _ _ _ _ _ _ _ _ _ _ _ _ _, fun e he => ?_⟩
      obtain ⟨z, hz, rfl⟩ := mem_str (zs := ["A", "_", "-", " ", "+", ".", "Z", "{", "~", "/", ":", "@", "["]) he
      obtain ⟨z1, z2⟩ := sign_ok z hz
      obtain ⟨q1, q2, q3, q4⟩ := asc_lit
      obtain ⟨l1, l2, l3, l4⟩ := len_lit
      have L1 := len_cutT s.nm j hj
      have L2 := len_cutD s.nm j
      refine ⟨_, rfl, ?_⟩
      refine ⟨_, rfl, _, rfl, (j : Int), rfl, s.nm, rfl, by omega, _, rfl, _, _, rfl, rfl, by rw [L1, z1]; omega, _, rfl, _, rfl, (j : Int), rfl, s.nm, rfl, by omega, _, _, rfl, rfl, by rw [len_app, L1, L2, z1]; omega, _, rfl, _, _, rfl, rfl, by rw [l3]; omega, _, rfl, _, _, rfl, rfl, by rw [l4]; omega, 13, rfl, _, rfl, by rw [len_app, l4]; omega, _, rfl, five _ _ _ _ _, _, rfl, ?_⟩
      refine ⟨_, rfl, _, rfl, _, rfl, _, _, rfl, rfl, List.cons_ne_nil _ _, five _ _ _ _ _, fun e he => ⟨_, rfl, ?_⟩⟩
      have hw : ∃ w, e = .str w ∧ Nm (12 + (i + 1)) w := by
        simp only [List.mem_cons, List.not_mem_nil, or_false] at he
        rcases he with rfl | rfl | rfl | rfl | rfl
        · refine ⟨_, rfl, ?_, asc_app (asc_app (asc_cut n2 _ _) z2) (asc_cut n2 _ _)⟩
          rw [len_app, len_app, L1, L2, z1]
          omega
        · exact ⟨_, rfl, by rw [l1]; omega, q1⟩
        · exact ⟨_, rfl, by rw [l2]; omega, q2⟩
        · exact ⟨_, rfl, by rw [len_app, l3]; omega, asc_app q3 n2⟩
        · refine ⟨_, rfl, ?_, asc_cut (asc_app n2 q4) _ _⟩
          have h13 := len_cutT (s.nm ++ "abcdefghijkl") (min 13 (s.nm ++ "abcdefghijkl").length) (Nat.min_le_right _ _)
          have h14 : (cutS (s.nm ++ "abcdefghijkl") none (some 13)).length ≤ 13 := by
            rw [len_cps, tl_cut]
            show (cutL (s.nm ++ "abcdefghijkl").cps.toList none (some ((13 : Nat) : Int))).length ≤ 13
            rw [cutL_T, List.length_take]
            exact Nat.min_le_left _ _
          exact Nat.le_trans h14 (by omega)
      obtain ⟨w, rfl, hw⟩ := hw
      exact tail s w _ _ _ _ (fun h => h) hsb hw
    · refine ⟨_, rfl, _, _, rfl, rfl, _, rfl, ifE (fun q => ?_) (fun q => ?_)⟩
      · refine ⟨_, rfl, _, rfl, _, rfl, _, _, rfl, rfl, _, rfl, ((rs.map Step.d).length : Int), rfl, by rw [List.length_map]; omega, log_small (by rw [List.length_map]; omega), fun p p0 p1 => ?_⟩
        rw [List.length_map] at p1
        obtain ⟨j, rfl⟩ := Int.eq_ofNat_of_zero_le p0
        have hj : j < rs.length := by omega
        have hs2 : rs[j]? = some rs[j] := List.getElem?_eq_getElem hj
        obtain ⟨m1, m2⟩ := fn.nm rs[j] (List.getElem_mem hj)
        exact ⟨_, (j : Int), _, rfl, rfl, atI_nat (by rw [List.getElem?_map, hs2]; rfl), _, 1, _, rfl, rfl, sAt1 rs[j], _, rfl, tail s rs[j].nm _ _ _ _ (fun h => h) hsb ⟨by omega, m2⟩⟩
      · refine ⟨_, rfl, _, 0, _, rfl, rfl, sAt0 s, _, _, rfl, rfl, rfl, _, rfl, if2 (fun _ => ifT ?_) (fun _ => ?_)⟩
        · refine ⟨_, rfl, _, rfl, 9, rfl, by decide, by decide, fun u u0 u1 => ⟨_, _, rfl, rfl, _, rfl, ?_⟩⟩
          refine ⟨_, rfl, _, rfl, _, rfl, _, _, rfl, rfl, _, rfl, _, _, rfl, rfl, ⟨by decide, by decide, by decide⟩, _, rfl, len4 _ _ _ _, _, rfl, _, _, rfl, rfl, List.cons_ne_nil _ _, len4 _ _ _ _, fun e he => ?_⟩
          obtain ⟨v, rfl, v1, v2⟩ : ∃ v : Int, e = .int v ∧ 0 ≤ v ∧ v.natAbs < 10 ^ 60 := pick4 he
          refine ⟨_, _, rfl, rfl, _, rfl, len4 _ _ _ _, _, rfl, tail (.meas s.nm (u - 4) (u - 4 - 1 - v)) s.nm _ _ _ _ (fun h => nomatch h) ⟨?_, ?_⟩ ⟨by omega, n2⟩⟩
          · unfold B1
            generalize (10 : Nat) ^ 60 = U at *
            omega
          · unfold B1
            generalize (10 : Nat) ^ 60 = U at *
            omega
        · refine pLc_filter (it := pIL (pVar 1)) (g := pgName 11) (t := pTest (pOp (fEq id) (pOp fIxT (pVar 11) (pC (cI 0))) (pC (cS "measure")))) (el := pVar 11) (vs := [11]) rs Step.d Step.d Step.isMeas (fun Q h => ⟨_, rfl, _, rfl, h⟩) (by omega) (fun s _ Q0 Q h1 h0 => meas_step rfl h1 h0) ?_
          refine ⟨_, _, rfl, rfl, _, _, rfl, rfl, _, rfl, if2 (fun _ => ?_) (fun _ => ?_)⟩
          · refine ⟨_, rfl, _, rfl, 9, rfl, by decide, by decide, fun u u0 u1 => ⟨_, _, rfl, rfl, _, rfl, ?_⟩⟩
            refine ⟨_, rfl, _, rfl, _, rfl, _, _, rfl, rfl, _, rfl, _, _, rfl, rfl, ⟨by decide, by decide, by decide⟩, _, rfl, len4 _ _ _ _, _, rfl, _, _, rfl, rfl, List.cons_ne_nil _ _, len4 _ _ _ _, fun e he => ?_⟩
            obtain ⟨v, rfl, v1, v2⟩ : ∃ v : Int, e = .int v ∧ 0 ≤ v ∧ v.natAbs < 10 ^ 60 := pick4 he
            refine ⟨_, _, rfl, rfl, _, rfl, len4 _ _ _ _, _, rfl, tail (.meas s.nm (u - 4) (u - 4 - 1 - v)) s.nm _ _ _ _ (fun h => nomatch h) ⟨?_, ?_⟩ ⟨by omega, n2⟩⟩
            · unfold B1
              generalize (10 : Nat) ^ 60 = U at *
              omega
            · unfold B1
              generalize (10 : Nat) ^ 60 = U at *
              omega
          · exact tail s s.nm _ _ _ _ (fun h => h) hsb ⟨by omega, n2⟩
  · rintro σd ⟨rs, a2, a3, a4, a5, a6, a7, a8, a9, a10, rfl, ne, fn⟩
    have e : (rangeD (1 + (t : Int))).length = 1 + t := by
      rw [show (1 + (t : Int)) = ((1 + t : Nat) : Int) from by omega, range_len]
    have fn : Fine (12 + (rangeD (1 + (t : Int))).length) B1 rs := fn
    rw [e] at fn
    exact ⟨_, rfl, _, rfl, hP rs (fn.mono (by omega) (Nat.le_refl _))⟩
end My


/-! K55l: the same route. -/
namespace My
open PySem PySem.Spec PyProof.Rows L2 TL
/-! ### texts of data -/
theorem textFrom_le : ∀ (ts : List Str) (k : Nat) (acc : Str), (textFrom k acc ts).length ≤ acc.length + piled ts
  | [], k, acc => Nat.le_refl _
  | t :: ts, k, acc => by
    have ih := textFrom_le ts (k + 1) (acc ++ (if k > 0 then ", " else "" : String) ++ t)
    have e : (acc ++ (if k > 0 then ", " else "" : String) ++ t).length ≤ acc.length + 2 + t.length := by
      rw [len_app, len_app]
      by_cases q : k > 0
      · rw [if_pos q]
        have : ((", " : String) : Str).length = 2 := rfl
        omega
      · rw [if_neg q]
        have : (("" : String) : Str).length = 0 := rfl
        omega
    rw [piled_cons]
    show (textFrom (k + 1) (acc ++ (if k > 0 then ", " else "" : String) ++ t) ts).length ≤ _
    omega
theorem Show.lst {ds : List PyData} {n k m j : Nat} (h : ∀ d ∈ ds, Show d n k) (hm : ds.length * (n + 2) + 3 ≤ m) (hk : k + 1 ≤ j) : Show (.list ds) m j := by
  obtain ⟨a1, a2, a3, a4⟩ := showAll h
  refine ⟨a1, a2, ?_, ?_⟩
  · show PyData.depthAll ds + 1 ≤ j
    omega
  · show (textFrom 0 "[" (PyData.shownAll ds) ++ "]").length ≤ m
    rw [len_app]
    have := textFrom_le (PyData.shownAll ds) 0 "["
    have e1 : ("[" : Str).length = 1 := rfl
    have e2 : ("]" : Str).length = 1 := rfl
    omega
theorem Show.int2 {i : Int} {n k : Nat} (h : i.natAbs < 10 ^ 61) (hn : 62 ≤ n) : Show (.int i) n k := by
  refine ⟨decide_eq_true (Nat.lt_of_lt_of_le (PySem.Flt.log2_lt_of (k := 210) (by decide) (Nat.lt_of_lt_of_le h (by decide +kernel))) (by decide)), rfl, Nat.zero_le _, ?_⟩
  show (numS i).length ≤ n
  rw [len_tl, tl_numS]
  have q := numL_len (n := i.natAbs) (k := 61) (by decide) h
  unfold numC
  by_cases hi : i < 0
  · rw [if_pos hi, List.length_cons]
    omega
  · rw [if_neg hi]
    omega
theorem toPys_map {α : Type} {f : α → D} {g : α → PyData} : ∀ {xs : List α}, (∀ x ∈ xs, toPy (f x) = some (g x)) → toPys (xs.map f) = some (xs.map g)
  | [], _ => by unfold toPys; rfl
  | x :: xs, h => by
    rw [List.map_cons]
    unfold toPys
    rw [h x List.mem_cons_self, toPys_map fun y hy => h y (List.mem_cons_of_mem _ hy)]
    rfl
def optPy (o : List Str) : PyData := .tuple (o.map .str)
def Step.py : Step → PyData
  | .part n => .tuple [.str "part", .str n]
  | .meas n lo hi => .tuple [.str "measure", .str n, .int lo, .int hi]
  | .late n os => .tuple [.str "late", .str n, .tuple (os.map optPy)]
theorem opt_py (o : List Str) : toPy (optD o) = some (optPy o) := by
  unfold optD toPy
  rw [toPys_map (g := PyData.str) fun x _ => by unfold toPy; rfl]
  rfl
theorem step_py (s : Step) : toPy s.d = some s.py := by
  cases s with
  | part n => simp [Step.d, Step.kd, Step.nm, Step.rest, toPy, toPys, Step.py]
  | meas n lo hi => simp [Step.d, Step.kd, Step.nm, Step.rest, toPy, toPys, Step.py]
  | late n os =>
    have e : toPys (os.map optD) = some (os.map optPy) := toPys_map fun o _ => opt_py o
    simp [Step.d, Step.kd, Step.nm, Step.rest, toPy, toPys, Step.py, e]
def rowPy (r : List Nat) : PyData := .tuple (r.map fun (k : Nat) => .int (k : Int))
theorem row_py (r : List Nat) : toPy (rowD r) = some (rowPy r) := by
  unfold rowD toPy
  rw [toPys_map (g := fun (k : Nat) => PyData.int (k : Int)) fun x _ => by unfold toPy; rfl]
  rfl
theorem show_word {n : Nat} {z : Str} (h : Nm n z) : Show (.str z) (10 * n + 2) 0 := .str (fun c hc => Nat.lt_trans (h.2 c hc) (by decide)) (by have := h.1; omega)
theorem show_opt {o : List Str} {m : Nat} (hl : o.length ≤ m) (h : ∀ w ∈ o, Nm 13 w) : Show (optPy o) (m * 134 + 3) 1 := by
  refine .tup (n := 132) (k := 0) (fun d hd => ?_) ?_ (Nat.le_refl _)
  · obtain ⟨w, hw, rfl⟩ := List.mem_map.mp hd
    exact show_word (h w hw)
  · rw [List.length_map]
    exact Nat.add_le_add_right (Nat.mul_le_mul_right _ hl) _
theorem show_step {s : Step} (h1 : Nm 26 s.nm) (h2 : s.body B2) : Show s.py 5000 3 := by
  have b2 : B2 ≤ 10 ^ 61 := by unfold B2; decide +kernel
  cases s with
  | part n =>
    refine .tup (n := 300) (k := 2) (fun d hd => ?_) (by show 2 * 302 + 3 ≤ _; decide) (Nat.le_refl _)
    simp only [List.mem_cons, List.not_mem_nil, or_false] at hd
    rcases hd with rfl | rfl
    · exact (show_word (n := 26) (z := "part") ⟨by decide +kernel, by unfold Asc; decide +kernel⟩).mono (by decide) (by decide)
    · exact (show_word h1).mono (by decide) (by decide)
  | meas n lo hi =>
    refine .tup (n := 300) (k := 2) (fun d hd => ?_) (by show 4 * 302 + 3 ≤ _; decide) (Nat.le_refl _)
    simp only [List.mem_cons, List.not_mem_nil, or_false] at hd
    rcases hd with rfl | rfl | rfl | rfl
    · exact (show_word (n := 26) (z := "measure") ⟨by decide +kernel, by unfold Asc; decide +kernel⟩).mono (by decide) (by decide)
    · exact (show_word h1).mono (by decide) (by decide)
    · exact .int2 (Nat.lt_of_lt_of_le h2.1 b2) (by decide)
    · exact .int2 (Nat.lt_of_lt_of_le h2.2 b2) (by decide)
  | late n os =>
    refine .tup (n := 1650) (k := 2) (fun d hd => ?_) (by show 3 * 1652 + 3 ≤ _; decide) (Nat.le_refl _)
    simp only [List.mem_cons, List.not_mem_nil, or_false] at hd
    rcases hd with rfl | rfl | rfl
    · exact (show_word (n := 26) (z := "late") ⟨by decide +kernel, by unfold Asc; decide +kernel⟩).mono (by decide) (by decide)
    · exact (show_word h1).mono (by decide) (by decide)
    · refine .tup (n := 539) (k := 1) (fun d hd => ?_) ?_ (Nat.le_refl _)
      · obtain ⟨o, ho, rfl⟩ := List.mem_map.mp hd
        obtain ⟨g1, g2⟩ := h2.2 o ho
        exact show_opt g1 g2
      · rw [List.length_map]
        have := h2.1
        omega
theorem show_rows {rs : List Step} (fn : Fine 26 B2 rs) : Show (.list (rs.map Step.py)) 100000 4 := by
  refine .lst (n := 5000) (k := 3) (fun d hd => ?_) ?_ (Nat.le_refl _)
  · obtain ⟨s, hs, rfl⟩ := List.mem_map.mp hd
    exact show_step (fn.nm s hs) (fn.body s hs)
  · rw [List.length_map]
    have := fn.len
    omega
theorem show_ixs {n B : Nat} {rs : List Step} (fn : Fine n B rs) : Show (.list ((rowsF (sizesF rs)).map rowPy)) 100000 2 := by
  refine .lst (n := 200) (k := 1) (fun d hd => ?_) ?_ (Nat.le_refl _)
  · obtain ⟨r, hr, rfl⟩ := List.mem_map.mp hd
    obtain ⟨l1, l2⟩ := rowsF_len _ _ hr
    obtain ⟨z1, z2⟩ := sizes_ok fn
    refine .tup (n := 62) (k := 0) (fun d hd => ?_) ?_ (Nat.le_refl _)
    · obtain ⟨k, hk, rfl⟩ := List.mem_map.mp hd
      obtain ⟨i, hi, ei⟩ := List.getElem_of_mem hk
      have hs : i < (sizesF rs).length := by omega
      have := l2 i k _ (by rw [List.getElem?_eq_getElem hi, ei]) (List.getElem?_eq_getElem hs)
      have := z2 _ (List.getElem_mem hs)
      refine .int2 ?_ (Nat.le_refl _)
      show k < 10 ^ 61
      exact Nat.lt_of_lt_of_le (show k < 10 by omega) (by decide)
    · rw [List.length_map]
      omega
  · rw [List.length_map]
    have := rows9 fn
    omega
theorem run_words {n B : Nat} {rs : List Step} {row : List Nat} (fn : Fine n B rs) : ∀ w ∈ runF (latesF rs) row, Nm 13 w := fun w hw => by
  unfold runF at hw
  obtain ⟨o, ho, hw⟩ := List.mem_flatten.mp hw
  obtain ⟨p, hp, rfl⟩ := List.mem_map.mp ho
  have hs := (List.of_mem_zip hp).1
  obtain ⟨h1, h2⟩ := List.mem_filter.mp hs
  obtain ⟨m, os, e⟩ := late_opts h2
  have hb := fn.body _ h1
  rw [e] at hw hb
  have hw : w ∈ os.getD p.2 [] := hw
  rw [List.getD_eq_getElem?_getD] at hw
  cases q : os[p.2]? with
  | none => rw [q] at hw; exact nomatch hw
  | some o =>
    rw [q] at hw
    exact (hb.2 o (List.mem_of_getElem? q)).2 w hw
theorem show_runs {n B : Nat} {rs : List Step} (fn : Fine n B rs) : Show (.list ((rowsF (sizesF rs)).map fun r => optPy (runF (latesF rs) r))) 100000 2 := by
  refine .lst (n := 1075) (k := 1) (fun d hd => ?_) ?_ (Nat.le_refl _)
  · obtain ⟨r, hr, rfl⟩ := List.mem_map.mp hd
    have ft := fits_of (n := n) (B := B) hr
    have rl := run_len fn ft (latesF rs).length (Nat.le_refl _)
    rw [List.take_length, List.take_of_length_le (by rw [ft.1]; exact Nat.le_refl _)] at rl
    have := fn.late
    exact show_opt (m := 8) (by omega) (run_words fn)
  · rw [List.length_map]
    have := rows9 fn
    omega
theorem lst_py {α : Type} {f : α → D} {g : α → PyData} {xs : List α} (h : ∀ x ∈ xs, toPy (f x) = some (g x)) : toPyC (.lm (xs.map f)) = some (.list (xs.map g)) ∧ toPyC (.dat (.lst (xs.map f))) = some (.list (xs.map g)) := by
  have e := toPys_map h
  constructor
  · show (toPys (xs.map f)).map PyData.list = _
    rw [e]
    rfl
  · show toPy (.lst (xs.map f)) = _
    unfold toPy
    rw [e]
    rfl
theorem asc_ok {z : Str} (h : Asc z) : PyData.strOk z = true := by
  unfold PyData.strOk
  rw [Array.all_eq_true']
  intro c hc
  exact decide_eq_true (Nat.lt_trans (h c (Array.mem_toList_iff.mpr hc)) (by decide))
theorem due_eq (e : Due) (h : e.Ok) : ∃ p, toPys e.d = some p ∧ SeqAt.shaped (.list [.tuple p]) = true ∧ PyData.eqv (.list [.tuple p]) (.list [.tuple p]) = true := by
  have k1 : PyData.strOk "BadName" = true := by decide +kernel
  have k2 : PyData.strOk "NameTaken" = true := by decide +kernel
  have k3 : PyData.strOk "UnknownName" = true := by decide +kernel
  have k4 : PyData.strOk "BadEnds" = true := by decide +kernel
  have k5 : PyData.strOk "BadWidening" = true := by decide +kernel
  have k6 : PyData.strOk "BadPosition" = true := by decide +kernel
  cases e with
  | badName n => exact ⟨[.str "BadName", .str n], by simp [Due.d, toPys, toPy], by unfold SeqAt.shaped; simp [PyData.canLay0, PyData.canLayAll0, PyData.depth, PyData.depthAll, k1, asc_ok (show Asc n from h)], by simp [PyData.eqv, PyData.eqvAll]⟩
  | taken n => exact ⟨[.str "NameTaken", .str n], by simp [Due.d, toPys, toPy], by unfold SeqAt.shaped; simp [PyData.canLay0, PyData.canLayAll0, PyData.depth, PyData.depthAll, k2, asc_ok (show Asc n from h)], by simp [PyData.eqv, PyData.eqvAll]⟩
  | unknown n => exact ⟨[.str "UnknownName", .str n], by simp [Due.d, toPys, toPy], by unfold SeqAt.shaped; simp [PyData.canLay0, PyData.canLayAll0, PyData.depth, PyData.depthAll, k3, asc_ok (show Asc n from h)], by simp [PyData.eqv, PyData.eqvAll]⟩
  | ends lo hi => exact ⟨[.str "BadEnds", .int lo, .int hi], by simp [Due.d, toPys, toPy], by unfold SeqAt.shaped; simp [PyData.canLay0, PyData.canLayAll0, PyData.depth, PyData.depthAll, k4], by simp [PyData.eqv, PyData.eqvAll]⟩
  | widen i => exact ⟨[.str "BadWidening", .int i], by simp [Due.d, toPys, toPy], by unfold SeqAt.shaped; simp [PyData.canLay0, PyData.canLayAll0, PyData.depth, PyData.depthAll, k5], by simp [PyData.eqv, PyData.eqvAll]⟩
  | position i => exact ⟨[.str "BadPosition", .int i], by simp [Due.d, toPys, toPy], by unfold SeqAt.shaped; simp [PyData.canLay0, PyData.canLayAll0, PyData.depth, PyData.depthAll, k6], by simp [PyData.eqv, PyData.eqvAll]⟩
theorem pr_law_same (C : AD) : ∀ ds P, q_law_same C ds P → p_law_same C { nx := fun _ => P .non, rt := P } (startD n_law_same ds) := by
  rintro ds P ⟨g, rfl, hf, ho, hP⟩
  cases g with
  | inl e =>
    obtain ⟨p, e1, e2, e3⟩ := due_eq e (ho e rfl)
    have e4 : toPy (.tup e.d) = some (.tuple p) := by unfold toPy; rw [e1]; rfl
    have e5 : toPys [D.tup e.d] = some [.tuple p] := by unfold toPys; rw [e4]; unfold toPys; rfl
    refine ⟨_, rfl, _, true, rfl, rfl, _, rfl, ifT ⟨_, rfl, _, true, rfl, rfl, _, rfl, ifT ⟨_, rfl, _, rfl, _, rfl, len1 _, .list [.tuple p], .list [.tuple p], ?_, ?_, e2, e2, _, rfl, ?_⟩⟩⟩
    · show toPy (.lst [.tup e.d]) = _
      unfold toPy
      rw [e5]
      rfl
    · show (toPys [.tup e.d]).map PyData.list = _
      rw [e5]
      rfl
    · rw [e3]
      exact hP
  | inr rs =>
    have fn := hf rs rfl
    obtain ⟨r1, r2⟩ := lst_py (f := Step.d) (g := Step.py) (xs := rs) fun s _ => step_py s
    obtain ⟨i1, i2⟩ := lst_py (f := rowD) (g := rowPy) (xs := rowsF (sizesF rs)) fun s _ => row_py s
    obtain ⟨u1, u2⟩ := lst_py (f := fun r => optD (runF (latesF rs) r)) (g := fun r => optPy (runF (latesF rs) r)) (xs := rowsF (sizesF rs)) fun s _ => opt_py _
    have S1 := show_rows fn
    have S2 := show_ixs fn
    have S3 := show_runs fn
    have r9 := rows9 fn
    have bl : (100000 : Nat) ≤ 1000000 := by decide
    refine ⟨_, rfl, _, false, rfl, rfl, _, rfl, ifF ⟨_, rfl, _, false, rfl, if_pos rfl, _, rfl, ifF ?_⟩⟩
    refine ⟨2, rfl, by decide, by decide, fun i σd => ∃ a2 a3 a4 a5, σd = [some (.dat (route C rs)), some (.dat (rowsD rs)), a2, a3, a4, a5, none], ⟨none, none, none, none, rfl⟩, ?_, ?_⟩
    · rintro i d σd hd ⟨a2, a3, a4, a5, rfl⟩
      refine ⟨_, rfl, _, rfl, rs, rfl, _, rfl, ?_⟩
      refine ⟨_, rfl, _, rfl, rfl, _, rfl, rs, rfl, fn, _, rfl, ?_⟩
      refine ⟨_, rfl, _, _, rfl, r1, rfl, S1.sh, S1.nd, Nat.le_trans S1.dp (by decide), Nat.le_trans S1.len bl, _, rfl, _, _, rfl, r2, rfl, S1.sh, S1.nd, Nat.le_trans S1.dp (by decide), Nat.le_trans S1.len bl, _, _, rfl, rfl, rfl, _, rfl, ifnN rfl ?_⟩
      refine ⟨_, rfl, _, _, rfl, i1, rfl, S2.sh, S2.nd, Nat.le_trans S2.dp (by decide), Nat.le_trans S2.len bl, _, rfl, _, rfl, rs, rfl, fn, _, _, rfl, i2, rfl, S2.sh, S2.nd, Nat.le_trans S2.dp (by decide), Nat.le_trans S2.len bl, _, _, rfl, rfl, rfl, _, rfl, ifnN rfl ?_⟩
      refine pLc_map (it := pILk (pVar 4)) (g := pgName 6) (el := pMeth C.Route "late_run" (q_Route_late_run C) (pVar 0) (pCons (pVar 6) pNil)) (vs := [6]) (rowsF (sizesF rs)) rowD (fun r => optD (runF (latesF rs) r)) (fun Q h => ⟨_, rfl, _, rfl, h⟩) (by omega) (fun r hr Q h => ⟨_, rfl, _, rfl, rfl, _, rfl, _, rfl, rs, r, rfl, fn, fits_of (n := 26) (B := B2) hr, _, rfl, h⟩) (mg_name 6) ?_
      refine ⟨_, rfl, _, _, rfl, u1, rfl, S3.sh, S3.nd, Nat.le_trans S3.dp (by decide), Nat.le_trans S3.len bl, ?_⟩
      refine pLc_map (it := pIL (pCall (q_law_rows) (pCons (pVar 1) pNil))) (g := pgName 6) (el := pCall (q_law_late_run) (pCons (pVar 1) (pCons (pVar 6) pNil))) (vs := [6]) (rowsF (sizesF rs)) rowD (fun r => optD (runF (latesF rs) r)) (fun Q h => ⟨_, rfl, _, rfl, rs, rfl, fn, _, rfl, h⟩) (by omega) (fun r hr Q h => ⟨_, rfl, _, rfl, _, rfl, rs, r, rfl, fn, fits_of (n := 26) (B := B2) hr, _, rfl, h⟩) (mg_name 6) ?_
      refine ⟨_, _, rfl, u1, rfl, S3.sh, S3.nd, Nat.le_trans S3.dp (by decide), Nat.le_trans S3.len bl, _, _, rfl, rfl, rfl, _, rfl, ifnN rfl ?_⟩
      refine ⟨_, rfl, _, rfl, by rw [List.length_map]; have := fn.len; omega, ?_⟩
      exact ⟨_, rfl, _, _, _, _, rfl⟩
    · rintro σd ⟨a2, a3, a4, a5, rfl⟩
      exact ⟨_, rfl, hP⟩
end My


/-! K55m: the law. -/
namespace My
open PySem PySem.Spec PyProof.Rows L2 TL
abbrev EL : PEnds := { nx := fun _ => False, rt := fun d => d = .bl true }
theorem due_ok : ∀ (rs : List Step) (seen : List Str) (e : Due), (∀ r ∈ rs, Asc r.nm) → dueF seen rs = some e → e.Ok
  | [], _, _, _, h => nomatch h
  | r :: rs, seen, e, ha, h => by
    rw [dueF_cons] at h
    have h1 := ha r List.mem_cons_self
    by_cases q1 : isSt r.nm = false
    · rw [if_pos q1] at h
      cases h
      exact h1
    · rw [if_neg q1] at h
      by_cases q2 : r.nm ∈ seen
      · rw [if_pos q2] at h
        cases h
        exact h1
      · rw [if_neg q2] at h
        cases q3 : badE r with
        | some x =>
          rw [q3] at h
          cases h
          cases r with
          | part n => cases q3
          | late n os => cases q3
          | meas n lo hi =>
            have q3 : (if hi < lo then some (Due.ends lo hi) else none) = some e := q3
            by_cases q : hi < lo
            · rw [if_pos q] at q3
              cases q3
              trivial
            · rw [if_neg q] at q3
              cases q3
        | none =>
          rw [q3] at h
          exact due_ok rs _ e (fun x hx => ha x (List.mem_cons_of_mem _ hx)) h
theorem moved_ok {nm : Str} {to : Int} {rs : List Step} (hn : Asc nm) (fn : Fine 26 B2 rs) (hv : Valid rs) : (∀ o, movedF nm to rs = .inr o → Fine 26 B2 o ∧ Valid o) ∧ ∀ e, movedF nm to rs = .inl e → e.Ok := by
  unfold movedF
  by_cases q1 : (foundF nm rs).length = 0
  · rw [if_pos q1]
    exact ⟨fun o h => (nomatch h), fun e h => by cases h; exact hn⟩
  · rw [if_neg q1]
    by_cases q2 : 0 ≤ to ∧ to < rs.length
    · rw [if_pos q2]
      refine ⟨fun o h => ?_, fun e h => nomatch h⟩
      cases h
      exact ⟨mv_fine fn, mv_valid hv⟩
    · rw [if_neg q2]
      exact ⟨fun o h => (nomatch h), fun e h => by cases h; trivial⟩
theorem lit_asc : ∀ z ∈ (["frame", "fix", "", "+fix"] : List Str), ∀ c ∈ z.cps.toList, c < 128 := by decide +kernel
theorem is_goal (C : AD) (g : Due ⊕ List Step) : isTI C.Route "list" (goalD g) = some (match g with | .inl _ => false | .inr _ => true) := by cases g <;> rfl
theorem pr15_law (C : AD) (rs : List Step) (fn : Fine 14 B1 rs) (ns : List Str) (hns : ns.length ≤ 14) (hna : ∀ z ∈ ns, Asc z) (os : List (List Step)) (h0 : os ≠ []) (h1 : os.length ≤ 2) (h2 : ∀ o ∈ os, Fine 26 B2 o ∧ Valid o) (a3 a4 a5 a6 a7 : Option Cell) :
    p15_law C EL [some .un, some (.dat .src), some (.dat (rowsD rs)), a3, a4, a5, a6, a7, some (.lm (os.map (route C))), some (.lm (os.map rowsD)), some (.lm (ns.map .str)), none, none, none, none, none, none, none] := by
  have hrl := fn.len
  refine ⟨4, rfl, by decide, by decide, fun i σd => i ≤ 4 ∧ ∃ (os : List (List Step)) (b1 b2 b3 b4 b5 b6 : Option Cell), σd = [some .un, some (.dat .src), some (.dat (rowsD rs)), a3, a4, a5, a6, a7, some (.lm (os.map (route C))), some (.lm (os.map rowsD)), some (.lm (ns.map .str)), b1, b2, b3, b4, b5, b6, none] ∧ os ≠ [] ∧ os.length ≤ 2 + i ∧ ∀ o ∈ os, Fine 26 B2 o ∧ Valid o, ⟨by decide, os, none, none, none, none, none, none, rfl, h0, h1, h2⟩, ?_, ?_⟩
  · rintro i d σd hd ⟨hi4, os, b1, b2, b3, b4, b5, b6, rfl, h0, h1, h2⟩
    have hi : i < 4 := (range_at (n := 4) hd).1
    have hpos : 0 < os.length := List.length_pos_iff.mpr h0
    refine ⟨_, rfl, _, rfl, _, _, rfl, rfl, _, rfl, ((os.map (route C)).length : Int), rfl, by rw [List.length_map]; omega, log_small (by rw [List.length_map]; omega), fun p p0 p1 => ⟨_, rfl, ?_⟩⟩
    rw [List.length_map] at p1
    obtain ⟨k, rfl⟩ := Int.eq_ofNat_of_zero_le p0
    have hk : k < os.length := by omega
    have ho : os[k]? = some os[k] := List.getElem?_eq_getElem hk
    have hom := List.getElem_mem hk
    generalize os[k] = o at ho hom
    obtain ⟨fo, vo⟩ := h2 o hom
    -- the name
    refine ⟨_, rfl, _, rfl, _, rfl, _, _, rfl, rfl, by rw [List.length_map]; omega, _, rfl, _, _, rfl, rfl, by rw [List.length_append, List.length_map]; omega, ?_⟩
    refine pLc_map (it := pIL (pVar 2)) (g := pgName 17) (el := pOp fIxT (pVar 17) (pC (cI 1))) (vs := [17]) rs Step.d (fun s => .str s.nm) (fun Q h => ⟨_, rfl, _, rfl, h⟩) (by omega) (fun s _ Q h => ⟨_, rfl, _, 1, _, rfl, rfl, sAt1 s, _, rfl, h⟩) (mg_name 17) ?_
    have ln : (ns.map D.str).length = ns.length := List.length_map _
    have lr : (rs.map fun s => D.str s.nm).length = rs.length := List.length_map _
    refine ⟨_, _, rfl, rfl, by rw [List.length_append, List.length_append, ln, lr]; omega, _, rfl, len4 _ _ _ _, _, _, rfl, rfl, ?_, _, rfl, _, _, rfl, rfl, ?_, ?_, fun e he => ?_⟩
    · rw [List.length_append, List.length_append, List.length_append, ln, lr]
      show _ + 4 ≤ _
      omega
    · intro z
      have := congrArg List.length z
      rw [List.length_append] at this
      have e4 : ([D.str "frame", D.str "fix", D.str "", D.str "+fix"]).length = 4 := rfl
      rw [e4] at this
      exact absurd this (by simp)
    · rw [List.length_append, List.length_append, List.length_append, List.length_append, ln, lr]
      show _ + 4 ≤ _
      omega
    have hz : ∃ z, e = .str z ∧ Asc z := by
      rcases List.mem_append.mp he with he | he
      · rcases List.mem_append.mp he with he | he
        · rcases List.mem_append.mp he with he | he
          · rcases List.mem_append.mp he with he | he
            · obtain ⟨z, hz, rfl⟩ := mem_str he
              exact ⟨z, rfl, hna z hz⟩
            · obtain ⟨z, hz, rfl⟩ := mem_str he
              exact ⟨z, rfl, hna z hz⟩
          · obtain ⟨z, hz, rfl⟩ := mem_str he
            exact ⟨z, rfl, hna z hz⟩
        · obtain ⟨s, hs, rfl⟩ := List.mem_map.mp he
          exact ⟨_, rfl, (fn.nm s hs).2⟩
      · obtain ⟨z, hz, rfl⟩ := mem_str (zs := ["frame", "fix", "", "+fix"]) he
        exact ⟨z, rfl, lit_asc z hz⟩
    obtain ⟨nm, rfl, hnm⟩ := hz
    refine ⟨_, rfl, ?_⟩
    -- the place
    have lrd : (rs.map Step.d).length = rs.length := List.length_map _
    refine ⟨_, rfl, _, rfl, _, rfl, _, _, rfl, rfl, _, rfl, _, _, rfl, rfl, _, _, rfl, rfl, _, rfl, len3 _ _ _, _, rfl, _, _, rfl, rfl, (rs.map Step.d).length, rfl, by rw [lrd]; omega, _, 3, rfl, rfl, by decide, ?_, _, _, rfl, rfl, ?_, _, rfl, _, _, rfl, rfl, ?_, ?_, fun e he => ?_⟩
    · rw [range_len, lrd]
      omega
    · rw [List.length_flatten]
      simp [range_len]
      omega
    · intro z
      have := congrArg List.length z
      rw [List.length_append] at this
      exact absurd this (by simp)
    · rw [List.length_append, List.length_flatten]
      simp [range_len]
      omega
    have hv : ∃ v : Int, e = .int v := by
      rcases List.mem_append.mp he with he | he
      · simp only [List.mem_cons, List.not_mem_nil, or_false] at he
        rcases he with rfl | rfl | rfl <;> exact ⟨_, rfl⟩
      · obtain ⟨l, hl, hm⟩ := List.mem_flatten.mp he
        have hl := List.eq_of_mem_replicate hl
        subst hl
        rw [range_dat] at hm
        obtain ⟨j, _, rfl⟩ := List.mem_map.mp hm
        exact ⟨_, rfl⟩
    obtain ⟨to, rfl⟩ := hv
    obtain ⟨mk1, mk2⟩ := moved_ok (to := to) hnm fo vo
    refine ⟨_, rfl, ?_⟩
    refine ⟨_, rfl, _, rfl, _, (k : Int), _, rfl, rfl, atI_nat (by rw [List.getElem?_map, ho]; rfl), _, rfl, _, rfl, _, rfl, o, nm, to, rfl, fo, _, rfl, ?_⟩
    refine ⟨_, rfl, _, rfl, _, (k : Int), _, rfl, rfl, atI_nat (by rw [List.getElem?_map, ho]; rfl), _, rfl, _, rfl, _, rfl, .inr (.inr ⟨o, _, nm, to, rfl, fo, vo, _, rfl, ?_⟩)⟩
    refine ⟨_, rfl, _, rfl, _, rfl, movedF nm to o, rfl, fun r hr => (mk1 r hr).1, mk2, _, rfl, ifF ?_⟩
    refine ⟨_, rfl, _, _, rfl, is_goal C _, _, rfl, ?_⟩
    cases hg : movedF nm to o with
    | inl e => exact ifF ⟨hi, os, _, _, _, _, _, _, rfl, h0, by omega, h2⟩
    | inr r =>
      obtain ⟨fr, vr⟩ := mk1 r hg
      refine ifT ⟨_, rfl, _, rfl, _, rfl, by rw [List.length_map]; omega, ?_⟩
      refine ⟨_, rfl, _, rfl, _, rfl, by rw [List.length_map]; omega, hi, os ++ [r], some (.dat d), some (cI (k : Int)), some (cS nm), some (cI to), some (.dat (rowsD r)), some (.dat (route C r)), ?_, by simp, by rw [List.length_append, List.length_singleton]; omega, fun q hq => ?_⟩
      · rw [List.map_append, List.map_append]
        rfl
      · rcases List.mem_append.mp hq with hq | hq
        · exact h2 q hq
        · rw [List.mem_singleton.mp hq]
          exact ⟨fr, vr⟩
  · rintro σd ⟨_, os, b1, b2, b3, b4, b5, b6, rfl, h0, h1, h2⟩
    have h1 : os.length ≤ 6 := h1
    have lo : (os.map (route C)).length = os.length := List.length_map _
    refine pLc_map (it := pIR (pCons (pCB gLenQ (pCons (pVar 8) pNil)) pNil)) (g := pgName 12) (el := pCall (q_law_same C) (pCons (pOp fIxL (pVar 8) (pVar 12)) (pCons (pOp fIxL (pVar 9) (pVar 12)) pNil))) (vs := [12]) (List.range os.length) (fun (k : Nat) => .int (k : Int)) (fun _ => .bl true) (fun Q h => ⟨_, rfl, _, _, rfl, rfl, _, rfl, by rw [lo]; omega, by rw [lo]; omega, by rw [lo, range_dat]; exact h⟩) (by rw [List.length_range]; omega) (fun k hk Q h => ?_) (mg_name 12) ?_
    · have hk := List.mem_range.mp hk
      have ho : os[k]? = some os[k] := List.getElem?_eq_getElem hk
      exact ⟨_, rfl, _, rfl, _, (k : Int), _, rfl, rfl, atI_nat (by rw [List.getElem?_map, ho]; rfl), _, rfl, _, rfl, _, (k : Int), _, rfl, rfl, atI_nat (by rw [List.getElem?_map, ho]; rfl), _, rfl, .inr os[k], rfl, fun r hr => by cases hr; exact (h2 _ (List.getElem_mem hk)).1, fun e he => (nomatch he), _, rfl, h⟩
    · refine ⟨_, (List.range os.length).map fun _ => true, rfl, ?_, _, rfl, ?_⟩
      · show some _ = some _
        rw [List.map_map]
        rfl
      · show D.bl _ = .bl true
        rw [show (((List.range os.length).map fun _ => true).all id) = true from by simp]
theorem pr10_law (C : AD) (rs : List Step) (fn : Fine 14 B1 rs) (hv : Valid rs) (n : Int) (hn : n.natAbs < 10 ^ 60) (a3 a4 : Option Cell) :
    p10_law C EL [some .un, some (.dat .src), some (.dat (rowsD rs)), a3, a4, some (.dat (route C rs)), some (cI n), some (.dat (toldD C (widesF n rs))), none, none, none, none, none, none, none, none, none, none] := by
  have fn1 : Fine 26 B1 rs := fn.mono (by decide) (Nat.le_refl _)
  have fn2 : Fine 26 B2 rs := fn.mono (by decide) B12
  have hrl := fn.len
  have nms : ∀ (os : List (List Step)), os ≠ [] → os.length ≤ 2 → (∀ o ∈ os, Fine 26 B2 o ∧ Valid o) → ∀ a7, (pSeq (pNew (pLc (pIL (pVar 2)) (pgName 17) (pTest (pOp (fEq not) (pOp fIxT (pVar 17) (pC (cI 0))) (pC (cS "part")))) (pOp fIxT (pVar 17) (pC (cI 1))) [17]) 10) (p15_law C)) EL
      [some .un, some (.dat .src), some (.dat (rowsD rs)), a3, a4, some (.dat (route C rs)), some (cI n), a7, some (.lm (os.map (route C))), some (.lm (os.map rowsD)), none, none, none, none, none, none, none, none] := fun os g0 g1 g2 a7 => by
    refine pLc_filter (it := pIL (pVar 2)) (g := pgName 17) (t := pTest (pOp (fEq not) (pOp fIxT (pVar 17) (pC (cI 0))) (pC (cS "part")))) (el := pOp fIxT (pVar 17) (pC (cI 1))) (vs := [17]) rs Step.d (fun s => .str s.nm) (fun s => !s.isPart) (fun Q h => ⟨_, rfl, _, rfl, h⟩) (by omega) (fun s _ Q0 Q k1 k0 => ?_) ?_
    · refine ⟨_, rfl, _, 0, _, rfl, rfl, sAt0 s, _, _, rfl, rfl, rfl, _, rfl, ?_⟩
      rw [kd_part]
      exact if2 (fun e => ⟨_, rfl, _, 1, _, rfl, rfl, sAt1 s, _, rfl, k1 e⟩) (fun e => k0 e)
    · have e : (rs.filter fun s => !s.isPart).map (fun s => D.str s.nm) = ((rs.filter fun s => !s.isPart).map Step.nm).map D.str := by
        rw [List.map_map]
        rfl
      rw [e]
      refine pr15_law C rs fn _ ?_ (fun z hz => ?_) os g0 g1 g2 _ _ _ _ _
      · rw [List.length_map]
        exact Nat.le_trans (List.length_filter_le _ _) hrl
      · obtain ⟨s, hs, rfl⟩ := List.mem_map.mp hz
        exact (fn.nm s (List.mem_filter.mp hs).1).2
  have rest : (pSeq (pNew (pLst (pCons (pVar 5) pNil)) 8)
    (pSeq (pNew (pLst (pCons (pVar 2) pNil)) 9)
    (pSeq (pIfS (pTest (pOp (fIB fun i j => decide (j ≤ i)) (pVar 6) (pC (cI 0)))) (pSeq (pApp 8 (pVar 7))
    (pApp 9 (pCall (q_law_wide) (pCons (pVar 2) (pCons (pVar 6) pNil))))) pNext)
    (pSeq (pNew (pLc (pIL (pVar 2)) (pgName 17) (pTest (pOp (fEq not) (pOp fIxT (pVar 17) (pC (cI 0))) (pC (cS "part")))) (pOp fIxT (pVar 17) (pC (cI 1))) [17]) 10)
    (p15_law C))))) EL [some .un, some (.dat .src), some (.dat (rowsD rs)), a3, a4, some (.dat (route C rs)), some (cI n), some (.dat (toldD C (widesF n rs))), none, none, none, none, none, none, none, none, none, none] := by
    refine ⟨_, rfl, _, rfl, len1 _, _, rfl, _, rfl, len1 _, ?_⟩
    refine ⟨_, rfl, _, _, rfl, rfl, _, rfl, ifE (fun q => ?_) (fun q => ?_)⟩
    · rw [show widesF n rs = .inr (wideF n rs) from if_neg (by omega)]
      refine ⟨_, rfl, _, rfl, _, rfl, len1 _, ?_⟩
      refine ⟨_, rfl, _, rfl, _, rfl, _, rfl, rs, n, rfl, fn2, _, rfl, len1 _, ?_⟩
      refine nms [rs, wideF n rs] (List.cons_ne_nil _ _) (Nat.le_refl _) (fun o ho => ?_) _
      simp only [List.mem_cons, List.not_mem_nil, or_false] at ho
      rcases ho with rfl | rfl
      · exact ⟨fn2, hv⟩
      · exact ⟨wide_fine fn1 hn, wide_valid hv q⟩
    · refine nms [rs] (List.cons_ne_nil _ _) (by show 1 ≤ 2; decide) (fun o ho => ?_) _
      rw [List.mem_singleton.mp ho]
      exact ⟨fn2, hv⟩
  refine ⟨_, rfl, _, _, rfl, rfl, _, rfl, ifE (fun q => ?_) (fun q => ifF rest)⟩
  have e : widesF n rs = .inl (.widen n) := if_pos q
  refine ⟨_, rfl, _, rfl, _, rfl, len2 _ _, _, rfl, .inl (.widen n), by rw [e]; rfl, fun r hr => (nomatch hr), fun x hx => by cases hx; trivial, _, rfl, ifF rest⟩
theorem pick8 {e : D} (h : e ∈ [D.int 1, D.int 0, D.int 2, D.int 7, D.int ((10 : Int) ^ (60 : Int).toNat - 1), D.int (-1), D.int (-2), D.int (1 - (10 : Int) ^ (60 : Int).toNat)]) : ∃ v : Int, e = .int v ∧ v.natAbs < 10 ^ 60 := by
  simp only [List.mem_cons, List.not_mem_nil, or_false] at h
  rcases h with rfl | rfl | rfl | rfl | rfl | rfl | rfl | rfl <;> exact ⟨_, rfl, by decide⟩
theorem pr7_law (C : AD) (rs : List Step) (fn : Fine 14 B1 rs) (hv : Valid rs) (a3 a4 : Option Cell) :
    p7_law C EL [some .un, some (.dat .src), some (.dat (rowsD rs)), a3, a4, some (.dat (route C rs)), none, none, none, none, none, none, none, none, none, none, none, none] := by
  have fn1 : Fine 26 B1 rs := fn.mono (by decide) (Nat.le_refl _)
  have fn2 : Fine 26 B2 rs := fn.mono (by decide) B12
  have hd : duesF rs = .inr rs := by unfold duesF; rw [show dueF [] rs = none from hv]
  have fs : ∀ r, (Sum.inr rs : Due ⊕ List Step) = .inr r → Fine 26 B2 r := fun r hr => by cases hr; exact fn2
  refine ⟨_, rfl, _, rfl, _, rfl, .inr rs, rfl, fs, fun e he => (nomatch he), _, rfl, ifF ?_⟩
  refine ⟨_, rfl, _, _, rfl, rfl, _, rfl, .inl ⟨_, _, _, rs, rfl, rfl, fn2, _, rfl, _, rfl, .inr rs, by rw [hd]; rfl, fs, fun e he => (nomatch he), _, rfl, ifF ?_⟩⟩
  refine ⟨_, rfl, _, _, rfl, rfl, ⟨by decide, by decide, by decide⟩, _, _, rfl, rfl, _, rfl, _, rfl, _, _, rfl, rfl, ⟨by decide, by decide, by decide⟩, _, _, rfl, rfl, _, rfl, eight _ _ _ _ _ _ _ _, _, rfl, _, _, rfl, rfl, List.cons_ne_nil _ _, eight _ _ _ _ _ _ _ _, fun e he => ?_⟩
  obtain ⟨n, rfl, hn⟩ := pick8 he
  refine ⟨_, rfl, ?_⟩
  exact ⟨_, rfl, _, rfl, _, rfl, .inr (.inl ⟨rs, _, n, rfl, fn1, hv, hn, _, rfl, pr10_law C rs fn hv n hn _ _⟩)⟩
theorem pr2_law (C : AD) (rs : List Step) (fn : Fine 14 B1 rs) :
    p2_law C EL [some .un, some (.dat .src), some (.dat (rowsD rs)), none, none, none, none, none, none, none, none, none, none, none, none, none, none, none] := by
  have fn2 : Fine 26 B2 rs := fn.mono (by decide) B12
  refine ⟨_, rfl, _, rfl, rs, rfl, fn2, _, rfl, ?_⟩
  refine ⟨_, rfl, _, _, rfl, rfl, ?_⟩
  refine ⟨_, rfl, _, rfl, .inl ⟨_, _, _, rs, rfl, rfl, fn2, _, rfl, ?_⟩⟩
  refine ⟨_, rfl, ?_⟩
  cases hd : dueF [] rs with
  | some e =>
    have hds : duesF rs = .inl e := by unfold duesF; rw [hd]
    have ok : ∀ x, (Sum.inl e : Due ⊕ List Step) = .inl x → x.Ok := fun x hx => by cases hx; exact due_ok rs [] e (fun r hr => (fn.nm r hr).2) hd
    rw [hds]
    refine ⟨_, rfl, false, rfl, rfl, _, rfl, ifT ?_⟩
    refine ⟨_, rfl, _, rfl, _, rfl, .inl e, rfl, fun r hr => (nomatch hr), ok, _, rfl, ifT ?_⟩
    exact ⟨_, rfl, _, _, rfl, rfl, _, rfl, .inl ⟨_, _, _, rs, rfl, rfl, fn2, _, rfl, _, rfl, .inl e, by rw [hds]; rfl, fun r hr => (nomatch hr), ok, _, rfl, rfl⟩⟩
  | none =>
    have hds : duesF rs = .inr rs := by unfold duesF; rw [hd]
    rw [hds]
    exact ⟨_, rfl, true, rfl, rfl, _, rfl, ifF (pr7_law C rs fn hd _ _)⟩
theorem pr_law (C : AD) : p_law C { nx := fun _ => False, rt := fun d => d = .bl true } (([some Cell.un] ++ List.replicate 17 none).set 1 (some (.dat .src))) := by
  refine ⟨_, rfl, _, rfl, rfl, fun rs fn => ⟨_, rfl, ?_⟩⟩
  have fn14 : Fine 14 B1 rs := fn.mono (by decide) (Nat.le_refl _)
  refine ⟨_, rfl, _, _, rfl, rfl, _, _, rfl, rfl, _, rfl, if2 (fun e0 => ?_) (fun _ => ifF (pr2_law C rs fn14))⟩
  have hne : rs ≠ [] := fun z => by
    have := of_decide_eq_true e0
    rw [z] at this
    exact absurd this (by decide)
  refine ⟨_, rfl, _, rfl, 3, rfl, by decide, by decide, fun t t0 t1 => ⟨_, _, rfl, rfl, rfl, _, rfl, if2 (fun _ => ?_) (fun _ => pr2_law C rs fn14)⟩⟩
  exact ⟨_, rfl, _, rfl, _, rfl, rs, rfl, hne, fn, fun rs' fn' => ⟨_, rfl, pr2_law C rs' fn'⟩⟩
end My


/-! ExB: what the written part says of own exception classes, as one test. -/
namespace My
open PySem PySem.Spec PyProof.Rows L2
def oexL (K : PySem.W.Frag) (C : Addr) : Bool := match K.lookup C with
  | some ⟨.type "type", _, .cls cd, sl⟩ => (match cd.mro, sl.toList with
    | .ref a :: r, [_, _, _, _, some (.builtin n), _] => decide (a = C) && (decide (n = "ValueError.__new__") && (!cd.hasDel && (cd.hasDict && PySem.HandSPX.refsVE r)))
    | _, _ => false)
  | _ => false
theorem oexL_ok {K : PySem.W.Frag} {C : Addr} (q : oexL K C = true) : ∃ nm qn N bs bm sn sub ab col dd k0 k1 k2 k3 k5, K.lookup C = some (excClassObj nm qn C N bs bm true sn sub ab col dd k0 k1 k2 k3 k5 "ValueError.__new__") ∧ PySem.HandSPX.refsVE bm = true := by
  unfold oexL at q
  split at q
  · rename_i dd cd sl ho
    split at q
    · rename_i a r e0 e1 e2 e3 n e5 hm hs
      obtain ⟨h1, q⟩ := Bool.and_eq_true_iff.mp q
      obtain ⟨h2, q⟩ := Bool.and_eq_true_iff.mp q
      obtain ⟨h3, q⟩ := Bool.and_eq_true_iff.mp q
      obtain ⟨h4, h5⟩ := Bool.and_eq_true_iff.mp q
      have h1 := of_decide_eq_true h1
      have h2 := of_decide_eq_true h2
      subst h1 h2
      obtain ⟨nm, bs, mro, N, qn, hd, sn, sub, ab, col, del⟩ := cd
      dsimp only at hm h3 h4
      subst hm
      cases hd with
      | false => cases h4
      | true =>
        cases del with
        | true => cases h3
        | false =>
          have hsl : sl = #[e0, e1, e2, e3, some (.builtin "ValueError.__new__"), e5] := by
            obtain ⟨l⟩ := sl
            simp only at hs
            rw [hs]
          subst hsl
          exact ⟨nm, qn, N, bs, r, sn, sub, ab, col, dd, e0, e1, e2, e3, e5, ho, h5⟩
    · cases q
  · cases q
def bV (a b : Option Value) : Bool := decide (a = b)
def bOv (a b : Option (Option Value)) : Bool := decide (a = b)
def bOb (a b : Option Bool) : Bool := decide (a = b)
/-- all of it, of one class -/
def excB (K : PySem.W.Frag) (C : Addr) : Bool := [oexL K C, bOv (PySem.W.findIn K (.ref C) "__setattr__") (some (some (.builtin "object.__setattr__"))), bOb (PySem.W.subIn K (.ref C) (.type "BaseException")) (some true), bV (PySem.W.typeIn K (.ref C)) (some (.type "type")), PySem.W.keepIn K (.ref C),
  bOv (PySem.W.findIn K (.ref C) "__getattribute__") (some (some (.builtin "BaseException.__getattribute__"))), bOv (PySem.W.findIn K (.ref C) "__getattr__") (some none), PySem.W.hasDictIn K C, bOv (PySem.W.findIn K (.ref C) "__class__") (some (some (.builtin "object.__class__"))),
  bOv (PySem.W.specialIn K (.builtin "object.__class__") "__get__") (some (some (.builtin "getset_descriptor.__get__"))), bOb (PySem.W.takesIn K (.builtin "object.__class__")) (some true), bOb (PySem.W.mroIn K C (.type "object")) (some true), bOb (PySem.W.kitOne K (.ref C) (.type "ValueError")) (some true)].all id
structure ExcAll (K : PySem.W.Frag) (C : Addr) : Prop where
  oex : OexC K C
  xf : XfC K C
  exc : ExcC K C
  ve : PySem.W.kitOne K (.ref C) (.type "ValueError") = some true
theorem excB_ok {K : PySem.W.Frag} {C : Addr} (h : excB K C = true) : ExcAll K C := by
  have g : ∀ b ∈ _, id b = true := List.all_eq_true.mp h
  have g0 := oexL_ok (g _ (List.mem_of_getElem? (i := 0) rfl))
  exact ⟨⟨g0, of_decide_eq_true (g _ (List.mem_of_getElem? (i := 1) rfl)), of_decide_eq_true (g _ (List.mem_of_getElem? (i := 2) rfl)), of_decide_eq_true (g _ (List.mem_of_getElem? (i := 3) rfl)), g _ (List.mem_of_getElem? (i := 4) rfl)⟩, ⟨of_decide_eq_true (g _ (List.mem_of_getElem? (i := 5) rfl)), of_decide_eq_true (g _ (List.mem_of_getElem? (i := 6) rfl)), of_decide_eq_true (g _ (List.mem_of_getElem? (i := 2) rfl)), g _ (List.mem_of_getElem? (i := 7) rfl)⟩, ⟨of_decide_eq_true (g _ (List.mem_of_getElem? (i := 5) rfl)), of_decide_eq_true (g _ (List.mem_of_getElem? (i := 6) rfl)), of_decide_eq_true (g _ (List.mem_of_getElem? (i := 2) rfl)), g _ (List.mem_of_getElem? (i := 7) rfl), of_decide_eq_true (g _ (List.mem_of_getElem? (i := 8) rfl)), of_decide_eq_true (g _ (List.mem_of_getElem? (i := 9) rfl)), of_decide_eq_true (g _ (List.mem_of_getElem? (i := 10) rfl)), of_decide_eq_true (g _ (List.mem_of_getElem? (i := 11) rfl))⟩, of_decide_eq_true (g _ (List.mem_of_getElem? (i := 12) rfl))⟩
/-- no exception of one class is of another -/
def kitB2 (K : PySem.W.Frag) (Cs : List Addr) : Bool := Cs.all fun E => Cs.all fun T => bOb (PySem.W.kitOne K (.ref E) (.ref T)) (some (decide (E = T)))
theorem kitB2_ok {K : PySem.W.Frag} {Cs : List Addr} (h : kitB2 K Cs = true) : ∀ E ∈ Cs, ∀ T ∈ Cs, PySem.W.kitOne K (.ref E) (.ref T) = some (decide (E = T)) := fun E hE T hT => of_decide_eq_true (List.all_eq_true.mp (List.all_eq_true.mp h E hE) T hT)
def exmB (K : PySem.W.Frag) (Cs : List Addr) (T : Addr) : Bool := Cs.all fun E => bOb (PySem.W.exmOne K (.ref E) (.ref T)) (some true)
theorem exmB_ok {K : PySem.W.Frag} {Cs : List Addr} {T : Addr} (h : exmB K Cs T = true) : ∀ E ∈ Cs, PySem.W.exmOne K (.ref E) (.ref T) = some true := fun E hE => of_decide_eq_true (List.all_eq_true.mp h E hE)
end My


namespace My
open PySem PySem.Spec PyProof.Rows L2 TL
def top (i : Nat) : Stmt := PySem.Challenge.pw_drawingoffice_k55_routes.main.body.getD i (.Pass ⟨0, 0, 0, 0⟩)
theorem u1 {k : Nat} {A : Around} (r : Room k A) : A.units + 1 < cLine := by have := r.units; omega
theorem u2 {k : Nat} {A : Around} (r : Room k A) : A.units + 2 < cLine := by have := r.units; omega
structure Txt (w : World) (K : PySem.W.Frag) (mg : Str → Option Value) (C : AD) : Prop where
  ValueError_ : mg "ValueError" = none
  abs_ : mg "abs" = none
  all_ : mg "all" = none
  int_ : mg "int" = none
  isinstance : mg "isinstance" = none
  len : mg "len" = none
  list_ : mg "list" = none
  range : mg "range" = none
  repr_ : mg "repr" = none
  str_ : mg "str" = none
  tuple_ : mg "tuple" = none
  zip : mg "zip" = none
  g_Route : mg "Route" = some (.ref C.Route)
  g_OfficeError : mg "OfficeError" = some (.ref C.OfficeError)
  g_BadName : mg "BadName" = some (.ref C.BadName)
  g_NameTaken : mg "NameTaken" = some (.ref C.NameTaken)
  g_UnknownName : mg "UnknownName" = some (.ref C.UnknownName)
  g_BadEnds : mg "BadEnds" = some (.ref C.BadEnds)
  g_BadWidening : mg "BadWidening" = some (.ref C.BadWidening)
  g_BadPosition : mg "BadPosition" = some (.ref C.BadPosition)
  c_LETTERS : ∃ t, mg "LETTERS" = some (.str "abcdefghijklmnopqrstuvwxyz" t)
  c_DIGITS : ∃ t, mg "DIGITS" = some (.str "0123456789" t)
  c_LONGEST_NAME : ∃ t, mg "LONGEST_NAME" = some (.int 12 t)
  c_FRAME : ∃ t, mg "FRAME" = some (.str "frame" t)
abbrev s_law_mixed : Stmt := top 19
theorem sc_law_mixed : FnScope n_law_mixed ["_law_cell", "_law_place"] (defScope s_law_mixed) := ⟨rfl, rfl, rfl, by decide +kernel, rfl, by decide +kernel, by decide +kernel⟩
abbrev s_law_source : Stmt := top 20
theorem sc_law_source : FnScope n_law_source ["_law_script"] (defScope s_law_source) := ⟨rfl, rfl, rfl, by decide +kernel, rfl, by decide +kernel, by decide +kernel⟩
abbrev s_law_take : Stmt := top 21
theorem sc_law_take : FnScope n_law_take ["_law_source_here", "_law_many"] (defScope s_law_take) := ⟨rfl, rfl, rfl, by decide +kernel, rfl, by decide +kernel, by decide +kernel⟩
abbrev s_is_nameR : Stmt := top 13
theorem sc_is_nameR : FnScope n_is_nameR ["text"] (defScope s_is_nameR) := ⟨rfl, rfl, rfl, by decide +kernel, rfl, by decide +kernel, by decide +kernel⟩
abbrev s_is_step_nameR : Stmt := top 14
theorem sc_is_step_nameR : FnScope n_is_step_nameR ["text"] (defScope s_is_step_nameR) := ⟨rfl, rfl, rfl, by decide +kernel, rfl, by decide +kernel, by decide +kernel⟩
abbrev s_index_rows : Stmt := top 15
theorem sc_index_rows : FnScope n_index_rows ["sizes"] (defScope s_index_rows) := ⟨rfl, rfl, rfl, by decide +kernel, rfl, by decide +kernel, by decide +kernel⟩
abbrev s_Route_init : Stmt := inClass (top 17) 0
theorem sc_Route_init : FnScope n_Route_init ["self", "steps"] (defScope s_Route_init) := ⟨rfl, rfl, rfl, by decide +kernel, rfl, by decide +kernel, by decide +kernel⟩
abbrev s_Route_steps : Stmt := inClass (top 17) 1
theorem sc_Route_steps : FnScope n_Route_steps ["self"] (defScope s_Route_steps) := ⟨rfl, rfl, rfl, by decide +kernel, rfl, by decide +kernel, by decide +kernel⟩
abbrev s_Route_widened : Stmt := inClass (top 17) 2
theorem sc_Route_widened : FnScope n_Route_widened ["self", "by"] (defScope s_Route_widened) := ⟨rfl, rfl, rfl, by decide +kernel, rfl, by decide +kernel, by decide +kernel⟩
abbrev s_Route_moved : Stmt := inClass (top 17) 3
theorem sc_Route_moved : FnScope n_Route_moved ["self", "name", "to"] (defScope s_Route_moved) := ⟨rfl, rfl, rfl, by decide +kernel, rfl, by decide +kernel, by decide +kernel⟩
abbrev s_Route_late_steps : Stmt := inClass (top 17) 4
theorem sc_Route_late_steps : FnScope n_Route_late_steps ["self"] (defScope s_Route_late_steps) := ⟨rfl, rfl, rfl, by decide +kernel, rfl, by decide +kernel, by decide +kernel⟩
abbrev s_Route_late_rows : Stmt := inClass (top 17) 5
theorem sc_Route_late_rows : FnScope n_Route_late_rows ["self"] (defScope s_Route_late_rows) := ⟨rfl, rfl, rfl, by decide +kernel, rfl, by decide +kernel, by decide +kernel⟩
abbrev s_Route_late_run : Stmt := inClass (top 17) 6
theorem sc_Route_late_run : FnScope n_Route_late_run ["self", "row"] (defScope s_Route_late_run) := ⟨rfl, rfl, rfl, by decide +kernel, rfl, by decide +kernel, by decide +kernel⟩
abbrev s_law_pick : Stmt := top 22
theorem sc_law_pick : FnScope n_law_pick ["_law_draws", "_law_rows_here"] (defScope s_law_pick) := ⟨rfl, rfl, rfl, by decide +kernel, rfl, by decide +kernel, by decide +kernel⟩
abbrev s_law_fresh : Stmt := top 23
theorem sc_law_fresh : FnScope n_law_fresh ["_law_draws", "_law_names"] (defScope s_law_fresh) := ⟨rfl, rfl, rfl, by decide +kernel, rfl, by decide +kernel, by decide +kernel⟩
abbrev s_law_number : Stmt := top 24
theorem sc_law_number : FnScope n_law_number ["_law_draws"] (defScope s_law_number) := ⟨rfl, rfl, rfl, by decide +kernel, rfl, by decide +kernel, by decide +kernel⟩
abbrev s_law_measure : Stmt := top 25
theorem sc_law_measure : FnScope n_law_measure ["_law_draws", "_law_name"] (defScope s_law_measure) := ⟨rfl, rfl, rfl, by decide +kernel, rfl, by decide +kernel, by decide +kernel⟩
abbrev s_law_step : Stmt := top 26
theorem sc_law_step : FnScope n_law_step ["_law_draws", "_law_kind", "_law_name"] (defScope s_law_step) := ⟨rfl, rfl, rfl, by decide +kernel, rfl, by decide +kernel, by decide +kernel⟩
abbrev s_law_steps : Stmt := top 27
theorem sc_law_steps : FnScope n_law_steps ["_law_draws"] (defScope s_law_steps) := ⟨rfl, rfl, rfl, by decide +kernel, rfl, by decide +kernel, by decide +kernel⟩
abbrev s_law_spoiled : Stmt := top 28
theorem sc_law_spoiled : FnScope n_law_spoiled ["_law_draws", "_law_rows_here"] (defScope s_law_spoiled) := ⟨rfl, rfl, rfl, by decide +kernel, rfl, by decide +kernel, by decide +kernel⟩
abbrev s_law_is_name : Stmt := top 29
theorem sc_law_is_name : FnScope n_law_is_name ["_law_word"] (defScope s_law_is_name) := ⟨rfl, rfl, rfl, by decide +kernel, rfl, by decide +kernel, by decide +kernel⟩
abbrev s_law_due : Stmt := top 30
theorem sc_law_due : FnScope n_law_due ["_law_rows_here"] (defScope s_law_due) := ⟨rfl, rfl, rfl, by decide +kernel, rfl, by decide +kernel, by decide +kernel⟩
abbrev s_law_rows : Stmt := top 31
theorem sc_law_rows : FnScope n_law_rows ["_law_rows_here"] (defScope s_law_rows) := ⟨rfl, rfl, rfl, by decide +kernel, rfl, by decide +kernel, by decide +kernel⟩
abbrev s_law_late_run : Stmt := top 32
theorem sc_law_late_run : FnScope n_law_late_run ["_law_rows_here", "_law_row"] (defScope s_law_late_run) := ⟨rfl, rfl, rfl, by decide +kernel, rfl, by decide +kernel, by decide +kernel⟩
abbrev s_law_wide : Stmt := top 33
theorem sc_law_wide : FnScope n_law_wide ["_law_rows_here", "_law_number_here"] (defScope s_law_wide) := ⟨rfl, rfl, rfl, by decide +kernel, rfl, by decide +kernel, by decide +kernel⟩
abbrev s_law_moved : Stmt := top 34
theorem sc_law_moved : FnScope n_law_moved ["_law_rows_here", "_law_name", "_law_number_here"] (defScope s_law_moved) := ⟨rfl, rfl, rfl, by decide +kernel, rfl, by decide +kernel, by decide +kernel⟩
abbrev s_law_told : Stmt := top 35
theorem sc_law_told : FnScope n_law_told ["_law_base", "_law_rows_here", "_law_name", "_law_number_here"] (defScope s_law_told) := ⟨rfl, rfl, rfl, by decide +kernel, rfl, by decide +kernel, by decide +kernel⟩
abbrev s_law_same : Stmt := top 36
theorem sc_law_same : FnScope n_law_same ["_law_base", "_law_due_here"] (defScope s_law_same) := ⟨rfl, rfl, rfl, by decide +kernel, rfl, by decide +kernel, by decide +kernel⟩
abbrev s_law : Stmt := top 37
theorem sc_law : FnScope n_law ["_law_script"] (defScope s_law) := ⟨rfl, rfl, rfl, by decide +kernel, rfl, by decide +kernel, by decide +kernel⟩
abbrev n_BadName_init : List Str := ["self", "name"]
abbrev s_BadName_init : Stmt := inClass (top 2) 0
theorem sc_BadName_init : FnScope n_BadName_init ["self", "name"] (defScope s_BadName_init) := ⟨rfl, rfl, rfl, by decide +kernel, rfl, by decide +kernel, by decide +kernel⟩
abbrev n_NameTaken_init : List Str := ["self", "name"]
abbrev s_NameTaken_init : Stmt := inClass (top 3) 0
theorem sc_NameTaken_init : FnScope n_NameTaken_init ["self", "name"] (defScope s_NameTaken_init) := ⟨rfl, rfl, rfl, by decide +kernel, rfl, by decide +kernel, by decide +kernel⟩
abbrev n_UnknownName_init : List Str := ["self", "name"]
abbrev s_UnknownName_init : Stmt := inClass (top 4) 0
theorem sc_UnknownName_init : FnScope n_UnknownName_init ["self", "name"] (defScope s_UnknownName_init) := ⟨rfl, rfl, rfl, by decide +kernel, rfl, by decide +kernel, by decide +kernel⟩
abbrev n_BadEnds_init : List Str := ["self", "low", "high"]
abbrev s_BadEnds_init : Stmt := inClass (top 5) 0
theorem sc_BadEnds_init : FnScope n_BadEnds_init ["self", "low", "high"] (defScope s_BadEnds_init) := ⟨rfl, rfl, rfl, by decide +kernel, rfl, by decide +kernel, by decide +kernel⟩
abbrev n_BadWidening_init : List Str := ["self", "by"]
abbrev s_BadWidening_init : Stmt := inClass (top 6) 0
theorem sc_BadWidening_init : FnScope n_BadWidening_init ["self", "by"] (defScope s_BadWidening_init) := ⟨rfl, rfl, rfl, by decide +kernel, rfl, by decide +kernel, by decide +kernel⟩
abbrev n_BadPosition_init : List Str := ["self", "to"]
abbrev s_BadPosition_init : Stmt := inClass (top 7) 0
theorem sc_BadPosition_init : FnScope n_BadPosition_init ["self", "to"] (defScope s_BadPosition_init) := ⟨rfl, rfl, rfl, by decide +kernel, rfl, by decide +kernel, by decide +kernel⟩
section
variable {P : Program} {w : World} {K : PySem.W.Frag} {mg : Str → Option Value} {base : Heap} {f : Addr} {C : AD} {fd : FuncData}
theorem ok_law_mixed (B : Txt w K mg C) (F : FnP K "_law_mixed" s_law_mixed f fd) (hm : mg "_law_mixed" = some (.ref f)) : OkF P w K mg base "_law_mixed" 1 ["_law_cell", "_law_place"] (sp_law_mixed K) := by
  refine ⟨f, fd, hm, F.kp, F.bindsN (fun _ _ _ _ _ _ us hl => match us, hl with | [_, _], _ => rfl), ?_⟩
  refine F.ok sc_law_mixed (fun vs H Q E h => len_law_mixed h) (fun cdv A outer s H vs Q E hr h => ⟨t_law_mixed K, PSs.nox ?_, run_law_mixed h⟩)
  exact (pss_cons (ps_set (i := 2) sc_law_mixed.nd rfl (Or.inl rfl) (pe_op op_mod (pe_callTy call_int1 rfl B.int_ (by decide +kernel) (pa_cons (pe_op op_add (pe_op op_add (pe_op op_mul (pe_callB call_abs rfl B.abs_ (by decide +kernel) (pa_cons (pv 0) pa_nil)) pe_int) (pe_op op_mul (pv 1) pe_int)) pe_int) pa_nil)) pe_int))
      (pss_cons (ps_set (i := 3) sc_law_mixed.nd rfl (Or.inl rfl) (pe_op op_mod (pe_callTy call_int1 rfl B.int_ (by decide +kernel) (pa_cons (pe_op op_add (pe_op op_add (pe_op op_add (pe_op op_mul (pv 2) (pv 2)) (pe_op op_mul (pe_callB call_abs rfl B.abs_ (by decide +kernel) (pa_cons (pv 0) pa_nil)) pe_int)) (pe_op op_mul (pv 1) pe_int)) pe_int) pa_nil)) pe_int))
      (pss_cons (ps_set (i := 4) sc_law_mixed.nd rfl (Or.inl rfl) (pe_op op_mod (pe_callTy call_int1 rfl B.int_ (by decide +kernel) (pa_cons (pe_op op_add (pe_op op_add (pe_op op_mul (pv 3) pe_int) (pe_op op_mul (pv 2) pe_int)) pe_int) pa_nil)) pe_int))
      (pss_one (ps_ret (pe_op op_add (pv 4) pe_int))))))
theorem ok_law_source (B : Txt w K mg C) (F : FnP K "_law_source" s_law_source f fd) (hm : mg "_law_source" = some (.ref f)) : OkF P w K mg base "_law_source" 1 ["_law_script"] (sp_law_source K) := by
  refine ⟨f, fd, hm, F.kp, F.bindsN (fun _ _ _ _ _ _ us hl => match us, hl with | [_], _ => rfl), ?_⟩
  refine F.ok sc_law_source (fun vs H Q E h => len_law_source h) (fun cdv A outer s H vs Q E hr h => ⟨t_law_source K, PSs.nox ?_, run_law_source h⟩)
  exact (pss_one (ps_ret (pe_lst (pa_cons pe_int (pa_cons pe_int (pa_cons (pe_callTy call_list_of rfl B.list_ (by decide +kernel) (pa_cons (pv 0) pa_nil)) pa_nil))))))
theorem ok_law_take (B : Txt w K mg C) (F : FnP K "_law_take" s_law_take f fd) (hm : mg "_law_take" = some (.ref f)) (G_law_mixed : OkF P w K mg base "_law_mixed" 1 ["_law_cell", "_law_place"] (sp_law_mixed K)) : OkF P w K mg base "_law_take" 2 ["_law_source_here", "_law_many"] (sp_law_take K) := by
  refine ⟨f, fd, hm, F.kp, F.bindsN (fun _ _ _ _ _ _ us hl => match us, hl with | [_, _], _ => rfl), ?_⟩
  refine F.ok sc_law_take (fun vs H Q E h => len_law_take h) (fun cdv A outer s H vs Q E hr h => ⟨t_law_take K, PSs.nox ?_, run_law_take h⟩)
  exact (pss_cons (ps_if (pt_cmpR op_lt (pe_ix ix_list (pv 0) pe_int (fun _ _ => rfl)) (pe_op op_mul pe_int (pv 1)) (nomark _)) (pss_cons (ps_set (i := 3) sc_law_take.nd rfl (Or.inl rfl) (pe_ix ix_list (pv 0) pe_int (fun _ _ => rfl)))
      (pss_cons (ps_set (i := 4) sc_law_take.nd rfl (Or.inl rfl) (pe_ix ix_list (pv 0) pe_int (fun _ _ => rfl)))
      (pss_cons (ps_asg (pe_op op_add (pv 4) pe_int) (pg_sub (pv 0) pe_int set_list))
      (pss_one (ps_if (PW.pt (pw_and (pt_cmpR op_lt (pv 4) (pe_callB call_len_seq rfl B.len (by decide +kernel) (pa_cons (pv 3) pa_nil)) (nomark _)) (pw_and1 (pt_cmpR op_ge (pe_callB call_abs rfl B.abs_ (by decide +kernel) (pa_cons (pe_ix ix_list (pv 3) (pv 4) (fun _ _ => rfl)) pa_nil)) (pe_op op_pow pe_int pe_int) (nomark _))))) (pss_one (ps_asg (pe_callB call_abs rfl B.abs_ (by decide +kernel) (pa_cons (pe_ix ix_list (pv 3) (pv 4) (fun _ _ => rfl)) pa_nil)) (pg_sub (pv 0) pe_int set_list))) (pss_one (ps_if (pt_cmpR op_gt (pe_callB call_len_seq rfl B.len (by decide +kernel) (pa_cons (pv 3) pa_nil)) pe_int (nomark _)) (pss_one (ps_asg (pe_fn G_law_mixed (hr.mono (by decide)) rfl (pa_cons (pe_ix ix_list (pv 3) (pe_op op_mod (pe_callTy call_int1 rfl B.int_ (by decide +kernel) (pa_cons (pv 4) pa_nil)) (pe_callB call_len_seq rfl B.len (by decide +kernel) (pa_cons (pv 3) pa_nil))) (fun _ _ => rfl)) (pa_cons (pv 4) pa_nil))) (pg_sub (pv 0) pe_int set_list))) (pss_one (ps_asg (pe_fn G_law_mixed (hr.mono (by decide)) rfl (pa_cons pe_int (pa_cons (pv 4) pa_nil))) (pg_sub (pv 0) pe_int set_list)))))))))) pss_nil)
      (pss_cons (ps_set (i := 2) sc_law_take.nd rfl (Or.inl rfl) (pe_op op_mod (pe_callTy call_int1 rfl B.int_ (by decide +kernel) (pa_cons (pe_ix ix_list (pv 0) pe_int (fun _ _ => rfl)) pa_nil)) (pv 1)))
      (pss_cons (ps_asg (pe_op op_fdivW (pe_callTy call_int1 rfl B.int_ (by decide +kernel) (pa_cons (pe_ix ix_list (pv 0) pe_int (fun _ _ => rfl)) pa_nil)) (pv 1)) (pg_sub (pv 0) pe_int set_list))
      (pss_one (ps_ret (pv 2))))))
theorem okF_weak {x : Str} {k : Nat} {ps : List Str} {sp sp2 : Sp} (G : OkF P w K mg base x k ps sp) (h : ∀ vs H Q E, sp2 vs H Q E → sp vs H Q E) : OkF P w K mg base x k ps sp2 := by
  obtain ⟨f, fd, h1, h2, h3, h4⟩ := G
  exact ⟨f, fd, h1, h2, h3, h4.imp h⟩
theorem ok_BadName_init (B : Txt w K mg C) (Z : ClsK K C.Route) (Y : Fl K C) (T : OexC K C.BadName) (h1 : PySem.W.findIn K (.ref C.BadName) "__init__" = some (some (.ref f))) (h2 : PySem.W.typeIn K (.ref f) = some (.type "function")) (F : FunD K "__init__" "BadName.__init__" (defArgs s_BadName_init) (defBody s_BadName_init) (defScope s_BadName_init) [] [] f fd) : OkE P w K mg base C.BadName 1 ["self", "name"] (sp_exc1 C.BadName "name") := by
  refine ⟨f, fd, T, h1, h2, F.bindsN (fun _ _ _ _ _ _ us hl => match us, hl with | [_, _], _ => rfl), ?_⟩
  refine F.ok sc_BadName_init (fun vs H Q E h => len_exc1 h) (fun cdv A outer s H vs Q E hr h => ⟨tOst K "name" (tVar 0) (tVar 1), PSs.nox ?_, run_exc1 T Y.no_BadName_name rfl h⟩)
  exact pss_one (ps_ost (pv 0) (pv 1))
theorem ok_NameTaken_init (B : Txt w K mg C) (Z : ClsK K C.Route) (Y : Fl K C) (T : OexC K C.NameTaken) (h1 : PySem.W.findIn K (.ref C.NameTaken) "__init__" = some (some (.ref f))) (h2 : PySem.W.typeIn K (.ref f) = some (.type "function")) (F : FunD K "__init__" "NameTaken.__init__" (defArgs s_NameTaken_init) (defBody s_NameTaken_init) (defScope s_NameTaken_init) [] [] f fd) : OkE P w K mg base C.NameTaken 1 ["self", "name"] (sp_exc1 C.NameTaken "name") := by
  refine ⟨f, fd, T, h1, h2, F.bindsN (fun _ _ _ _ _ _ us hl => match us, hl with | [_, _], _ => rfl), ?_⟩
  refine F.ok sc_NameTaken_init (fun vs H Q E h => len_exc1 h) (fun cdv A outer s H vs Q E hr h => ⟨tOst K "name" (tVar 0) (tVar 1), PSs.nox ?_, run_exc1 T Y.no_NameTaken_name rfl h⟩)
  exact pss_one (ps_ost (pv 0) (pv 1))
theorem ok_UnknownName_init (B : Txt w K mg C) (Z : ClsK K C.Route) (Y : Fl K C) (T : OexC K C.UnknownName) (h1 : PySem.W.findIn K (.ref C.UnknownName) "__init__" = some (some (.ref f))) (h2 : PySem.W.typeIn K (.ref f) = some (.type "function")) (F : FunD K "__init__" "UnknownName.__init__" (defArgs s_UnknownName_init) (defBody s_UnknownName_init) (defScope s_UnknownName_init) [] [] f fd) : OkE P w K mg base C.UnknownName 1 ["self", "name"] (sp_exc1 C.UnknownName "name") := by
  refine ⟨f, fd, T, h1, h2, F.bindsN (fun _ _ _ _ _ _ us hl => match us, hl with | [_, _], _ => rfl), ?_⟩
  refine F.ok sc_UnknownName_init (fun vs H Q E h => len_exc1 h) (fun cdv A outer s H vs Q E hr h => ⟨tOst K "name" (tVar 0) (tVar 1), PSs.nox ?_, run_exc1 T Y.no_UnknownName_name rfl h⟩)
  exact pss_one (ps_ost (pv 0) (pv 1))
theorem ok_BadEnds_init (B : Txt w K mg C) (Z : ClsK K C.Route) (Y : Fl K C) (T : OexC K C.BadEnds) (h1 : PySem.W.findIn K (.ref C.BadEnds) "__init__" = some (some (.ref f))) (h2 : PySem.W.typeIn K (.ref f) = some (.type "function")) (F : FunD K "__init__" "BadEnds.__init__" (defArgs s_BadEnds_init) (defBody s_BadEnds_init) (defScope s_BadEnds_init) [] [] f fd) : OkE P w K mg base C.BadEnds 1 ["self", "low", "high"] (sp_exc2 C.BadEnds "low" "high") := by
  refine ⟨f, fd, T, h1, h2, F.bindsN (fun _ _ _ _ _ _ us hl => match us, hl with | [_, _, _], _ => rfl), ?_⟩
  refine F.ok sc_BadEnds_init (fun vs H Q E h => len_exc2 h) (fun cdv A outer s H vs Q E hr h => ⟨tSeq (tOst K "low" (tVar 0) (tVar 1)) (tOst K "high" (tVar 0) (tVar 2)), PSs.nox ?_, run_exc2 T Y.no_BadEnds_low Y.no_BadEnds_high rfl h⟩)
  exact pss_cons (ps_ost (pv 0) (pv 1)) (pss_one (ps_ost (pv 0) (pv 2)))
theorem ok_BadWidening_init (B : Txt w K mg C) (Z : ClsK K C.Route) (Y : Fl K C) (T : OexC K C.BadWidening) (h1 : PySem.W.findIn K (.ref C.BadWidening) "__init__" = some (some (.ref f))) (h2 : PySem.W.typeIn K (.ref f) = some (.type "function")) (F : FunD K "__init__" "BadWidening.__init__" (defArgs s_BadWidening_init) (defBody s_BadWidening_init) (defScope s_BadWidening_init) [] [] f fd) : OkE P w K mg base C.BadWidening 1 ["self", "by"] (sp_exc1 C.BadWidening "by") := by
  refine ⟨f, fd, T, h1, h2, F.bindsN (fun _ _ _ _ _ _ us hl => match us, hl with | [_, _], _ => rfl), ?_⟩
  refine F.ok sc_BadWidening_init (fun vs H Q E h => len_exc1 h) (fun cdv A outer s H vs Q E hr h => ⟨tOst K "by" (tVar 0) (tVar 1), PSs.nox ?_, run_exc1 T Y.no_BadWidening_by rfl h⟩)
  exact pss_one (ps_ost (pv 0) (pv 1))
theorem ok_BadPosition_init (B : Txt w K mg C) (Z : ClsK K C.Route) (Y : Fl K C) (T : OexC K C.BadPosition) (h1 : PySem.W.findIn K (.ref C.BadPosition) "__init__" = some (some (.ref f))) (h2 : PySem.W.typeIn K (.ref f) = some (.type "function")) (F : FunD K "__init__" "BadPosition.__init__" (defArgs s_BadPosition_init) (defBody s_BadPosition_init) (defScope s_BadPosition_init) [] [] f fd) : OkE P w K mg base C.BadPosition 1 ["self", "to"] (sp_exc1 C.BadPosition "to") := by
  refine ⟨f, fd, T, h1, h2, F.bindsN (fun _ _ _ _ _ _ us hl => match us, hl with | [_, _], _ => rfl), ?_⟩
  refine F.ok sc_BadPosition_init (fun vs H Q E h => len_exc1 h) (fun cdv A outer s H vs Q E hr h => ⟨tOst K "to" (tVar 0) (tVar 1), PSs.nox ?_, run_exc1 T Y.no_BadPosition_to rfl h⟩)
  exact pss_one (ps_ost (pv 0) (pv 1))
theorem ok_is_nameR (B : Txt w K mg C) (Z : ClsK K C.Route) (Y : Fl K C) (F : FnP K "is_name" s_is_nameR f fd) (hm : mg "is_name" = some (.ref f)) : OkF P w K mg base "is_name" 1 ["text"] (up K (q_is_nameR)) := by
  refine ⟨f, fd, hm, F.kp, F.bindsN (fun _ _ _ _ _ _ us hl => match us, hl with | [_], _ => rfl), ?_⟩
  refine F.ok sc_is_nameR (fun vs H Q E h => len_up (fun _ _ h => ql_is_nameR h) h) (fun cdv A outer s H vs Q E hr h => ⟨t_is_nameR K C, PSs.nox ?_, run_up (fun s c H0 => l_is_nameR Z Y) (pr_is_nameR C) h⟩)
  exact (pss_cons (ps_if (PW.pt (pw_or (pt_not (pt_chain op_le op_le pe_int (pe_callB call_len_str rfl B.len (by decide +kernel) (pa_cons (pv 0) pa_nil)) (pe_gint B.c_LONGEST_NAME))) (pw_or1 (pt_cmpR op_notIn_sign (pe_ix ix_str (pv 0) pe_int (fun _ _ => rfl)) (pe_gstr B.c_LETTERS) rfl)))) (pss_one (ps_ret pe_bl)) pss_nil)
      (pss_one (ps_ret (pe_callB (cr_all rfl) rfl B.all_ (by decide +kernel) (pa_cons (pe_lc (own := [("char", 1)]) (g := (gName 1)) (tt := tYes) rfl sc_is_nameR.nd (pi_str (pv 0)) (blkOk_by (N := n_is_nameR) (sc := defScope s_is_nameR) (by decide +kernel)) (fun _ _ _ _ _ => (pg_name (i := 1) sc_is_nameR.nd rfl (Or.inl rfl))) (fun _ _ _ _ _ => pts_nil) (fun _ _ _ _ _ => (pe_or (pe_cmpR op_in_sign (pv 1) (pe_gstr B.c_LETTERS) rfl) (pe_one (pe_cmpR op_in_sign (pv 1) (pe_gstr B.c_DIGITS) rfl))))) pa_nil)))))
theorem ok_is_step_nameR (B : Txt w K mg C) (Z : ClsK K C.Route) (Y : Fl K C) (F : FnP K "is_step_name" s_is_step_nameR f fd) (hm : mg "is_step_name" = some (.ref f)) (G_is_nameR : OkF P w K mg base "is_name" 1 ["text"] (up K (q_is_nameR))) : OkF P w K mg base "is_step_name" 2 ["text"] (up K (q_is_step_nameR)) := by
  refine ⟨f, fd, hm, F.kp, F.bindsN (fun _ _ _ _ _ _ us hl => match us, hl with | [_], _ => rfl), ?_⟩
  refine F.ok sc_is_step_nameR (fun vs H Q E h => len_up (fun _ _ h => ql_is_step_nameR h) h) (fun cdv A outer s H vs Q E hr h => ⟨t_is_step_nameR K C, PSs.nox ?_, run_up (fun s c H0 => l_is_step_nameR Z Y) (pr_is_step_nameR C) h⟩)
  exact (pss_one (ps_ret (pe_and (pe_fn G_is_nameR (hr.mono (by omega)) rfl (pa_cons (pv 0) pa_nil)) (pe_one (pe_cmpR op_ne (pv 0) (pe_gstr B.c_FRAME) (nomark _))))))
theorem ok_index_rows (B : Txt w K mg C) (Z : ClsK K C.Route) (Y : Fl K C) (F : FnP K "index_rows" s_index_rows f fd) (hm : mg "index_rows" = some (.ref f)) : OkF P w K mg base "index_rows" 1 ["sizes"] (upL K (q_index_rows)) := by
  refine ⟨f, fd, hm, F.kp, F.bindsN (fun _ _ _ _ _ _ us hl => match us, hl with | [_], _ => rfl), ?_⟩
  refine F.ok sc_index_rows (fun vs H Q E h => len_upL (fun _ _ h => ql_index_rows h) h) (fun cdv A outer s H vs Q E hr h => ⟨t_index_rows K C, PSs.nox ?_, run_upL (fun s c H0 => l_index_rows Z Y) (pr_index_rows C) h⟩)
  exact (pss_cons (ps_set (i := 1) sc_index_rows.nd rfl (Or.inl rfl) (pe_lst (pa_cons (pe_tup pa_nil) pa_nil)))
      (pss_cons (ps_for PassesOwn.never rfl (pi_list (pv 0)) (pg_name (i := 2) sc_index_rows.nd rfl (Or.inr rfl)) (pss_one (ps_frz 1 (ps_setLc2 (i := 1) (own := [("row", 3), ("index", 4)]) (vs1 := [4]) (g := (gName 3)) (tt := tYes) (g1 := (gName 4)) (tt1 := tYes) rfl sc_index_rows.nd rfl rfl (sw_true rfl rfl rfl (by decide +kernel)) (pi_list (pv 1)) (blkOk_by (N := n_index_rows) (sc := defScope s_index_rows) (by decide +kernel)) (by decide) (fun _ _ _ _ _ => (pg_name (i := 3) sc_index_rows.nd rfl (Or.inl rfl))) (fun _ _ _ _ _ => pts_nil) (fun _ _ _ _ _ => (pi_range1 rfl B.range (pa_cons (pv 2) pa_nil))) (fun _ _ _ _ _ => (pg_name (i := 4) sc_index_rows.nd rfl (Or.inl rfl))) (fun _ _ _ _ _ => pts_nil) (fun _ _ _ _ _ => (pe_op op_catA (pv 3) (pe_tup (pa_cons (pv 4) pa_nil))))))))
      (pss_one (ps_ret (pv 1)))))
theorem ok_Route_init (B : Txt w K mg C) (Z : ClsK K C.Route) (Y : Fl K C) (M : Mk K C.Route f) (F : FunD K "__init__" "Route.__init__" (defArgs s_Route_init) (defBody s_Route_init) (defScope s_Route_init) [] [] f fd) (G_is_step_nameR : OkF P w K mg base "is_step_name" 2 ["text"] (up K (q_is_step_nameR))) (G_BadName_init : OkE P w K mg base C.BadName 1 ["self", "name"] (sp_exc1 C.BadName "name")) (G_NameTaken_init : OkE P w K mg base C.NameTaken 1 ["self", "name"] (sp_exc1 C.NameTaken "name")) (G_BadEnds_init : OkE P w K mg base C.BadEnds 1 ["self", "low", "high"] (sp_exc2 C.BadEnds "low" "high")) : OkIX P w K mg base C.Route 3 ["self", "steps"] (upIC K C.Route (q_Route_init C)) := by
  refine ⟨f, fd, M, F.bindsN (fun _ _ _ _ _ _ us hl => match us, hl with | [_, _], _ => rfl), ?_⟩
  refine F.ok (CX := L2.CX P w) sc_Route_init (fun vs H Q E h => len_upIC (fun _ _ _ h => ql_Route_init h) h) (fun cdv A outer s H vs Q E hr h => ⟨t_Route_init K C (fun cls d _ H => E cls d H), ?_, run_upIC (fun s c H0 => l_Route_init Z Y) (pr_Route_init C) h⟩)
  have tk := takes_of (X := cxOf (L2.CX P w) P w K mg base n_Route_init "Route.__init__" (defScope s_Route_init) f cdv A outer s H E) (E := E) rfl rfl rfl rfl
  exact (pss_cons (ps_fld (pv 0) (pe_frz (pe_callTy call_list_of rfl B.list_ (by decide +kernel) (pa_cons (pv 1) pa_nil))) rfl)
      (pss_cons (ps_set (i := 2) sc_Route_init.nd rfl (Or.inl rfl) pe_dnewK)
      (pss_one (ps_for (passes_of rfl) rfl (pi_list (pe_fldR (pv 0))) (pg_name (i := 3) sc_Route_init.nd rfl (Or.inl rfl)) (pss_cons (ps_if (pt_not (pt_val (pe_fn G_is_step_nameR (hr.mono (by omega)) rfl (pa_cons (pe_ix ix_tup (pv 3) pe_int (fun _ _ => rfl)) pa_nil)))) (pss_one (ps_raise rfl tk (pmk_E G_BadName_init (hr.mono (by omega)) rfl B.g_BadName (pa_cons (pe_ix ix_tup (pv 3) pe_int (fun _ _ => rfl)) pa_nil)))) pss_nil)
      (pss_cons (ps_if (pt_cmp (pc_din (u1 hr) (pe_ix ix_tup (pv 3) pe_int (fun _ _ => rfl)) (pv 2))) (pss_one (ps_raise rfl tk (pmk_E G_NameTaken_init (hr.mono (by omega)) rfl B.g_NameTaken (pa_cons (pe_ix ix_tup (pv 3) pe_int (fun _ _ => rfl)) pa_nil)))) pss_nil)
      (pss_cons (ps_if (PW.pt (pw_and (pt_cmpR op_eq (pe_ix ix_tup (pv 3) pe_int (fun _ _ => rfl)) pe_str (nomark _)) (pw_and1 (pt_cmpR op_gt (pe_ix ix_tup (pv 3) pe_int (fun _ _ => rfl)) (pe_ix ix_tup (pv 3) pe_int (fun _ _ => rfl)) (nomark _))))) (pss_one (ps_raise rfl tk (pmk_E G_BadEnds_init (hr.mono (by omega)) rfl B.g_BadEnds (pa_cons (pe_ix ix_tup (pv 3) pe_int (fun _ _ => rfl)) (pa_cons (pe_ix ix_tup (pv 3) pe_int (fun _ _ => rfl)) pa_nil))))) pss_nil)
      (pss_one (ps_dput (u1 hr) (pv 2) (pe_ix ix_tup (pv 3) pe_int (fun _ _ => rfl)) pe_bl rfl)))))))))
theorem ok_Route_steps (B : Txt w K mg C) (Z : ClsK K C.Route) (Y : Fl K C) {p : Addr} (M : PropOf K C.Route "steps" p f) (F : FunD K "steps" "Route.steps" (defArgs s_Route_steps) (defBody s_Route_steps) (defScope s_Route_steps) [] [] f fd) : OkP P w K mg base C.Route "steps" 1 ["self"] (upL K (q_Route_steps C)) := by
  refine ⟨p, f, fd, M, F.bindsN (fun _ _ _ _ _ _ us hl => match us, hl with | [_], _ => rfl), ?_⟩
  refine F.ok sc_Route_steps (fun vs H Q E h => len_upL (fun _ _ h => ql_Route_steps h) h) (fun cdv A outer s H vs Q E hr h => ⟨t_Route_steps K C, PSs.nox ?_, run_upL (fun s c H0 => l_Route_steps Z Y) (pr_Route_steps C) h⟩)
  exact (pss_one (ps_ret (pe_callTy call_list_of rfl B.list_ (by decide +kernel) (pa_cons (pe_fldR (pv 0)) pa_nil))))
theorem ok_Route_widened (B : Txt w K mg C) (Z : ClsK K C.Route) (Y : Fl K C) (M : Meth K C.Route "widened" f) (hf : PySem.W.fnIn K f = true) (F : FunD K "widened" "Route.widened" (defArgs s_Route_widened) (defBody s_Route_widened) (defScope s_Route_widened) [] [] f fd) (G_BadWidening_init : OkE P w K mg base C.BadWidening 1 ["self", "by"] (sp_exc1 C.BadWidening "by")) (G_Route_init : OkIX P w K mg base C.Route 3 ["self", "steps"] (upIC K C.Route (q_Route_init C))) : OkMK P w K mg base C.Route "widened" 5 ["self", "by"] ["by"] (upX K (q_Route_widened C)) := by
  refine ⟨f, fd, M, kw_binds F (fun _ _ _ _ _ _ us ws h1 h2 => ?_), ?_⟩
  · obtain ⟨w, rfl⟩ : ∃ w, ws = [w] := match ws, h1 with | [w], _ => ⟨w, rfl⟩
    have h3 : us.length = 1 := by rw [List.length_append] at h2; exact Nat.add_right_cancel h2
    obtain ⟨v0, rfl⟩ : ∃ v0, us = [v0] := match us, h3 with | [v0], _ => ⟨v0, rfl⟩
    rfl
  refine F.ok (CX := L2.CX P w) sc_Route_widened (fun vs H Q E h => len_upX (fun _ _ _ h => ql_Route_widened h) h) (fun cdv A outer s H vs Q E hr h => ⟨t_Route_widened K C (fun cls d _ H => E cls d H), ?_, run_upX (fun s c H0 => l_Route_widened Z Y) (pr_Route_widened C) h⟩)
  have tk := takes_of (X := cxOf (L2.CX P w) P w K mg base n_Route_widened "Route.widened" (defScope s_Route_widened) f cdv A outer s H E) (E := E) rfl rfl rfl rfl
  exact (pss_cons (ps_if (pt_cmpR op_lt (pv 1) pe_int (nomark _)) (pss_one (ps_raise rfl tk (pmk_E G_BadWidening_init (hr.mono (by omega)) rfl B.g_BadWidening (pa_cons (pv 1) pa_nil)))) pss_nil)
      (pss_cons (ps_set (i := 2) sc_Route_widened.nd rfl (Or.inl rfl) (pe_lst pa_nil))
      (pss_cons (ps_for (passes_of rfl) rfl (pi_list (pe_fldR (pv 0))) (pg_name (i := 3) sc_Route_widened.nd rfl (Or.inl rfl)) (pss_one (ps_if (pt_cmpR op_eq (pe_ix ix_tup (pv 3) pe_int (fun _ _ => rfl)) pe_str (nomark _)) (pss_one (ps_expr (pe_bm PySem.F.plainAttrs_list PySem.F.slot_list_append PySem.F.type_list_append mt_append (pv 2) (pa_cons (pe_tup (pa_cons pe_str (pa_cons (pe_ix ix_tup (pv 3) pe_int (fun _ _ => rfl)) (pa_cons (pe_op op_sub (pe_ix ix_tup (pv 3) pe_int (fun _ _ => rfl)) (pv 1)) (pa_cons (pe_op op_add (pe_ix ix_tup (pv 3) pe_int (fun _ _ => rfl)) (pv 1)) pa_nil))))) pa_nil)))) (pss_one (ps_expr (pe_bm PySem.F.plainAttrs_list PySem.F.slot_list_append PySem.F.type_list_append mt_append (pv 2) (pa_cons (pv 3) pa_nil)))))))
      (pss_one (ps_ret (pe_frz (pe_mkX G_Route_init (hr.mono (by omega)) rfl B.g_Route (fun σ => passAt tk σ) (pa_cons (pv 2) pa_nil))))))))
theorem ok_Route_moved (B : Txt w K mg C) (Z : ClsK K C.Route) (Y : Fl K C) (M : Meth K C.Route "moved" f) (hf : PySem.W.fnIn K f = true) (F : FunD K "moved" "Route.moved" (defArgs s_Route_moved) (defBody s_Route_moved) (defScope s_Route_moved) [] [] f fd) (G_UnknownName_init : OkE P w K mg base C.UnknownName 1 ["self", "name"] (sp_exc1 C.UnknownName "name")) (G_BadPosition_init : OkE P w K mg base C.BadPosition 1 ["self", "to"] (sp_exc1 C.BadPosition "to")) (G_Route_init : OkIX P w K mg base C.Route 3 ["self", "steps"] (upIC K C.Route (q_Route_init C))) : OkMK P w K mg base C.Route "moved" 5 ["self", "name", "to"] ["to"] (upX K (q_Route_moved C)) := by
  refine ⟨f, fd, M, kw_binds F (fun _ _ _ _ _ _ us ws h1 h2 => ?_), ?_⟩
  · obtain ⟨w, rfl⟩ : ∃ w, ws = [w] := match ws, h1 with | [w], _ => ⟨w, rfl⟩
    have h3 : us.length = 2 := by rw [List.length_append] at h2; exact Nat.add_right_cancel h2
    obtain ⟨v0, v1, rfl⟩ : ∃ v0 v1, us = [v0, v1] := match us, h3 with | [v0, v1], _ => ⟨v0, v1, rfl⟩
    rfl
  refine F.ok (CX := L2.CX P w) sc_Route_moved (fun vs H Q E h => len_upX (fun _ _ _ h => ql_Route_moved h) h) (fun cdv A outer s H vs Q E hr h => ⟨t_Route_moved K C (fun cls d _ H => E cls d H), ?_, run_upX (fun s c H0 => l_Route_moved Z Y) (pr_Route_moved C) h⟩)
  have tk := takes_of (X := cxOf (L2.CX P w) P w K mg base n_Route_moved "Route.moved" (defScope s_Route_moved) f cdv A outer s H E) (E := E) rfl rfl rfl rfl
  exact (pss_cons (ps_setLc (i := 3) (own := [("step", 5)]) (g := (gName 5)) (tt := (tAnd (tTest (tOp rEq (tOp (rIxT K) (tVar 5) (tC (.int 1))) (tVar 1))) (tTest (tOp rNe (tOp (rIxT K) (tVar 5) (tC (.int 0))) (tC (.str "part")))))) rfl sc_Route_moved.nd rfl rfl (sw_true rfl rfl rfl (by decide +kernel)) (pi_list (pe_fldR (pv 0))) (blkOk_by (N := n_Route_moved) (sc := defScope s_Route_moved) (by decide +kernel)) (fun _ _ _ _ _ => (pg_name (i := 5) sc_Route_moved.nd rfl (Or.inl rfl))) (fun _ _ _ _ _ => (pts_one (PW.pt (pw_and (pt_cmpR op_eq (pe_ix ix_tup (pv 5) pe_int (fun _ _ => rfl)) (pv 1) (nomark _)) (pw_and1 (pt_cmpR op_ne (pe_ix ix_tup (pv 5) pe_int (fun _ _ => rfl)) pe_str (nomark _))))))) (fun _ _ _ _ _ => (pv 5)))
      (pss_cons (ps_if (pt_cmpR op_eq (pe_callB call_len_seq rfl B.len (by decide +kernel) (pa_cons (pv 3) pa_nil)) pe_int (nomark _)) (pss_one (ps_raise rfl tk (pmk_E G_UnknownName_init (hr.mono (by omega)) rfl B.g_UnknownName (pa_cons (pv 1) pa_nil)))) pss_nil)
      (pss_cons (ps_if (pt_not (pt_chain op_le op_lt pe_int (pv 2) (pe_callB call_len_seq rfl B.len (by decide +kernel) (pa_cons (pe_fldR (pv 0)) pa_nil)))) (pss_one (ps_raise rfl tk (pmk_E G_BadPosition_init (hr.mono (by omega)) rfl B.g_BadPosition (pa_cons (pv 2) pa_nil)))) pss_nil)
      (pss_cons (ps_setLc (i := 4) (own := [("step", 5)]) (g := (gName 5)) (tt := (tTest (tOp rNe (tOp (rIxT K) (tVar 5) (tC (.int 1))) (tVar 1)))) rfl sc_Route_moved.nd rfl rfl (sw_true rfl rfl rfl (by decide +kernel)) (pi_list (pe_fldR (pv 0))) (blkOk_by (N := n_Route_moved) (sc := defScope s_Route_moved) (by decide +kernel)) (fun _ _ _ _ _ => (pg_name (i := 5) sc_Route_moved.nd rfl (Or.inl rfl))) (fun _ _ _ _ _ => (pts_one (pt_cmpR op_ne (pe_ix ix_tup (pv 5) pe_int (fun _ _ => rfl)) (pv 1) (nomark _)))) (fun _ _ _ _ _ => (pv 5)))
      (pss_one (ps_ret (pe_frz (pe_mkX G_Route_init (hr.mono (by omega)) rfl B.g_Route (fun σ => passAt tk σ) (pa_cons (pe_op op_cat (pe_op op_cat (pe_slice sl_list (pv 4) po_none (po_some (pv 2))) (pv 3)) (pe_slice sl_list (pv 4) (po_some (pv 2)) po_none)) pa_nil)))))))))
theorem ok_Route_late_steps (B : Txt w K mg C) (Z : ClsK K C.Route) (Y : Fl K C) (M : Meth K C.Route "late_steps" f) (hf : PySem.W.fnIn K f = true) (F : FunD K "late_steps" "Route.late_steps" (defArgs s_Route_late_steps) (defBody s_Route_late_steps) (defScope s_Route_late_steps) [] [] f fd) : OkM P w K mg base C.Route "late_steps" 1 ["self"] (up K (q_Route_late_steps C)) := by
  refine ⟨f, fd, M, hf, F.bindsN (fun _ _ _ _ _ _ us hl => match us, hl with | [_], _ => rfl), ?_⟩
  refine F.ok sc_Route_late_steps (fun vs H Q E h => len_up (fun _ _ h => ql_Route_late_steps h) h) (fun cdv A outer s H vs Q E hr h => ⟨t_Route_late_steps K C, PSs.nox ?_, run_up (fun s c H0 => l_Route_late_steps Z Y) (pr_Route_late_steps C) h⟩)
  exact (pss_one (ps_ret (pe_frz (pe_lc (own := [("step", 1)]) (g := (gName 1)) (tt := (tTest (tOp rEq (tOp (rIxT K) (tVar 1) (tC (.int 0))) (tC (.str "late"))))) rfl sc_Route_late_steps.nd (pi_list (pe_fldR (pv 0))) (blkOk_by (N := n_Route_late_steps) (sc := defScope s_Route_late_steps) (by decide +kernel)) (fun _ _ _ _ _ => (pg_name (i := 1) sc_Route_late_steps.nd rfl (Or.inl rfl))) (fun _ _ _ _ _ => (pts_one (pt_cmpR op_eq (pe_ix ix_tup (pv 1) pe_int (fun _ _ => rfl)) pe_str (nomark _)))) (fun _ _ _ _ _ => (pv 1))))))
theorem ok_Route_late_rows (B : Txt w K mg C) (Z : ClsK K C.Route) (Y : Fl K C) (M : Meth K C.Route "late_rows" f) (hf : PySem.W.fnIn K f = true) (F : FunD K "late_rows" "Route.late_rows" (defArgs s_Route_late_rows) (defBody s_Route_late_rows) (defScope s_Route_late_rows) [] [] f fd) (G_index_rows : OkF P w K mg base "index_rows" 1 ["sizes"] (upL K (q_index_rows))) (G_Route_late_steps : OkM P w K mg base C.Route "late_steps" 1 ["self"] (up K (q_Route_late_steps C))) : OkM P w K mg base C.Route "late_rows" 2 ["self"] (upL K (q_Route_late_rows C)) := by
  refine ⟨f, fd, M, hf, F.bindsN (fun _ _ _ _ _ _ us hl => match us, hl with | [_], _ => rfl), ?_⟩
  refine F.ok sc_Route_late_rows (fun vs H Q E h => len_upL (fun _ _ h => ql_Route_late_rows h) h) (fun cdv A outer s H vs Q E hr h => ⟨t_Route_late_rows K C, PSs.nox ?_, run_upL (fun s c H0 => l_Route_late_rows Z Y) (pr_Route_late_rows C) h⟩)
  exact (pss_one (ps_ret (pe_fn G_index_rows (hr.mono (by omega)) rfl (pa_cons (pe_frz (pe_lc (own := [("step", 1)]) (g := (gName 1)) (tt := tYes) rfl sc_Route_late_rows.nd (pi_list (pe_methM0 (pv 0) G_Route_late_steps (hr.mono (by omega)) Z)) (blkOk_by (N := n_Route_late_rows) (sc := defScope s_Route_late_rows) (by decide +kernel)) (fun _ _ _ _ _ => (pg_name (i := 1) sc_Route_late_rows.nd rfl (Or.inl rfl))) (fun _ _ _ _ _ => pts_nil) (fun _ _ _ _ _ => (pe_callB call_len_seq rfl B.len (by decide +kernel) (pa_cons (pe_ix ix_tup (pv 1) pe_int (fun _ _ => rfl)) pa_nil))))) pa_nil))))
theorem ok_Route_late_run (B : Txt w K mg C) (Z : ClsK K C.Route) (Y : Fl K C) (M : Meth K C.Route "late_run" f) (hf : PySem.W.fnIn K f = true) (F : FunD K "late_run" "Route.late_run" (defArgs s_Route_late_run) (defBody s_Route_late_run) (defScope s_Route_late_run) [] [] f fd) (G_Route_late_steps : OkM P w K mg base C.Route "late_steps" 1 ["self"] (up K (q_Route_late_steps C))) : OkM P w K mg base C.Route "late_run" 2 ["self", "row"] (up K (q_Route_late_run C)) := by
  refine ⟨f, fd, M, hf, F.bindsN (fun _ _ _ _ _ _ us hl => match us, hl with | [_, _], _ => rfl), ?_⟩
  refine F.ok sc_Route_late_run (fun vs H Q E h => len_up (fun _ _ h => ql_Route_late_run h) h) (fun cdv A outer s H vs Q E hr h => ⟨t_Route_late_run K C, PSs.nox ?_, run_up (fun s c H0 => l_Route_late_run Z Y) (pr_Route_late_run C) h⟩)
  exact (pss_cons (ps_set (i := 2) sc_Route_late_run.nd rfl (Or.inl rfl) (pe_lst pa_nil))
      (pss_cons (ps_for PassesOwn.never rfl (pi_zipM rfl B.zip (pa_cons (pe_methM0 (pv 0) G_Route_late_steps (hr.mono (by omega)) Z) (pa_cons (pv 1) pa_nil))) (pg_tup rfl (pgs_cons (pg_name (i := 3) sc_Route_late_run.nd rfl (Or.inl rfl)) (pgs_cons (pg_name (i := 4) sc_Route_late_run.nd rfl (Or.inl rfl)) pgs_nil))) (pss_one (ps_expr (pe_bm PySem.F.plainAttrs_list PySem.F.slot_list_extend PySem.F.type_list_extend mt_extT (pv 2) (pa_cons (pe_ix ix_tup (pe_ix ix_tup (pv 3) pe_int (fun _ _ => rfl)) (pv 4) (fun _ _ => rfl)) pa_nil)))))
      (pss_one (ps_ret (pe_callTy call_tuple_of rfl B.tuple_ (by decide +kernel) (pa_cons (pv 2) pa_nil))))))
theorem ok_law_pick (B : Txt w K mg C) (Z : ClsK K C.Route) (Y : Fl K C) (F : FnP K "_law_pick" s_law_pick f fd) (hm : mg "_law_pick" = some (.ref f)) (G_law_take : OkF P w K mg base "_law_take" 2 ["_law_source_here", "_law_many"] (up K q_law_take)) : OkF P w K mg base "_law_pick" 3 ["_law_draws", "_law_rows_here"] (upC K (q_law_pick)) := by
  refine ⟨f, fd, hm, F.kp, F.bindsN (fun _ _ _ _ _ _ us hl => match us, hl with | [_, _], _ => rfl), ?_⟩
  refine F.ok sc_law_pick (fun vs H Q E h => len_upC (fun _ _ h => ql_law_pick h) h) (fun cdv A outer s H vs Q E hr h => ⟨t_law_pick K C, PSs.nox ?_, run_upC (fun s c H0 => l_law_pick Z Y) (pr_law_pick C) h⟩)
  exact (pss_one (ps_ret (pe_ix ix_list (pv 1) (pe_fn G_law_take (hr.mono (by omega)) rfl (pa_cons (pv 0) (pa_cons (pe_callB call_len_seq rfl B.len (by decide +kernel) (pa_cons (pv 1) pa_nil)) pa_nil))) (fun _ _ => rfl))))
theorem ok_law_fresh (B : Txt w K mg C) (Z : ClsK K C.Route) (Y : Fl K C) (F : FnP K "_law_fresh" s_law_fresh f fd) (hm : mg "_law_fresh" = some (.ref f)) (G_law_take : OkF P w K mg base "_law_take" 2 ["_law_source_here", "_law_many"] (up K q_law_take)) (G_law_pick : OkF P w K mg base "_law_pick" 3 ["_law_draws", "_law_rows_here"] (upC K (q_law_pick))) : OkF P w K mg base "_law_fresh" 4 ["_law_draws", "_law_names"] (upC K (q_law_fresh)) := by
  refine ⟨f, fd, hm, F.kp, F.bindsN (fun _ _ _ _ _ _ us hl => match us, hl with | [_, _], _ => rfl), ?_⟩
  refine F.ok sc_law_fresh (fun vs H Q E h => len_upC (fun _ _ h => ql_law_fresh h) h) (fun cdv A outer s H vs Q E hr h => ⟨t_law_fresh K C, PSs.nox ?_, run_upC (fun s c H0 => l_law_fresh Z Y) (pr_law_fresh C) h⟩)
  exact (pss_cons (ps_set (i := 2) sc_law_fresh.nd rfl (Or.inl rfl) pe_str)
      (pss_cons (ps_set (i := 3) sc_law_fresh.nd rfl (Or.inl rfl) (pe_ix ix_str (pv 2) (pe_fn G_law_take (hr.mono (by omega)) rfl (pa_cons (pv 0) (pa_cons pe_int pa_nil))) (fun _ _ => rfl)))
      (pss_cons (ps_if (PW.pt (pw_and (pt_cmpR op_gt (pe_callB call_len_seq rfl B.len (by decide +kernel) (pa_cons (pv 1) pa_nil)) pe_int (nomark _)) (pw_and1 (pt_cmpR op_eq (pe_fn G_law_take (hr.mono (by omega)) rfl (pa_cons (pv 0) (pa_cons pe_int pa_nil))) pe_int (nomark _))))) (pss_cons (ps_set (i := 5) sc_law_fresh.nd rfl (Or.inl rfl) (pe_fn G_law_pick (hr.mono (by omega)) rfl (pa_cons (pv 0) (pa_cons (pv 1) pa_nil))))
      (pss_cons (ps_set (i := 6) sc_law_fresh.nd rfl (Or.inl rfl) (pe_fn G_law_take (hr.mono (by omega)) rfl (pa_cons (pv 0) (pa_cons (pe_callB call_len_str rfl B.len (by decide +kernel) (pa_cons (pv 5) pa_nil)) pa_nil))))
      (pss_one (ps_set (i := 3) sc_law_fresh.nd rfl (Or.inl rfl) (pe_op op_add_str (pe_op op_add_str (pe_slice sl_str (pv 5) po_none (po_some (pv 6))) (pe_ix ix_str (pv 2) (pe_fn G_law_take (hr.mono (by omega)) rfl (pa_cons (pv 0) (pa_cons pe_int pa_nil))) (fun _ _ => rfl))) (pe_slice sl_str (pv 5) (po_some (pe_op op_add (pv 6) pe_int)) po_none)))))) (pss_one (ps_for PassesOwn.never rfl (pi_range1 rfl B.range (pa_cons (pe_fn G_law_pick (hr.mono (by omega)) rfl (pa_cons (pv 0) (pa_cons (pe_lst (pa_cons pe_int (pa_cons pe_int (pa_cons pe_int (pa_cons pe_int (pa_cons pe_int (pa_cons pe_int pa_nil))))))) pa_nil))) pa_nil)) (pg_name (i := 4) sc_law_fresh.nd rfl (Or.inl rfl)) (pss_one (ps_set (i := 3) sc_law_fresh.nd rfl (Or.inl rfl) (pe_op op_add_str (pv 3) (pe_ix ix_str (pv 2) (pe_fn G_law_take (hr.mono (by omega)) rfl (pa_cons (pv 0) (pa_cons pe_int pa_nil))) (fun _ _ => rfl))))))))
      (pss_cons (ps_for PassesOwn.never rfl (pi_range1 rfl B.range (pa_cons (pe_op op_add (pe_callB call_len_seq rfl B.len (by decide +kernel) (pa_cons (pv 1) pa_nil)) pe_int) pa_nil)) (pg_name (i := 4) sc_law_fresh.nd rfl (Or.inl rfl)) (pss_cons (ps_if (PW.pt (pw_and (pt_cmpR op_notIn_seq (pv 3) (pv 1) rfl) (pw_and1 (pt_cmpR op_ne (pv 3) pe_str (nomark _))))) (pss_one (ps_ret (pv 3))) pss_nil)
      (pss_one (ps_set (i := 3) sc_law_fresh.nd rfl (Or.inl rfl) (pe_op op_add_str pe_str (pe_callTy call_str_int rfl B.str_ (by decide +kernel) (pa_cons (pv 4) pa_nil)))))))
      (pss_one (ps_ret (pv 3)))))))
theorem ok_law_number (B : Txt w K mg C) (Z : ClsK K C.Route) (Y : Fl K C) (F : FnP K "_law_number" s_law_number f fd) (hm : mg "_law_number" = some (.ref f)) (G_law_take : OkF P w K mg base "_law_take" 2 ["_law_source_here", "_law_many"] (up K q_law_take)) : OkF P w K mg base "_law_number" 3 ["_law_draws"] (up K (q_law_number)) := by
  refine ⟨f, fd, hm, F.kp, F.bindsN (fun _ _ _ _ _ _ us hl => match us, hl with | [_], _ => rfl), ?_⟩
  refine F.ok sc_law_number (fun vs H Q E h => len_up (fun _ _ h => ql_law_number h) h) (fun cdv A outer s H vs Q E hr h => ⟨t_law_number K C, PSs.nox ?_, run_up (fun s c H0 => l_law_number Z Y) (pr_law_number C) h⟩)
  exact (pss_cons (ps_set (i := 1) sc_law_number.nd rfl (Or.inl rfl) (pe_fn G_law_take (hr.mono (by omega)) rfl (pa_cons (pv 0) (pa_cons pe_int pa_nil))))
      (pss_cons (ps_if (pt_cmpR op_lt (pv 1) pe_int (nomark _)) (pss_one (ps_ret (pe_op op_mulW (pe_op op_sub (pe_op op_mulW pe_int (pv 1)) pe_int) (pe_op op_sub (pe_op op_sub (pe_op op_pow pe_int pe_int) pe_int) (pe_fn G_law_take (hr.mono (by omega)) rfl (pa_cons (pv 0) (pa_cons pe_int pa_nil))))))) pss_nil)
      (pss_cons (ps_if (pt_cmpR op_lt (pv 1) pe_int (nomark _)) (pss_one (ps_ret (pe_op op_sub (pe_fn G_law_take (hr.mono (by omega)) rfl (pa_cons (pv 0) (pa_cons pe_int pa_nil))) pe_int))) pss_nil)
      (pss_one (ps_ret (pe_op op_sub (pe_fn G_law_take (hr.mono (by omega)) rfl (pa_cons (pv 0) (pa_cons pe_int pa_nil))) pe_int))))))
theorem ok_law_measure (B : Txt w K mg C) (Z : ClsK K C.Route) (Y : Fl K C) (F : FnP K "_law_measure" s_law_measure f fd) (hm : mg "_law_measure" = some (.ref f)) (G_law_number : OkF P w K mg base "_law_number" 3 ["_law_draws"] (up K (q_law_number))) (G_law_pick : OkF P w K mg base "_law_pick" 3 ["_law_draws", "_law_rows_here"] (upC K (q_law_pick))) (G_law_take : OkF P w K mg base "_law_take" 2 ["_law_source_here", "_law_many"] (up K q_law_take)) : OkF P w K mg base "_law_measure" 4 ["_law_draws", "_law_name"] (up K (q_law_measure)) := by
  refine ⟨f, fd, hm, F.kp, F.bindsN (fun _ _ _ _ _ _ us hl => match us, hl with | [_, _], _ => rfl), ?_⟩
  refine F.ok sc_law_measure (fun vs H Q E h => len_up (fun _ _ h => ql_law_measure h) h) (fun cdv A outer s H vs Q E hr h => ⟨t_law_measure K C, PSs.nox ?_, run_up (fun s c H0 => l_law_measure Z Y) (pr_law_measure C) h⟩)
  exact (pss_cons (ps_set (i := 2) sc_law_measure.nd rfl (Or.inl rfl) (pe_fn G_law_number (hr.mono (by omega)) rfl (pa_cons (pv 0) pa_nil)))
      (pss_cons (ps_set (i := 3) sc_law_measure.nd rfl (Or.inl rfl) (pe_op op_add (pv 2) (pe_fn G_law_pick (hr.mono (by omega)) rfl (pa_cons (pv 0) (pa_cons (pe_lst (pa_cons pe_int (pa_cons pe_int (pa_cons pe_int (pa_cons pe_int (pa_cons pe_int (pa_cons pe_int pa_nil))))))) pa_nil)))))
      (pss_cons (ps_if (PW.pt (pw_or (pt_cmpR op_ge (pv 3) (pe_op op_pow pe_int pe_int) (nomark _)) (pw_or1 (pt_cmpR op_eq (pe_fn G_law_take (hr.mono (by omega)) rfl (pa_cons (pv 0) (pa_cons pe_int pa_nil))) pe_int (nomark _))))) (pss_one (ps_set (i := 3) sc_law_measure.nd rfl (Or.inl rfl) (pe_op op_sub (pe_op op_pow pe_int pe_int) pe_int))) pss_nil)
      (pss_one (ps_ret (pe_tup (pa_cons pe_str (pa_cons (pv 1) (pa_cons (pv 2) (pa_cons (pv 3) pa_nil))))))))))
theorem ok_law_step (B : Txt w K mg C) (Z : ClsK K C.Route) (Y : Fl K C) (F : FnP K "_law_step" s_law_step f fd) (hm : mg "_law_step" = some (.ref f)) (G_law_measure : OkF P w K mg base "_law_measure" 4 ["_law_draws", "_law_name"] (up K (q_law_measure))) (G_law_take : OkF P w K mg base "_law_take" 2 ["_law_source_here", "_law_many"] (up K q_law_take)) (G_law_pick : OkF P w K mg base "_law_pick" 3 ["_law_draws", "_law_rows_here"] (upC K (q_law_pick))) : OkF P w K mg base "_law_step" 5 ["_law_draws", "_law_kind", "_law_name"] (up K (q_law_step)) := by
  refine ⟨f, fd, hm, F.kp, F.bindsN (fun _ _ _ _ _ _ us hl => match us, hl with | [_, _, _], _ => rfl), ?_⟩
  refine F.ok sc_law_step (fun vs H Q E h => len_up (fun _ _ h => ql_law_step h) h) (fun cdv A outer s H vs Q E hr h => ⟨t_law_step K C, PSs.nox ?_, run_up (fun s c H0 => l_law_step Z Y) (pr_law_step C) h⟩)
  exact (pss_cons (ps_if (pt_cmpR op_eq (pv 1) pe_str (nomark _)) (pss_one (ps_ret (pe_tup (pa_cons pe_str (pa_cons (pv 2) pa_nil))))) pss_nil)
      (pss_cons (ps_if (pt_cmpR op_eq (pv 1) pe_str (nomark _)) (pss_one (ps_ret (pe_fn G_law_measure (hr.mono (by omega)) rfl (pa_cons (pv 0) (pa_cons (pv 2) pa_nil))))) pss_nil)
      (pss_cons (ps_set (i := 3) sc_law_step.nd rfl (Or.inl rfl) (pe_tup pa_nil))
      (pss_cons (ps_for PassesOwn.never rfl (pi_range1 rfl B.range (pa_cons (pe_op op_add pe_int (pe_fn G_law_take (hr.mono (by omega)) rfl (pa_cons (pv 0) (pa_cons pe_int pa_nil)))) pa_nil)) (pg_name (i := 4) sc_law_step.nd rfl (Or.inl rfl)) (pss_cons (ps_set (i := 5) sc_law_step.nd rfl (Or.inl rfl) (pe_tup pa_nil))
      (pss_cons (ps_for PassesOwn.never rfl (pi_range1 rfl B.range (pa_cons (pe_fn G_law_pick (hr.mono (by omega)) rfl (pa_cons (pv 0) (pa_cons (pe_lst (pa_cons pe_int (pa_cons pe_int (pa_cons pe_int (pa_cons pe_int (pa_cons pe_int pa_nil)))))) pa_nil))) pa_nil)) (pg_name (i := 6) sc_law_step.nd rfl (Or.inl rfl)) (pss_one (ps_set (i := 5) sc_law_step.nd rfl (Or.inl rfl) (pe_op op_catA (pv 5) (pe_tup (pa_cons (pe_op op_add_str (pe_fn G_law_pick (hr.mono (by omega)) rfl (pa_cons (pv 0) (pa_cons (pe_lst (pa_cons pe_str (pa_cons pe_str pa_nil))) pa_nil))) (pe_fn G_law_pick (hr.mono (by omega)) rfl (pa_cons (pv 0) (pa_cons (pe_lst (pa_cons pe_str (pa_cons pe_str (pa_cons pe_str (pa_cons pe_str pa_nil))))) pa_nil)))) pa_nil))))))
      (pss_one (ps_set (i := 3) sc_law_step.nd rfl (Or.inl rfl) (pe_op op_catA (pv 3) (pe_tup (pa_cons (pv 5) pa_nil))))))))
      (pss_one (ps_ret (pe_tup (pa_cons pe_str (pa_cons (pv 2) (pa_cons (pv 3) pa_nil))))))))))
theorem ok_law_steps (B : Txt w K mg C) (Z : ClsK K C.Route) (Y : Fl K C) (F : FnP K "_law_steps" s_law_steps f fd) (hm : mg "_law_steps" = some (.ref f)) (G_law_pick : OkF P w K mg base "_law_pick" 3 ["_law_draws", "_law_rows_here"] (upC K (q_law_pick))) (G_law_fresh : OkF P w K mg base "_law_fresh" 4 ["_law_draws", "_law_names"] (upC K (q_law_fresh))) (G_law_take : OkF P w K mg base "_law_take" 2 ["_law_source_here", "_law_many"] (up K q_law_take)) (G_law_step : OkF P w K mg base "_law_step" 5 ["_law_draws", "_law_kind", "_law_name"] (up K (q_law_step))) : OkF P w K mg base "_law_steps" 6 ["_law_draws"] (up K (q_law_steps)) := by
  refine ⟨f, fd, hm, F.kp, F.bindsN (fun _ _ _ _ _ _ us hl => match us, hl with | [_], _ => rfl), ?_⟩
  refine F.ok sc_law_steps (fun vs H Q E h => len_up (fun _ _ h => ql_law_steps h) h) (fun cdv A outer s H vs Q E hr h => ⟨t_law_steps K C, PSs.nox ?_, run_up (fun s c H0 => l_law_steps Z Y) (pr_law_steps C) h⟩)
  exact (pss_cons (ps_set (i := 1) sc_law_steps.nd rfl (Or.inl rfl) (pe_lst pa_nil))
      (pss_cons (ps_set (i := 2) sc_law_steps.nd rfl (Or.inl rfl) (pe_lst pa_nil))
      (pss_cons (ps_set (i := 3) sc_law_steps.nd rfl (Or.inr rfl) (pe_disp (pps_cons pe_str pe_int (pps_cons pe_str pe_int (pps_cons pe_str pe_int pps_nil))) rfl rfl (by simp) (by decide)))
      (pss_cons (ps_for PassesOwn.never rfl (pi_range1 rfl B.range (pa_cons (pe_fn G_law_pick (hr.mono (by omega)) rfl (pa_cons (pv 0) (pa_cons (pe_lst (pa_cons pe_int (pa_cons pe_int (pa_cons pe_int (pa_cons pe_int (pa_cons pe_int (pa_cons pe_int (pa_cons pe_int (pa_cons pe_int pa_nil))))))))) pa_nil))) pa_nil)) (pg_name (i := 4) sc_law_steps.nd rfl (Or.inl rfl)) (pss_cons (ps_set (i := 5) sc_law_steps.nd rfl (Or.inl rfl) (pe_fn G_law_pick (hr.mono (by omega)) rfl (pa_cons (pv 0) (pa_cons (pe_lc (own := [("_law_word", 8)]) (g := (gName 8)) (tt := (tTest (tOp rGtI (tDGet (tVar 3) (tVar 8)) (tC (.int 0))))) rfl sc_law_steps.nd (pi_list (pe_frz (pe_lst (pa_cons pe_str (pa_cons pe_str (pa_cons pe_str pa_nil)))))) (blkOk_by (N := n_law_steps) (sc := defScope s_law_steps) (by decide +kernel)) (fun _ _ _ _ _ => (pg_name (i := 8) sc_law_steps.nd rfl (Or.inl rfl))) (fun _ _ _ _ _ => (pts_one (pt_cmpR op_gt (pe_dget (u1 hr) (pv 3) (pv 8) (fun _ _ => rfl)) pe_int (nomark _)))) (fun _ _ _ _ _ => (pv 8))) pa_nil))))
      (pss_cons (ps_dput (u1 hr) (pv 3) (pv 5) (pe_op op_sub (pe_dget (u1 hr) (pv 3) (pv 5) (fun _ _ => rfl)) pe_int) rfl)
      (pss_cons (ps_set (i := 6) sc_law_steps.nd rfl (Or.inl rfl) (pe_fn G_law_fresh (hr.mono (by omega)) rfl (pa_cons (pv 0) (pa_cons (pv 1) pa_nil))))
      (pss_cons (ps_set (i := 7) sc_law_steps.nd rfl (Or.inl rfl) (pe_fn G_law_pick (hr.mono (by omega)) rfl (pa_cons (pv 0) (pa_cons (pe_lst (pa_cons pe_str (pa_cons pe_str (pa_cons pe_str (pa_cons pe_str (pa_cons pe_str (pa_cons pe_str pa_nil))))))) pa_nil))))
      (pss_cons (ps_if (PW.pt (pw_and (pt_cmpR op_notIn_seq (pv 7) (pv 1) rfl) (pw_and1 (pt_cmpR op_eq (pe_fn G_law_take (hr.mono (by omega)) rfl (pa_cons (pv 0) (pa_cons pe_int pa_nil))) pe_int (nomark _))))) (pss_one (ps_set (i := 6) sc_law_steps.nd rfl (Or.inl rfl) (pv 7))) pss_nil)
      (pss_cons (ps_expr (pe_bm PySem.F.plainAttrs_list PySem.F.slot_list_append PySem.F.type_list_append mt_append (pv 1) (pa_cons (pv 6) pa_nil)))
      (pss_one (ps_expr (pe_bm PySem.F.plainAttrs_list PySem.F.slot_list_append PySem.F.type_list_append mt_append (pv 2) (pa_cons (pe_fn G_law_step (hr.mono (by omega)) rfl (pa_cons (pv 0) (pa_cons (pv 5) (pa_cons (pv 6) pa_nil)))) pa_nil)))))))))))
      (pss_one (ps_frz 2 (ps_ret (pv 2))))))))
theorem ok_law_spoiled (B : Txt w K mg C) (Z : ClsK K C.Route) (Y : Fl K C) (F : FnP K "_law_spoiled" s_law_spoiled f fd) (hm : mg "_law_spoiled" = some (.ref f)) (G_law_take : OkF P w K mg base "_law_take" 2 ["_law_source_here", "_law_many"] (up K q_law_take)) (G_law_pick : OkF P w K mg base "_law_pick" 3 ["_law_draws", "_law_rows_here"] (upC K (q_law_pick))) : OkF P w K mg base "_law_spoiled" 4 ["_law_draws", "_law_rows_here"] (up K (q_law_spoiled)) := by
  refine ⟨f, fd, hm, F.kp, F.bindsN (fun _ _ _ _ _ _ us hl => match us, hl with | [_, _], _ => rfl), ?_⟩
  refine F.ok sc_law_spoiled (fun vs H Q E h => len_up (fun _ _ h => ql_law_spoiled h) h) (fun cdv A outer s H vs Q E hr h => ⟨t_law_spoiled K C, PSs.nox ?_, run_up (fun s c H0 => l_law_spoiled Z Y) (pr_law_spoiled C) h⟩)
  exact (pss_cons (ps_for PassesOwn.never rfl (pi_range1 rfl B.range (pa_cons (pe_op op_add pe_int (pe_fn G_law_take (hr.mono (by omega)) rfl (pa_cons (pv 0) (pa_cons pe_int pa_nil)))) pa_nil)) (pg_name (i := 2) sc_law_spoiled.nd rfl (Or.inl rfl)) (pss_cons (ps_set (i := 3) sc_law_spoiled.nd rfl (Or.inl rfl) (pe_fn G_law_take (hr.mono (by omega)) rfl (pa_cons (pv 0) (pa_cons (pe_callB call_len_seq rfl B.len (by decide +kernel) (pa_cons (pv 1) pa_nil)) pa_nil))))
      (pss_cons (ps_set (i := 4) sc_law_spoiled.nd rfl (Or.inl rfl) (pe_ix ix_list (pv 1) (pv 3) (fun _ _ => rfl)))
      (pss_cons (ps_set (i := 5) sc_law_spoiled.nd rfl (Or.inl rfl) (pe_ix ix_tup (pv 4) pe_int (fun _ _ => rfl)))
      (pss_cons (ps_set (i := 6) sc_law_spoiled.nd rfl (Or.inl rfl) (pe_fn G_law_take (hr.mono (by omega)) rfl (pa_cons (pv 0) (pa_cons pe_int pa_nil))))
      (pss_cons (ps_if (pt_cmpR op_lt (pv 6) pe_int (nomark _)) (pss_cons (ps_set (i := 7) sc_law_spoiled.nd rfl (Or.inl rfl) (pe_fn G_law_take (hr.mono (by omega)) rfl (pa_cons (pv 0) (pa_cons (pe_op op_add (pe_callB call_len_str rfl B.len (by decide +kernel) (pa_cons (pv 5) pa_nil)) pe_int) pa_nil))))
      (pss_cons (ps_set (i := 8) sc_law_spoiled.nd rfl (Or.inl rfl) (pe_fn G_law_pick (hr.mono (by omega)) rfl (pa_cons (pv 0) (pa_cons (pe_lst (pa_cons pe_str (pa_cons pe_str (pa_cons pe_str (pa_cons pe_str (pa_cons pe_str (pa_cons pe_str (pa_cons pe_str (pa_cons pe_str (pa_cons pe_str (pa_cons pe_str (pa_cons pe_str (pa_cons pe_str (pa_cons pe_str pa_nil)))))))))))))) pa_nil))))
      (pss_cons (ps_set (i := 9) sc_law_spoiled.nd rfl (Or.inl rfl) (pe_frz (pe_lst (pa_cons (pe_op op_add_str (pe_op op_add_str (pe_slice sl_str (pv 5) po_none (po_some (pv 7))) (pv 8)) (pe_slice sl_str (pv 5) (po_some (pv 7)) po_none)) (pa_cons pe_str (pa_cons pe_str (pa_cons (pe_op op_add_str pe_str (pv 5)) (pa_cons (pe_slice sl_str (pe_op op_add_str (pv 5) pe_str) po_none (po_some pe_int)) pa_nil))))))))
      (pss_one (ps_set (i := 5) sc_law_spoiled.nd rfl (Or.inl rfl) (pe_fn G_law_pick (hr.mono (by omega)) rfl (pa_cons (pv 0) (pa_cons (pv 9) pa_nil)))))))) (pss_one (ps_if (pt_cmpR op_lt (pv 6) pe_int (nomark _)) (pss_one (ps_set (i := 5) sc_law_spoiled.nd rfl (Or.inl rfl) (pe_ix ix_tup (pe_ix ix_list (pv 1) (pe_fn G_law_take (hr.mono (by omega)) rfl (pa_cons (pv 0) (pa_cons (pe_callB call_len_seq rfl B.len (by decide +kernel) (pa_cons (pv 1) pa_nil)) pa_nil))) (fun _ _ => rfl)) pe_int (fun _ _ => rfl)))) (pss_one (ps_if (PW.pt (pw_or (pt_cmpR op_eq (pe_ix ix_tup (pv 4) pe_int (fun _ _ => rfl)) pe_str (nomark _)) (pw_or1 (pt_cmpR op_lt (pe_callB call_len_seq rfl B.len (by decide +kernel) (pa_cons (pe_lc (own := [("_law_one", 11)]) (g := (gName 11)) (tt := (tTest (tOp rEq (tOp (rIxT K) (tVar 11) (tC (.int 0))) (tC (.str "measure"))))) rfl sc_law_spoiled.nd (pi_list (pv 1)) (blkOk_by (N := n_law_spoiled) (sc := defScope s_law_spoiled) (by decide +kernel)) (fun _ _ _ _ _ => (pg_name (i := 11) sc_law_spoiled.nd rfl (Or.inl rfl))) (fun _ _ _ _ _ => (pts_one (pt_cmpR op_eq (pe_ix ix_tup (pv 11) pe_int (fun _ _ => rfl)) pe_str (nomark _)))) (fun _ _ _ _ _ => (pv 11))) pa_nil)) pe_int (nomark _))))) (pss_cons (ps_set (i := 10) sc_law_spoiled.nd rfl (Or.inl rfl) (pe_op op_sub (pe_fn G_law_take (hr.mono (by omega)) rfl (pa_cons (pv 0) (pa_cons pe_int pa_nil))) pe_int))
      (pss_one (ps_set (i := 4) sc_law_spoiled.nd rfl (Or.inl rfl) (pe_tup (pa_cons pe_str (pa_cons (pv 5) (pa_cons (pv 10) (pa_cons (pe_op op_sub (pe_op op_sub (pv 10) pe_int) (pe_fn G_law_pick (hr.mono (by omega)) rfl (pa_cons (pv 0) (pa_cons (pe_lst (pa_cons pe_int (pa_cons pe_int (pa_cons pe_int (pa_cons (pe_op op_pow pe_int pe_int) pa_nil))))) pa_nil)))) pa_nil)))))))) pss_nil)))))
      (pss_one (ps_set (i := 1) sc_law_spoiled.nd rfl (Or.inl rfl) (pe_frz (pe_op op_cat (pe_op op_cat (pe_slice sl_list (pv 1) po_none (po_some (pv 3))) (pe_lst (pa_cons (pe_op op_catA (pe_tup (pa_cons (pe_ix ix_tup (pv 4) pe_int (fun _ _ => rfl)) (pa_cons (pv 5) pa_nil))) (pe_slice sl_tupA (pv 4) (po_some pe_int) po_none)) pa_nil))) (pe_slice sl_list (pv 1) (po_some (pe_op op_add (pv 3) pe_int)) po_none)))))))))))
      (pss_one (ps_ret (pv 1))))
theorem ok_law_is_name (B : Txt w K mg C) (Z : ClsK K C.Route) (Y : Fl K C) (F : FnP K "_law_is_name" s_law_is_name f fd) (hm : mg "_law_is_name" = some (.ref f)) : OkF P w K mg base "_law_is_name" 1 ["_law_word"] (up K (q_law_is_name)) := by
  refine ⟨f, fd, hm, F.kp, F.bindsN (fun _ _ _ _ _ _ us hl => match us, hl with | [_], _ => rfl), ?_⟩
  refine F.ok sc_law_is_name (fun vs H Q E h => len_up (fun _ _ h => ql_law_is_name h) h) (fun cdv A outer s H vs Q E hr h => ⟨t_law_is_name K C, PSs.nox ?_, run_up (fun s c H0 => l_law_is_name Z Y) (pr_law_is_name C) h⟩)
  exact (pss_cons (ps_set (i := 1) sc_law_is_name.nd rfl (Or.inr rfl) pe_str)
      (pss_cons (ps_if (PW.pt (pw_or (pt_cmpR op_lt (pe_callB call_len_str rfl B.len (by decide +kernel) (pa_cons (pv 0) pa_nil)) pe_int (nomark _)) (pw_or (pt_cmpR op_gt (pe_callB call_len_str rfl B.len (by decide +kernel) (pa_cons (pv 0) pa_nil)) pe_int (nomark _)) (pw_or1 (pt_cmpR op_notIn_sign (pe_ix ix_str (pv 0) pe_int (fun _ _ => rfl)) (pv 1) rfl))))) (pss_one (ps_ret pe_bl)) pss_nil)
      (pss_one (ps_ret (pe_callB (cr_all rfl) rfl B.all_ (by decide +kernel) (pa_cons (pe_lc (own := [("_law_sign", 2)]) (g := (gName 2)) (tt := tYes) rfl sc_law_is_name.nd (pi_str (pv 0)) (blkOk_by (N := n_law_is_name) (sc := defScope s_law_is_name) (by decide +kernel)) (fun _ _ _ _ _ => (pg_name (i := 2) sc_law_is_name.nd rfl (Or.inl rfl))) (fun _ _ _ _ _ => pts_nil) (fun _ _ _ _ _ => (pe_or (pe_cmpR op_in_sign (pv 2) (pv 1) rfl) (pe_one (pe_cmpR op_in_sign (pv 2) pe_str rfl))))) pa_nil))))))
theorem ok_law_due (B : Txt w K mg C) (Z : ClsK K C.Route) (Y : Fl K C) (F : FnP K "_law_due" s_law_due f fd) (hm : mg "_law_due" = some (.ref f)) (G_law_is_name : OkF P w K mg base "_law_is_name" 1 ["_law_word"] (up K (q_law_is_name))) : OkF P w K mg base "_law_due" 2 ["_law_rows_here"] (up K (q_law_due)) := by
  refine ⟨f, fd, hm, F.kp, F.bindsN (fun _ _ _ _ _ _ us hl => match us, hl with | [_], _ => rfl), ?_⟩
  refine F.ok sc_law_due (fun vs H Q E h => len_up (fun _ _ h => ql_law_due h) h) (fun cdv A outer s H vs Q E hr h => ⟨t_law_due K C, PSs.nox ?_, run_up (fun s c H0 => l_law_due Z Y) (pr_law_due C) h⟩)
  exact (pss_cons (ps_set (i := 1) sc_law_due.nd rfl (Or.inl rfl) (pe_lst pa_nil))
      (pss_cons (ps_for PassesOwn.never rfl (pi_list (pv 0)) (pg_name (i := 2) sc_law_due.nd rfl (Or.inl rfl)) (pss_cons (ps_if (PW.pt (pw_or (pt_not (pt_val (pe_fn G_law_is_name (hr.mono (by omega)) rfl (pa_cons (pe_ix ix_tup (pv 2) pe_int (fun _ _ => rfl)) pa_nil)))) (pw_or1 (pt_cmpR op_eq (pe_ix ix_tup (pv 2) pe_int (fun _ _ => rfl)) pe_str (nomark _))))) (pss_one (ps_ret (pe_tup (pa_cons pe_str (pa_cons (pe_ix ix_tup (pv 2) pe_int (fun _ _ => rfl)) pa_nil))))) pss_nil)
      (pss_cons (ps_if (pt_cmpR op_in_seq (pe_ix ix_tup (pv 2) pe_int (fun _ _ => rfl)) (pv 1) rfl) (pss_one (ps_ret (pe_tup (pa_cons pe_str (pa_cons (pe_ix ix_tup (pv 2) pe_int (fun _ _ => rfl)) pa_nil))))) pss_nil)
      (pss_cons (ps_if (PW.pt (pw_and (pt_cmpR op_eq (pe_ix ix_tup (pv 2) pe_int (fun _ _ => rfl)) pe_str (nomark _)) (pw_and1 (pt_cmpR op_gt (pe_ix ix_tup (pv 2) pe_int (fun _ _ => rfl)) (pe_ix ix_tup (pv 2) pe_int (fun _ _ => rfl)) (nomark _))))) (pss_one (ps_ret (pe_tup (pa_cons pe_str (pa_cons (pe_ix ix_tup (pv 2) pe_int (fun _ _ => rfl)) (pa_cons (pe_ix ix_tup (pv 2) pe_int (fun _ _ => rfl)) pa_nil)))))) pss_nil)
      (pss_one (ps_expr (pe_bm PySem.F.plainAttrs_list PySem.F.slot_list_append PySem.F.type_list_append mt_append (pv 1) (pa_cons (pe_ix ix_tup (pv 2) pe_int (fun _ _ => rfl)) pa_nil))))))))
      (pss_one (ps_ret pe_non))))
theorem ok_law_rows (B : Txt w K mg C) (Z : ClsK K C.Route) (Y : Fl K C) (F : FnP K "_law_rows" s_law_rows f fd) (hm : mg "_law_rows" = some (.ref f)) : OkF P w K mg base "_law_rows" 1 ["_law_rows_here"] (up K (q_law_rows)) := by
  refine ⟨f, fd, hm, F.kp, F.bindsN (fun _ _ _ _ _ _ us hl => match us, hl with | [_], _ => rfl), ?_⟩
  refine F.ok sc_law_rows (fun vs H Q E h => len_up (fun _ _ h => ql_law_rows h) h) (fun cdv A outer s H vs Q E hr h => ⟨t_law_rows K C, PSs.nox ?_, run_up (fun s c H0 => l_law_rows Z Y) (pr_law_rows C) h⟩)
  exact (pss_cons (ps_set (i := 1) sc_law_rows.nd rfl (Or.inl rfl) (pe_lst (pa_cons (pe_tup pa_nil) pa_nil)))
      (pss_cons (ps_for PassesOwn.never rfl (pi_list (pv 0)) (pg_name (i := 2) sc_law_rows.nd rfl (Or.inl rfl)) (pss_one (ps_if (pt_cmpR op_eq (pe_ix ix_tup (pv 2) pe_int (fun _ _ => rfl)) pe_str (nomark _)) (pss_cons (ps_set (i := 3) sc_law_rows.nd rfl (Or.inl rfl) (pe_frz (pe_callTy call_list_of rfl B.list_ (by decide +kernel) (pa_cons (pv 1) pa_nil))))
      (pss_cons (ps_set (i := 1) sc_law_rows.nd rfl (Or.inl rfl) (pe_lst pa_nil))
      (pss_one (ps_for PassesOwn.never rfl (pi_list (pv 3)) (pg_name (i := 4) sc_law_rows.nd rfl (Or.inr rfl)) (pss_one (ps_set (i := 1) sc_law_rows.nd rfl (Or.inl rfl) (pe_op op_cat (pv 1) (pe_lc (own := [("_law_k", 5)]) (g := (gName 5)) (tt := tYes) rfl sc_law_rows.nd (pi_range1 rfl B.range (pa_cons (pe_callB call_len_seq rfl B.len (by decide +kernel) (pa_cons (pe_ix ix_tup (pv 2) pe_int (fun _ _ => rfl)) pa_nil)) pa_nil)) (blkOk_by (N := n_law_rows) (sc := defScope s_law_rows) (by decide +kernel)) (fun _ _ _ _ _ => (pg_name (i := 5) sc_law_rows.nd rfl (Or.inl rfl))) (fun _ _ _ _ _ => pts_nil) (fun _ _ _ _ _ => (pe_op op_catA (pv 4) (pe_tup (pa_cons (pv 5) pa_nil)))))))))))) pss_nil)))
      (pss_one (ps_frz 1 (ps_ret (pv 1))))))
theorem ok_law_late_run (B : Txt w K mg C) (Z : ClsK K C.Route) (Y : Fl K C) (F : FnP K "_law_late_run" s_law_late_run f fd) (hm : mg "_law_late_run" = some (.ref f)) : OkF P w K mg base "_law_late_run" 1 ["_law_rows_here", "_law_row"] (up K (q_law_late_run)) := by
  refine ⟨f, fd, hm, F.kp, F.bindsN (fun _ _ _ _ _ _ us hl => match us, hl with | [_, _], _ => rfl), ?_⟩
  refine F.ok sc_law_late_run (fun vs H Q E h => len_up (fun _ _ h => ql_law_late_run h) h) (fun cdv A outer s H vs Q E hr h => ⟨t_law_late_run K C, PSs.nox ?_, run_up (fun s c H0 => l_law_late_run Z Y) (pr_law_late_run C) h⟩)
  exact (pss_cons (ps_set (i := 2) sc_law_late_run.nd rfl (Or.inl rfl) (pe_tup pa_nil))
      (pss_cons (ps_setLc (i := 3) (own := [("_law_step_here", 5)]) (g := (gName 5)) (tt := (tTest (tOp rEq (tOp (rIxT K) (tVar 5) (tC (.int 0))) (tC (.str "late"))))) rfl sc_law_late_run.nd rfl rfl (sw_true rfl rfl rfl (by decide +kernel)) (pi_list (pv 0)) (blkOk_by (N := n_law_late_run) (sc := defScope s_law_late_run) (by decide +kernel)) (fun _ _ _ _ _ => (pg_name (i := 5) sc_law_late_run.nd rfl (Or.inl rfl))) (fun _ _ _ _ _ => (pts_one (pt_cmpR op_eq (pe_ix ix_tup (pv 5) pe_int (fun _ _ => rfl)) pe_str (nomark _)))) (fun _ _ _ _ _ => (pv 5)))
      (pss_cons (ps_for PassesOwn.never rfl (pi_range1 rfl B.range (pa_cons (pe_callB call_len_seq rfl B.len (by decide +kernel) (pa_cons (pv 1) pa_nil)) pa_nil)) (pg_name (i := 4) sc_law_late_run.nd rfl (Or.inl rfl)) (pss_one (ps_set (i := 2) sc_law_late_run.nd rfl (Or.inl rfl) (pe_op op_catA (pv 2) (pe_ix ix_tup (pe_ix ix_tup (pe_ix ix_list (pv 3) (pv 4) (fun _ _ => rfl)) pe_int (fun _ _ => rfl)) (pe_ix ix_tup (pv 1) (pv 4) (fun _ _ => rfl)) (fun _ _ => rfl))))))
      (pss_one (ps_ret (pv 2))))))
theorem ok_law_wide (B : Txt w K mg C) (Z : ClsK K C.Route) (Y : Fl K C) (F : FnP K "_law_wide" s_law_wide f fd) (hm : mg "_law_wide" = some (.ref f)) : OkF P w K mg base "_law_wide" 1 ["_law_rows_here", "_law_number_here"] (up K (q_law_wide)) := by
  refine ⟨f, fd, hm, F.kp, F.bindsN (fun _ _ _ _ _ _ us hl => match us, hl with | [_, _], _ => rfl), ?_⟩
  refine F.ok sc_law_wide (fun vs H Q E h => len_up (fun _ _ h => ql_law_wide h) h) (fun cdv A outer s H vs Q E hr h => ⟨t_law_wide K C, PSs.nox ?_, run_up (fun s c H0 => l_law_wide Z Y) (pr_law_wide C) h⟩)
  exact (pss_cons (ps_set (i := 2) sc_law_wide.nd rfl (Or.inl rfl) (pe_lst pa_nil))
      (pss_cons (ps_for PassesOwn.never rfl (pi_list (pv 0)) (pg_name (i := 3) sc_law_wide.nd rfl (Or.inl rfl)) (pss_cons (ps_if (pt_cmpR op_eq (pe_ix ix_tup (pv 3) pe_int (fun _ _ => rfl)) pe_str (nomark _)) (pss_one (ps_set (i := 3) sc_law_wide.nd rfl (Or.inl rfl) (pe_tup (pa_cons pe_str (pa_cons (pe_ix ix_tup (pv 3) pe_int (fun _ _ => rfl)) (pa_cons (pe_op op_sub (pe_ix ix_tup (pv 3) pe_int (fun _ _ => rfl)) (pv 1)) (pa_cons (pe_op op_add (pe_ix ix_tup (pv 3) pe_int (fun _ _ => rfl)) (pv 1)) pa_nil))))))) pss_nil)
      (pss_one (ps_expr (pe_bm PySem.F.plainAttrs_list PySem.F.slot_list_append PySem.F.type_list_append mt_append (pv 2) (pa_cons (pv 3) pa_nil))))))
      (pss_one (ps_frz 2 (ps_ret (pv 2))))))
theorem ok_law_moved (B : Txt w K mg C) (Z : ClsK K C.Route) (Y : Fl K C) (F : FnP K "_law_moved" s_law_moved f fd) (hm : mg "_law_moved" = some (.ref f)) : OkF P w K mg base "_law_moved" 1 ["_law_rows_here", "_law_name", "_law_number_here"] (up K (q_law_moved)) := by
  refine ⟨f, fd, hm, F.kp, F.bindsN (fun _ _ _ _ _ _ us hl => match us, hl with | [_, _, _], _ => rfl), ?_⟩
  refine F.ok sc_law_moved (fun vs H Q E h => len_up (fun _ _ h => ql_law_moved h) h) (fun cdv A outer s H vs Q E hr h => ⟨t_law_moved K C, PSs.nox ?_, run_up (fun s c H0 => l_law_moved Z Y) (pr_law_moved C) h⟩)
  exact (pss_cons (ps_setLc (i := 3) (own := [("_law_row", 5)]) (g := (gName 5)) (tt := (tAnd (tTest (tOp rEq (tOp (rIxT K) (tVar 5) (tC (.int 1))) (tVar 1))) (tTest (tOp rNe (tOp (rIxT K) (tVar 5) (tC (.int 0))) (tC (.str "part")))))) rfl sc_law_moved.nd rfl rfl (sw_true rfl rfl rfl (by decide +kernel)) (pi_list (pv 0)) (blkOk_by (N := n_law_moved) (sc := defScope s_law_moved) (by decide +kernel)) (fun _ _ _ _ _ => (pg_name (i := 5) sc_law_moved.nd rfl (Or.inl rfl))) (fun _ _ _ _ _ => (pts_one (PW.pt (pw_and (pt_cmpR op_eq (pe_ix ix_tup (pv 5) pe_int (fun _ _ => rfl)) (pv 1) (nomark _)) (pw_and1 (pt_cmpR op_ne (pe_ix ix_tup (pv 5) pe_int (fun _ _ => rfl)) pe_str (nomark _))))))) (fun _ _ _ _ _ => (pv 5)))
      (pss_cons (ps_if (pt_cmpR op_eq (pe_callB call_len_seq rfl B.len (by decide +kernel) (pa_cons (pv 3) pa_nil)) pe_int (nomark _)) (pss_one (ps_ret (pe_tup (pa_cons pe_str (pa_cons (pv 1) pa_nil))))) pss_nil)
      (pss_cons (ps_if (PW.pt (pw_or (pt_cmpR op_lt (pv 2) pe_int (nomark _)) (pw_or1 (pt_cmpR op_ge (pv 2) (pe_callB call_len_seq rfl B.len (by decide +kernel) (pa_cons (pv 0) pa_nil)) (nomark _))))) (pss_one (ps_ret (pe_tup (pa_cons pe_str (pa_cons (pv 2) pa_nil))))) pss_nil)
      (pss_cons (ps_setLc (i := 4) (own := [("_law_row", 5)]) (g := (gName 5)) (tt := (tTest (tOp rNe (tOp (rIxT K) (tVar 5) (tC (.int 1))) (tVar 1)))) rfl sc_law_moved.nd rfl rfl (sw_true rfl rfl rfl (by decide +kernel)) (pi_list (pv 0)) (blkOk_by (N := n_law_moved) (sc := defScope s_law_moved) (by decide +kernel)) (fun _ _ _ _ _ => (pg_name (i := 5) sc_law_moved.nd rfl (Or.inl rfl))) (fun _ _ _ _ _ => (pts_one (pt_cmpR op_ne (pe_ix ix_tup (pv 5) pe_int (fun _ _ => rfl)) (pv 1) (nomark _)))) (fun _ _ _ _ _ => (pv 5)))
      (pss_one (ps_ret (pe_frz (pe_op op_cat (pe_op op_cat (pe_slice sl_list (pv 4) po_none (po_some (pv 2))) (pv 3)) (pe_slice sl_list (pv 4) (po_some (pv 2)) po_none)))))))))
theorem ok_law_told (B : Txt w K mg C) (Z : ClsK K C.Route) (Y : Fl K C) (F : FnP K "_law_told" s_law_told f fd) (hm : mg "_law_told" = some (.ref f)) (G_Route_init : OkIX P w K mg base C.Route 3 ["self", "steps"] (upIC K C.Route (q_Route_init C))) (G_Route_widened : OkMK P w K mg base C.Route "widened" 5 ["self", "by"] ["by"] (upX K (q_Route_widened C))) (G_Route_moved : OkMK P w K mg base C.Route "moved" 5 ["self", "name", "to"] ["to"] (upX K (q_Route_moved C))) : OkF P w K mg base "_law_told" 6 ["_law_base", "_law_rows_here", "_law_name", "_law_number_here"] (upC K (q_law_told C)) := by
  refine ⟨f, fd, hm, F.kp, F.bindsN (fun _ _ _ _ _ _ us hl => match us, hl with | [_, _, _, _], _ => rfl), ?_⟩
  refine F.ok sc_law_told (fun vs H Q E h => len_upC (fun _ _ h => ql_law_told h) h) (fun cdv A outer s H vs Q E hr h => ⟨t_law_told K C, PSs.nox ?_, run_upC (fun s c H0 => l_law_told Z Y) (pr_law_told C Y.nd) h⟩)
  exact (pss_cons (ps_set (i := 4) sc_law_told.nd rfl (Or.inl rfl) (pe_lst pa_nil))
      (pss_cons (ps_tryT rfl rfl sc_law_told.nd rfl rfl ⟨rfl, by decide, .inl B.g_OfficeError⟩ (fun W pn xe tk po => (pss_cons (ps_if (pt_cmpR op_isN (pv 0) pe_non (nomark _)) (pss_one (ps_ret (pe_frz (pe_mkX G_Route_init (hr.mono (by omega)) rfl B.g_Route (fun σ => passAt tk σ) (pa_cons (pv 1) pa_nil))))) pss_nil)
      (pss_cons (ps_if (pt_cmpR op_isN (pv 2) pe_non (nomark _)) (pss_one (ps_ret (pe_mK01 (pv 0) G_Route_widened (hr.mono (by omega)) Z (fun σ => passAt tk σ) (pv 3)))) pss_nil)
      (pss_one (ps_ret (pe_mK11 (pv 0) G_Route_moved (hr.mono (by omega)) Z (fun σ => passAt tk σ) (pv 2) (pv 3)))))))
      (fun a oe cls d pn hz hf => (pss_cons (ps_if (pt_val (pe_callB (call_isX hz hf) rfl B.isinstance (by decide +kernel) (pa_cons (pv 5) (pa_cons (pe_glob rfl B.g_BadName rfl) pa_nil)))) (pss_one (ps_expr (pe_bm PySem.F.plainAttrs_list PySem.F.slot_list_append PySem.F.type_list_append mt_append (pv 4) (pa_cons (pe_tup (pa_cons pe_str (pa_cons (pe_xf Y.xf_BadName Y.no_BadName_name hz hf (pv 5)) pa_nil))) pa_nil)))) pss_nil)
      (pss_cons (ps_if (pt_val (pe_callB (call_isX hz hf) rfl B.isinstance (by decide +kernel) (pa_cons (pv 5) (pa_cons (pe_glob rfl B.g_NameTaken rfl) pa_nil)))) (pss_one (ps_expr (pe_bm PySem.F.plainAttrs_list PySem.F.slot_list_append PySem.F.type_list_append mt_append (pv 4) (pa_cons (pe_tup (pa_cons pe_str (pa_cons (pe_xf Y.xf_NameTaken Y.no_NameTaken_name hz hf (pv 5)) pa_nil))) pa_nil)))) pss_nil)
      (pss_cons (ps_if (pt_val (pe_callB (call_isX hz hf) rfl B.isinstance (by decide +kernel) (pa_cons (pv 5) (pa_cons (pe_glob rfl B.g_BadEnds rfl) pa_nil)))) (pss_one (ps_expr (pe_bm PySem.F.plainAttrs_list PySem.F.slot_list_append PySem.F.type_list_append mt_append (pv 4) (pa_cons (pe_tup (pa_cons pe_str (pa_cons (pe_xf Y.xf_BadEnds Y.no_BadEnds_low hz hf (pv 5)) (pa_cons (pe_xf Y.xf_BadEnds Y.no_BadEnds_high hz hf (pv 5)) pa_nil)))) pa_nil)))) pss_nil)
      (pss_cons (ps_if (pt_val (pe_callB (call_isX hz hf) rfl B.isinstance (by decide +kernel) (pa_cons (pv 5) (pa_cons (pe_glob rfl B.g_UnknownName rfl) pa_nil)))) (pss_one (ps_expr (pe_bm PySem.F.plainAttrs_list PySem.F.slot_list_append PySem.F.type_list_append mt_append (pv 4) (pa_cons (pe_tup (pa_cons pe_str (pa_cons (pe_xf Y.xf_UnknownName Y.no_UnknownName_name hz hf (pv 5)) pa_nil))) pa_nil)))) pss_nil)
      (pss_cons (ps_if (pt_val (pe_callB (call_isX hz hf) rfl B.isinstance (by decide +kernel) (pa_cons (pv 5) (pa_cons (pe_glob rfl B.g_BadPosition rfl) pa_nil)))) (pss_one (ps_expr (pe_bm PySem.F.plainAttrs_list PySem.F.slot_list_append PySem.F.type_list_append mt_append (pv 4) (pa_cons (pe_tup (pa_cons pe_str (pa_cons (pe_xf Y.xf_BadPosition Y.no_BadPosition_to hz hf (pv 5)) pa_nil))) pa_nil)))) pss_nil)
      (pss_cons (ps_if (pt_val (pe_callB (call_isX hz hf) rfl B.isinstance (by decide +kernel) (pa_cons (pv 5) (pa_cons (pe_glob rfl B.g_BadWidening rfl) pa_nil)))) (pss_one (ps_expr (pe_bm PySem.F.plainAttrs_list PySem.F.slot_list_append PySem.F.type_list_append mt_append (pv 4) (pa_cons (pe_tup (pa_cons pe_str (pa_cons (pe_xf Y.xf_BadWidening Y.no_BadWidening_by hz hf (pv 5)) pa_nil))) pa_nil)))) pss_nil)
      (pss_one (ps_if (pt_not (pt_val (pe_callB (call_isX hz hf) rfl B.isinstance (by decide +kernel) (pa_cons (pv 5) (pa_cons (pe_bltn (v := .ty "ValueError") rfl B.ValueError_ (by decide +kernel) rfl) pa_nil))))) (pss_one (ps_expr (pe_bm PySem.F.plainAttrs_list PySem.F.slot_list_append PySem.F.type_list_append mt_append (pv 4) (pa_cons (pe_tup (pa_cons pe_str (pa_cons pe_str pa_nil))) pa_nil)))) pss_nil))))))))))
      (pss_one (ps_frz 4 (ps_ret (pv 4))))))
theorem ok_law_same (B : Txt w K mg C) (Z : ClsK K C.Route) (Y : Fl K C) (F : FnP K "_law_same" s_law_same f fd) (hm : mg "_law_same" = some (.ref f)) (G_Route_steps : OkP P w K mg base C.Route "steps" 1 ["self"] (upL K (q_Route_steps C))) (G_Route_late_rows : OkM P w K mg base C.Route "late_rows" 2 ["self"] (upL K (q_Route_late_rows C))) (G_law_rows : OkF P w K mg base "_law_rows" 1 ["_law_rows_here"] (up K (q_law_rows))) (G_Route_late_run : OkM P w K mg base C.Route "late_run" 2 ["self", "row"] (up K (q_Route_late_run C))) (G_law_late_run : OkF P w K mg base "_law_late_run" 1 ["_law_rows_here", "_law_row"] (up K (q_law_late_run))) : OkG P w K mg base "_law_same" 3 ["_law_base", "_law_due_here"] (up K (q_law_same C)) := by
  refine ⟨f, fd, hm, F.kp, F.bindsN (fun _ _ _ _ _ _ us hl => match us, hl with | [_, _], _ => rfl), ?_⟩
  refine gok_of F sc_law_same (fun vs H Q E h => len_up (fun _ _ h => ql_law_same h) h) (fun cdv A outer s H vs Q E gd hr h => ⟨t_law_same K C, PSs.nox ?_, run_up (fun s c H0 => l_law_same Z Y) (pr_law_same C) h⟩)
  exact (pss_cons (ps_if (pt_val (pe_callB call_isiD rfl B.isinstance (by decide +kernel) (pa_cons (pv 1) (pa_cons (pe_bltn (v := .ty "tuple") rfl B.tuple_ (by decide +kernel) rfl) pa_nil)))) (pss_one (ps_ret (pe_and (pe_callB call_isiD rfl B.isinstance (by decide +kernel) (pa_cons (pv 0) (pa_cons (pe_bltn (v := .ty "list") rfl B.list_ (by decide +kernel) rfl) pa_nil))) (pe_one (pe_cmpR (op_eqD hr.units) (pv 0) (pe_lst (pa_cons (pv 1) pa_nil)) (nomark _)))))) pss_nil)
      (pss_cons (ps_if (pt_val (pe_callB call_isiD rfl B.isinstance (by decide +kernel) (pa_cons (pv 0) (pa_cons (pe_bltn (v := .ty "list") rfl B.list_ (by decide +kernel) rfl) pa_nil)))) (pss_one (ps_ret pe_bl)) pss_nil)
      (pss_cons (ps_for PassesOwn.never rfl (pi_range1 rfl B.range (pa_cons pe_int pa_nil)) (pg_name (i := 2) sc_law_same.nd rfl (Or.inl rfl)) (pss_cons (ps_set (i := 3) sc_law_same.nd rfl (Or.inl rfl) (pe_propM (pv 0) G_Route_steps (hr.mono (by omega)) Z))
      (pss_cons (ps_set (i := 4) sc_law_same.nd rfl (Or.inl rfl) (pe_methM0 (pv 0) G_Route_late_rows (hr.mono (by omega)) Z))
      (pss_cons (ps_if (PW.pt (pw_or (pt_cmpR op_ne (pe_callB (call_repr_dp gd hr.units) rfl B.repr_ (by decide +kernel) (pa_cons (pv 3) pa_nil)) (pe_callB (call_repr_dp gd hr.units) rfl B.repr_ (by decide +kernel) (pa_cons (pv 1) pa_nil)) (nomark _)) (pw_or1 (pt_cmpR op_ne (pe_callB (call_repr_dp gd hr.units) rfl B.repr_ (by decide +kernel) (pa_cons (pv 4) pa_nil)) (pe_callB (call_repr_dp gd hr.units) rfl B.repr_ (by decide +kernel) (pa_cons (pe_fn G_law_rows (hr.mono (by omega)) rfl (pa_cons (pv 1) pa_nil)) pa_nil)) (nomark _))))) (pss_one (ps_ret pe_bl)) pss_nil)
      (pss_cons (ps_setLc (i := 5) (own := [("_law_row", 6)]) (g := (gName 6)) (tt := tYes) rfl sc_law_same.nd rfl rfl (sw_true rfl rfl rfl (by decide +kernel)) (pi_list (pv 4)) (blkOk_by (N := n_law_same) (sc := defScope s_law_same) (by decide +kernel)) (fun _ _ _ _ _ => (pg_name (i := 6) sc_law_same.nd rfl (Or.inl rfl))) (fun _ _ _ _ _ => pts_nil) (fun _ _ _ _ _ => (pe_methM (pv 0) G_Route_late_run (hr.mono (by omega)) Z (pa_cons (pv 6) pa_nil))))
      (pss_cons (ps_if (pt_cmpR op_ne (pe_callB (call_repr_dp gd hr.units) rfl B.repr_ (by decide +kernel) (pa_cons (pv 5) pa_nil)) (pe_callB (call_repr_dp gd hr.units) rfl B.repr_ (by decide +kernel) (pa_cons (pe_lc (own := [("_law_row", 6)]) (g := (gName 6)) (tt := tYes) rfl sc_law_same.nd (pi_list (pe_fn G_law_rows (hr.mono (by omega)) rfl (pa_cons (pv 1) pa_nil))) (blkOk_by (N := n_law_same) (sc := defScope s_law_same) (by decide +kernel)) (fun _ _ _ _ _ => (pg_name (i := 6) sc_law_same.nd rfl (Or.inl rfl))) (fun _ _ _ _ _ => pts_nil) (fun _ _ _ _ _ => (pe_fn G_law_late_run (hr.mono (by omega)) rfl (pa_cons (pv 1) (pa_cons (pv 6) pa_nil))))) pa_nil)) (nomark _)) (pss_one (ps_ret pe_bl)) pss_nil)
      (pss_cons (ps_expr (pe_bm PySem.F.plainAttrs_list PySem.F.slot_list_append PySem.F.type_list_append mt_append (pv 3) (pa_cons pe_int pa_nil)))
      (pss_one (ps_expr (pe_bm0 PySem.F.plainAttrs_list PySem.F.slot_list_clear PySem.F.type_list_clear mt_clear (pv 4)))))))))))
      (pss_one (ps_ret pe_bl)))))
theorem okAt_law (B : Txt w K mg C) (Z : ClsK K C.Route) (Y : Fl K C) (F : FnP K "law" s_law f fd) (G_law_source : OkF P w K mg base "_law_source" 1 ["_law_script"] (sp_law_source K)) (G_law_steps : OkF P w K mg base "_law_steps" 6 ["_law_draws"] (up K (q_law_steps))) (G_law_take : OkF P w K mg base "_law_take" 2 ["_law_source_here", "_law_many"] (up K q_law_take)) (G_law_spoiled : OkF P w K mg base "_law_spoiled" 4 ["_law_draws", "_law_rows_here"] (up K (q_law_spoiled))) (G_law_due : OkF P w K mg base "_law_due" 2 ["_law_rows_here"] (up K (q_law_due))) (G_law_told : OkF P w K mg base "_law_told" 6 ["_law_base", "_law_rows_here", "_law_name", "_law_number_here"] (upC K (q_law_told C))) (G_law_same : OkG P w K mg base "_law_same" 3 ["_law_base", "_law_due_here"] (up K (q_law_same C))) (G_law_pick : OkF P w K mg base "_law_pick" 3 ["_law_draws", "_law_rows_here"] (upC K (q_law_pick))) (G_law_wide : OkF P w K mg base "_law_wide" 1 ["_law_rows_here", "_law_number_here"] (up K (q_law_wide))) (G_law_moved : OkF P w K mg base "_law_moved" 1 ["_law_rows_here", "_law_name", "_law_number_here"] (up K (q_law_moved))) : GOk P w K mg base 7 f fd ["_law_script"] (sp_top K) := by
  refine gok_of F sc_law (fun vs H Q E h => len_top h) (fun cdv A outer s H vs Q E gd hr h => ⟨tSeq (tAsg (tCall (sp_law_source K) [] E0 (tCons (tVar 0) tNil)) (gName 1)) (t_law K C), PSs.nox ?_, run_top (N := n_law) (fun s c H0 => l_law Z Y) rfl (by decide) (pr_law C) h⟩)
  exact (pss_cons (ps_set (i := 1) sc_law.nd rfl (Or.inl rfl) (pe_fn G_law_source (hr.mono (by omega)) rfl (pa_cons (pv 0) pa_nil)))
      (pss_cons (ps_set (i := 2) sc_law.nd rfl (Or.inl rfl) (pe_fn G_law_steps (hr.mono (by omega)) rfl (pa_cons (pv 1) pa_nil)))
      (pss_cons (ps_if (PW.pt (pw_and (pt_cmpR op_gt (pe_callB call_len_seq rfl B.len (by decide +kernel) (pa_cons (pv 2) pa_nil)) pe_int (nomark _)) (pw_and1 (pt_cmpR op_eq (pe_fn G_law_take (hr.mono (by omega)) rfl (pa_cons (pv 1) (pa_cons pe_int pa_nil))) pe_int (nomark _))))) (pss_one (ps_set (i := 2) sc_law.nd rfl (Or.inl rfl) (pe_fn G_law_spoiled (hr.mono (by omega)) rfl (pa_cons (pv 1) (pa_cons (pv 2) pa_nil))))) pss_nil)
      (pss_cons (ps_set (i := 3) sc_law.nd rfl (Or.inl rfl) (pe_fn G_law_due (hr.mono (by omega)) rfl (pa_cons (pv 2) pa_nil)))
      (pss_cons (ps_set (i := 4) sc_law.nd rfl (Or.inl rfl) (pe_callTy call_list_of rfl B.list_ (by decide +kernel) (pa_cons (pv 2) pa_nil)))
      (pss_cons (ps_set (i := 5) sc_law.nd rfl (Or.inl rfl) (pe_fn G_law_told (hr.mono (by omega)) rfl (pa_cons pe_non (pa_cons (pv 4) (pa_cons pe_non (pa_cons pe_int pa_nil))))))
      (pss_cons (ps_expr (pe_bm0 PySem.F.plainAttrs_list PySem.F.slot_list_clear PySem.F.type_list_clear mt_clear (pv 4)))
      (pss_cons (ps_if (pt_cmpR op_notN (pv 3) pe_non (nomark _)) (pss_one (ps_ret (pe_and (pe_gfn gd G_law_same (hr.mono (by omega)) rfl (pa_cons (pv 5) (pa_cons (pv 3) pa_nil))) (pe_one (pe_gfn gd G_law_same (hr.mono (by omega)) rfl (pa_cons (pe_fn G_law_told (hr.mono (by omega)) rfl (pa_cons pe_non (pa_cons (pe_callTy call_tuple_of rfl B.tuple_ (by decide +kernel) (pa_cons (pv 2) pa_nil)) (pa_cons pe_non (pa_cons pe_int pa_nil))))) (pa_cons (pv 3) pa_nil))))))) pss_nil)
      (pss_cons (ps_if (PW.pt (pw_or (pt_not (pt_val (pe_gfn gd G_law_same (hr.mono (by omega)) rfl (pa_cons (pv 5) (pa_cons (pv 2) pa_nil))))) (pw_or1 (pt_not (pt_val (pe_gfn gd G_law_same (hr.mono (by omega)) rfl (pa_cons (pe_fn G_law_told (hr.mono (by omega)) rfl (pa_cons pe_non (pa_cons (pe_callTy call_tuple_of rfl B.tuple_ (by decide +kernel) (pa_cons (pv 2) pa_nil)) (pa_cons pe_non (pa_cons pe_int pa_nil))))) (pa_cons (pv 2) pa_nil)))))))) (pss_one (ps_ret pe_bl)) pss_nil)
      (pss_cons (ps_set (i := 6) sc_law.nd rfl (Or.inl rfl) (pe_fn G_law_pick (hr.mono (by omega)) rfl (pa_cons (pv 1) (pa_cons (pe_lst (pa_cons pe_int (pa_cons pe_int (pa_cons pe_int (pa_cons pe_int (pa_cons (pe_op op_sub (pe_op op_pow pe_int pe_int) pe_int) (pa_cons (pe_un un_neg pe_int) (pa_cons (pe_un un_neg pe_int) (pa_cons (pe_op op_sub pe_int (pe_op op_pow pe_int pe_int)) pa_nil))))))))) pa_nil))))
      (pss_cons (ps_set (i := 7) sc_law.nd rfl (Or.inl rfl) (pe_fn G_law_told (hr.mono (by omega)) rfl (pa_cons (pv 5) (pa_cons pe_non (pa_cons pe_non (pa_cons (pv 6) pa_nil))))))
      (pss_cons (ps_if (PW.pt (pw_and (pt_cmpR op_lt (pv 6) pe_int (nomark _)) (pw_and1 (pt_not (pt_val (pe_gfn gd G_law_same (hr.mono (by omega)) rfl (pa_cons (pv 7) (pa_cons (pe_tup (pa_cons pe_str (pa_cons (pv 6) pa_nil))) pa_nil)))))))) (pss_one (ps_ret pe_bl)) pss_nil)
      (pss_cons (ps_set (i := 8) sc_law.nd rfl (Or.inr rfl) (pe_lst (pa_cons (pv 5) pa_nil)))
      (pss_cons (ps_set (i := 9) sc_law.nd rfl (Or.inr rfl) (pe_lst (pa_cons (pv 2) pa_nil)))
      (pss_cons (ps_if (pt_cmpR op_ge (pv 6) pe_int (nomark _)) (pss_cons (ps_expr (pe_bm PySem.F.plainAttrs_list PySem.F.slot_list_append PySem.F.type_list_append mt_append (pv 8) (pa_cons (pv 7) pa_nil)))
      (pss_one (ps_expr (pe_bm PySem.F.plainAttrs_list PySem.F.slot_list_append PySem.F.type_list_append mt_append (pv 9) (pa_cons (pe_fn G_law_wide (hr.mono (by omega)) rfl (pa_cons (pv 2) (pa_cons (pv 6) pa_nil))) pa_nil))))) pss_nil)
      (pss_cons (ps_setLc (i := 10) (own := [("_law_row", 17)]) (g := (gName 17)) (tt := (tTest (tOp rNe (tOp (rIxT K) (tVar 17) (tC (.int 0))) (tC (.str "part"))))) rfl sc_law.nd rfl rfl (sw_true rfl rfl rfl (by decide +kernel)) (pi_list (pv 2)) (blkOk_by (N := n_law) (sc := defScope s_law) (by decide +kernel)) (fun _ _ _ _ _ => (pg_name (i := 17) sc_law.nd rfl (Or.inl rfl))) (fun _ _ _ _ _ => (pts_one (pt_cmpR op_ne (pe_ix ix_tup (pv 17) pe_int (fun _ _ => rfl)) pe_str (nomark _)))) (fun _ _ _ _ _ => (pe_ix ix_tup (pv 17) pe_int (fun _ _ => rfl))))
      (pss_cons (ps_for PassesOwn.never rfl (pi_range1 rfl B.range (pa_cons pe_int pa_nil)) (pg_name (i := 11) sc_law.nd rfl (Or.inl rfl)) (pss_cons (ps_set (i := 12) sc_law.nd rfl (Or.inl rfl) (pe_fn G_law_take (hr.mono (by omega)) rfl (pa_cons (pv 1) (pa_cons (pe_callB call_len_seq rfl B.len (by decide +kernel) (pa_cons (pv 8) pa_nil)) pa_nil))))
      (pss_cons (ps_set (i := 13) sc_law.nd rfl (Or.inl rfl) (pe_fn G_law_pick (hr.mono (by omega)) rfl (pa_cons (pv 1) (pa_cons (pe_op op_cat (pe_op op_cat (pe_op op_cat (pe_op op_cat (pv 10) (pv 10)) (pv 10)) (pe_lc (own := [("_law_row", 17)]) (g := (gName 17)) (tt := tYes) rfl sc_law.nd (pi_list (pv 2)) (blkOk_by (N := n_law) (sc := defScope s_law) (by decide +kernel)) (fun _ _ _ _ _ => (pg_name (i := 17) sc_law.nd rfl (Or.inl rfl))) (fun _ _ _ _ _ => pts_nil) (fun _ _ _ _ _ => (pe_ix ix_tup (pv 17) pe_int (fun _ _ => rfl))))) (pe_lst (pa_cons pe_str (pa_cons pe_str (pa_cons pe_str (pa_cons pe_str pa_nil)))))) pa_nil))))
      (pss_cons (ps_set (i := 14) sc_law.nd rfl (Or.inl rfl) (pe_fn G_law_pick (hr.mono (by omega)) rfl (pa_cons (pv 1) (pa_cons (pe_op op_cat (pe_lst (pa_cons (pe_un un_neg pe_int) (pa_cons (pe_callB call_len_seq rfl B.len (by decide +kernel) (pa_cons (pv 2) pa_nil)) (pa_cons (pe_op op_add (pe_callB call_len_seq rfl B.len (by decide +kernel) (pa_cons (pv 2) pa_nil)) pe_int) pa_nil)))) (pe_op op_rep (pe_listRg rfl rfl B.list_ (prg_1 rfl B.range (pe_callB call_len_seq rfl B.len (by decide +kernel) (pa_cons (pv 2) pa_nil)))) pe_int)) pa_nil))))
      (pss_cons (ps_set (i := 15) sc_law.nd rfl (Or.inl rfl) (pe_fn G_law_moved (hr.mono (by omega)) rfl (pa_cons (pe_ix ix_list (pv 9) (pv 12) (fun _ _ => rfl)) (pa_cons (pv 13) (pa_cons (pv 14) pa_nil)))))
      (pss_cons (ps_set (i := 16) sc_law.nd rfl (Or.inl rfl) (pe_fn G_law_told (hr.mono (by omega)) rfl (pa_cons (pe_ix ix_list (pv 8) (pv 12) (fun _ _ => rfl)) (pa_cons pe_non (pa_cons (pv 13) (pa_cons (pv 14) pa_nil))))))
      (pss_cons (ps_if (pt_not (pt_val (pe_gfn gd G_law_same (hr.mono (by omega)) rfl (pa_cons (pv 16) (pa_cons (pv 15) pa_nil))))) (pss_one (ps_ret pe_bl)) pss_nil)
      (pss_one (ps_if (pt_val (pe_callB call_isiD rfl B.isinstance (by decide +kernel) (pa_cons (pv 15) (pa_cons (pe_bltn (v := .ty "list") rfl B.list_ (by decide +kernel) rfl) pa_nil)))) (pss_cons (ps_expr (pe_bm PySem.F.plainAttrs_list PySem.F.slot_list_append PySem.F.type_list_append mt_append (pv 8) (pa_cons (pv 16) pa_nil)))
      (pss_one (ps_expr (pe_bm PySem.F.plainAttrs_list PySem.F.slot_list_append PySem.F.type_list_append mt_append (pv 9) (pa_cons (pv 15) pa_nil))))) pss_nil)))))))))
      (pss_one (ps_ret (pe_callB (cr_all rfl) rfl B.all_ (by decide +kernel) (pa_cons (pe_lc (own := [("_law_k", 12)]) (g := (gName 12)) (tt := tYes) rfl sc_law.nd (pi_range1 rfl B.range (pa_cons (pe_callB call_len_seq rfl B.len (by decide +kernel) (pa_cons (pv 8) pa_nil)) pa_nil)) (blkOk_by (N := n_law) (sc := defScope s_law) (by decide +kernel)) (fun _ _ _ _ _ => (pg_name (i := 12) sc_law.nd rfl (Or.inl rfl))) (fun _ _ _ _ _ => pts_nil) (fun _ _ _ _ _ => (pe_gfn gd G_law_same (hr.mono (by omega)) rfl (pa_cons (pe_ix ix_list (pv 8) (pv 12) (fun _ _ => rfl)) (pa_cons (pe_ix ix_list (pv 9) (pv 12) (fun _ _ => rfl)) pa_nil))))) pa_nil)))))))))))))))))))))
end
end My


namespace My
open PySem PySem.Spec PyProof.Rows L2
/-! ### a def at an address that is found by a path of its own -/
structure AtD where
  at_ : PySem.W.Frag → Addr
  name : Str
  qual : Str
  params : Arguments
  body : List Stmt
  scope : Scope
def AtD.see (K : PySem.W.Frag) (d : AtD) : He.FnW := match K.lookup (d.at_ K) with
  | some ⟨_, _, .func z, _⟩ => some (z.name, z.qualname, z.params, z.body, z.scope, z.globals, z.closure, z.builtins)
  | _ => none
def AtD.val (d : AtD) : He.FnW := some (d.name, d.qual, d.params, .stmts d.body, d.scope, mainGlobals, [], builtinsNs)
def AtD.ok (K : PySem.W.Frag) (d : AtD) : Bool := PySem.W.keepIn K (.ref (d.at_ K)) && (match K.lookup (d.at_ K) with
  | some ⟨_, _, .func z, _⟩ => PySem.W.codeIn K z.code d.qual && (He.dflB K z.defaults [] && He.kwdB K z.kwdefaults [])
  | _ => false)
theorem AtD.funD {K : PySem.W.Frag} {d : AtD} (e : d.see K = d.val) (c : d.ok K = true) : ∃ fd, FunD K d.name d.qual d.params d.body d.scope [] [] (d.at_ K) fd := by
  obtain ⟨kp, c2⟩ := Bool.and_eq_true_iff.mp c
  unfold AtD.see at e
  cases q : K.lookup (d.at_ K) with
  | none => rw [q] at c2; cases c2
  | some o =>
    obtain ⟨oc, od, dt, osl⟩ := o
    rw [q] at c2 e
    cases dt with
    | func z =>
      obtain ⟨a1, a2, a3, a4, a5, a6, a7, a8, a9, a10, a11, a12, a13, a14, a15⟩ := z
      have e2 : (some (a1, a2, a3, a4, a5, a6, a7, a15) : He.FnW) = some (d.name, d.qual, d.params, .stmts d.body, d.scope, mainGlobals, [], builtinsNs) := e
      simp only [Option.some.injEq, Prod.mk.injEq] at e2
      obtain ⟨q1, q2, q3, q4, q5, q6, q7, q8⟩ := e2
      subst q1 q2 q3 q4 q5 q6 q7 q8
      have c3 : (PySem.W.codeIn K a13 d.qual && (He.dflB K a8 [] && He.kwdB K a9 [])) = true := c2
      obtain ⟨k1, k2⟩ := Bool.and_eq_true_iff.mp c3
      obtain ⟨k3, k4⟩ := Bool.and_eq_true_iff.mp k2
      exact ⟨_, ⟨oc, od, a8, a9, a10, a11, a12, a13, a14, osl, rfl, q, k1, He.dflB_ok k3, He.kwdB_ok k4⟩, kp⟩
    | _ => cases c2
/-! ### the own class -/
def bO (a b : Option (Option Value)) : Bool := decide (a = b)
def bB (a b : Option Bool) : Bool := decide (a = b)
def clsB (K : PySem.W.Frag) (C : Addr) : Bool := [bO (PySem.W.findIn K (.ref C) "__class__") (some (some (.builtin "object.__class__"))), bO (PySem.W.specialIn K (.builtin "object.__class__") "__get__") (some (some (.builtin "getset_descriptor.__get__"))), bB (PySem.W.takesIn K (.builtin "object.__class__")) (some true), bB (PySem.W.mroIn K C (.type "object")) (some true), bB (PySem.W.kitOne K (.ref C) (.ref C)) (some true),
  notBs K C, firstNo K C, PySem.W.selfFirst K C, bB (PySem.W.subIn K (.type "int") (.ref C)) (some false), bB (PySem.W.subIn K (.ref C) (.type "int")) (some false), subsNo K C, bO (PySem.W.findIn K (.ref C) "__len__") (some none), bO (PySem.W.findIn K (.ref C) "__length_hint__") (some none)].all id
theorem clsB_ok {K : PySem.W.Frag} {C : Addr} (c : Cls K C) (h : clsB K C = true) : ClsK K C := by
  have g : ∀ b ∈ _, id b = true := List.all_eq_true.mp h
  exact ⟨c, ⟨c, of_decide_eq_true (g _ (List.mem_of_getElem? (i := 0) rfl)), of_decide_eq_true (g _ (List.mem_of_getElem? (i := 1) rfl)), of_decide_eq_true (g _ (List.mem_of_getElem? (i := 2) rfl)), of_decide_eq_true (g _ (List.mem_of_getElem? (i := 3) rfl)), of_decide_eq_true (g _ (List.mem_of_getElem? (i := 4) rfl))⟩,
    g _ (List.mem_of_getElem? (i := 5) rfl), g _ (List.mem_of_getElem? (i := 6) rfl), g _ (List.mem_of_getElem? (i := 7) rfl), of_decide_eq_true (g _ (List.mem_of_getElem? (i := 8) rfl)), of_decide_eq_true (g _ (List.mem_of_getElem? (i := 9) rfl)), g _ (List.mem_of_getElem? (i := 10) rfl), of_decide_eq_true (g _ (List.mem_of_getElem? (i := 11) rfl)), of_decide_eq_true (g _ (List.mem_of_getElem? (i := 12) rfl))⟩
/-- the getter of a property -/
def getA (K : PySem.W.Frag) (C : Addr) (x : Str) : Addr := match PySem.W.recIn K (He.ma K C x) "property" with
  | some (.ref g :: _) => g
  | _ => 0
def propB (K : PySem.W.Frag) (C : Addr) (x : Str) : Bool := [bO (PySem.W.findIn K (.ref C) x) (some (some (.ref (He.ma K C x)))), bO (PySem.W.specialIn K (.ref (He.ma K C x)) "__get__") (some (some (.builtin "property.__get__"))), bB (PySem.W.takesIn K (.ref (He.ma K C x))) (some true), (match PySem.W.recIn K (He.ma K C x) "property" with
  | some (.ref _ :: _) => true
  | _ => false)].all id
theorem propB_ok {K : PySem.W.Frag} {C : Addr} {x : Str} (h : propB K C x = true) : PropOf K C x (He.ma K C x) (getA K C x) := by
  have g : ∀ b ∈ _, id b = true := List.all_eq_true.mp h
  refine ⟨of_decide_eq_true (g _ (List.mem_of_getElem? (i := 0) rfl)), of_decide_eq_true (g _ (List.mem_of_getElem? (i := 1) rfl)), of_decide_eq_true (g _ (List.mem_of_getElem? (i := 2) rfl)), ?_⟩
  have h4 := g _ (List.mem_of_getElem? (i := 3) rfl)
  unfold getA
  cases q : PySem.W.recIn K (He.ma K C x) "property" with
  | none => rw [q] at h4; cases h4
  | some l =>
    rw [q] at h4
    cases l with
    | nil => cases h4
    | cons a r =>
      cases a with
      | ref z => exact ⟨r, rfl⟩
      | _ => cases h4
/-! ### the head's facts -/
abbrev AlX : Type := He.AlD × List He.FnW × Bool
section
variable (n : Nat) (fa : List He.Fa) (fn : List He.DefD) (gs : List AtD) (xt : PySem.W.Frag → Bool)
def obsX (K : PySem.W.Frag) : AlX := (He.obsD fa fn K, gs.map (AtD.see K), (gs.all fun d => d.ok K) && xt K)
def valX : AlX := (He.valD fn, gs.map AtD.val, true)
def obsXG (g : Addr → Option Obj) : AlX := obsX fa fn gs xt (He.frG g (He.asD g n))
def hookX : PySem.W.Hook where
  α := AlX
  obs := fun s => obsXG n fa fn gs xt s.heap.get?
  val := fun _ => valX fn gs
  says := fun _ h => ∃ K : PySem.W.Frag, K.In h ∧ obsX fa fn gs xt K = valX fn gs
  of := fun _ _ e => ⟨_, He.frG_in, e⟩
  keeps := fun _ _ _ ⟨K, hK, c⟩ k => ⟨K, PySem.W.Frag.In.keeps hK k, c⟩
theorem obsXG_eq {g : Addr → Option Obj} {s : Shared} (h : ∀ a, g a = s.heap.get? a) : obsXG n fa fn gs xt g = (hookX n fa fn gs xt).obs s := by
  obtain rfl : g = s.heap.get? := funext h
  rfl
variable {fa fn gs xt} {K : PySem.W.Frag}
theorem sx_d (c : obsX fa fn gs xt K = valX fn gs) : He.SaysD fa fn K := congrArg (fun z : AlX => z.1) c
theorem sx_x (c : obsX fa fn gs xt K = valX fn gs) : xt K = true := (Bool.and_eq_true_iff.mp (show ((gs.all fun d => d.ok K) && xt K) = true from congrArg (fun z : AlX => z.2.2) c)).2
theorem sx_g (c : obsX fa fn gs xt K = valX fn gs) (i : Nat) {d : AtD} (h : gs[i]? = some d) : ∃ fd, FunD K d.name d.qual d.params d.body d.scope [] [] (d.at_ K) fd := by
  have h1 := (Bool.and_eq_true_iff.mp (show ((gs.all fun d => d.ok K) && xt K) = true from congrArg (fun z : AlX => z.2.2) c)).1
  have e : gs.map (AtD.see K) = gs.map AtD.val := congrArg (fun z : AlX => z.2.1) c
  have e2 : (gs.map (AtD.see K))[i]? = (gs.map AtD.val)[i]? := by rw [e]
  rw [List.getElem?_map, List.getElem?_map, h] at e2
  exact AtD.funD (Option.some.inj e2) (List.all_eq_true.mp h1 d (List.mem_of_getElem? h))
end
def d_law_mixed : He.DefD := ⟨("_law_mixed", none), "_law_mixed", "_law_mixed", defArgs s_law_mixed, defBody s_law_mixed, defScope s_law_mixed, [], []⟩
def d_law_source : He.DefD := ⟨("_law_source", none), "_law_source", "_law_source", defArgs s_law_source, defBody s_law_source, defScope s_law_source, [], []⟩
def d_law_take : He.DefD := ⟨("_law_take", none), "_law_take", "_law_take", defArgs s_law_take, defBody s_law_take, defScope s_law_take, [], []⟩
def d_BadName_init : He.DefD := ⟨("BadName", some "__init__"), "__init__", "BadName.__init__", defArgs s_BadName_init, defBody s_BadName_init, defScope s_BadName_init, [], []⟩
def d_NameTaken_init : He.DefD := ⟨("NameTaken", some "__init__"), "__init__", "NameTaken.__init__", defArgs s_NameTaken_init, defBody s_NameTaken_init, defScope s_NameTaken_init, [], []⟩
def d_UnknownName_init : He.DefD := ⟨("UnknownName", some "__init__"), "__init__", "UnknownName.__init__", defArgs s_UnknownName_init, defBody s_UnknownName_init, defScope s_UnknownName_init, [], []⟩
def d_BadEnds_init : He.DefD := ⟨("BadEnds", some "__init__"), "__init__", "BadEnds.__init__", defArgs s_BadEnds_init, defBody s_BadEnds_init, defScope s_BadEnds_init, [], []⟩
def d_BadWidening_init : He.DefD := ⟨("BadWidening", some "__init__"), "__init__", "BadWidening.__init__", defArgs s_BadWidening_init, defBody s_BadWidening_init, defScope s_BadWidening_init, [], []⟩
def d_BadPosition_init : He.DefD := ⟨("BadPosition", some "__init__"), "__init__", "BadPosition.__init__", defArgs s_BadPosition_init, defBody s_BadPosition_init, defScope s_BadPosition_init, [], []⟩
def d_is_nameR : He.DefD := ⟨("is_name", none), "is_name", "is_name", defArgs s_is_nameR, defBody s_is_nameR, defScope s_is_nameR, [], []⟩
def d_is_step_nameR : He.DefD := ⟨("is_step_name", none), "is_step_name", "is_step_name", defArgs s_is_step_nameR, defBody s_is_step_nameR, defScope s_is_step_nameR, [], []⟩
def d_index_rows : He.DefD := ⟨("index_rows", none), "index_rows", "index_rows", defArgs s_index_rows, defBody s_index_rows, defScope s_index_rows, [], []⟩
def d_Route_init : He.DefD := ⟨("Route", some "__init__"), "__init__", "Route.__init__", defArgs s_Route_init, defBody s_Route_init, defScope s_Route_init, [], []⟩
def d_Route_steps : AtD := ⟨fun K => getA K (He.ga K "Route") "steps", "steps", "Route.steps", defArgs s_Route_steps, defBody s_Route_steps, defScope s_Route_steps⟩
def d_Route_widened : He.DefD := ⟨("Route", some "widened"), "widened", "Route.widened", defArgs s_Route_widened, defBody s_Route_widened, defScope s_Route_widened, [], []⟩
def d_Route_moved : He.DefD := ⟨("Route", some "moved"), "moved", "Route.moved", defArgs s_Route_moved, defBody s_Route_moved, defScope s_Route_moved, [], []⟩
def d_Route_late_steps : He.DefD := ⟨("Route", some "late_steps"), "late_steps", "Route.late_steps", defArgs s_Route_late_steps, defBody s_Route_late_steps, defScope s_Route_late_steps, [], []⟩
def d_Route_late_rows : He.DefD := ⟨("Route", some "late_rows"), "late_rows", "Route.late_rows", defArgs s_Route_late_rows, defBody s_Route_late_rows, defScope s_Route_late_rows, [], []⟩
def d_Route_late_run : He.DefD := ⟨("Route", some "late_run"), "late_run", "Route.late_run", defArgs s_Route_late_run, defBody s_Route_late_run, defScope s_Route_late_run, [], []⟩
def d_law_pick : He.DefD := ⟨("_law_pick", none), "_law_pick", "_law_pick", defArgs s_law_pick, defBody s_law_pick, defScope s_law_pick, [], []⟩
def d_law_fresh : He.DefD := ⟨("_law_fresh", none), "_law_fresh", "_law_fresh", defArgs s_law_fresh, defBody s_law_fresh, defScope s_law_fresh, [], []⟩
def d_law_number : He.DefD := ⟨("_law_number", none), "_law_number", "_law_number", defArgs s_law_number, defBody s_law_number, defScope s_law_number, [], []⟩
def d_law_measure : He.DefD := ⟨("_law_measure", none), "_law_measure", "_law_measure", defArgs s_law_measure, defBody s_law_measure, defScope s_law_measure, [], []⟩
def d_law_step : He.DefD := ⟨("_law_step", none), "_law_step", "_law_step", defArgs s_law_step, defBody s_law_step, defScope s_law_step, [], []⟩
def d_law_steps : He.DefD := ⟨("_law_steps", none), "_law_steps", "_law_steps", defArgs s_law_steps, defBody s_law_steps, defScope s_law_steps, [], []⟩
def d_law_spoiled : He.DefD := ⟨("_law_spoiled", none), "_law_spoiled", "_law_spoiled", defArgs s_law_spoiled, defBody s_law_spoiled, defScope s_law_spoiled, [], []⟩
def d_law_is_name : He.DefD := ⟨("_law_is_name", none), "_law_is_name", "_law_is_name", defArgs s_law_is_name, defBody s_law_is_name, defScope s_law_is_name, [], []⟩
def d_law_due : He.DefD := ⟨("_law_due", none), "_law_due", "_law_due", defArgs s_law_due, defBody s_law_due, defScope s_law_due, [], []⟩
def d_law_rows : He.DefD := ⟨("_law_rows", none), "_law_rows", "_law_rows", defArgs s_law_rows, defBody s_law_rows, defScope s_law_rows, [], []⟩
def d_law_late_run : He.DefD := ⟨("_law_late_run", none), "_law_late_run", "_law_late_run", defArgs s_law_late_run, defBody s_law_late_run, defScope s_law_late_run, [], []⟩
def d_law_wide : He.DefD := ⟨("_law_wide", none), "_law_wide", "_law_wide", defArgs s_law_wide, defBody s_law_wide, defScope s_law_wide, [], []⟩
def d_law_moved : He.DefD := ⟨("_law_moved", none), "_law_moved", "_law_moved", defArgs s_law_moved, defBody s_law_moved, defScope s_law_moved, [], []⟩
def d_law_told : He.DefD := ⟨("_law_told", none), "_law_told", "_law_told", defArgs s_law_told, defBody s_law_told, defScope s_law_told, [], []⟩
def d_law_same : He.DefD := ⟨("_law_same", none), "_law_same", "_law_same", defArgs s_law_same, defBody s_law_same, defScope s_law_same, [], []⟩
def d_law : He.DefD := ⟨("law", none), "law", "law", defArgs s_law, defBody s_law, defScope s_law, [], []⟩
def fns : List He.DefD := [d_law_mixed, d_law_source, d_law_take, d_BadName_init, d_NameTaken_init, d_UnknownName_init, d_BadEnds_init, d_BadWidening_init, d_BadPosition_init, d_is_nameR, d_is_step_nameR, d_index_rows, d_Route_init, d_Route_widened, d_Route_moved, d_Route_late_steps, d_Route_late_rows, d_Route_late_run, d_law_pick, d_law_fresh, d_law_number, d_law_measure, d_law_step, d_law_steps, d_law_spoiled, d_law_is_name, d_law_due, d_law_rows, d_law_late_run, d_law_wide, d_law_moved, d_law_told, d_law_same, d_law]
def gets : List AtD := [d_Route_steps]
def adr (K : PySem.W.Frag) : AD := ⟨He.ga K "Route", He.ga K "OfficeError", He.ga K "BadName", He.ga K "NameTaken", He.ga K "UnknownName", He.ga K "BadEnds", He.ga K "BadWidening", He.ga K "BadPosition"⟩
def facs : List He.Fa := [.free "ValueError",
  .free "abs",
  .free "all",
  .free "int",
  .free "isinstance",
  .free "len",
  .free "list",
  .free "range",
  .free "repr",
  .free "str",
  .free "tuple",
  .free "zip",
  .glo "Route",
  .glo "OfficeError",
  .glo "BadName",
  .glo "NameTaken",
  .glo "UnknownName",
  .glo "BadEnds",
  .glo "BadWidening",
  .glo "BadPosition",
  .str "LETTERS" "abcdefghijklmnopqrstuvwxyz",
  .str "DIGITS" "0123456789",
  .int "LONGEST_NAME" 12,
  .str "FRAME" "frame",
  .cls "Route",
  .mkr "Route",
  .noat "Route" "_steps",
  .noat "BadName" "name",
  .noat "NameTaken" "name",
  .noat "UnknownName" "name",
  .noat "BadEnds" "low",
  .noat "BadEnds" "high",
  .noat "BadWidening" "by",
  .noat "BadPosition" "to",
  .meth "BadName" "__init__",
  .meth "NameTaken" "__init__",
  .meth "UnknownName" "__init__",
  .meth "BadEnds" "__init__",
  .meth "BadWidening" "__init__",
  .meth "BadPosition" "__init__",
  .meth "Route" "widened",
  .meth "Route" "moved",
  .meth "Route" "late_steps",
  .meth "Route" "late_rows",
  .meth "Route" "late_run",
  .glo "_law_mixed",
  .glo "_law_source",
  .glo "_law_take",
  .glo "is_name",
  .glo "is_step_name",
  .glo "index_rows",
  .glo "_law_pick",
  .glo "_law_fresh",
  .glo "_law_number",
  .glo "_law_measure",
  .glo "_law_step",
  .glo "_law_steps",
  .glo "_law_spoiled",
  .glo "_law_is_name",
  .glo "_law_due",
  .glo "_law_rows",
  .glo "_law_late_run",
  .glo "_law_wide",
  .glo "_law_moved",
  .glo "_law_told",
  .glo "_law_same",
  .glo "law"]
def xt (K : PySem.W.Frag) : Bool := (((xcs (adr K)).all fun E => excB K E) && (kitB2 K (xcs (adr K)) && (exmB K (xcs (adr K)) (adr K).OfficeError && (decide (xcs (adr K)).Nodup && (["list", "tuple"] : List String).all fun T => bOb (PySem.W.kitOne K (.ref (adr K).Route) (.type T)) (some false))))) && (clsB K (He.ga K "Route") && (((["steps"] : List Str).all fun x => propB K (He.ga K "Route") x) && (["widened", "moved", "late_steps", "late_rows", "late_run"] : List Str).all fun m => PySem.W.fnIn K (He.ma K (He.ga K "Route") m)))
abbrev R : PySem.W.OpenRow := PySem.W.OpenLaw.row PySem.Challenge.rw_drawingoffice_k55_routes
abbrev qv : Program := PySem.W.view R.prog [37]
def names : List PySem.Str := (["OfficeError", "BadName", "NameTaken", "UnknownName", "BadEnds", "BadWidening", "BadPosition", "LETTERS", "DIGITS", "LONGEST_NAME", "FRAME", "is_name", "is_step_name", "index_rows", "Route", "_law_mixed", "_law_source", "_law_take", "_law_pick", "_law_fresh", "_law_number", "_law_measure", "_law_step", "_law_steps", "_law_spoiled", "_law_is_name", "_law_due", "_law_rows", "_law_late_run", "_law_wide"] : List PySem.Str) ++ (["_law_moved", "_law_told", "_law_same"] : List PySem.Str)
abbrev hk : PySem.W.Hook := hookX 7 facs fns gets xt
def ob (s : PySem.W.SharedT) : AlX := obsXG 7 facs fns gets xt (HandSHeadRun.getT s)
theorem ob_eq (s : PySem.W.SharedT) : ob s = hk.obs s.abs := obsXG_eq _ _ _ _ _ (HandSHeadRun.getT_eq s)
theorem runs (w : World) : HandSHeadRun.RunEq R qv hk ob 4000 names w :=
  PySem.W.byRow2 "special-get-raises" (P := fun w => HandSHeadRun.RunEq R qv hk ob 4000 names w) (fun w => by
    intro os
    kernel_rfl) (fun w => by
    intro os
    kernel_rfl) w
theorem facts {P : Program} {w : World} {K : PySem.W.Frag} {h : Heap} {mg : Str → Option Value} {f : Addr} (X : K.In h) (G : h.Ns mainGlobals mg) (hfa : mg ("law" : Str) = some (.ref f)) (c0 : obsX facs fns gets xt K = valX fns gets) :
    ∃ fd : FuncData, (∀ (s : Shared) (v : Value), BindsTo s fd ⟨[v], []⟩ [("_law_script", v)]) ∧ ∀ base : Heap, K.In base → base.Ns mainGlobals mg → GOk P w K mg base 7 f fd ["_law_script"] (sp_top K) := by
  have c := sx_d c0
  obtain ⟨x0, x1⟩ := Bool.and_eq_true_iff.mp (sx_x c0)
  obtain ⟨y1, x0⟩ := Bool.and_eq_true_iff.mp x0
  obtain ⟨y2, x0⟩ := Bool.and_eq_true_iff.mp x0
  obtain ⟨y3, x0⟩ := Bool.and_eq_true_iff.mp x0
  obtain ⟨y4, y5⟩ := Bool.and_eq_true_iff.mp x0
  have ea : ∀ E ∈ xcs (adr K), ExcAll K E := fun E hE => excB_ok (List.all_eq_true.mp y1 E hE)
  have m_BadName : (adr K).BadName ∈ xcs (adr K) := by simp [xcs]
  have m_NameTaken : (adr K).NameTaken ∈ xcs (adr K) := by simp [xcs]
  have m_UnknownName : (adr K).UnknownName ∈ xcs (adr K) := by simp [xcs]
  have m_BadEnds : (adr K).BadEnds ∈ xcs (adr K) := by simp [xcs]
  have m_BadWidening : (adr K).BadWidening ∈ xcs (adr K) := by simp [xcs]
  have m_BadPosition : (adr K).BadPosition ∈ xcs (adr K) := by simp [xcs]
  obtain ⟨x1, x2⟩ := Bool.and_eq_true_iff.mp x1
  obtain ⟨x2, x3⟩ := Bool.and_eq_true_iff.mp x2
  have B : Txt w K mg (adr K) := ⟨He.free_ok X G (c.fact 0 (f := .free "ValueError") rfl),
    He.free_ok X G (c.fact 1 (f := .free "abs") rfl),
    He.free_ok X G (c.fact 2 (f := .free "all") rfl),
    He.free_ok X G (c.fact 3 (f := .free "int") rfl),
    He.free_ok X G (c.fact 4 (f := .free "isinstance") rfl),
    He.free_ok X G (c.fact 5 (f := .free "len") rfl),
    He.free_ok X G (c.fact 6 (f := .free "list") rfl),
    He.free_ok X G (c.fact 7 (f := .free "range") rfl),
    He.free_ok X G (c.fact 8 (f := .free "repr") rfl),
    He.free_ok X G (c.fact 9 (f := .free "str") rfl),
    He.free_ok X G (c.fact 10 (f := .free "tuple") rfl),
    He.free_ok X G (c.fact 11 (f := .free "zip") rfl),
    He.glo_ok X G (c.fact 12 (f := .glo "Route") rfl),
    He.glo_ok X G (c.fact 13 (f := .glo "OfficeError") rfl),
    He.glo_ok X G (c.fact 14 (f := .glo "BadName") rfl),
    He.glo_ok X G (c.fact 15 (f := .glo "NameTaken") rfl),
    He.glo_ok X G (c.fact 16 (f := .glo "UnknownName") rfl),
    He.glo_ok X G (c.fact 17 (f := .glo "BadEnds") rfl),
    He.glo_ok X G (c.fact 18 (f := .glo "BadWidening") rfl),
    He.glo_ok X G (c.fact 19 (f := .glo "BadPosition") rfl),
    He.str_ok X G (c.fact 20 (f := .str "LETTERS" "abcdefghijklmnopqrstuvwxyz") rfl),
    He.str_ok X G (c.fact 21 (f := .str "DIGITS" "0123456789") rfl),
    He.int_ok X G (c.fact 22 (f := .int "LONGEST_NAME" 12) rfl),
    He.str_ok X G (c.fact 23 (f := .str "FRAME" "frame") rfl)⟩
  have Z : ClsK K (adr K).Route := clsB_ok (He.cls_ok (c.fact 24 (f := .cls "Route") rfl)) x1
  have Y : Fl K (adr K) := ⟨(He.noat_ok (c.fact 26 (f := .noat "Route" "_steps") rfl)), exmB_ok y3, fun E hE => (ea E hE).exc, kitB2_ok y2, fun E hE => (ea E hE).ve, of_decide_eq_true (List.all_eq_true.mp y5 "list" (by decide)), of_decide_eq_true (List.all_eq_true.mp y5 "tuple" (by decide)), of_decide_eq_true y4, (ea _ m_BadName).xf, (ea _ m_NameTaken).xf, (ea _ m_UnknownName).xf, (ea _ m_BadEnds).xf, (ea _ m_BadWidening).xf, (ea _ m_BadPosition).xf, (He.noat_ok (c.fact 27 (f := .noat "BadName" "name") rfl)), (He.noat_ok (c.fact 28 (f := .noat "NameTaken" "name") rfl)), (He.noat_ok (c.fact 29 (f := .noat "UnknownName" "name") rfl)), (He.noat_ok (c.fact 30 (f := .noat "BadEnds" "low") rfl)), (He.noat_ok (c.fact 31 (f := .noat "BadEnds" "high") rfl)), (He.noat_ok (c.fact 32 (f := .noat "BadWidening" "by") rfl)), (He.noat_ok (c.fact 33 (f := .noat "BadPosition" "to") rfl))⟩
  have fnm : ∀ m ∈ (["widened", "moved", "late_steps", "late_rows", "late_run"] : List Str), PySem.W.fnIn K (He.ma K (He.ga K "Route") m) = true := List.all_eq_true.mp x3
  have prm : ∀ m ∈ (["steps"] : List Str), propB K (He.ga K "Route") m = true := List.all_eq_true.mp x2
  obtain ⟨fd_law_mixed, F_law_mixed⟩ := c.def_ 0 (d := d_law_mixed) rfl
  obtain ⟨fd_law_source, F_law_source⟩ := c.def_ 1 (d := d_law_source) rfl
  obtain ⟨fd_law_take, F_law_take⟩ := c.def_ 2 (d := d_law_take) rfl
  have G_law_mixed := fun base : Heap => ok_law_mixed (P := P) (base := base) B F_law_mixed (He.glo_ok X G (c.fact 45 (f := .glo "_law_mixed") rfl))
  have G_law_source := fun base : Heap => ok_law_source (P := P) (base := base) B F_law_source (He.glo_ok X G (c.fact 46 (f := .glo "_law_source") rfl))
  have G_law_take := fun base : Heap => okF_weak (ok_law_take (P := P) (base := base) B F_law_take (He.glo_ok X G (c.fact 47 (f := .glo "_law_take") rfl)) (G_law_mixed base)) (sp2 := up K q_law_take) fun _ _ _ _ z => up_take z
  obtain ⟨fd_BadName_init, F_BadName_init⟩ := c.def_ 3 (d := d_BadName_init) rfl
  have G_BadName_init : ∀ base : Heap, OkE P w K mg base (adr K).BadName 1 ["self", "name"] (sp_exc1 (adr K).BadName "name") := fun base => ok_BadName_init B Z Y (ea _ m_BadName).oex (He.meth_ok (c.fact 34 (f := .meth "BadName" "__init__") rfl)).at_ (beq_iff_eq.mp (He.meth_ok (c.fact 34 (f := .meth "BadName" "__init__") rfl)).fn) F_BadName_init 
  obtain ⟨fd_NameTaken_init, F_NameTaken_init⟩ := c.def_ 4 (d := d_NameTaken_init) rfl
  have G_NameTaken_init : ∀ base : Heap, OkE P w K mg base (adr K).NameTaken 1 ["self", "name"] (sp_exc1 (adr K).NameTaken "name") := fun base => ok_NameTaken_init B Z Y (ea _ m_NameTaken).oex (He.meth_ok (c.fact 35 (f := .meth "NameTaken" "__init__") rfl)).at_ (beq_iff_eq.mp (He.meth_ok (c.fact 35 (f := .meth "NameTaken" "__init__") rfl)).fn) F_NameTaken_init 
  obtain ⟨fd_UnknownName_init, F_UnknownName_init⟩ := c.def_ 5 (d := d_UnknownName_init) rfl
  have G_UnknownName_init : ∀ base : Heap, OkE P w K mg base (adr K).UnknownName 1 ["self", "name"] (sp_exc1 (adr K).UnknownName "name") := fun base => ok_UnknownName_init B Z Y (ea _ m_UnknownName).oex (He.meth_ok (c.fact 36 (f := .meth "UnknownName" "__init__") rfl)).at_ (beq_iff_eq.mp (He.meth_ok (c.fact 36 (f := .meth "UnknownName" "__init__") rfl)).fn) F_UnknownName_init 
  obtain ⟨fd_BadEnds_init, F_BadEnds_init⟩ := c.def_ 6 (d := d_BadEnds_init) rfl
  have G_BadEnds_init : ∀ base : Heap, OkE P w K mg base (adr K).BadEnds 1 ["self", "low", "high"] (sp_exc2 (adr K).BadEnds "low" "high") := fun base => ok_BadEnds_init B Z Y (ea _ m_BadEnds).oex (He.meth_ok (c.fact 37 (f := .meth "BadEnds" "__init__") rfl)).at_ (beq_iff_eq.mp (He.meth_ok (c.fact 37 (f := .meth "BadEnds" "__init__") rfl)).fn) F_BadEnds_init 
  obtain ⟨fd_BadWidening_init, F_BadWidening_init⟩ := c.def_ 7 (d := d_BadWidening_init) rfl
  have G_BadWidening_init : ∀ base : Heap, OkE P w K mg base (adr K).BadWidening 1 ["self", "by"] (sp_exc1 (adr K).BadWidening "by") := fun base => ok_BadWidening_init B Z Y (ea _ m_BadWidening).oex (He.meth_ok (c.fact 38 (f := .meth "BadWidening" "__init__") rfl)).at_ (beq_iff_eq.mp (He.meth_ok (c.fact 38 (f := .meth "BadWidening" "__init__") rfl)).fn) F_BadWidening_init 
  obtain ⟨fd_BadPosition_init, F_BadPosition_init⟩ := c.def_ 8 (d := d_BadPosition_init) rfl
  have G_BadPosition_init : ∀ base : Heap, OkE P w K mg base (adr K).BadPosition 1 ["self", "to"] (sp_exc1 (adr K).BadPosition "to") := fun base => ok_BadPosition_init B Z Y (ea _ m_BadPosition).oex (He.meth_ok (c.fact 39 (f := .meth "BadPosition" "__init__") rfl)).at_ (beq_iff_eq.mp (He.meth_ok (c.fact 39 (f := .meth "BadPosition" "__init__") rfl)).fn) F_BadPosition_init 
  obtain ⟨fd_is_nameR, F_is_nameR⟩ := c.def_ 9 (d := d_is_nameR) rfl
  have G_is_nameR : ∀ base : Heap, OkF P w K mg base "is_name" 1 ["text"] (up K (q_is_nameR)) := fun base => ok_is_nameR B Z Y F_is_nameR (He.glo_ok X G (c.fact 48 (f := .glo "is_name") rfl)) 
  obtain ⟨fd_is_step_nameR, F_is_step_nameR⟩ := c.def_ 10 (d := d_is_step_nameR) rfl
  have G_is_step_nameR : ∀ base : Heap, OkF P w K mg base "is_step_name" 2 ["text"] (up K (q_is_step_nameR)) := fun base => ok_is_step_nameR B Z Y F_is_step_nameR (He.glo_ok X G (c.fact 49 (f := .glo "is_step_name") rfl)) (G_is_nameR base)
  obtain ⟨fd_index_rows, F_index_rows⟩ := c.def_ 11 (d := d_index_rows) rfl
  have G_index_rows : ∀ base : Heap, OkF P w K mg base "index_rows" 1 ["sizes"] (upL K (q_index_rows)) := fun base => ok_index_rows B Z Y F_index_rows (He.glo_ok X G (c.fact 50 (f := .glo "index_rows") rfl)) 
  obtain ⟨fd_Route_init, F_Route_init⟩ := c.def_ 12 (d := d_Route_init) rfl
  have G_Route_init : ∀ base : Heap, OkIX P w K mg base (adr K).Route 3 ["self", "steps"] (upIC K (adr K).Route (q_Route_init (adr K))) := fun base => ok_Route_init B Z Y (He.mkr_ok (c.fact 25 (f := .mkr "Route") rfl)) F_Route_init (G_is_step_nameR base) (G_BadName_init base) (G_NameTaken_init base) (G_BadEnds_init base)
  obtain ⟨fd_Route_steps, F_Route_steps⟩ := sx_g c0 0 (d := d_Route_steps) rfl
  have G_Route_steps : ∀ base : Heap, OkP P w K mg base (adr K).Route "steps" 1 ["self"] (upL K (q_Route_steps (adr K))) := fun base => ok_Route_steps B Z Y (propB_ok (prm "steps" (by decide))) F_Route_steps 
  obtain ⟨fd_Route_widened, F_Route_widened⟩ := c.def_ 13 (d := d_Route_widened) rfl
  have G_Route_widened : ∀ base : Heap, OkMK P w K mg base (adr K).Route "widened" 5 ["self", "by"] ["by"] (upX K (q_Route_widened (adr K))) := fun base => ok_Route_widened B Z Y (He.meth_ok (c.fact 40 (f := .meth "Route" "widened") rfl)) (fnm "widened" (by decide)) F_Route_widened (G_BadWidening_init base) (G_Route_init base)
  obtain ⟨fd_Route_moved, F_Route_moved⟩ := c.def_ 14 (d := d_Route_moved) rfl
  have G_Route_moved : ∀ base : Heap, OkMK P w K mg base (adr K).Route "moved" 5 ["self", "name", "to"] ["to"] (upX K (q_Route_moved (adr K))) := fun base => ok_Route_moved B Z Y (He.meth_ok (c.fact 41 (f := .meth "Route" "moved") rfl)) (fnm "moved" (by decide)) F_Route_moved (G_UnknownName_init base) (G_BadPosition_init base) (G_Route_init base)
  obtain ⟨fd_Route_late_steps, F_Route_late_steps⟩ := c.def_ 15 (d := d_Route_late_steps) rfl
  have G_Route_late_steps : ∀ base : Heap, OkM P w K mg base (adr K).Route "late_steps" 1 ["self"] (up K (q_Route_late_steps (adr K))) := fun base => ok_Route_late_steps B Z Y (He.meth_ok (c.fact 42 (f := .meth "Route" "late_steps") rfl)) (fnm "late_steps" (by decide)) F_Route_late_steps 
  obtain ⟨fd_Route_late_rows, F_Route_late_rows⟩ := c.def_ 16 (d := d_Route_late_rows) rfl
  have G_Route_late_rows : ∀ base : Heap, OkM P w K mg base (adr K).Route "late_rows" 2 ["self"] (upL K (q_Route_late_rows (adr K))) := fun base => ok_Route_late_rows B Z Y (He.meth_ok (c.fact 43 (f := .meth "Route" "late_rows") rfl)) (fnm "late_rows" (by decide)) F_Route_late_rows (G_index_rows base) (G_Route_late_steps base)
  obtain ⟨fd_Route_late_run, F_Route_late_run⟩ := c.def_ 17 (d := d_Route_late_run) rfl
  have G_Route_late_run : ∀ base : Heap, OkM P w K mg base (adr K).Route "late_run" 2 ["self", "row"] (up K (q_Route_late_run (adr K))) := fun base => ok_Route_late_run B Z Y (He.meth_ok (c.fact 44 (f := .meth "Route" "late_run") rfl)) (fnm "late_run" (by decide)) F_Route_late_run (G_Route_late_steps base)
  obtain ⟨fd_law_pick, F_law_pick⟩ := c.def_ 18 (d := d_law_pick) rfl
  have G_law_pick : ∀ base : Heap, OkF P w K mg base "_law_pick" 3 ["_law_draws", "_law_rows_here"] (upC K (q_law_pick)) := fun base => ok_law_pick B Z Y F_law_pick (He.glo_ok X G (c.fact 51 (f := .glo "_law_pick") rfl)) (G_law_take base)
  obtain ⟨fd_law_fresh, F_law_fresh⟩ := c.def_ 19 (d := d_law_fresh) rfl
  have G_law_fresh : ∀ base : Heap, OkF P w K mg base "_law_fresh" 4 ["_law_draws", "_law_names"] (upC K (q_law_fresh)) := fun base => ok_law_fresh B Z Y F_law_fresh (He.glo_ok X G (c.fact 52 (f := .glo "_law_fresh") rfl)) (G_law_take base) (G_law_pick base)
  obtain ⟨fd_law_number, F_law_number⟩ := c.def_ 20 (d := d_law_number) rfl
  have G_law_number : ∀ base : Heap, OkF P w K mg base "_law_number" 3 ["_law_draws"] (up K (q_law_number)) := fun base => ok_law_number B Z Y F_law_number (He.glo_ok X G (c.fact 53 (f := .glo "_law_number") rfl)) (G_law_take base)
  obtain ⟨fd_law_measure, F_law_measure⟩ := c.def_ 21 (d := d_law_measure) rfl
  have G_law_measure : ∀ base : Heap, OkF P w K mg base "_law_measure" 4 ["_law_draws", "_law_name"] (up K (q_law_measure)) := fun base => ok_law_measure B Z Y F_law_measure (He.glo_ok X G (c.fact 54 (f := .glo "_law_measure") rfl)) (G_law_number base) (G_law_pick base) (G_law_take base)
  obtain ⟨fd_law_step, F_law_step⟩ := c.def_ 22 (d := d_law_step) rfl
  have G_law_step : ∀ base : Heap, OkF P w K mg base "_law_step" 5 ["_law_draws", "_law_kind", "_law_name"] (up K (q_law_step)) := fun base => ok_law_step B Z Y F_law_step (He.glo_ok X G (c.fact 55 (f := .glo "_law_step") rfl)) (G_law_measure base) (G_law_take base) (G_law_pick base)
  obtain ⟨fd_law_steps, F_law_steps⟩ := c.def_ 23 (d := d_law_steps) rfl
  have G_law_steps : ∀ base : Heap, OkF P w K mg base "_law_steps" 6 ["_law_draws"] (up K (q_law_steps)) := fun base => ok_law_steps B Z Y F_law_steps (He.glo_ok X G (c.fact 56 (f := .glo "_law_steps") rfl)) (G_law_pick base) (G_law_fresh base) (G_law_take base) (G_law_step base)
  obtain ⟨fd_law_spoiled, F_law_spoiled⟩ := c.def_ 24 (d := d_law_spoiled) rfl
  have G_law_spoiled : ∀ base : Heap, OkF P w K mg base "_law_spoiled" 4 ["_law_draws", "_law_rows_here"] (up K (q_law_spoiled)) := fun base => ok_law_spoiled B Z Y F_law_spoiled (He.glo_ok X G (c.fact 57 (f := .glo "_law_spoiled") rfl)) (G_law_take base) (G_law_pick base)
  obtain ⟨fd_law_is_name, F_law_is_name⟩ := c.def_ 25 (d := d_law_is_name) rfl
  have G_law_is_name : ∀ base : Heap, OkF P w K mg base "_law_is_name" 1 ["_law_word"] (up K (q_law_is_name)) := fun base => ok_law_is_name B Z Y F_law_is_name (He.glo_ok X G (c.fact 58 (f := .glo "_law_is_name") rfl)) 
  obtain ⟨fd_law_due, F_law_due⟩ := c.def_ 26 (d := d_law_due) rfl
  have G_law_due : ∀ base : Heap, OkF P w K mg base "_law_due" 2 ["_law_rows_here"] (up K (q_law_due)) := fun base => ok_law_due B Z Y F_law_due (He.glo_ok X G (c.fact 59 (f := .glo "_law_due") rfl)) (G_law_is_name base)
  obtain ⟨fd_law_rows, F_law_rows⟩ := c.def_ 27 (d := d_law_rows) rfl
  have G_law_rows : ∀ base : Heap, OkF P w K mg base "_law_rows" 1 ["_law_rows_here"] (up K (q_law_rows)) := fun base => ok_law_rows B Z Y F_law_rows (He.glo_ok X G (c.fact 60 (f := .glo "_law_rows") rfl)) 
  obtain ⟨fd_law_late_run, F_law_late_run⟩ := c.def_ 28 (d := d_law_late_run) rfl
  have G_law_late_run : ∀ base : Heap, OkF P w K mg base "_law_late_run" 1 ["_law_rows_here", "_law_row"] (up K (q_law_late_run)) := fun base => ok_law_late_run B Z Y F_law_late_run (He.glo_ok X G (c.fact 61 (f := .glo "_law_late_run") rfl)) 
  obtain ⟨fd_law_wide, F_law_wide⟩ := c.def_ 29 (d := d_law_wide) rfl
  have G_law_wide : ∀ base : Heap, OkF P w K mg base "_law_wide" 1 ["_law_rows_here", "_law_number_here"] (up K (q_law_wide)) := fun base => ok_law_wide B Z Y F_law_wide (He.glo_ok X G (c.fact 62 (f := .glo "_law_wide") rfl)) 
  obtain ⟨fd_law_moved, F_law_moved⟩ := c.def_ 30 (d := d_law_moved) rfl
  have G_law_moved : ∀ base : Heap, OkF P w K mg base "_law_moved" 1 ["_law_rows_here", "_law_name", "_law_number_here"] (up K (q_law_moved)) := fun base => ok_law_moved B Z Y F_law_moved (He.glo_ok X G (c.fact 63 (f := .glo "_law_moved") rfl)) 
  obtain ⟨fd_law_told, F_law_told⟩ := c.def_ 31 (d := d_law_told) rfl
  have G_law_told : ∀ base : Heap, OkF P w K mg base "_law_told" 6 ["_law_base", "_law_rows_here", "_law_name", "_law_number_here"] (upC K (q_law_told (adr K))) := fun base => ok_law_told B Z Y F_law_told (He.glo_ok X G (c.fact 64 (f := .glo "_law_told") rfl)) (G_Route_init base) (G_Route_widened base) (G_Route_moved base)
  obtain ⟨fd_law_same, F_law_same⟩ := c.def_ 32 (d := d_law_same) rfl
  have G_law_same : ∀ base : Heap, OkG P w K mg base "_law_same" 3 ["_law_base", "_law_due_here"] (up K (q_law_same (adr K))) := fun base => ok_law_same B Z Y F_law_same (He.glo_ok X G (c.fact 65 (f := .glo "_law_same") rfl)) (G_Route_steps base) (G_Route_late_rows base) (G_law_rows base) (G_Route_late_run base) (G_law_late_run base)
  obtain ⟨fd, F⟩ := c.def_ 33 (d := d_law) rfl
  have e := hfa.symm.trans (He.glo_ok X G (c.fact 66 (f := .glo "law") rfl))
  cases e
  have b := FunD.bindsA (ps := ["_law_script"]) F fun _ _ _ _ _ _ us hl => match us, hl with | [_], _ => rfl
  refine ⟨fd, fun s v => b s [v] rfl, fun base _ _ => ?_⟩
  exact okAt_law B Z Y F (G_law_source base) (G_law_steps base) (G_law_take base) (G_law_spoiled base) (G_law_due base) (G_law_told base) (G_law_same base) (G_law_pick base) (G_law_wide base) (G_law_moved base)
end My
open PySem PySem.W PySem.Calls PyProof.Rows
theorem PySem.Challenge.cw_drawingoffice_k55_routes_holds : PySem.Challenge.rw_drawingoffice_k55_routes.Holds := by
  w_on; o_law
  refine HandSHeadRun.head_any (r := My.R) (q := My.qv) (H := My.hk) (ob := My.ob) (M := 4000) (loose := My.names) (d := HandSHeadRun.topDef My.R.prog 37) (kwd := []) My.ob_eq
    (by kernel_rfl) (fun s => by kernel_rfl) My.runs (by kernel_rfl) (by kernel_rfl) (by kernel_rfl) (by rfl) (by first | assumption | decide +kernel) (by decide +kernel) ⟨rfl, rfl, rfl, rfl, rfl, by decide +kernel⟩ ?hw ?hc
  case hw => w_witness2
  case hc =>
    refine My.walk_G (l := PySem.Challenge.rw_drawingoffice_k55_routes) (n := 63) (k := 7) (x := "_law_script") rfl (by decide) (by kernel_rfl) ⟨rfl, by decide, by decide⟩ ?F
    intro w mg fa h Y G hm0
    obtain ⟨K, KX, c⟩ := Y
    have hm : mg ("law" : PySem.Str) = some (.ref fa) := by
      have e : (HandSHeadRun.topDef My.R.prog 37).name = ("law" : PySem.Str) := by kernel_rfl
      rw [← e]
      exact hm0
    obtain ⟨fd, hb, hF⟩ := My.facts (P := (PySem.Challenge.rw_drawingoffice_k55_routes).prog) (w := w) KX G hm c
    exact ⟨K, fd, My.sp_top K, KX, hb, fun H a ns hl hbits hS => ⟨a, ns, rfl, hS, fun _ => rfl⟩, hF⟩
