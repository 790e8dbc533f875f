import PyProof.Rows.All
import Wide.All
import OpenK.AllK
import Wide.FinOn
import KE.KStateDown
import Lean
import PyProof.ReprRoads
import HandS.ForMost
import HandS.More
import HandS.Wide
import HandS.EndBits
import HandS.FStr
import HandS.RaiseMore
import HandS.IsInst
import HandS.Zip
import HandS.Walk
import HandS.Evl
import HandS.Defaults
import HandS.WordsExc
import HandS.Head0
import HandS.Head1
import HandS.Head2
import HandS.HeadEnd
import HandS.HeadHook1
import HandS.HeadHook2
import HandS.HeadHook3
import HandS.Iter
import HandS.TupAny
import HandS.Property
import HandS.Conv
import KE.KOwnIter
import HandS.IterVal
import KE.SortData
import HandS.OwnEq
import HandS.OwnIter
import HandS.DictComp
import HandS.Style
import HandS.Codes
import HandS.Exc
import HandS.ExcInit
import HandS.ExcField
import HandS.ExcIs
import HandS.ExcOwn
import KE.KExcIs
import HandS.Comp
import KE.GoesMore
import KE.GoesZip
import KE.DataEq
import KE.LtSeq
import KE.LtData
import PySem.Challenge.RW_drawingoffice_k25_limits_and_sheets
set_option Elab.async false
set_option linter.all false
set_option maxRecDepth 100000
set_option maxHeartbeats 0
/-! Pre: short words for the readings that gen.py prints; calls by name; a def that knows that no repr is under way; the law's end. -/
namespace My
open PySem PySem.Spec PyProof.Rows L2

/-! ### readings by name -/
abbrev rAddI : R2 := rI0 fun i j => .int (i + j)
abbrev rSubI : R2 := rI0 fun i j => .int (i - j)
abbrev rMulI : R2 := rI CMul fun i j => .int (i * j)
abbrev rModI : R2 := rI (fun _ j => 0 < j) fun i j => .int (i % j)
abbrev rDivI : R2 := rI CDivW fun i j => .int (i / j)
abbrev rPowI : R2 := rI CPow fun i j => .int (i ^ j.toNat)
abbrev rLtI : R2 := rI0 fun i j => .bl (decide (i < j))
abbrev rLeI : R2 := rI0 fun i j => .bl (decide (i ≤ j))
abbrev rGtI : R2 := rI0 fun i j => .bl (decide (j < i))
abbrev rGeI : R2 := rI0 fun i j => .bl (decide (j ≤ i))
def rCatS : R2 := fun x y H Q => ∃ i j, x = .str i ∧ y = .str j ∧ i.length + j.length ≤ sizeLine ∧ Q (.str (i ++ j)) H
def rLtS : R2 := fun x y H Q => ∃ i j, x = .str i ∧ y = .str j ∧ Q (.bl (decide (i.cps.toList < j.cps.toList))) H
def rLeS : R2 := fun x y H Q => ∃ i j, x = .str i ∧ y = .str j ∧ Q (.bl (!decide (j.cps.toList < i.cps.toList))) H
def rInSign : R2 := fun x y H Q => ∃ (c : Nat) (z : Str), x = .str ⟨#[c]⟩ ∧ y = .str z ∧ Q (.bl (decide (c ∈ z.cps.toList))) H
def rNotInSign : R2 := fun x y H Q => ∃ (c : Nat) (z : Str), x = .str ⟨#[c]⟩ ∧ y = .str z ∧ Q (.bl (!decide (c ∈ z.cps.toList))) H
def rIsN : R2 := fun x y H Q => y = .non ∧ Q (.bl (decide (x = .non))) H
def rNotN : R2 := fun x y H Q => y = .non ∧ Q (.bl (!decide (x = .non))) H
def rNotInKd (K : PySem.W.Frag) (d : Addr) : R2 := fun x y H Q => ∃ (z : Str) (r : Option Value), x = .str z ∧ y = .ref d ∧ PySem.W.nsIn K d z = some r ∧ Q (.bl (!r.isSome)) H
def rInKd (K : PySem.W.Frag) (d : Addr) : R2 := fun x y H Q => ∃ (z : Str) (r : Option Value), x = .str z ∧ y = .ref d ∧ PySem.W.nsIn K d z = some r ∧ Q (.bl r.isSome) H
abbrev CR1 := List V → Hp → VK → Prop
def cLenS : CR1 := fun xs H Q => ∃ z, xs = [.str z] ∧ z.length ≤ sizeLine ∧ Q (.int z.length) H
def cLenQ (K : PySem.W.Frag) : CR1 := fun xs H Q => ∃ p ys, xs = [.ref p] ∧ (SqL K H p ys ∨ SqT K H p ys) ∧ Q (.int ys.length) H
def cAbs : CR1 := fun xs H Q => ∃ i, xs = [.int i] ∧ Q (.int (if i < 0 then -i else i)) H
def cInt1 : CR1 := fun xs H Q => (∃ i, xs = [.int i] ∧ Q (.int i) H) ∨ ∃ k, xs = [.bl k] ∧ Q (.int (if k then 1 else 0)) H
def cIntS : CR1 := fun xs H Q => ∃ a n, xs = [.str a] ∧ PySem.intText? a = some n ∧ a.length ≤ 640 ∧ Q (.int n) H
def cStrI : CR1 := fun xs H Q => ∃ i : Int, xs = [.int i] ∧ i.natAbs.log2 < 1920 ∧ Q (.str (toString i)) H
def cStrS : CR1 := fun xs H Q => ∃ a, xs = [.str a] ∧ Q (.str a) H
def cTuple (K : PySem.W.Frag) : CR1 := fun xs H Q => ∃ p ys, xs = [.ref p] ∧ ((SqL K H p ys ∧ ∀ l, H l = none → Q (.ref l) (upd H l (.tup ys))) ∨ (SqT K H p ys ∧ Q (.ref p) H))
def cList (K : PySem.W.Frag) : CR1 := fun xs H Q => ∃ p ys, xs = [.ref p] ∧ (SqL K H p ys ∨ SqT K H p ys) ∧ ∀ l, H l = none → Q (.ref l) (upd H l (.lst ys))
abbrev MR1 := V → List V → Hp → VK → Prop
def mJoin (K : PySem.W.Frag) : MR1 := fun x xs H Q => ∃ a p, ∃ ys : List Str, x = .str a ∧ xs = [.ref p] ∧ (SqL K H p (ys.map V.str) ∨ SqT K H p (ys.map V.str)) ∧ (ys.map (·.length)).sum + ys.length * a.length ≤ 16777216 ∧ Q (.str (Txt.join a ys)) H
def mSplit : MR1 := fun x xs H Q => ∃ a b, x = .str a ∧ xs = [.str b] ∧ (b.length == 0) = false ∧ a.length + 2 ≤ sizeLine ∧ rNewStrs (Txt.split a b) H Q
def mPartition : MR1 := fun x xs H Q => ∃ a b, x = .str a ∧ xs = [.str b] ∧ (b.length == 0) = false ∧ a.length ≤ sizeLine ∧ ∀ p, H p = none → Q (.ref p) (upd H p (.tup [.str (Txt.partition a b).1, .str (Txt.partition a b).2.1, .str (Txt.partition a b).2.2]))
def tJoin (ts : List TE) : TE := fun σ H Q => tJs ts Str.empty σ H fun out H1 => Q (.str out) H1

/-! ### repr of data: the text is a function of the data -/
def cRepr (K : PySem.W.Frag) : CR1 := fun xs H Q => ∃ (a : Addr) (d : PyData), xs = [.ref a] ∧ Dp K H (.ref a) d ∧ PyData.showable d = true ∧ d.hasDict = false ∧ d.depth ≤ 60 ∧ d.shown.length ≤ sizeLine ∧ Q (.str d.shown) H
theorem call_repr_dp {X : Cx} (hg : X.A.guards = some []) (hu : X.A.units + 64 < cLine) : CallR X (.builtin "repr") (cRepr X.K) := by
  intro pins s σ H xs us Q I r h
  obtain ⟨a, d, rfl, hd, h1, h2, h3, h4, q⟩ := h
  obtain ⟨u, rfl, ru⟩ := vals1 r
  cases ru
  obtain ⟨as, rd⟩ := Dp.reads I d (.ref a) (.ref a) hd rfl
  refine repr_of_reads' rd h1 (fun z => ?_) hg (by omega) (fun _ _ z => z) (fun hp t tk hk => ?_) h4
  · rw [h2] at z
    cases z
  · exact ⟨.str d.shown, H, I.kept hk, ⟨t, rfl⟩, q⟩

section
variable {X : Cx}
/-! ### constants of the module -/
theorem pe_gstr {x z : Str} {pos : Pos} (hm : ∃ t, X.mg x = some (.str z t)) (hg : Gl X x := by rfl) (hd : (x == ("__debug__" : Str)) = false := by decide) : PE X (.Name x pos) (tC (.str z)) := by
  obtain ⟨t, e⟩ := hm
  exact pe_glob hg e ⟨t, rfl⟩ hd
theorem pe_gint {x : Str} {i : Int} {pos : Pos} (hm : ∃ t, X.mg x = some (.int i t)) (hg : Gl X x := by rfl) (hd : (x == ("__debug__" : Str)) = false := by decide) : PE X (.Name x pos) (tC (.int i)) := by
  obtain ⟨t, e⟩ := hm
  exact pe_glob hg e ⟨t, rfl⟩ hd
end

/-! ### a written dict with text keys -/
def IsKD (K : PySem.W.Frag) (w : World) (d : Addr) : Prop := ∃ es n, KDict K w d es n
section
variable {X : Cx}
theorem op_kdNotIn {d : Addr} (D : IsKD X.K X.w d) : OpR X (compareOp .NotIn) (rNotInKd X.K d) := by
  obtain ⟨es, n, D⟩ := D
  exact op_notIn_kd D
theorem op_kdIn {d : Addr} (D : IsKD X.K X.w d) : OpR X (compareOp .In) (rInKd X.K d) := by
  obtain ⟨es, n, D⟩ := D
  exact op_in_kd D
def rItemKd (K : PySem.W.Frag) (d : Addr) : R2 := fun x y H Q => ∃ (z : Str) (v : V) (u : Value), x = .ref d ∧ y = .str z ∧ PySem.W.nsIn K d z = some (some u) ∧ RelV v u ∧ Q v H
theorem ix_kd {d : Addr} (D : IsKD X.K X.w d) : IxR X (rItemKd X.K d) := by
  intro value slice pins s σ H x y v u Q I rx ry h hs
  obtain ⟨es, n, D⟩ := D
  obtain ⟨z, v0, u0, ex, ey, e, r, q⟩ := h
  exact ix_kdict value slice pins s σ H x y v u Q I rx ry ⟨d, z, v0, ex, ey, ⟨es, n, u0, D.at_, D.lit, e, r⟩, q⟩ hs
theorem pe_itemKd {d : Addr} {a b : Expr} {ta tb : TE} {pos : Pos} (D : IsKD X.K X.w d) (ha : PE X a ta) (hb : PE X b tb) (hs : PlainIx b := by exact fun _ _ => rfl) : PE X (.Subscript a b pos) (tOp (rItemKd X.K d) ta tb) :=
  pe_ix (ix_kd D) ha hb hs
/-- d.get(k, x) -/
def tGetKd (K : PySem.W.Frag) (d : Addr) (td ty tx : TE) : TE := fun σ H Q => td σ H fun x H1 => x = .ref d ∧ ty σ H1 fun y H2 => tx σ H2 fun z H3 => ∃ (k : Str) (o : Option Value), y = .str k ∧ PySem.W.nsIn K d k = some o ∧
  ((o = none ∧ Q z H3) ∨ ∃ v u, o = some u ∧ RelV v u ∧ Q v H3)
theorem pe_getKd {d : Addr} {o e f : Expr} {apos cpos : Pos} {td ty tx : TE} (D : IsKD X.K X.w d) (m : M2 X o "get" apos e f cpos) (ho : PE X o td) (he : PE X e ty) (hf : PE X f tx) : PE X (.Call (.Attribute o "get" apos) [e, f] [] cpos) (tGetKd X.K d td ty tx) := by
  obtain ⟨es, n, D⟩ := D
  refine ⟨fun pins s σ H Q I h => ?_⟩
  have ht : ∀ (s1 : Shared) (H1 : Hp), Inv X pins σ H1 s1 → s1.TypeIs (.ref d) "dict" := fun s1 H1 I1 => kd_type D I1
  refine wpAny_Call_method m.base m.few m.line PySem.F.plainAttrs_dict PySem.F.slot_dict_get PySem.F.type_dict_get (thn (ho.run pins s σ H _ I h) fun u s1 hv => ?_)
  obtain ⟨x, H1, I1, rx, ex, q1⟩ := hv
  subst ex
  obtain rfl : u = Value.ref d := rx
  refine ⟨ht s1 H1 I1, fun a ea => ?_, ?_⟩
  · cases ea
    exact ⟨_, I1.kIn d _ D.at_, rfl⟩
  · rw [m.trees]
    refine Calls.callWith_builtin rfl (Calls.evalArgs_plain (Calls.spliced_cons (thn (he.run pins s1 σ H1 _ I1 q1) fun kv s2 hk => ?_)))
    obtain ⟨y, H2, I2, ry, q2⟩ := hk
    refine Calls.spliced_cons (thn (hf.run pins s2 σ H2 _ I2 q2) fun fv s3 hz => Calls.spliced_nil ?_)
    obtain ⟨z, H3, I3, rz, k, ov, rfl, en, q3⟩ := hz
    obtain ⟨t, rfl⟩ := ry
    have mp := PySem.W.mapOf_K (prog := X.prog) (w := X.w) I3.kIn D.at_ D.lit
    refine call_meetsIn PySem.F.slot_dict_get (ht s3 H3 I3) PySem.F.entry_dict_get (PySem.F.args_dict_get_3 _ _ _) (meets_dict_get_default (strKind X.prog X.w) d (strKind_is X.prog X.w k t) D.low fv) ⟨_, mp, ?_⟩
    rw [PySem.W.find_K D.at_ en]
    rcases q3 with ⟨rfl, q⟩ | ⟨v, u, rfl, rv, q⟩
    · exact ⟨z, H3, I3.tok _, rz, q⟩
    · exact ⟨v, H3, I3.tok _, rv, q⟩
end

/-! ### a def by its name -/
/-- the module's name x is a def that keeps its promise -/
def OkF (P : Program) (w : World) (K : PySem.W.Frag) (mg : Str → Option Value) (base : Heap) (x : Str) (k : Nat) (ps : List Str) (sp : Sp) : Prop :=
  ∃ f fd, mg x = some (.ref f) ∧ PySem.W.keepIn K (.ref f) = true ∧ Binds K fd ps [] ∧ FnOk P w K mg base CX0 k f fd ps sp
section
variable {X : Cx} {x : Str} {k : Nat} {ps : List Str} {sp : Sp} {p pos : Pos} {e : Expr} {es : List Expr} {t : TA}
theorem pe_fn (C : OkF X.prog X.w X.K X.mg X.base x k ps sp) (hr : Room k X.A) (hg : Gl X x) (ha : PA X (e :: es) t) (hdb : (x == ("__debug__" : Str)) = false := by decide)
    (he : starEach (e :: es) X.env = (false, eval e X.env) :: starEach es X.env := by rfl) (hpl : (backTo pos (starEach es X.env)).any (·.1) = false := by rfl) : PE X (.Call (.Name x p) (e :: es) [] pos) (tCall sp [] E0 t) := by
  obtain ⟨f, fd, hm, hk, hb, F⟩ := C
  exact pe_call F hr hg hm hk hb .nil pass0 ha hdb he hpl
theorem pe_fn0 (C : OkF X.prog X.w X.K X.mg X.base x k ps sp) (hr : Room k X.A) (hg : Gl X x) (hdb : (x == ("__debug__" : Str)) = false := by decide) : PE X (.Call (.Name x p) [] [] pos) (tCall sp [] E0 tNil) := by
  obtain ⟨f, fd, hm, hk, hb, F⟩ := C
  exact pe_call0 F hr hg hm hk hb .nil pass0 hdb
end

/-! ### a def that is called where no repr is under way -/
structure GOk (P : Program) (w : World) (K : PySem.W.Frag) (mg : Str → Option Value) (base : Heap) (k : Nat) (f : Addr) (fd : FuncData) (ps : List Str) (sp : Sp) : Prop where
  len : ∀ vs H Q E, sp vs H Q E → vs.length = ps.length
  go : ∀ (A : Around) (outer : List Env) (s : Shared) (H : Hp) (args : Args) (us : List Value) (vs : List V) (Q : VK) (E : XK), A.guards = some [] → Room k A → Env0 P w K mg base A outer s H →
    BindsTo s fd args (ps.zip us) → Vals vs us → sp vs H Q E → codeAny (model P w) A (.call (.ref f) args) (CR CX0 outer P w H s Q E) s
abbrev FnP (K : PySem.W.Frag) (x : Str) (st : Stmt) (f : Addr) (fd : FuncData) : Prop := FunD K x x (defArgs st) (defBody st) (defScope st) [] [] f fd
section
variable {P : Program} {w : World} {K : PySem.W.Frag} {mg : Str → Option Value} {base : Heap}
theorem gok_of {x : Str} {st : Stmt} {f : Addr} {fd : FuncData} {N ps : List Str} {k : Nat} {sp : Sp} (F : FnP K x st f fd) (S : FnScope N ps (defScope st)) (len : ∀ vs H Q E, sp vs H Q E → vs.length = ps.length)
    (hb : ∀ (cdv : Value) (A : Around) (outer : List Env) (s : Shared) (H : Hp) (vs : List V) (Q : VK) (E : XK), A.guards = some [] → Room k (A.deeper (envOfC x (defScope st) s.heap.objs.size f cdv)) → sp vs H Q E →
      ∃ t, PSs (cxOf CX0 P w K mg base N x (defScope st) f cdv A outer s H E) (defBody st) t ∧ t { nx := fun _ H' => Q .non H', rt := Q } (start N vs) H) : GOk P w K mg base (k + 1) f fd ps sp := by
  obtain ⟨oc, od, dV, kV, doc, pm, an, cdv, ct, osl, rfl, lk, hcd, _, _⟩ := F.ex
  refine ⟨len, fun A outer s H args us vs Q E gd hr e0 bt r hsp => ?_⟩
  have hl := len _ _ _ _ hsp
  have kx : K.In s.heap := e0.mod.kin.keeps fun b o e => (e0.bs b o e).1
  have nl : s.heap.NoLimit := e0.mod.nolimit.keeps fun b o e => (e0.bs b o e).1
  refine codeAny_call_function hr.depth (kx _ _ lk) rfl S.co S.gen rfl (PySem.W.codeRec_of kx hcd) (bt _ _ _ _ ?_)
  refine wpAny_newFunctionEnv_cells S.kind (fun y hy => ?_) fun env he s1 z => ?_
  · obtain ⟨n, v⟩ := y
    rcases S.par n (List.of_mem_zip hy).1 with q | q
    · exact .inl q
    · exact .inr ⟨q, PySem.W.cellsFrom_some _ _ _ (.inl q)⟩
  · subst he
    refine ⟨nl.keeps z.toInCall.keep, codeAny_func ?_⟩
    obtain ⟨t, ht, hq⟩ := hb cdv A outer s H vs Q E gd (hr.deeper _) hsp
    have J := inv_start (CX := CX0) (E := E) (mg := mg) (base := base) (P := P) (w := w) (K := K) S hr.hd e0 hl r z
    refine wpAny_mono (ht.run [] s1 (start N vs) H _ J hq) (fun fl s' hs => ?_) fun e s' hs => hs
    cases fl with
    | ret u =>
      obtain ⟨v, σ', H', L, rv, q⟩ := hs
      exact ⟨v, H', L.os, L.bare, L.base, L.hok, rv, q⟩
    | next =>
      obtain ⟨σ', H', L, q⟩ := hs
      exact ⟨V.non, H', L.os, L.bare, L.base, L.hok, rfl, q⟩
    | brk =>
      obtain ⟨_, _, _, q⟩ := hs
      exact q.elim
    | cont =>
      obtain ⟨_, _, _, q⟩ := hs
      exact q.elim
end
def OkG (P : Program) (w : World) (K : PySem.W.Frag) (mg : Str → Option Value) (base : Heap) (x : Str) (k : Nat) (ps : List Str) (sp : Sp) : Prop :=
  ∃ f fd, mg x = some (.ref f) ∧ PySem.W.keepIn K (.ref f) = true ∧ Binds K fd ps [] ∧ GOk P w K mg base k f fd ps sp
section
variable {X : Cx} {x : Str} {k : Nat} {ps : List Str} {sp : Sp} {p pos : Pos} {e : Expr} {es : List Expr} {t : TA}
theorem pe_gfn (gd : X.A.guards = some []) (C : OkG X.prog X.w X.K X.mg X.base x k ps sp) (hr : Room k X.A) (hg : Gl X x) (ha : PA X (e :: es) t) (hdb : (x == ("__debug__" : Str)) = false := by decide)
    (he : starEach (e :: es) X.env = (false, eval e X.env) :: starEach es X.env := by rfl) (hpl : (backTo pos (starEach es X.env)).any (·.1) = false := by rfl) : PE X (.Call (.Name x p) (e :: es) [] pos) (tCall sp [] E0 t) := by
  obtain ⟨f, fd, hm, hk, hb, F⟩ := C
  refine ⟨fun pins s σ H Q I h => wpAny_Call_Name_kw (ld_glob I hg hm ?_ hdb)⟩
  refine PySem.W.callWith_K (h₀ := X.base) I.ok.mod.kin hk (thn (ha.run pos pins s σ H _ I h) fun us s1 hz => ?_) he hpl
  obtain ⟨vs, H1, J, r, q⟩ := hz
  refine ⟨J.kIn, ?_⟩
  have hl : (us ++ []).length = ps.length := by
    rw [← (r.append (.nil : Vals [] [])).length]
    exact F.len _ _ _ _ q
  refine wpAny_call (codeAny_mono (F.go X.A X.stack s1 H1 ⟨us, []⟩ (us ++ []) (vs ++ []) Q E0 gd hr J.env0 (hb s1 us J.kIn hl) (r.append .nil) q) fun fl s' hq => ?_)
  cases fl with
  | error e => exact False.elim hq
  | ok fl =>
    cases fl with
    | ret u => exact J.after hq
    | next => exact False.elim hq
    | brk => exact False.elim hq
    | cont => exact False.elim hq
end
end My


/-! Fin: the law's end for a def that is called where no repr is under way, the script's bits told. -/
namespace My
open PySem PySem.Spec PyProof.Rows L2
section
variable {P : Program} {w : World} {K : PySem.W.Frag} {mg mb : Str → Option Value} {k : Nat} {fa a : Addr} {fd : FuncData} {x : Str} {sp : Sp} {t : Shared} {vs : List Value} {ns : List Int}
/-- from a heap that tracks the script or nothing -/
theorem law_from {H : Hp} (kx : K.In t.heap) (gl : t.heap.Ns mainGlobals mg) (bl : t.heap.Ns builtinsNs mb) (bb : ∀ y : Str, y ≠ "__name__" → mb y = bootBuiltins y) (nl : t.heap.NoLimit) (ge : t.gens = #[])
    (sc : t.heap.get? a = some { cls := .type "list", data := .seq vs.toArray }) (rm : Room k callerA) (F : ∀ bs : Heap, K.In bs → bs.Ns mainGlobals mg → GOk P w K mg bs k fa fd [x] sp)
    (bi : ∀ (s : Shared) (u : Value), BindsTo s fd ⟨[u], []⟩ [(x, u)]) (oh : Only H) (ok : HOk P w H t.heap) (one : ∀ b, H b ≠ none → b = a) (fr : H a ≠ none → K.lookup a = none)
    (pr : sp [.ref a] H (fun v _ => v = .bl true) fun _ _ _ => False) :
    codeAny (model P w) callerA (.call (.ref fa) ⟨[.ref a], []⟩) (fun r t' => r = .ok (.ret (.bool true)) ∧ OldK t.heap t'.heap ∧ t'.os = t.os ∧ AllBare t'.gens) t := by
  have dfree : ∀ b o es n, t.heap.get? b = some o → o.data = .dict es n → H b = none := by
    intro b o es n e d
    cases q : H b with
    | none => rfl
    | some u =>
      obtain rfl := one b (by rw [q]; exact fun z => nomatch z)
      rw [sc] at e
      cases e
      exact absurd d (fun z => nomatch z)
  have nsH : ∀ {b : Addr} {m : Str → Option Value}, t.heap.Ns b m → (hidT t.heap H).Ns b m := by
    rintro b m ⟨o, es, ep, e, d, r⟩
    exact ⟨o, es, ep, hidT_get e (dfree b o es ep e d), d, r⟩
  have kh : K.In (hidT t.heap H) := by
    intro b o e
    refine hidT_get (kx b o e) ?_
    cases q : H b with
    | none => rfl
    | some u =>
      have z : H b ≠ none := by rw [q]; exact fun z => nomatch z
      obtain rfl := one b z
      rw [fr z] at e
      cases e
  have md : Mod K mg (hidT t.heap H) := by
    refine ⟨kh, nsH gl, ⟨mb, nsH bl, bb⟩, ?_⟩
    obtain ⟨mc, c1, c2⟩ := nl
    exact ⟨mc, nsH c1, c2⟩
  have ev : Env0 P w K mg (hidT t.heap H) callerA [] t H :=
    ⟨rfl, md, fun b o e => of_hidT e, Nat.le_of_eq (hidT_size _ _), trivial, fun b m => absurd m (List.not_mem_nil), ok, .of_eq ge⟩
  have run := (F _ kh (nsH gl)).go callerA [] t H ⟨[.ref a], []⟩ [.ref a] [.ref a] _ _ rfl rm ev (bi t (.ref a)) (.cons rfl .nil) pr
  refine codeAny_mono run fun r t' h => ?_
  match r, h with
  | .ok (.ret u), h =>
    obtain ⟨v, H', c1, c2, c3, c4, c5, c6⟩ := h
    cases (show v = .bl true from c6)
    cases (show u = Value.bool true from c5)
    refine ⟨rfl, OldK.of_keep fun b o e => ?_, c1, c2⟩
    rcases oh b with z | ⟨ob, xs, z⟩
    · exact c3.keep b o e z (List.not_mem_nil) (List.not_mem_nil)
    · obtain ⟨g1, _⟩ := ok b _ z
      obtain ⟨g2, _⟩ := c4 b _ (c3.frzs b ob _ z)
      rw [e] at g1
      cases g1
      exact g2
  | .ok .next, h => exact h.elim
  | .ok .brk, h => exact h.elim
  | .ok .cont, h => exact h.elim
  | .error e, h => exact h.elim
theorem law_goes (kx : K.In t.heap) (gl : t.heap.Ns mainGlobals mg) (bl : t.heap.Ns builtinsNs mb) (bb : ∀ y : Str, y ≠ "__name__" → mb y = bootBuiltins y) (nl : t.heap.NoLimit) (ge : t.gens = #[])
    (sc : t.heap.get? a = some { cls := .type "list", data := .seq vs.toArray }) (hi : IntsAre vs ns) (hl : ns.length ≤ sizeLine) (rm : Room k callerA) (F : ∀ bs : Heap, K.In bs → bs.Ns mainGlobals mg → GOk P w K mg bs k fa fd [x] sp)
    (bi : ∀ (s : Shared) (u : Value), BindsTo s fd ⟨[u], []⟩ [(x, u)]) (pr : ∀ H : Hp, SqL K H a (ns.map V.int) → sp [.ref a] H (fun v _ => v = .bl true) fun _ _ _ => False) :
    codeAny (model P w) callerA (.call (.ref fa) ⟨[.ref a], []⟩) (fun r t' => r = .ok (.ret (.bool true)) ∧ OldK t.heap t'.heap ∧ t'.os = t.os ∧ AllBare t'.gens) t := by
  have rv := vals_ints hi
  have ln : vs.length = ns.length := hi.length
  cases hk : K.lookup a with
  | some o =>
    have e := kx a o hk
    rw [sc] at e
    cases e
    refine law_from (H := fun _ => none) kx gl bl bb nl ge sc rm F bi (fun _ => .inl rfl) (fun b u z => nomatch z) (fun b z => absurd rfl z) (fun z => absurd rfl z) (pr _ (.inr ?_))
    exact ⟨_, vs.toArray, _, hk, rfl, rfl, rfl, by rw [List.size_toArray, ln]; exact hl, by simpa using rv⟩
  | none =>
    have at_ : ∀ b : Addr, b = a → (fun b => if b = a then some (HO.frz { cls := .type "list", data := .seq vs.toArray } (.lst (ns.map V.int))) else none : Hp) b = some (HO.frz { cls := .type "list", data := .seq vs.toArray } (.lst (ns.map V.int))) := fun b e => if_pos e
    have off : ∀ b : Addr, b ≠ a → (fun b => if b = a then some (HO.frz { cls := .type "list", data := .seq vs.toArray } (.lst (ns.map V.int))) else none : Hp) b = none := fun b e => if_neg e
    refine law_from (H := fun b => if b = a then some (HO.frz { cls := .type "list", data := .seq vs.toArray } (.lst (ns.map V.int))) else none) kx gl bl bb nl ge sc rm F bi ?_ ?_ ?_ (fun _ => hk) (pr _ (.inl (.inr ⟨_, at_ a rfl⟩)))
    · intro b
      by_cases e : b = a
      · exact .inr ⟨_, _, at_ b e⟩
      · exact .inl (off b e)
    · intro b u z
      by_cases e : b = a
      · rw [at_ b e] at z
        cases z
        subst e
        exact ⟨sc, by rw [List.length_map]; exact hl, vs, _, rv, sc⟩
      · rw [off b e] at z
        cases z
    · intro b z
      by_cases e : b = a
      · exact e
      · exact absurd (off b e) z
end
/-- the end of a law: YP gives the written part and the law's def by facts -/
theorem walk_G {l : PySem.W.OpenLaw} {n k : Nat} {q : Program} {loose : List Str} {XP : (Str → Option Value) → Heap → Prop} {YP : World → Heap → Prop} {d : DefRec} {x : Str}
    (hn : l.most = some n) (hz : n ≤ sizeLine) (hd : d.params.defaults = []) (hr : Room k callerA)
    (F : ∀ (w : World) (mg : Str → Option Value) (fa : Addr) (h : Heap), YP w h → h.Ns mainGlobals mg → mg d.name = some (.ref fa) →
      ∃ (K : PySem.W.Frag) (fd : FuncData) (sp : Sp), K.In h ∧ (∀ (s : Shared) (u : Value), BindsTo s fd ⟨[u], []⟩ [(x, u)]) ∧
        (∀ (H : Hp) (a : Addr) (ns : List Int), ns.length ≤ n → (∀ z ∈ ns, Builtin.Int.intBits z ≤ 1048576) → SqL K H a (ns.map V.int) → sp [.ref a] H (fun v _ => v = .bl true) fun _ _ _ => False) ∧
        ∀ bs : Heap, K.In bs → bs.Ns mainGlobals mg → GOk l.prog w K mg bs k fa fd [x] sp) :
    PySem.W.WalkO q loose XP YP l.row.toRowW d [] (fun f vs => PySem.call f vs) := by
  refine Att.attach_callB hn hd fun w s₀ s₁ mg mb fa o pm cd doc a vs ns G Y ho hdo hcd hmg hobj hints hlen hbits hg => ?_
  obtain ⟨K, fd, sp, kx, hb, hsp, hF⟩ := F w mg fa _ Y G.T.g hmg
  exact law_goes kx G.T.g G.T.b G.T.builtins G.T.nolimit hg hobj hints (Nat.le_trans hlen hz) hr hF hb (fun H hS => hsp H a ns hlen hbits hS)
end My


/-! Draws: the law's own draws (_law_mixed, _law_source, _law_take): what each leaves. -/
namespace My
open PySem PySem.Spec PyProof.Rows L2

/-! ### heaps: all that was tracked, but what stands at s, is as it was -/
def Kp (s : Addr) (H H' : Hp) : Prop := ∀ b o, b ≠ s → H b = some o → H' b = some o
section
variable {s p : Addr} {H H1 H2 : Hp} {o : HO}
theorem Kp.refl (s : Addr) (H : Hp) : Kp s H H := fun _ _ _ h => h
theorem Kp.trans (a : Kp s H H1) (b : Kp s H1 H2) : Kp s H H2 := fun c u n h => b c u n (a c u n h)
theorem kp_same (a : Same H H1) : Kp s H H1 := fun c u _ h => a c u h
theorem same_new (h : H p = none) : Same H (upd H p o) := fun a u e => by
  rw [upd_ne (ne_of_none e h)]
  exact e
theorem Kp.new (h : H p = none) : Kp s H (upd H p o) := kp_same (same_new h)
theorem Kp.self : Kp s H (upd H s o) := fun c u n e => by
  rw [upd_ne n]
  exact e
theorem Kp.seq {K : PySem.W.Frag} {a : Addr} {xs : List V} (e : Kp s H H1) (n : a ≠ s) (h : SqL K H a xs) : SqL K H1 a xs := by
  rcases h with (h | ⟨u, h⟩) | h
  · exact .inl (.inl (e _ _ n h))
  · exact .inl (.inr ⟨u, e _ _ n h⟩)
  · exact .inr h
theorem Kp.tup {K : PySem.W.Frag} {a : Addr} {xs : List V} (e : Kp s H H1) (n : a ≠ s) (h : SqT K H a xs) : SqT K H1 a xs := by
  rcases h with (h | ⟨u, h⟩) | h
  · exact .inl (.inl (e _ _ n h))
  · exact .inl (.inr ⟨u, e _ _ n h⟩)
  · exact .inr h
theorem same_tup {K : PySem.W.Frag} {a : Addr} {xs : List V} (e : Same H H1) (h : SqT K H a xs) : SqT K H1 a xs := by
  rcases h with (h | ⟨u, h⟩) | h
  · exact .inl (.inl (e _ _ h))
  · exact .inl (.inr ⟨u, e _ _ h⟩)
  · exact .inr h
end

/-! ### the source -/
/-- the draws' list at s: a number, a place, the cells at c -/
def Src (H : Hp) (s c : Addr) : Prop := ∃ (n pl : Int) (ns : List Int), H s = some (.lst [.int n, .int pl, .ref c]) ∧ 0 ≤ pl ∧ H c = some (.lst (ns.map V.int))
theorem Src.same {H H' : Hp} {s c : Addr} (S : Src H s c) (e : Same H H') : Src H' s c := by
  obtain ⟨n, pl, ns, h1, h2, h3⟩ := S
  exact ⟨n, pl, ns, e _ _ h1, h2, e _ _ h3⟩
theorem Src.at {H : Hp} {s c : Addr} (S : Src H s c) : ∃ xs, H s = some (.lst xs) := by
  obtain ⟨n, pl, ns, h1, h2, h3⟩ := S
  exact ⟨_, h1⟩
theorem Src.cells {H : Hp} {s c : Addr} (S : Src H s c) : ∃ xs, H c = some (.lst xs) := by
  obtain ⟨n, pl, ns, h1, h2, h3⟩ := S
  exact ⟨_, h3⟩
/-- what stands elsewhere may change -/
theorem Src.kp {H H' : Hp} {s c p : Addr} (S : Src H s c) (hs : s ≠ p) (hc : c ≠ p) (e : Kp p H H') : Src H' s c := by
  obtain ⟨n, pl, ns, h1, h2, h3⟩ := S
  exact ⟨n, pl, ns, e _ _ hs h1, h2, e _ _ hc h3⟩
theorem Src.ne {H : Hp} {s c p : Addr} (S : Src H s c) (h : H p = none) : p ≠ s ∧ p ≠ c := by
  obtain ⟨n, pl, ns, h1, h2, h3⟩ := S
  exact ⟨(ne_of_none h1 h).symm, (ne_of_none h3 h).symm⟩
theorem src_ne {H : Hp} {s c : Addr} {n pl : Int} {ns : List Int} (h1 : H s = some (.lst [.int n, .int pl, .ref c])) (h3 : H c = some (.lst (ns.map V.int))) : c ≠ s := by
  intro e
  subst e
  rw [h1] at h3
  have q : [V.int n, V.int pl, V.ref c] = ns.map V.int := by
    injection h3 with h3
    injection h3
  have : V.ref c ∈ ns.map V.int := by
    rw [← q]
    exact List.mem_cons_of_mem _ (List.mem_cons_of_mem _ List.mem_cons_self)
  obtain ⟨z, _, e⟩ := List.mem_map.mp this
  cases e

/-! ### _law_mixed -/
def sp_law_mixed (K : PySem.W.Frag) : Sp := fun vs H Q _ => ∃ c p : Int, vs = [.int c, .int p] ∧ ∀ r : Int, Q (.int r) H
abbrev n_law_mixed : List Str := ["_law_cell", "_law_place", "_law_first", "_law_second", "_law_third"]
def t_law_mixed (K : PySem.W.Frag) : TS :=
    (tSeq (tAsg (tOp rModI (tCB cInt1 (tCons (tOp rAddI (tOp rAddI (tOp rMulI (tCB cAbs (tCons (tVar 0) tNil)) (tC (.int 48271))) (tOp rMulI (tVar 1) (tC (.int 69621)))) (tC (.int 1013))) tNil)) (tC (.int 2147483647))) (gName 2))
    (tSeq (tAsg (tOp rModI (tCB cInt1 (tCons (tOp rAddI (tOp rAddI (tOp rAddI (tOp rMulI (tVar 2) (tVar 2)) (tOp rMulI (tCB cAbs (tCons (tVar 0) tNil)) (tC (.int 16807)))) (tOp rMulI (tVar 1) (tC (.int 7919)))) (tC (.int 11))) tNil)) (tC (.int 2305843009213693951))) (gName 3))
    (tSeq (tAsg (tOp rModI (tCB cInt1 (tCons (tOp rAddI (tOp rAddI (tOp rMulI (tVar 3) (tC (.int 1442695040888963407))) (tOp rMulI (tVar 2) (tC (.int 69621)))) (tC (.int 1013))) tNil)) (tC (.int 2305843009213693951))) (gName 4))
    (tRet (tOp rAddI (tVar 4) (tC (.int 2305843009213693951)))))))
theorem len_law_mixed {K : PySem.W.Frag} {vs : List V} {H : Hp} {Q : VK} {E : XK} (h : sp_law_mixed K vs H Q E) : vs.length = 2 := by
  obtain ⟨c, p, rfl, _⟩ := h
  rfl
theorem small_mod {a b : Int} (h : 0 < b) (hb : b < 2 ^ 64) : -(2 ^ 64) < a % b ∧ a % b < 2 ^ 64 := by
  have h1 := Int.emod_nonneg a (by omega : b ≠ 0)
  have h2 := Int.emod_lt_of_pos a h
  omega
theorem run_law_mixed {K : PySem.W.Frag} {vs : List V} {H : Hp} {Q : VK} {E : XK} (h : sp_law_mixed K vs H Q E) : t_law_mixed K { nx := fun _ H' => Q .non H', rt := Q } (start n_law_mixed vs) H := by
  obtain ⟨c, p, rfl, k⟩ := h
  unfold t_law_mixed
  refine ⟨_, rfl, _, rfl, _, _, rfl, rfl, .inr ⟨by decide, by decide⟩, _, rfl, _, _, rfl, rfl, .inr ⟨by decide, by decide⟩, _, _, rfl, rfl, _, _, rfl, rfl, .inl ⟨_, rfl, _, _, rfl, rfl, (show (0 : Int) < 2147483647 by decide), ?_⟩⟩
  refine ⟨_, rfl, _, rfl, _, _, rfl, rfl, .inl (small_mod (by decide) (by decide)), _, rfl, _, rfl, _, _, rfl, rfl, .inr ⟨by decide, by decide⟩, _, _, rfl, rfl, _, rfl, _, _, rfl, rfl, .inr ⟨by decide, by decide⟩, _, _, rfl, rfl, _, _, rfl, rfl, .inl ⟨_, rfl, _, _, rfl, rfl, (show (0 : Int) < 2305843009213693951 by decide), ?_⟩⟩
  refine ⟨_, rfl, _, _, rfl, rfl, .inr ⟨by decide, by decide⟩, _, rfl, _, _, rfl, rfl, .inr ⟨by decide, by decide⟩, _, _, rfl, rfl, _, _, rfl, rfl, .inl ⟨_, rfl, _, _, rfl, rfl, (show (0 : Int) < 2305843009213693951 by decide), ?_⟩⟩
  refine ⟨_, rfl, _, _, rfl, rfl, ?_⟩
  exact k _

/-! ### _law_source -/
def sp_law_source (K : PySem.W.Frag) : Sp := fun vs H Q _ => ∃ (a : Addr) (ns : List Int), vs = [.ref a] ∧ SqL K H a (ns.map V.int) ∧ ∀ s c H', H s = none → H c = none → Same H H' → Src H' s c → Q (.ref s) H'
abbrev n_law_source : List Str := ["_law_script"]
def t_law_source (K : PySem.W.Frag) : TS :=
    (tRet (tLst (tCons (tC (.int 0)) (tCons (tC (.int 0)) (tCons (tCB (cList K) (tCons (tVar 0) tNil)) tNil)))))
theorem len_law_source {K : PySem.W.Frag} {vs : List V} {H : Hp} {Q : VK} {E : XK} (h : sp_law_source K vs H Q E) : vs.length = 1 := by
  obtain ⟨c, p, rfl, _⟩ := h
  rfl
theorem run_law_source {K : PySem.W.Frag} {vs : List V} {H : Hp} {Q : VK} {E : XK} (h : sp_law_source K vs H Q E) : t_law_source K { nx := fun _ H' => Q .non H', rt := Q } (start n_law_source vs) H := by
  obtain ⟨a, ns, rfl, hs, k⟩ := h
  unfold t_law_source
  refine ⟨_, rfl, a, _, rfl, .inl hs, fun l hl => ⟨by show 3 ≤ sizeLine; decide, fun s hs' => ?_⟩⟩
  have e1 : Same H (upd H l (.lst (ns.map V.int))) := same_new hl
  have ne : l ≠ s := ne_of_none upd_same hs'
  refine k s l _ (e1.free hs') hl (e1.trans (same_new hs')) ⟨0, 0, ns, upd_same, by decide, ?_⟩
  rw [upd_ne ne, upd_same]

/-! ### _law_take -/
def sp_law_take (K : PySem.W.Frag) : Sp := fun vs H Q _ => ∃ (s c : Addr) (m : Int), vs = [.ref s, .int m] ∧ 0 < m ∧ m.natAbs.log2 < 9000 ∧ Src H s c ∧ ∀ d H', 0 ≤ d → d < m → Src H' s c → Kp s H H' → Q (.int d) H'
abbrev n_law_take : List Str := ["_law_source_here", "_law_many", "_law_digit", "_law_cells", "_law_place"]
def t_law_take (K : PySem.W.Frag) : TS :=
    (tSeq (tIfS (tTest (tOp rLtI (tOp (rIxL K) (tVar 0) (tC (.int 0))) (tOp rMulI (tC (.int 2)) (tVar 1)))) (tSeq (tAsg (tOp (rIxL K) (tVar 0) (tC (.int 2))) (gName 3))
    (tSeq (tAsg (tOp (rIxL K) (tVar 0) (tC (.int 1))) (gName 4))
    (tSeq (tAsg (tOp rAddI (tVar 4) (tC (.int 1))) (gSub (tVar 0) (tC (.int 1)) rSetL))
    (tIfS (tAnd (tTest (tOp rLtI (tVar 4) (tCB (cLenQ K) (tCons (tVar 3) tNil)))) (tTest (tOp rGeI (tCB cAbs (tCons (tOp (rIxL K) (tVar 3) (tVar 4)) tNil)) (tOp rPowI (tC (.int 10)) (tC (.int 18)))))) (tAsg (tCB cAbs (tCons (tOp (rIxL K) (tVar 3) (tVar 4)) tNil)) (gSub (tVar 0) (tC (.int 0)) rSetL)) (tIfS (tTest (tOp rGtI (tCB (cLenQ K) (tCons (tVar 3) tNil)) (tC (.int 0)))) (tAsg (tCall (sp_law_mixed K) [] E0 (tCons (tOp (rIxL K) (tVar 3) (tOp rModI (tCB cInt1 (tCons (tVar 4) tNil)) (tCB (cLenQ K) (tCons (tVar 3) tNil)))) (tCons (tVar 4) tNil))) (gSub (tVar 0) (tC (.int 0)) rSetL)) (tAsg (tCall (sp_law_mixed K) [] E0 (tCons (tC (.int 0)) (tCons (tVar 4) tNil))) (gSub (tVar 0) (tC (.int 0)) rSetL))))))) tNext)
    (tSeq (tAsg (tOp rModI (tCB cInt1 (tCons (tOp (rIxL K) (tVar 0) (tC (.int 0))) tNil)) (tVar 1)) (gName 2))
    (tSeq (tAsg (tOp rDivI (tCB cInt1 (tCons (tOp (rIxL K) (tVar 0) (tC (.int 0))) tNil)) (tVar 1)) (gSub (tVar 0) (tC (.int 0)) rSetL))
    (tRet (tVar 2)))))
theorem len_law_take {K : PySem.W.Frag} {vs : List V} {H : Hp} {Q : VK} {E : XK} (h : sp_law_take K vs H Q E) : vs.length = 2 := by
  obtain ⟨c, p, m, rfl, _⟩ := h
  rfl
theorem at3 {a b c : V} : atI [a, b, c] 0 = some a ∧ atI [a, b, c] 1 = some b ∧ atI [a, b, c] 2 = some c := ⟨rfl, rfl, rfl⟩
theorem run_law_take {K : PySem.W.Frag} {vs : List V} {H : Hp} {Q : VK} {E : XK} (h : sp_law_take K vs H Q E) : t_law_take K { nx := fun _ H' => Q .non H', rt := Q } (start n_law_take vs) H := by
  obtain ⟨s, c, m, rfl, hm, hz, S, k⟩ := h
  unfold t_law_take
  -- what follows the if, from any source
  have rest : ∀ (σ : L2.St) (H' : Hp) (u v : Option V), σ = [some (.ref s), some (.int m), none, u, v] → Src H' s c → Kp s H H' →
      (tSeq (tAsg (tOp rModI (tCB cInt1 (tCons (tOp (rIxL K) (tVar 0) (tC (.int 0))) tNil)) (tVar 1)) (gName 2))
      (tSeq (tAsg (tOp rDivI (tCB cInt1 (tCons (tOp (rIxL K) (tVar 0) (tC (.int 0))) tNil)) (tVar 1)) (gSub (tVar 0) (tC (.int 0)) rSetL))
      (tRet (tVar 2)))) { nx := fun _ H' => Q .non H', rt := Q } σ H' := by
    rintro σ H' u v rfl ⟨n, pl, ns, h1, h2, h3⟩ kp
    have nc := src_ne h1 h3
    refine ⟨_, rfl, s, _, _, _, rfl, rfl, SqL.of h1, at3.1, .inl ⟨_, rfl, _, rfl, _, _, rfl, rfl, hm, ?_⟩⟩
    refine ⟨_, rfl, s, _, _, _, rfl, rfl, SqL.of h1, at3.1, .inl ⟨_, rfl, _, rfl, _, _, rfl, rfl, ⟨hm, hz⟩, ?_⟩⟩
    refine ⟨_, rfl, s, _, _, 0, rfl, rfl, h1, rfl, _, rfl, ?_⟩
    refine k (n % m) _ (Int.emod_nonneg _ (by omega)) (Int.emod_lt_of_pos _ hm) ⟨n / m, pl, ns, upd_same, h2, ?_⟩ (kp.trans Kp.self)
    rw [upd_ne nc]
    exact h3
  obtain ⟨n, pl, ns, h1, h2, h3⟩ := S
  have nc := src_ne h1 h3
  refine ⟨_, rfl, s, _, _, _, rfl, rfl, SqL.of h1, at3.1, _, rfl, _, _, rfl, rfl, .inl ⟨by decide, by decide⟩, _, _, rfl, rfl, _, rfl, ?_⟩
  refine ite2 (fun _ => ?_) (fun _ => rest _ H none none rfl ⟨n, pl, ns, h1, h2, h3⟩ (Kp.refl s H))
  refine ⟨_, rfl, s, _, _, _, rfl, rfl, SqL.of h1, at3.2.2, ?_⟩
  refine ⟨_, rfl, s, _, _, _, rfl, rfl, SqL.of h1, at3.2.1, ?_⟩
  refine ⟨_, rfl, _, _, rfl, rfl, _, rfl, s, _, _, 1, rfl, rfl, h1, rfl, ?_⟩
  have g1 : upd H s (.lst [.int n, .int (pl + 1), .ref c]) s = some (.lst [.int n, .int (pl + 1), .ref c]) := upd_same
  have g3 : upd H s (.lst [.int n, .int (pl + 1), .ref c]) c = some (.lst (ns.map V.int)) := by
    rw [upd_ne nc]
    exact h3
  have kp1 : Kp s H (upd H s (.lst [.int n, .int (pl + 1), .ref c])) := Kp.self
  generalize hH1 : upd H s (.lst [.int n, .int (pl + 1), .ref c]) = H1 at g1 g3 kp1
  have hset : ([.int n, .int pl, .ref c] : List V).set 1 (.int (pl + 1)) = [.int n, .int (pl + 1), .ref c] := rfl
  rw [hset, hH1]
  have fin : ∀ r : Int, rSetL (.ref s) (.int 0) (.int r) H1 fun H3 => (tSeq (tAsg (tOp rModI (tCB cInt1 (tCons (tOp (rIxL K) (tVar 0) (tC (.int 0))) tNil)) (tVar 1)) (gName 2))
      (tSeq (tAsg (tOp rDivI (tCB cInt1 (tCons (tOp (rIxL K) (tVar 0) (tC (.int 0))) tNil)) (tVar 1)) (gSub (tVar 0) (tC (.int 0)) rSetL))
      (tRet (tVar 2)))) { nx := fun _ H' => Q .non H', rt := Q } [some (.ref s), some (.int m), none, some (.ref c), some (.int pl)] H3 := fun r =>
    ⟨s, _, _, 0, rfl, rfl, g1, rfl, rest _ _ _ _ rfl ⟨r, pl + 1, ns, upd_same, by omega, by rw [upd_ne nc]; exact g3⟩ (kp1.trans Kp.self)⟩
  refine ⟨_, rfl, _, rfl, c, _, rfl, .inl (SqL.of g3), _, _, rfl, rfl, _, rfl, ?_⟩
  have third : tIfS (tTest (tOp rGtI (tCB (cLenQ K) (tCons (tVar 3) tNil)) (tC (.int 0)))) (tAsg (tCall (sp_law_mixed K) [] E0 (tCons (tOp (rIxL K) (tVar 3) (tOp rModI (tCB cInt1 (tCons (tVar 4) tNil)) (tCB (cLenQ K) (tCons (tVar 3) tNil)))) (tCons (tVar 4) tNil))) (gSub (tVar 0) (tC (.int 0)) rSetL)) (tAsg (tCall (sp_law_mixed K) [] E0 (tCons (tC (.int 0)) (tCons (tVar 4) tNil))) (gSub (tVar 0) (tC (.int 0)) rSetL))
      { nx := fun σ' H' => (tSeq (tAsg (tOp rModI (tCB cInt1 (tCons (tOp (rIxL K) (tVar 0) (tC (.int 0))) tNil)) (tVar 1)) (gName 2))
      (tSeq (tAsg (tOp rDivI (tCB cInt1 (tCons (tOp (rIxL K) (tVar 0) (tC (.int 0))) tNil)) (tVar 1)) (gSub (tVar 0) (tC (.int 0)) rSetL))
      (tRet (tVar 2)))) { nx := fun _ H' => Q .non H', rt := Q } σ' H', rt := Q } [some (.ref s), some (.int m), none, some (.ref c), some (.int pl)] H1 := by
    refine ⟨_, rfl, c, _, rfl, .inl (SqL.of g3), _, _, rfl, rfl, _, rfl, ?_⟩
    refine ite2 (fun hpos => ?_) (fun _ => ?_)
    · have hpos := of_decide_eq_true hpos
      have hlen : 0 < ((ns.map V.int).length : Int) := by exact hpos
      have h5 := Int.emod_nonneg pl (by omega : ((ns.map V.int).length : Int) ≠ 0)
      have h6 := Int.emod_lt_of_pos pl hlen
      obtain ⟨j, hj⟩ : ∃ j : Nat, pl % ((ns.map V.int).length : Int) = (j : Int) := ⟨_, (Int.toNat_of_nonneg h5).symm⟩
      have hjl : j < (ns.map V.int).length := by omega
      have hjn : j < ns.length := by rw [List.length_map] at hjl; exact hjl
      refine ⟨_, rfl, _, rfl, .inl ⟨_, rfl, _, rfl, c, _, rfl, .inl (SqL.of g3), _, _, rfl, rfl, hlen, c, _, _, V.int ns[j], rfl, rfl, SqL.of g3, ?_, _, rfl, _, _, rfl, fun r => ⟨_, rfl, fin r⟩⟩⟩
      rw [hj]
      exact atI_nat (by rw [List.getElem?_map, List.getElem?_eq_getElem hjn] <;> rfl)
    · exact ⟨_, rfl, _, _, rfl, fun r => ⟨_, rfl, fin r⟩⟩
  refine ite2 (fun hlt => ?_) (fun _ => third)
  have hlt := of_decide_eq_true hlt
  have hlt : pl < ((ns.map V.int).length : Int) := hlt
  obtain ⟨j, rfl⟩ : ∃ j : Nat, pl = (j : Int) := ⟨_, (Int.toNat_of_nonneg h2).symm⟩
  have hjl : j < (ns.map V.int).length := by omega
  have hjn : j < ns.length := by rw [List.length_map] at hjl; exact hjl
  have hat : atI (ns.map V.int) (j : Int) = some (V.int ns[j]) := atI_nat (by rw [List.getElem?_map, List.getElem?_eq_getElem hjn] <;> rfl)
  refine ⟨_, rfl, _, rfl, c, _, _, _, rfl, rfl, SqL.of g3, hat, _, rfl, _, _, rfl, rfl, ⟨by decide, by decide, by decide⟩, _, _, rfl, rfl, _, rfl, ?_⟩
  refine ite2 (fun _ => ?_) (fun _ => third)
  refine ⟨_, rfl, _, rfl, c, _, _, _, rfl, rfl, SqL.of g3, hat, _, rfl, _, rfl, fin _⟩
end My


/-! Names: comprehensions whose elements change nothing; names (is_name, is_step_name, is_text). -/
namespace My
open PySem PySem.Spec PyProof.Rows L2 TL

/-! ### a comprehension without a test whose element is a value and leaves all as it was -/
theorem lc_ev {J : It} {n : Nat} {G : Hp → Prop} {Y : Nat → Hp → V → Hp → Prop} (w : Walk J n G Y) {g : TG} {te : TE} {vs : List Nat} {σ : L2.St} {H1 : Hp} {D : Addr} {Qd : Hp → Prop} (f : Nat → V)
    (hn : n ≤ 1000000) (hD : H1 D = none) (hY : ∀ i H x H', Y i H x H' → Same H H') (hG : ∀ H, Same H1 H → G H)
    (he : ∀ i x H H' (Q : VK), i < n → Same H1 H → Y i H x H' → (∀ H2, Same H' H2 → Q (f i) H2) → g x (wipe σ vs) H' fun σ2 H2 => wipe σ2 vs = wipe σ vs ∧ te σ2 H2 Q)
    (hQ : ∀ H2, Same H1 H2 → H2 D = some (.lst ((List.range n).map f)) → Qd H2) :
    ∃ W : Nat → Nat → Hp → Prop, (∃ m, W 0 m (upd H1 D (.lst []))) ∧ ∀ i m H, W i m H →
      (J.stop i H ∧ Qd H) ∨ (J.go i H ∧ ∃ Nx : Hp → Prop, (∀ H', Nx H' → ∃ m', m' < m ∧ W (i + 1) m' H') ∧ ∀ x H', J.yld i H x H' → g x (wipe σ vs) H' fun σ2 H2 => wipe σ2 vs = wipe σ vs ∧ tYes σ2 H2 fun b H3 =>
        if b = true then te σ2 H3 fun y H4 => ∃ acc, H4 D = some (.lst acc) ∧ acc.length < sizeLine ∧ Nx (upd H4 D (.lst (acc ++ [y]))) else Nx H3) := by
  refine lc_it w (fun i H => Same H1 H ∧ H D = some (.lst ((List.range i).map f))) ⟨same_new hD, upd_same⟩ (fun i H _ p => hG H p.1) ?_ (fun H p => hQ H p.1 p.2)
  rintro i x H H' hi ⟨p1, p2⟩ y
  have s1 := hY i H x H' y
  have z := he i x H H' (fun y H4 => ∃ acc, H4 D = some (.lst acc) ∧ acc.length < sizeLine ∧ (Same H1 (upd H4 D (.lst (acc ++ [y]))) ∧ upd H4 D (.lst (acc ++ [y])) D = some (.lst ((List.range (i + 1)).map f)))) hi p1 y ?_
  · exact z
  · intro H2 s2
    refine ⟨_, s2 _ _ (s1 _ _ p2), ?_, ?_, ?_⟩
    · rw [List.length_map, List.length_range]
      exact Nat.lt_of_lt_of_le (by omega : i < 1000000) (by decide)
    · intro b o e
      rw [upd_ne (ne_of_none e hD)]
      exact s2 _ _ (s1 _ _ (p1 _ _ e))
    · rw [upd_same, List.range_succ, List.map_append] <;> rfl
theorem same_refl {H H' : Hp} (e : H' = H) : Same H H' := by
  rw [e]
  exact Same.refl H

/-! ### texts -/
theorem tl_size (z : Str) : z.cps.size = z.length := rfl
theorem map_range_tl (z : Str) (f : Nat → Bool) (g : Nat → V) (h : ∀ i c, z.cps[i]? = some c → g i = V.bl (f c)) : (List.range z.cps.size).map g = ((tl z).map f).map V.bl := by
  apply List.ext_getElem
  · simp [tl]
  · intro i h1 h2
    simp only [List.getElem_map, List.getElem_range]
    have hi : i < z.cps.size := by simpa using h1
    rw [h i z.cps[i] (by simp [hi])]
    simp [tl]
/-- all([f(c) for c in z]) for a text z in slot j, the comprehension's name in slot i -/
theorem all_signs {K : PySem.W.Frag} {i j : Nat} {te : TE} {σ : L2.St} {H : Hp} {Q : VK} {z : Str} (f : Nat → Bool) (hj : σ[j]? = some (some (.str z))) (hz : z.length ≤ 1000000)
    (hw : ∀ v, wipe ((wipe σ [i]).set i (some v)) [i] = wipe σ [i])
    (he : ∀ c (H' : Hp) (R : VK), c ∈ tl z → R (.bl (f c)) H' → te ((wipe σ [i]).set i (some (.str ⟨#[c]⟩))) H' R)
    (k : ∀ H', Same H H' → Q (.bl ((tl z).all f)) H') :
    tCB (rAll K) (tCons (tLc (iStr (tVar j)) (gName i) tYes te [i]) tNil) σ H Q := by
  refine ⟨_, hj, z, rfl, fun D hD => ?_⟩
  refine lc_ev (w := walk_str) (fun m => match z.cps[m]? with | some c => .bl (f c) | none => .non) hz hD ?_ (fun _ _ => True.intro) ?_ ?_
  · rintro m H1 x H' ⟨e, _⟩
    exact same_refl e
  · rintro m x H1 H' R hm s1 ⟨rfl, c, hc, rfl⟩ hR
    refine ⟨hw _, he c H' R ?_ ?_⟩
    · have e : (tl z)[m]? = some c := by simpa [tl] using hc
      exact List.mem_of_getElem? e
    · have q := hR H' (Same.refl _)
      rw [hc] at q
      exact q
  · intro H2 s2 h2
    refine ⟨D, (tl z).map f, rfl, SqL.of ?_, ?_⟩
    · rw [h2]
      congr 2
      exact map_range_tl z f _ fun m c hc => by rw [hc]
    · rw [List.all_map]
      exact k H2 s2
theorem ix_str0 {z : Str} {c : Nat} {l : List Nat} (h : tl z = c :: l) : atI z.cps.toList 0 = some c := by
  have e : z.cps.toList = c :: l := h
  rw [e]
  exact atI_nat (j := 0) rfl
theorem len_cons {z : Str} {c : Nat} {l : List Nat} (h : tl z = c :: l) : z.length = l.length + 1 := by
  rw [len_tl, h]
  rfl

/-! ### names -/
def c_LETTERS : Str := "abcdefghijklmnopqrstuvwxyz"
def c_DIGITS : Str := "0123456789"
def c_FRAME : Str := "frame"
def c_CHARACTERS : Str := "!\"#$&'()*+,-./0123456789:;<=>?@ABCDEFGHIJKLMNOPQRSTUVWXYZ[\\]^_`abcdefghijklmnopqrstuvwxyz{|}~"
def isLet (c : Nat) : Bool := decide (c ∈ tl c_LETTERS)
def isDig (c : Nat) : Bool := decide (c ∈ tl c_DIGITS)
def isSign (c : Nat) : Bool := decide (c ∈ tl c_CHARACTERS)
def nameOk : List Nat → Bool
  | [] => false
  | c :: l => decide (l.length < 12) && (isLet c && (c :: l).all fun d => isLet d || isDig d)
def isName (z : Str) : Bool := nameOk (tl z)
def isText (z : Str) : Bool := (tl z).all isSign
section
variable {K : PySem.W.Frag} {vs : List V} {H : Hp} {Q : VK} {E : XK}
def sp_is_name (K : PySem.W.Frag) : Sp := fun vs H Q _ => ∃ z : Str, vs = [.str z] ∧ z.length ≤ 1000000 ∧ ∀ H', Same H H' → Q (.bl (isName z)) H'
abbrev n_is_name : List Str := ["text", "char"]
def t_is_name (K : PySem.W.Frag) : TS :=
    (tSeq (tIfS (tOr (tNot (tTest (tChain rLeI rLeI (tC (.int 1)) (tCB cLenS (tCons (tVar 0) tNil)) (tC (.int 12))))) (tTest (tOp rNotInSign (tOp rIxS (tVar 0) (tC (.int 0))) (tC (.str c_LETTERS))))) (tRet (tC (.bl false))) tNext)
    (tRet (tCB (rAll K) (tCons (tLc (iStr (tVar 0)) (gName 1) tYes (tOrV (tOp rInSign (tVar 1) (tC (.str c_LETTERS))) (tOp rInSign (tVar 1) (tC (.str c_DIGITS)))) [1]) tNil))))
theorem len_is_name (h : sp_is_name K vs H Q E) : vs.length = 1 := by
  obtain ⟨z, rfl, _⟩ := h
  rfl
theorem run_is_name (h : sp_is_name K vs H Q E) : t_is_name K { nx := fun _ H' => Q .non H', rt := Q } (start n_is_name vs) H := by
  obtain ⟨z, rfl, hz, k⟩ := h
  unfold t_is_name
  have hsz : z.length ≤ sizeLine := Nat.le_trans hz (by decide)
  refine ⟨_, rfl, z, rfl, hsz, _, _, rfl, rfl, _, rfl, ?_⟩
  cases e : tl z with
  | nil =>
    have hl : z.length = 0 := by rw [len_tl, e]; rfl
    have d1 : decide ((1 : Int) ≤ (z.length : Int)) = false := by rw [hl]; rfl
    rw [d1]
    refine iteF ⟨_, rfl, iteT (iteT ?_)⟩
    have := k H (Same.refl H)
    rw [isName, e] at this
    exact this
  | cons c l =>
    have hl := len_cons e
    have d1 : decide ((1 : Int) ≤ (z.length : Int)) = true := decide_eq_true (by omega)
    rw [d1]
    refine iteT ⟨_, _, rfl, rfl, _, rfl, ?_⟩
    by_cases h12 : l.length < 12
    · have d2 : decide ((z.length : Int) ≤ 12) = true := decide_eq_true (by omega)
      rw [d2]
      refine iteF ⟨_, rfl, z, _, c, rfl, rfl, hsz, ix_str0 e, c, _, rfl, rfl, _, rfl, ?_⟩
      by_cases hc : isLet c = true
      · have d3 : (!decide (c ∈ c_LETTERS.cps.toList)) = false := by
          have : decide (c ∈ c_LETTERS.cps.toList) = true := hc
          rw [this]; rfl
        rw [d3]
        refine iteF ?_
        refine all_signs (fun d => isLet d || isDig d) rfl hz (fun _ => rfl) ?_ ?_
        · intro d H' R hd hR
          refine ⟨_, rfl, d, _, rfl, rfl, _, rfl, ?_⟩
          by_cases hd1 : isLet d = true
          · have d4 : decide (d ∈ c_LETTERS.cps.toList) = true := hd1
            rw [d4]
            rw [hd1] at hR
            exact iteT hR
          · have d4 : decide (d ∈ c_LETTERS.cps.toList) = false := Bool.eq_false_iff.mpr hd1
            rw [d4]
            refine iteF ⟨_, rfl, d, _, rfl, rfl, ?_⟩
            have d5 : isLet d = false := by simpa using hd1
            rw [d5, Bool.false_or] at hR
            exact hR
        · intro H' s
          have := k H' s
          rw [isName, e] at this
          rw [e]
          rw [nameOk, decide_eq_true h12, hc, Bool.true_and, Bool.true_and] at this
          exact this
      · have hc' : isLet c = false := by simpa using hc
        have d3 : (!decide (c ∈ c_LETTERS.cps.toList)) = true := by
          have : decide (c ∈ c_LETTERS.cps.toList) = false := hc'
          rw [this]; rfl
        rw [d3]
        refine iteT ?_
        have := k H (Same.refl H)
        rw [isName, e, nameOk, hc', Bool.false_and, Bool.and_false] at this
        exact this
    · have d2 : decide ((z.length : Int) ≤ 12) = false := decide_eq_false (by omega)
      rw [d2]
      refine iteT (iteT ?_)
      have := k H (Same.refl H)
      rw [isName, e, nameOk, decide_eq_false h12, Bool.false_and] at this
      exact this

def sp_is_step_name (K : PySem.W.Frag) : Sp := fun vs H Q _ => ∃ z : Str, vs = [.str z] ∧ z.length ≤ 1000000 ∧ ∀ H', Same H H' → Q (.bl (isName z && !decide (z = c_FRAME))) H'
abbrev n_is_step_name : List Str := ["text"]
def t_is_step_name (K : PySem.W.Frag) : TS :=
    (tRet (tAndV (tCall (sp_is_name K) [] E0 (tCons (tVar 0) tNil)) (tOp rNe (tVar 0) (tC (.str c_FRAME)))))
theorem len_is_step_name (h : sp_is_step_name K vs H Q E) : vs.length = 1 := by
  obtain ⟨z, rfl, _⟩ := h
  rfl
theorem run_is_step_name (h : sp_is_step_name K vs H Q E) : t_is_step_name K { nx := fun _ H' => Q .non H', rt := Q } (start n_is_step_name vs) H := by
  obtain ⟨z, rfl, hz, k⟩ := h
  unfold t_is_step_name
  refine ⟨_, rfl, z, rfl, hz, fun H' s => ⟨_, rfl, ?_⟩⟩
  cases hc : isName z with
  | false =>
    have := k H' s
    rw [hc] at this
    exact iteF this
  | true =>
    have := k H' s
    rw [hc] at this
    refine iteT ⟨_, rfl, rfl, ?_⟩
    have e : decide ((V.str z) = V.str c_FRAME) = decide (z = c_FRAME) := by
      by_cases q : z = c_FRAME
      · subst q; simp
      · rw [decide_eq_false q]; exact decide_eq_false (fun r => q (V.str.inj r))
    show Q (.bl (!decide (V.str z = V.str c_FRAME))) H'
    rw [e]
    exact this

def sp_is_text (K : PySem.W.Frag) : Sp := fun vs H Q _ => ∃ z : Str, vs = [.str z] ∧ z.length ≤ 1000000 ∧ ∀ H', Same H H' → Q (.bl (isText z)) H'
abbrev n_is_text : List Str := ["text", "char"]
def t_is_text (K : PySem.W.Frag) : TS :=
    (tRet (tCB (rAll K) (tCons (tLc (iStr (tVar 0)) (gName 1) tYes (tOp rInSign (tVar 1) (tC (.str c_CHARACTERS))) [1]) tNil)))
theorem len_is_text (h : sp_is_text K vs H Q E) : vs.length = 1 := by
  obtain ⟨z, rfl, _⟩ := h
  rfl
theorem run_is_text (h : sp_is_text K vs H Q E) : t_is_text K { nx := fun _ H' => Q .non H', rt := Q } (start n_is_text vs) H := by
  obtain ⟨z, rfl, hz, k⟩ := h
  unfold t_is_text
  refine all_signs isSign rfl hz (fun _ => rfl) ?_ k
  intro d H' R _ hR
  exact ⟨_, rfl, d, _, rfl, rfl, hR⟩
end
end My


/-! Nums: numbers as texts, cuts of texts and lists, data on the heap. -/
namespace My
open PySem PySem.Spec PyProof.Rows L2 TL

/-! ### texts by their signs -/
theorem str_iff {a b : Str} : V.str a = V.str b ↔ tl a = tl b := ⟨fun h => by rw [V.str.inj h], fun h => by rw [ext_tl h]⟩
theorem dec_str (a b : Str) : decide (V.str a = V.str b) = decide (tl a = tl b) := decide_eq_decide.mpr str_iff
theorem tl_cutT (z : Str) (k : Nat) : tl (cutS z none (some (k : Int))) = (tl z).take k := by
  show ((z.cps.toList.drop (HT.sIx z.length 0 none)).take (HT.sIx z.length z.length (some (k : Int)) - HT.sIx z.length 0 none)) = _
  rw [HT.sIx_none, HT.sIx_nat, List.drop_zero, Nat.sub_zero, len_tl]
  show List.take (min k (tl z).length) (tl z) = List.take k (tl z)
  rw [List.take_eq_take_iff]
  omega
theorem tl_cutD (z : Str) (k : Nat) : tl (cutS z (some (k : Int)) none) = (tl z).drop k := by
  show ((z.cps.toList.drop (HT.sIx z.length 0 (some (k : Int)))).take (HT.sIx z.length z.length none - HT.sIx z.length 0 (some (k : Int)))) = _
  rw [HT.sIx_none, HT.sIx_nat, len_tl]
  rw [List.take_of_length_le (by rw [List.length_drop]; exact Nat.le_refl _)]
  by_cases h : k ≤ (tl z).length
  · rw [Nat.min_eq_left h]
  · rw [Nat.min_eq_right (by omega), List.drop_eq_nil_of_le (Nat.le_refl _), List.drop_eq_nil_of_le (by omega)]
theorem cutV_D (xs : List V) (k : Nat) : cutV xs (some (k : Int)) none = xs.drop k := by
  unfold cutV
  rw [HT.sIx_none, HT.sIx_nat]
  rw [List.take_of_length_le (by rw [List.length_drop]; exact Nat.le_refl _)]
  by_cases h : k ≤ xs.length
  · rw [Nat.min_eq_left h]
  · rw [Nat.min_eq_right (by omega), List.drop_eq_nil_of_le (Nat.le_refl _), List.drop_eq_nil_of_le (by omega)]
theorem cutV_T (xs : List V) (k : Nat) : cutV xs none (some (k : Int)) = xs.take k := by
  unfold cutV
  rw [HT.sIx_none, HT.sIx_nat, List.drop_zero, Nat.sub_zero, List.take_eq_take_iff]
  omega
theorem cutV_DT (xs : List V) (k m : Nat) (h : k ≤ m) (hm : m ≤ xs.length) : cutV xs (some (k : Int)) (some (m : Int)) = (xs.drop k).take (m - k) := by
  unfold cutV
  rw [HT.sIx_nat, HT.sIx_nat, Nat.min_eq_left hm, Nat.min_eq_left (by omega)]

/-! ### numbers -/
def numS (i : Int) : Str := Str.ofString (toString i)
def numC (i : Int) : List Nat := if i < 0 then 45 :: numL i.natAbs else numL i.natAbs
theorem tl_numS (i : Int) : tl (numS i) = numC i := by
  unfold numS numC
  by_cases h : i < 0
  · rw [if_pos h]
    obtain ⟨n, rfl⟩ : ∃ n : Nat, i = Int.negSucc n := ⟨(-i - 1).toNat, by omega⟩
    have e : toString (Int.negSucc n) = "-" ++ toString ((n + 1 : Nat) : Int) := rfl
    rw [e, tl_ofString, String.toList_append, List.map_append, ← tl_ofString, ← tl_ofString, tl_num]
    have e2 : tl (Str.ofString "-") = [45] := by decide +kernel
    rw [e2]
    rfl
  · rw [if_neg h]
    obtain ⟨n, rfl⟩ : ∃ n : Nat, i = (n : Int) := ⟨i.toNat, by omega⟩
    exact tl_num n
theorem numC_free {i : Int} {s : Nat} (h : s < 45 ∨ 57 < s) : s ∉ numC i := by
  unfold numC
  have q := numL_free (n := i.natAbs) (s := s) (by omega)
  by_cases hi : i < 0
  · rw [if_pos hi]
    intro m
    rcases List.mem_cons.mp m with e | e
    · omega
    · exact q e
  · rw [if_neg hi]
    exact q
theorem numC_len {i : Int} (h : i.natAbs < 10 ^ 60) : (numC i).length ≤ 61 := by
  have q := numL_len (n := i.natAbs) (k := 60) (by decide) h
  unfold numC
  by_cases hi : i < 0
  · rw [if_pos hi, List.length_cons]
    omega
  · rw [if_neg hi]
    omega
theorem numS_len {i : Int} (h : i.natAbs < 10 ^ 60) : (numS i).length ≤ 61 := by
  rw [len_tl, tl_numS]
  exact numC_len h
theorem int_numS {i : Int} (h : i.natAbs < 10 ^ 60) : intText? (numS i) = some i := by
  have hl := numS_len h
  have et : (numS i).cps.toList = numC i := tl_numS i
  by_cases hi : i < 0
  · have e : numC i = 45 :: numL i.natAbs := if_pos hi
    rw [intText_neg (x := numS i) (cs := numL i.natAbs) (et.trans e) (numL_digits _) (numL_ne _) (by omega), numL_val]
    congr 1
    omega
  · have e : numC i = numL i.natAbs := if_neg hi
    rw [intText_digits (x := numS i) (by rw [et, e]; exact numL_digits _) (by rw [et, e]; exact numL_ne _) (by omega), et, e, numL_val]
    congr 1
    omega
/-- the first digit of a number above 9 .. -/
theorem numL_head : ∀ n : Nat, 0 < n → ∃ c l, numL n = c :: l ∧ c ≠ 48 := by
  intro n
  induction n using Nat.strongRecOn with
  | _ n ih =>
    intro h
    by_cases h10 : n < 10
    · exact ⟨48 + n, [], numL_lt h10, by omega⟩
    · obtain ⟨c, l, e, hc⟩ := ih (n / 10) (by omega) (by omega)
      exact ⟨c, l ++ [48 + n % 10], by rw [numL_step (by omega), e]; rfl, hc⟩
theorem numL_dig (n : Nat) : (numL n).all isDig = true := by
  rw [List.all_eq_true]
  intro c hc
  have h : 48 ≤ c ∧ c ≤ 57 := by
    rcases Nat.lt_or_ge c 48 with h | h
    · exact absurd hc (numL_free (.inl h))
    · rcases Nat.lt_or_ge 57 c with h2 | h2
      · exact absurd hc (numL_free (.inr h2))
      · exact ⟨h, h2⟩
  have hall : ∀ c : Nat, c < 58 → 48 ≤ c → isDig c = true := by decide +kernel
  exact hall c (by omega) h.1
theorem log2_small {i : Int} (h : i.natAbs < 10 ^ 60) : i.natAbs.log2 < 1920 :=
  Nat.lt_of_lt_of_le (PySem.Flt.log2_lt_of (k := 200) (by decide) (Nat.lt_of_lt_of_le h (by decide +kernel))) (by decide)

/-! ### data on the heap -/
section
variable {K : PySem.W.Frag} {H H' : Hp}
mutual
theorem Dp.same' (e : Same H H') : ∀ (d : PyData) (v : V), Dp K H v d → Dp K H' v d
  | .none, _, h => by cases h; exact .non
  | .bool b, _, h => by cases h; exact .bl b
  | .int i, _, h => by cases h; exact .int i
  | .str x, _, h => by cases h; exact .str x
  | .list ds, _, h => by
    cases h with
    | lst hs ha => exact .lst (e.seq hs) (DpAll.same' e ds _ ha)
  | .tuple ds, _, h => by
    cases h with
    | tup hs ha => exact .tup (same_tup e hs) (DpAll.same' e ds _ ha)
  | .dict _, _, h => by cases h
theorem DpAll.same' (e : Same H H') : ∀ (ds : List PyData) (vs : List V), DpAll K H vs ds → DpAll K H' vs ds
  | [], _, h => by cases h; exact .nil
  | d :: ds, _, h => by
    cases h with
    | cons h1 h2 => exact .cons (Dp.same' e d _ h1) (DpAll.same' e ds _ h2)
end
theorem dp_same {v : V} {d : PyData} (h : Dp K H v d) (e : Same H H') : Dp K H' v d := Dp.same' e d v h
theorem dpAll_same {vs : List V} {ds : List PyData} (h : DpAll K H vs ds) (e : Same H H') : DpAll K H' vs ds := DpAll.same' e ds vs h
mutual
def noL : PyData → Bool
  | .list _ => false
  | .dict _ => false
  | .tuple ds => noLs ds
  | _ => true
def noLs : List PyData → Bool
  | [] => true
  | d :: ds => noL d && noLs ds
end
theorem tup_kp {s a : Addr} {xs zs : List V} (e : Kp s H H') (hs : H s = some (.lst zs)) (h : SqT K H a xs) : SqT K H' a xs := by
  rcases h with (h | ⟨u, h⟩) | h
  · exact .inl (.inl (e _ _ (ne_of h hs (fun z => nomatch z)) h))
  · exact .inl (.inr ⟨u, e _ _ (ne_of h hs (fun z => nomatch z)) h⟩)
  · exact .inr h
mutual
theorem Dp.kp' {s : Addr} {zs : List V} (e : Kp s H H') (hs : H s = some (.lst zs)) : ∀ (d : PyData) (v : V), noL d = true → Dp K H v d → Dp K H' v d
  | .none, _, _, h => by cases h; exact .non
  | .bool b, _, _, h => by cases h; exact .bl b
  | .int i, _, _, h => by cases h; exact .int i
  | .str x, _, _, h => by cases h; exact .str x
  | .list ds, _, n, h => by cases n
  | .tuple ds, _, n, h => by
    cases h with
    | tup ht ha => exact .tup (tup_kp e hs ht) (DpAll.kp' e hs ds _ n ha)
  | .dict _, _, n, h => by cases n
theorem DpAll.kp' {s : Addr} {zs : List V} (e : Kp s H H') (hs : H s = some (.lst zs)) : ∀ (ds : List PyData) (vs : List V), noLs ds = true → DpAll K H vs ds → DpAll K H' vs ds
  | [], _, _, h => by cases h; exact .nil
  | d :: ds, _, n, h => by
    have n2 : (noL d && noLs ds) = true := n
    cases h with
    | cons h1 h2 => exact .cons (Dp.kp' e hs d _ (Bool.and_eq_true_iff.mp n2).1 h1) (DpAll.kp' e hs ds _ (Bool.and_eq_true_iff.mp n2).2 h2)
end
theorem dp_tup {v : V} {ds : List PyData} (h : Dp K H v (.tuple ds)) : ∃ a xs, v = .ref a ∧ SqT K H a xs ∧ DpAll K H xs ds := by
  cases h with
  | tup h1 h2 => exact ⟨_, _, rfl, h1, h2⟩
theorem dp_str {v : V} {z : Str} (h : Dp K H v (.str z)) : v = .str z := by cases h; rfl
theorem dp_int {v : V} {i : Int} (h : Dp K H v (.int i)) : v = .int i := by cases h; rfl
theorem dpAll_nil {xs : List V} (h : DpAll K H xs []) : xs = [] := by cases h; rfl
theorem dpAll_cons {xs : List V} {d : PyData} {ds : List PyData} (h : DpAll K H xs (d :: ds)) : ∃ v vs, xs = v :: vs ∧ Dp K H v d ∧ DpAll K H vs ds := by
  cases h with
  | cons h1 h2 => exact ⟨_, _, rfl, h1, h2⟩
theorem dpAll_len : ∀ {xs : List V} {ds : List PyData}, DpAll K H xs ds → xs.length = ds.length
  | _, _, .nil => rfl
  | _, _, .cons _ h => by rw [List.length_cons, List.length_cons, dpAll_len h]
theorem dpAll_get : ∀ {xs : List V} {ds : List PyData} {i : Nat} {v : V}, DpAll K H xs ds → xs[i]? = some v → ∃ d, ds[i]? = some d ∧ Dp K H v d
  | _, _, i, v, .nil, e => by simp at e
  | _, _, 0, v, .cons h _, e => by simp at e; subst e; exact ⟨_, rfl, h⟩
  | _, _, i + 1, v, .cons _ h, e => by
    obtain ⟨d, e1, e2⟩ := dpAll_get (i := i) (v := v) h (by simpa using e)
    exact ⟨d, by simpa using e1, e2⟩
theorem dpAll_strs : ∀ {xs : List V} {zs : List Str}, DpAll K H xs (zs.map PyData.str) → xs = zs.map V.str
  | _, [], h => dpAll_nil h
  | _, z :: zs, h => by
    obtain ⟨v, vs, rfl, h1, h2⟩ := dpAll_cons h
    rw [dp_str h1, dpAll_strs h2]
    rfl
theorem strs_dpAll : ∀ (zs : List Str), DpAll K H (zs.map V.str) (zs.map PyData.str)
  | [] => .nil
  | z :: zs => .cons (.str z) (strs_dpAll zs)
theorem dpAll_append : ∀ {xs ys : List V} {ds es : List PyData}, DpAll K H xs ds → DpAll K H ys es → DpAll K H (xs ++ ys) (ds ++ es)
  | _, _, _, _, .nil, h => h
  | _, _, _, _, .cons h1 h2, h => .cons h1 (dpAll_append h2 h)
end
end My


/-! Comps: comprehensions whose elements are new objects; joins; membership. -/
namespace My
open PySem PySem.Spec PyProof.Rows L2 TL
theorem lc_rel {J : It} {n : Nat} {G : Hp → Prop} {Y : Nat → Hp → V → Hp → Prop} (w : Walk J n G Y) {g : TG} {te : TE} {vs : List Nat} {σ : L2.St} {H1 : Hp} {D : Addr} {Qd : Hp → Prop} (R : Nat → V → Hp → Prop)
    (hR : ∀ i y H H', (∀ b o, b ≠ D → H b = some o → H' b = some o) → R i y H → R i y H')
    (hn : n ≤ 1000000) (hD : H1 D = none) (hY : ∀ i H x H', Y i H x H' → Same H H') (hG : ∀ H, Same H1 H → G H)
    (he : ∀ i x H H' (Q : VK), i < n → Same H1 H → (∃ l, H D = some (.lst l)) → Y i H x H' → (∀ y H2, Same H' H2 → R i y H2 → Q y H2) → g x (wipe σ vs) H' fun σ2 H2 => wipe σ2 vs = wipe σ vs ∧ te σ2 H2 Q)
    (hQ : ∀ acc H2, Same H1 H2 → H2 D = some (.lst acc) → acc.length = n → (∀ i y, acc[i]? = some y → R i y H2) → Qd H2) :
    ∃ W : Nat → Nat → Hp → Prop, (∃ m, W 0 m (upd H1 D (.lst []))) ∧ ∀ i m H, W i m H →
      (J.stop i H ∧ Qd H) ∨ (J.go i H ∧ ∃ Nx : Hp → Prop, (∀ H', Nx H' → ∃ m', m' < m ∧ W (i + 1) m' H') ∧ ∀ x H', J.yld i H x H' → g x (wipe σ vs) H' fun σ2 H2 => wipe σ2 vs = wipe σ vs ∧ tYes σ2 H2 fun b H3 =>
        if b = true then te σ2 H3 fun y H4 => ∃ acc, H4 D = some (.lst acc) ∧ acc.length < sizeLine ∧ Nx (upd H4 D (.lst (acc ++ [y]))) else Nx H3) := by
  refine lc_it w (fun i H => Same H1 H ∧ ∃ acc, H D = some (.lst acc) ∧ acc.length = i ∧ ∀ j y, acc[j]? = some y → R j y H) ⟨same_new hD, [], upd_same, rfl, fun j y e => by simp at e⟩ (fun i H _ p => hG H p.1) ?_ (fun H p => ?_)
  · rintro i x H H' hi ⟨p1, acc, p2, p3, p4⟩ y
    have s1 := hY i H x H' y
    refine he i x H H' _ hi p1 ⟨acc, p2⟩ y ?_
    intro z H2 s2 r
    refine ⟨acc, s2 _ _ (s1 _ _ p2), ?_, ?_, acc ++ [z], upd_same, ?_, ?_⟩
    · rw [p3]
      exact Nat.lt_of_lt_of_le (by omega : i < 1000000) (by decide)
    · intro b o e
      rw [upd_ne (ne_of_none e hD)]
      exact s2 _ _ (s1 _ _ (p1 _ _ e))
    · rw [List.length_append, List.length_singleton, p3]
    · have up : ∀ b o, b ≠ D → H2 b = some o → upd H2 D (.lst (acc ++ [z])) b = some o := fun b o nb e => by rw [upd_ne nb]; exact e
      intro j u e
      by_cases hj : j < acc.length
      · rw [List.getElem?_append_left hj] at e
        refine hR j u H2 _ up (hR j u H H2 (fun b o _ e => s2 _ _ (s1 _ _ e)) (p4 j u e))
      · rw [List.getElem?_append_right (by omega)] at e
        have hj0 : j = i := by
          have : j - acc.length < 1 := by
            have := (List.getElem?_eq_some_iff.mp e).1
            simpa using this
          omega
        subst hj0
        rw [p3, Nat.sub_self] at e
        have : z = u := by simpa using e
        subst this
        exact hR _ z H2 _ up r
  · obtain ⟨p1, acc, p2, p3, p4⟩ := p
    exact hQ acc H p1 p2 p3 p4

/-! ### joins by signs -/
theorem tl_joinT (y : Str) (ps : List Str) : tl (Txt.join y ps) = joinL (tl y) (ps.map tl) := by rw [join_eq, tl_join]
theorem joinL_cons {S p : List Nat} {r : List (List Nat)} (h : r ≠ []) : joinL S (p :: r) = p ++ (S ++ joinL S r) := by
  cases r with
  | nil => exact absurd rfl h
  | cons q r => rfl
theorem joinL_snoc {S p : List Nat} : ∀ {r : List (List Nat)}, r ≠ [] → joinL S (r ++ [p]) = joinL S r ++ (S ++ p)
  | [], h => absurd rfl h
  | [q], _ => rfl
  | q :: q2 :: r, _ => by
    rw [List.cons_append, joinL_cons (by simp), joinL_snoc (r := q2 :: r) (by simp), joinL_cons (r := q2 :: r) (by simp)]
    simp only [List.append_assoc]
theorem joinL_append {S : List Nat} : ∀ {r q : List (List Nat)}, r ≠ [] → q ≠ [] → joinL S (r ++ q) = joinL S r ++ (S ++ joinL S q)
  | [], _, h, _ => absurd rfl h
  | [p], q, _, h => by rw [List.singleton_append, joinL_cons h]; rfl
  | p :: p2 :: r, q, _, h => by
    rw [List.cons_append, joinL_cons (by simp), joinL_append (r := p2 :: r) (by simp) h, joinL_cons (r := p2 :: r) (by simp)]
    simp only [List.append_assoc]
theorem joinL_len (S : List Nat) : ∀ (r : List (List Nat)) (m : Nat), (∀ p ∈ r, p.length ≤ m) → (joinL S r).length ≤ r.length * (m + S.length)
  | [], _, _ => by simp [joinL]
  | [p], m, h => by
    have := h p List.mem_cons_self
    show p.length ≤ _
    simp
    omega
  | p :: q :: r, m, h => by
    have h1 := h p List.mem_cons_self
    have h2 := joinL_len S (q :: r) m fun z hz => h z (List.mem_cons_of_mem _ hz)
    rw [joinL_cons (by simp), List.length_append, List.length_append, List.length_cons (as := q :: r), Nat.succ_mul]
    omega
theorem sum_le {l : List Nat} {m : Nat} (h : ∀ x ∈ l, x ≤ m) : l.sum ≤ l.length * m := by
  induction l with
  | nil => simp
  | cons a l ih =>
    have h1 := h a List.mem_cons_self
    have h2 := ih fun x hx => h x (List.mem_cons_of_mem _ hx)
    rw [List.sum_cons, List.length_cons, Nat.succ_mul]
    omega
/-- what join asks of the sizes -/
theorem join_room {ys : List Str} {y : Str} {n m : Nat} (hn : ys.length ≤ n) (hm : ∀ z ∈ ys, z.length ≤ m) (h : n * m + n * y.length ≤ 16777216) : (ys.map (·.length)).sum + ys.length * y.length ≤ 16777216 := by
  have h1 : (ys.map (·.length)).sum ≤ ys.length * m := by
    have := sum_le (l := ys.map (·.length)) (m := m) (fun x hx => by
      obtain ⟨z, hz, rfl⟩ := List.mem_map.mp hx
      exact hm z hz)
    rwa [List.length_map] at this
  have h2 : ys.length * m ≤ n * m := Nat.mul_le_mul_right _ hn
  have h3 : ys.length * y.length ≤ n * y.length := Nat.mul_le_mul_right _ hn
  omega

/-! ### in -/
theorem inV_strs (z : Str) (zs : List Str) : inV (.str z) (zs.map V.str) = decide (z ∈ zs) := by
  unfold inV
  rw [List.any_map]
  by_cases h : z ∈ zs
  · rw [decide_eq_true h, List.any_eq_true]
    exact ⟨z, h, by show (z == z) = true; simp⟩
  · rw [decide_eq_false h, List.any_eq_false]
    intro y hy
    show ¬ (y == z) = true
    intro e
    exact h (by rw [← eq_of_beq e]; exact hy)
theorem flat_strs (zs : List Str) : (zs.map V.str).all flatV = true := by
  rw [List.all_map, List.all_eq_true]
  intro _ _
  rfl
theorem flat_ints (zs : List Int) : (zs.map V.int).all flatV = true := by
  rw [List.all_map, List.all_eq_true]
  intro _ _
  rfl
theorem inV_non (zs : List Int) : inV .non (zs.map V.int) = false := by
  unfold inV
  rw [List.any_map, List.any_eq_false]
  intro y _ h
  cases h
theorem atI_pos {α : Type} {xs : List α} (j : Nat) {v : α} (h : xs[j]? = some v) : atI xs (j : Int) = some v := atI_nat h
theorem map_range_get {α β : Type} (xs : List α) (f : α → β) (g : Nat → β) (h : ∀ i x, xs[i]? = some x → g i = f x) : (List.range xs.length).map g = xs.map f := by
  apply List.ext_getElem
  · simp
  · intro i h1 h2
    simp only [List.getElem_map, List.getElem_range]
    have hi : i < xs.length := by simpa using h1
    exact h i xs[i] (by simp [hi])
end My


/-! Q0: plain values that stand for what the heap holds; what never changes keeps standing for it. -/
namespace My
open PySem PySem.Spec PyProof.Rows L2
/-- a value with all that hangs on it; lists and dicts in it are locked for good -/
inductive D where
  | non | bl (b : Bool) | int (i : Int) | str (z : Str)
  | tup (ds : List D) | lst (ds : List D) | dic (kvs : List (Key × D)) | dit (kvs : List (List Key × D)) | ins (C : Addr) (fs : List (Str × D)) | src
mutual
inductive DR (K : PySem.W.Frag) (s : Addr) (H : Hp) : V → D → Prop
  | non : DR K s H .non .non
  | bl (b : Bool) : DR K s H (.bl b) (.bl b)
  | int (i : Int) : DR K s H (.int i) (.int i)
  | str (z : Str) : DR K s H (.str z) (.str z)
  | tup {a : Addr} {vs : List V} {ds : List D} : H a = some (.tup vs) → DRs K s H vs ds → DR K s H (.ref a) (.tup ds)
  | lst {a : Addr} {o : Obj} {vs : List V} {ds : List D} : H a = some (.frz o (.lst vs)) → DRs K s H vs ds → DR K s H (.ref a) (.lst ds)
  | dic {a : Addr} {o : Obj} {kvs : List (Key × V)} {kds : List (Key × D)} : H a = some (.frz o (.dK kvs)) → DRk K s H kvs kds → DR K s H (.ref a) (.dic kds)
  | dit {a : Addr} {o : Obj} {kvs : List (List Key × V)} {kds : List (List Key × D)} : H a = some (.frz o (.dT kvs)) → DRt K s H kvs kds → DR K s H (.ref a) (.dit kds)
  | ins {a C dx : Addr} {o : Obj} {fs : List (Str × V)} {fds : List (Str × D)} : H a = some (.frz o (.ins C dx fs)) → DRf K s H fs fds → DR K s H (.ref a) (.ins C fds)
  | src : DR K s H (.ref s) .src
inductive DRs (K : PySem.W.Frag) (s : Addr) (H : Hp) : List V → List D → Prop
  | nil : DRs K s H [] []
  | cons {v : V} {vs : List V} {d : D} {ds : List D} : DR K s H v d → DRs K s H vs ds → DRs K s H (v :: vs) (d :: ds)
inductive DRk (K : PySem.W.Frag) (s : Addr) (H : Hp) : List (Key × V) → List (Key × D) → Prop
  | nil : DRk K s H [] []
  | cons {k : Key} {v : V} {vs : List (Key × V)} {d : D} {ds : List (Key × D)} : DR K s H v d → DRk K s H vs ds → DRk K s H ((k, v) :: vs) ((k, d) :: ds)
inductive DRt (K : PySem.W.Frag) (s : Addr) (H : Hp) : List (List Key × V) → List (List Key × D) → Prop
  | nil : DRt K s H [] []
  | cons {k : List Key} {v : V} {vs : List (List Key × V)} {d : D} {ds : List (List Key × D)} : DR K s H v d → DRt K s H vs ds → DRt K s H ((k, v) :: vs) ((k, d) :: ds)
inductive DRf (K : PySem.W.Frag) (s : Addr) (H : Hp) : List (Str × V) → List (Str × D) → Prop
  | nil : DRf K s H [] []
  | cons {k : Str} {v : V} {vs : List (Str × V)} {d : D} {ds : List (Str × D)} : DR K s H v d → DRf K s H vs ds → DRf K s H ((k, v) :: vs) ((k, d) :: ds)
end
/-- what may change: lists, dicts, instances that are not locked -/
def soft : HO → Bool
  | .lst _ => true
  | .dK _ => true
  | .dT _ => true
  | .ins _ _ _ => true
  | _ => false
def Loose (H : Hp) (l : Addr) : Prop := ∃ o, H l = some o ∧ soft o = true
theorem Loose.ne {H : Hp} {l a : Addr} {o : HO} (hl : Loose H l) (h : H a = some o) (hs : soft o = false) : a ≠ l := fun z => by
  subst z
  obtain ⟨u, h1, h2⟩ := hl
  rw [h] at h1
  cases h1
  rw [hs] at h2
  cases h2
/-- what never changes stays -/
def Im (H H' : Hp) : Prop := ∀ b o, soft o = false → H b = some o → H' b = some o
theorem Im.refl (H : Hp) : Im H H := fun _ _ _ h => h
theorem Im.trans {H H1 H2 : Hp} (a : Im H H1) (b : Im H1 H2) : Im H H2 := fun p o h1 h => b p o h1 (a p o h1 h)
theorem Kp.im {l : Addr} {H H' : Hp} (e : Kp l H H') (hl : Loose H l) : Im H H' := fun b o h1 h => e b o (hl.ne h h1) h
theorem Same.im {H H' : Hp} (e : Same H H') : Im H H' := fun b o _ h => e b o h
section
variable {K : PySem.W.Frag} {s c : Addr} {H H' : Hp}
theorem sqT_im {a : Addr} {xs : List V} (e : Im H H') (h : SqT K H a xs) : SqT K H' a xs := by
  rcases h with (h | ⟨o, h⟩) | h
  · exact .inl (.inl (e a _ rfl h))
  · exact .inl (.inr ⟨o, e a _ rfl h⟩)
  · exact .inr h
theorem tup_im {a : Addr} {xs : List V} (e : Im H H') (h : H a = some (.tup xs)) : H' a = some (.tup xs) := e a _ rfl h
theorem frz_im {a : Addr} {o : Obj} {u : HO} (e : Im H H') (h : H a = some (.frz o u)) : H' a = some (.frz o u) := e a _ rfl h
mutual
theorem DR.im (e : Im H H') : ∀ {v : V} {d : D}, DR K s H v d → DR K s H' v d
  | _, _, .non => .non
  | _, _, .bl b => .bl b
  | _, _, .int i => .int i
  | _, _, .str z => .str z
  | _, _, .tup h r => .tup (tup_im e h) (DRs.im e r)
  | _, _, .lst h r => .lst (frz_im e h) (DRs.im e r)
  | _, _, .dic h r => .dic (frz_im e h) (DRk.im e r)
  | _, _, .dit h r => .dit (frz_im e h) (DRt.im e r)
  | _, _, .ins h r => .ins (frz_im e h) (DRf.im e r)
  | _, _, .src => .src
theorem DRs.im (e : Im H H') : ∀ {v : List V} {d : List D}, DRs K s H v d → DRs K s H' v d
  | _, _, .nil => .nil
  | _, _, .cons h r => .cons (DR.im e h) (DRs.im e r)
theorem DRk.im (e : Im H H') : ∀ {v : List (Key × V)} {d : List (Key × D)}, DRk K s H v d → DRk K s H' v d
  | _, _, .nil => .nil
  | _, _, .cons h r => .cons (DR.im e h) (DRk.im e r)
theorem DRt.im (e : Im H H') : ∀ {v : List (List Key × V)} {d : List (List Key × D)}, DRt K s H v d → DRt K s H' v d
  | _, _, .nil => .nil
  | _, _, .cons h r => .cons (DR.im e h) (DRt.im e r)
theorem DRf.im (e : Im H H') : ∀ {v : List (Str × V)} {d : List (Str × D)}, DRf K s H v d → DRf K s H' v d
  | _, _, .nil => .nil
  | _, _, .cons h r => .cons (DR.im e h) (DRf.im e r)
end
theorem DRs.len : ∀ {v : List V} {d : List D}, DRs K s H v d → v.length = d.length
  | _, _, .nil => rfl
  | _, _, .cons _ r => by rw [List.length_cons, List.length_cons, DRs.len r]
theorem DRs.append : ∀ {v w : List V} {d e : List D}, DRs K s H v d → DRs K s H w e → DRs K s H (v ++ w) (d ++ e)
  | _, _, _, _, .nil, h => h
  | _, _, _, _, .cons x r, h => .cons x (DRs.append r h)
theorem DRs.snoc {vs : List V} {v : V} {ds : List D} {d : D} (h : DRs K s H vs ds) (x : DR K s H v d) : DRs K s H (vs ++ [v]) (ds ++ [d]) := h.append (.cons x .nil)
theorem DRs.get : ∀ {vs : List V} {ds : List D}, DRs K s H vs ds → ∀ {i : Nat} {v : V}, vs[i]? = some v → ∃ d, ds[i]? = some d ∧ DR K s H v d
  | _, _, .nil, i, v, h => by simp at h
  | _, _, .cons x r, 0, v, h => by
    cases h
    exact ⟨_, rfl, x⟩
  | _, _, .cons x r, i + 1, v, h => DRs.get r (i := i) h
theorem DRs.get' : ∀ {vs : List V} {ds : List D}, DRs K s H vs ds → ∀ {i : Nat} {d : D}, ds[i]? = some d → ∃ v, vs[i]? = some v ∧ DR K s H v d
  | _, _, .nil, i, v, h => by simp at h
  | _, _, .cons x r, 0, v, h => by
    cases h
    exact ⟨_, rfl, x⟩
  | _, _, .cons x r, i + 1, v, h => DRs.get' r (i := i) h
theorem DRs.drop : ∀ (n : Nat) {vs : List V} {ds : List D}, DRs K s H vs ds → DRs K s H (vs.drop n) (ds.drop n)
  | 0, _, _, h => h
  | n + 1, _, _, .nil => .nil
  | n + 1, _, _, .cons _ r => DRs.drop n r
theorem DRs.take : ∀ (n : Nat) {vs : List V} {ds : List D}, DRs K s H vs ds → DRs K s H (vs.take n) (ds.take n)
  | 0, _, _, h => .nil
  | n + 1, _, _, .nil => .nil
  | n + 1, _, _, .cons x r => .cons x (DRs.take n r)
end
/-! ### data that == and repr know -/
mutual
def toPy : D → Option PyData
  | .non => some .none
  | .bl b => some (.bool b)
  | .int i => some (.int i)
  | .str z => some (.str z)
  | .tup ds => (toPys ds).map .tuple
  | .lst ds => (toPys ds).map .list
  | _ => none
def toPys : List D → Option (List PyData)
  | [] => some []
  | d :: ds => match toPy d, toPys ds with
    | some p, some ps => some (p :: ps)
    | _, _ => none
end
section
variable {K : PySem.W.Frag} {s : Addr} {H : Hp}
mutual
theorem DR.dp : ∀ {v : V} {d : D} {p : PyData}, DR K s H v d → toPy d = some p → Dp K H v p
  | _, _, p, .non, h => by unfold toPy at h; cases h; exact .non
  | _, _, p, .bl b, h => by unfold toPy at h; cases h; exact .bl b
  | _, _, p, .int i, h => by unfold toPy at h; cases h; exact .int i
  | _, _, p, .str z, h => by unfold toPy at h; cases h; exact .str z
  | _, _, p, .tup hs r, h => by
    unfold toPy at h
    obtain ⟨ps, h1, rfl⟩ := Option.map_eq_some_iff.mp h
    exact .tup (.inl (.inl hs)) (DRs.dp r h1)
  | _, _, p, .lst hs r, h => by
    unfold toPy at h
    obtain ⟨ps, h1, rfl⟩ := Option.map_eq_some_iff.mp h
    exact .lst (.inl (.inr ⟨_, hs⟩)) (DRs.dp r h1)
  | _, _, p, .dic hs r, h => by unfold toPy at h; cases h
  | _, _, p, .dit hs r, h => by unfold toPy at h; cases h
  | _, _, p, .ins hs r, h => by unfold toPy at h; cases h
  | _, _, p, .src, h => by unfold toPy at h; cases h
theorem DRs.dp : ∀ {v : List V} {d : List D} {p : List PyData}, DRs K s H v d → toPys d = some p → DpAll K H v p
  | _, _, p, .nil, h => by unfold toPys at h; cases h; exact .nil
  | _, _, p, .cons (d := d) (ds := ds) x r, h => by
    unfold toPys at h
    cases h1 : toPy d with
    | none => rw [h1] at h; cases h
    | some q =>
      cases h2 : toPys ds with
      | none => rw [h1, h2] at h; cases h
      | some qs =>
        rw [h1, h2] at h
        cases h
        exact .cons (DR.dp x h1) (DRs.dp r h2)
end
end
/-! ### an exception: its class, its fields -/
structure Ex where
  C : Addr
  fs : List (Str × D)
def ExR (K : PySem.W.Frag) (s : Addr) (H : Hp) (cls : Value) (d : Option Addr) (x : Ex) : Prop := cls = .ref x.C ∧ ((x.fs = [] ∧ d = none) ∨ ∃ dd us, d = some dd ∧ H dd = some (.xd us) ∧ DRf K s H us x.fs)
theorem ExR.im {K : PySem.W.Frag} {s : Addr} {H H' : Hp} {cls : Value} {d : Option Addr} {x : Ex} (e : Im H H') (h : ExR K s H cls d x) : ExR K s H' cls d x := by
  obtain ⟨h1, h2 | ⟨dd, us, h2, h3, h4⟩⟩ := h
  · exact ⟨h1, .inl h2⟩
  · exact ⟨h1, .inr ⟨dd, us, h2, e _ _ rfl h3, h4.im e⟩⟩
end My


/-! Q1: readings over plain values; what they say is what the readings over the heap ask (expressions). -/
namespace My
open PySem PySem.Spec PyProof.Rows L2
/-- a slot's value: data, or a list or dict of this def that may still change -/
inductive Cell where
  | dat (d : D) | lm (ds : List D) | dm (kvs : List (Key × D)) | tm (kvs : List (List Key × D)) | om (x C : Addr) (fs : List (Str × D)) | un | ex (a : Addr) (cls : Value) (d : Option Addr) (x : Ex) | rl (ds : List D) | rd (kvs : List (Key × D)) | rt (kvs : List (List Key × D))
abbrev Sd := List (Option Cell)
abbrev cI (i : Int) : Cell := .dat (.int i)
abbrev cS (z : Str) : Cell := .dat (.str z)
abbrev cB (b : Bool) : Cell := .dat (.bl b)
abbrev cN : Cell := .dat .non
theorem Kp.via {s l : Addr} {H H1 H2 : Hp} (h : Kp s H H1) (hl : H l = none) (k : Kp l H1 H2) : Kp s H H2 := fun b o nb hb => k b o (fun e => by subst e; rw [hl] at hb; cases hb) (h b o nb hb)
theorem Kp.none {s l : Addr} {H H1 : Hp} (h : Kp s H H1) (n : l ≠ s) (hl : H1 l = none) : H l = none := by
  cases e : H l with
  | none => rfl
  | some o => rw [h _ _ n e] at hl; cases hl
def CellR (K : PySem.W.Frag) (s c : Addr) (H : Hp) (v : V) : Cell → Prop
  | .dat d => DR K s H v d
  | .lm ds => ∃ a vs, v = .ref a ∧ H a = some (.lst vs) ∧ DRs K s H vs ds ∧ a ≠ s ∧ a ≠ c
  | .dm kds => ∃ a kvs, v = .ref a ∧ H a = some (.dK kvs) ∧ DRk K s H kvs kds ∧ a ≠ s ∧ a ≠ c
  | .tm kds => ∃ a kvs, v = .ref a ∧ H a = some (.dT kvs) ∧ DRt K s H kvs kds ∧ a ≠ s ∧ a ≠ c
  | .om x C fds => ∃ dx fs, v = .ref x ∧ H x = some (.ins C dx fs) ∧ DRf K s H fs fds ∧ x ≠ s ∧ x ≠ c
  | .un => True
  | .ex a cls d x => v = .ref a ∧ ExR K s H cls d x
  | .rl ds => ∃ a vs, v = .ref a ∧ H a = some (.lst vs) ∧ DRs K s H vs ds ∧ a ≠ s ∧ a ≠ c
  | .rd kds => ∃ a kvs, v = .ref a ∧ H a = some (.dK kvs) ∧ DRk K s H kvs kds ∧ a ≠ s ∧ a ≠ c
  | .rt kds => ∃ a kvs, v = .ref a ∧ H a = some (.dT kvs) ∧ DRt K s H kvs kds ∧ a ≠ s ∧ a ≠ c
def SlotR (K : PySem.W.Frag) (s c : Addr) (H : Hp) : Option V → Option Cell → Prop
  | none, none => True
  | some v, some x => CellR K s c H v x
  | _, _ => False
def looseC : Option Cell → Bool
  | some (.lm _) => true
  | some (.dm _) => true
  | some (.tm _) => true
  | some (.om _ _ _) => true
  | _ => false
/-- lists and dicts that a caller lent: not changed here -/
def roC : Option Cell → Bool
  | some (.rl _) => true
  | some (.rd _) => true
  | some (.rt _) => true
  | _ => false
/-- an expression has run: all but the source is as it was -/
structure Stp (s c : Addr) (H H' : Hp) : Prop where
  kp : Kp s H H'
  src : Src H' s c
theorem Src.loose {H : Hp} {s c : Addr} (S : Src H s c) : Loose H s := let ⟨xs, h⟩ := S.at; ⟨_, h, rfl⟩
theorem Stp.refl {s c : Addr} {H : Hp} (S : Src H s c) : Stp s c H H := ⟨Kp.refl _ _, S⟩
theorem Stp.trans {s c : Addr} {H H1 H2 : Hp} (a : Stp s c H H1) (b : Stp s c H1 H2) : Stp s c H H2 := ⟨a.kp.trans b.kp, b.src⟩
theorem Stp.same {s c : Addr} {H H' : Hp} (S : Src H s c) (e : Same H H') : Stp s c H H' := ⟨kp_same e, S.same e⟩
theorem Stp.im {s c : Addr} {H H' : Hp} (S : Src H s c) (e : Stp s c H H') : Im H H' := e.kp.im S.loose
section
variable {K : PySem.W.Frag} {s c : Addr} {H H' : Hp}
theorem CellR.stp (S : Src H s c) (e : Stp s c H H') {v : V} {x : Cell} (h : CellR K s c H v x) : CellR K s c H' v x := by
  cases x with
  | dat d => exact DR.im (e.im S) h
  | lm ds =>
    obtain ⟨a, vs, rfl, ha, hd, h1, h2⟩ := h
    exact ⟨a, vs, rfl, e.kp _ _ h1 ha, hd.im (e.im S), h1, h2⟩
  | dm ds =>
    obtain ⟨a, vs, rfl, ha, hd, h1, h2⟩ := h
    exact ⟨a, vs, rfl, e.kp _ _ h1 ha, hd.im (e.im S), h1, h2⟩
  | tm ds =>
    obtain ⟨a, vs, rfl, ha, hd, h1, h2⟩ := h
    exact ⟨a, vs, rfl, e.kp _ _ h1 ha, hd.im (e.im S), h1, h2⟩
  | om x C ds =>
    obtain ⟨dx, vs, rfl, ha, hd, h1, h2⟩ := h
    exact ⟨dx, vs, rfl, e.kp _ _ h1 ha, hd.im (e.im S), h1, h2⟩
  | un => trivial
  | ex a cls d x => exact ⟨h.1, h.2.im (e.im S)⟩
  | rl ds =>
    obtain ⟨a, vs, rfl, ha, hd, h1, h2⟩ := h
    exact ⟨a, vs, rfl, e.kp _ _ h1 ha, hd.im (e.im S), h1, h2⟩
  | rd ds =>
    obtain ⟨a, vs, rfl, ha, hd, h1, h2⟩ := h
    exact ⟨a, vs, rfl, e.kp _ _ h1 ha, hd.im (e.im S), h1, h2⟩
  | rt ds =>
    obtain ⟨a, vs, rfl, ha, hd, h1, h2⟩ := h
    exact ⟨a, vs, rfl, e.kp _ _ h1 ha, hd.im (e.im S), h1, h2⟩
end
/-- the def's slots σ over the heap H stand for σd; H0: the heap at the def's entry -/
structure Rel (K : PySem.W.Frag) (s c : Addr) (H0 : Hp) (σ : L2.St) (H : Hp) (σd : Sd) : Prop where
  src : Src H s c
  kp0 : Kp s H0 H
  len : σ.length = σd.length
  slot : ∀ (i : Nat) (v : Option V), σ[i]? = some v → ∃ x, σd[i]? = some x ∧ SlotR K s c H v x
  new : ∀ (i : Nat) (a : Addr), σ[i]? = some (some (.ref a)) → looseC ((σd[i]?).join) = true → H0 a = none
  apart : ∀ (i j : Nat) (a : Addr), i ≠ j → looseC ((σd[i]?).join) = true → looseC ((σd[j]?).join) = true → σ[i]? = some (some (.ref a)) → σ[j]? = some (some (.ref a)) → False
  old : ∀ (i : Nat) (a : Addr), σ[i]? = some (some (.ref a)) → roC ((σd[i]?).join) = true → H0 a ≠ none
section
variable {K : PySem.W.Frag} {s c : Addr} {H0 H H' : Hp} {σ : L2.St} {σd : Sd}
theorem SlotR.stp (S : Src H s c) (e : Stp s c H H') {v : Option V} {x : Option Cell} (h : SlotR K s c H v x) : SlotR K s c H' v x := by
  cases v with
  | none => cases x with
    | none => exact h
    | some x => exact h
  | some v => cases x with
    | none => exact h
    | some x => exact CellR.stp S e h
theorem Rel.stp (R : Rel K s c H0 σ H σd) (e : Stp s c H H') : Rel K s c H0 σ H' σd :=
  ⟨e.src, R.kp0.trans e.kp, R.len, fun i v h => let ⟨x, h1, h2⟩ := R.slot i v h; ⟨x, h1, h2.stp R.src e⟩, R.new, R.apart, R.old⟩
theorem Rel.at (R : Rel K s c H0 σ H σd) {i : Nat} {x : Cell} (h : σd[i]? = some (some x)) : ∃ v, σ[i]? = some (some v) ∧ CellR K s c H v x := by
  have hi : i < σ.length := by
    rw [R.len]
    exact (List.getElem?_eq_some_iff.mp h).1
  obtain ⟨y, h1, h2⟩ := R.slot i _ (List.getElem?_eq_getElem hi)
  rw [h] at h1
  cases h1
  cases hv : σ[i] with
  | none => rw [hv] at h2; exact h2.elim
  | some v =>
    rw [hv] at h2
    exact ⟨v, by rw [List.getElem?_eq_getElem hi, hv], h2⟩
end
end My


/-! Q2: the rules for expressions. -/
namespace My
open PySem PySem.Spec PyProof.Rows L2
abbrev PEx := Sd → (Cell → Prop) → Prop
abbrev PNx := Sd → (List D → Prop) → Prop
abbrev PTx := Sd → (Bool → Prop) → Prop
abbrev PAx := Sd → (List Cell → Prop) → Prop
inductive CellsR (K : PySem.W.Frag) (s c : Addr) (H : Hp) : List V → List Cell → Prop
  | nil : CellsR K s c H [] []
  | cons {v : V} {vs : List V} {x : Cell} {xs : List Cell} : CellR K s c H v x → CellsR K s c H vs xs → CellsR K s c H (v :: vs) (x :: xs)
def LE (K : PySem.W.Frag) (s c : Addr) (H0 : Hp) (t : TE) (p : PEx) : Prop := ∀ (σ : L2.St) (σd : Sd) (H : Hp) (Q : VK) (P : Cell → Prop), Rel K s c H0 σ H σd → p σd P →
  (∀ x v H', P x → CellR K s c H' v x → Stp s c H H' → Q v H') → t σ H Q
def LA (K : PySem.W.Frag) (s c : Addr) (H0 : Hp) (t : TA) (p : PAx) : Prop := ∀ (σ : L2.St) (σd : Sd) (H : Hp) (Q : List V → Hp → Prop) (P : List Cell → Prop), Rel K s c H0 σ H σd → p σd P →
  (∀ xs vs H', P xs → CellsR K s c H' vs xs → Stp s c H H' → Q vs H') → t σ H Q
def LT (K : PySem.W.Frag) (s c : Addr) (H0 : Hp) (t : TT) (p : PTx) : Prop := ∀ (σ : L2.St) (σd : Sd) (H : Hp) (Q : Bool → Hp → Prop) (P : Bool → Prop), Rel K s c H0 σ H σd → p σd P →
  (∀ b H', P b → Stp s c H H' → Q b H') → t σ H Q
/-- a new list comes -/
def LN (K : PySem.W.Frag) (s c : Addr) (H0 : Hp) (t : TE) (p : PNx) : Prop := ∀ (σ : L2.St) (σd : Sd) (H : Hp) (Q : VK) (P : List D → Prop), Rel K s c H0 σ H σd → p σd P →
  (∀ ds a vs H', P ds → H' a = some (.lst vs) → H a = none → DRs K s H' vs ds → Stp s c H H' → Q (.ref a) H') → t σ H Q
/-! ### values at hand -/
def flatC : Cell → Option V
  | .dat .non => some .non
  | .dat (.bl b) => some (.bl b)
  | .dat (.int i) => some (.int i)
  | .dat (.str z) => some (.str z)
  | _ => none
/-- the items of a list -/
def seqL : Cell → Option (List D)
  | .dat (.lst ds) => some ds
  | .lm ds => some ds
  | .rl ds => some ds
  | _ => none
/-- of a list or a tuple -/
def seqC : Cell → Option (List D)
  | .dat (.lst ds) => some ds
  | .dat (.tup ds) => some ds
  | .lm ds => some ds
  | .rl ds => some ds
  | _ => none
def datC : Cell → Option D
  | .dat d => some d
  | _ => none
def datsC : List Cell → Option (List D)
  | [] => some []
  | x :: xs => match datC x, datsC xs with
    | some d, some ds => some (d :: ds)
    | _, _ => none
def toPyC : Cell → Option PyData
  | .dat d => toPy d
  | .lm ds => (toPys ds).map .list
  | .rl ds => (toPys ds).map .list
  | _ => none
section
variable {K : PySem.W.Frag} {s c : Addr} {H H' : Hp}
theorem CellsR.stp (S : Src H s c) (e : Stp s c H H') : ∀ {vs : List V} {xs : List Cell}, CellsR K s c H vs xs → CellsR K s c H' vs xs
  | _, _, .nil => .nil
  | _, _, .cons h r => .cons (h.stp S e) (CellsR.stp S e r)
theorem flat_eq {v w : V} {x : Cell} (h : CellR K s c H v x) (e : flatC x = some w) : v = w := by
  cases x with
  | dat d =>
    cases d <;> first
      | (cases e; cases h; rfl)
      | cases e
  | lm ds => cases e
  | dm ds => cases e
  | tm ds => cases e
  | om x C ds => cases e
  | un => cases e
  | ex a cls d x => cases e
  | rl ds => cases e
  | rd ds => cases e
  | rt ds => cases e
theorem int_eq {v : V} {i : Int} (h : CellR K s c H v (cI i)) : v = .int i := flat_eq h rfl
theorem str_eq {v : V} {i : Str} (h : CellR K s c H v (cS i)) : v = .str i := flat_eq h rfl
theorem bl_eq {v : V} {i : Bool} (h : CellR K s c H v (cB i)) : v = .bl i := flat_eq h rfl
theorem seqL_at {v : V} {x : Cell} {ds : List D} (h : CellR K s c H v x) (e : seqL x = some ds) : ∃ a vs, v = .ref a ∧ SqL K H a vs ∧ DRs K s H vs ds := by
  cases x with
  | dat d =>
    cases d <;> first
      | (cases e; cases h with | lst h r => exact ⟨_, _, rfl, .inl (.inr ⟨_, h⟩), r⟩)
      | cases e
  | lm ds =>
    cases e
    obtain ⟨a, vs, rfl, ha, hd, _⟩ := h
    exact ⟨a, vs, rfl, .inl (.inl ha), hd⟩
  | dm ds => cases e
  | tm ds => cases e
  | om x C ds => cases e
  | un => cases e
  | ex a cls d x => cases e
  | rl ds =>
    cases e
    obtain ⟨a, vs, rfl, ha, hd, _⟩ := h
    exact ⟨a, vs, rfl, .inl (.inl ha), hd⟩
  | rd ds => cases e
  | rt ds => cases e
theorem tup_at {v : V} {ds : List D} (h : CellR K s c H v (.dat (.tup ds))) : ∃ a vs, v = .ref a ∧ H a = some (.tup vs) ∧ DRs K s H vs ds := by
  cases h with
  | tup h r => exact ⟨_, _, rfl, h, r⟩
theorem seqC_at {v : V} {x : Cell} {ds : List D} (h : CellR K s c H v x) (e : seqC x = some ds) : ∃ a vs, v = .ref a ∧ (SqL K H a vs ∨ SqT K H a vs) ∧ DRs K s H vs ds := by
  cases x with
  | dat d =>
    cases d <;> first
      | (cases e; cases h with | lst h r => exact ⟨_, _, rfl, .inl (.inl (.inr ⟨_, h⟩)), r⟩)
      | (cases e; cases h with | tup h r => exact ⟨_, _, rfl, .inr (.inl (.inl h)), r⟩)
      | cases e
  | lm ds =>
    cases e
    obtain ⟨a, vs, rfl, ha, hd, _⟩ := h
    exact ⟨a, vs, rfl, .inl (.inl (.inl ha)), hd⟩
  | dm ds => cases e
  | tm ds => cases e
  | om x C ds => cases e
  | un => cases e
  | ex a cls d x => cases e
  | rl ds =>
    cases e
    obtain ⟨a, vs, rfl, ha, hd, _⟩ := h
    exact ⟨a, vs, rfl, .inl (.inl (.inl ha)), hd⟩
  | rd ds => cases e
  | rt ds => cases e
theorem datC_at {v : V} {x : Cell} {d : D} (h : CellR K s c H v x) (e : datC x = some d) : DR K s H v d := by
  cases x with
  | dat d => cases e; exact h
  | lm ds => cases e
  | dm ds => cases e
  | tm ds => cases e
  | om x C ds => cases e
  | un => cases e
  | ex a cls d x => cases e
  | rl ds => cases e
  | rd ds => cases e
  | rt ds => cases e
theorem datsC_at : ∀ {vs : List V} {xs : List Cell} {ds : List D}, CellsR K s c H vs xs → datsC xs = some ds → DRs K s H vs ds
  | _, _, ds, .nil, e => by cases e; exact .nil
  | _, _, ds, .cons (x := x) (xs := xs) h r, e => by
    unfold datsC at e
    cases h1 : datC x with
    | none => rw [h1] at e; cases e
    | some d =>
      cases h2 : datsC xs with
      | none => rw [h1, h2] at e; cases e
      | some ds =>
        rw [h1, h2] at e
        cases e
        exact .cons (datC_at h h1) (datsC_at r h2)
theorem toPyC_at {v : V} {x : Cell} {p : PyData} (h : CellR K s c H v x) (e : toPyC x = some p) : Dp K H v p := by
  cases x with
  | dat d => exact DR.dp h e
  | lm ds =>
    obtain ⟨ps, h1, rfl⟩ := Option.map_eq_some_iff.mp e
    obtain ⟨a, vs, rfl, ha, hd, _⟩ := h
    exact .lst (.inl (.inl ha)) (DRs.dp hd h1)
  | dm ds => cases e
  | tm ds => cases e
  | om x C ds => cases e
  | un => cases e
  | ex a cls d x => cases e
  | rl ds =>
    obtain ⟨ps, h1, rfl⟩ := Option.map_eq_some_iff.mp e
    obtain ⟨a, vs, rfl, ha, hd, _⟩ := h
    exact .lst (.inl (.inl ha)) (DRs.dp hd h1)
  | rd ds => cases e
  | rt ds => cases e
theorem strs_of : ∀ {vs : List V} {zs : List Str}, DRs K s H vs (zs.map .str) → vs = zs.map V.str
  | _, [], h => by cases h; rfl
  | _, z :: zs, h => by
    cases h with
    | cons x r =>
      cases x
      rw [strs_of r]
      rfl
theorem ints_of : ∀ {vs : List V} {zs : List Int}, DRs K s H vs (zs.map .int) → vs = zs.map V.int
  | _, [], h => by cases h; rfl
  | _, z :: zs, h => by
    cases h with
    | cons x r =>
      cases x
      rw [ints_of r]
      rfl
theorem bls_of : ∀ {vs : List V} {zs : List Bool}, DRs K s H vs (zs.map .bl) → vs = zs.map V.bl
  | _, [], h => by cases h; rfl
  | _, z :: zs, h => by
    cases h with
    | cons x r =>
      cases x
      rw [bls_of r]
      rfl
theorem strs_dr : ∀ (zs : List Str), DRs K s H (zs.map V.str) (zs.map .str)
  | [] => .nil
  | z :: zs => .cons (.str z) (strs_dr zs)
theorem atI_dr {vs : List V} {ds : List D} {i : Int} {d : D} (h : DRs K s H vs ds) (e : atI ds i = some d) : ∃ v, atI vs i = some v ∧ DR K s H v d := by
  unfold atI at e ⊢
  rw [h.len]
  cases hx : ixN ds.length i with
  | none => rw [hx] at e; cases e
  | some j =>
    rw [hx] at e
    exact h.get' (i := j) e
end
/-! ### rules -/
section
variable {K : PySem.W.Frag} {s c : Addr} {H0 : Hp}
def pVar (i : Nat) : PEx := fun σd P => ∃ x, σd[i]? = some (some x) ∧ P x
theorem L_var (i : Nat) : LE K s c H0 (tVar i) (pVar i) := fun σ σd H Q P R h k => by
  obtain ⟨x, h1, h2⟩ := h
  obtain ⟨v, h3, h4⟩ := R.at h1
  exact ⟨v, h3, k x v H h2 h4 (.refl R.src)⟩
def pC (x : Cell) : PEx := fun _ P => P x
theorem L_int (i : Int) : LE K s c H0 (tC (.int i)) (pC (cI i)) := fun σ σd H Q P R h k => k _ _ H h (.int i) (.refl R.src)
theorem L_str (i : Str) : LE K s c H0 (tC (.str i)) (pC (cS i)) := fun σ σd H Q P R h k => k _ _ H h (.str i) (.refl R.src)
theorem L_bl (i : Bool) : LE K s c H0 (tC (.bl i)) (pC (cB i)) := fun σ σd H Q P R h k => k _ _ H h (.bl i) (.refl R.src)
theorem L_non : LE K s c H0 (tC .non) (pC cN) := fun σ σd H Q P R h k => k _ _ H h .non (.refl R.src)
abbrev P2 := Cell → Cell → (Cell → Prop) → Prop
def LOp (K : PySem.W.Frag) (r : R2) (f : P2) : Prop := ∀ (s c : Addr) (v w : V) (x y : Cell) (H : Hp) (Q : VK) (P : Cell → Prop), CellR K s c H v x → CellR K s c H w y → Src H s c → f x y P →
  (∀ z u H', P z → CellR K s c H' u z → Stp s c H H' → Q u H') → r v w H Q
def pOp (f : P2) (a b : PEx) : PEx := fun σd P => a σd fun x => b σd fun y => f x y P
theorem L_op {r : R2} {f : P2} {ta tb : TE} {a b : PEx} (ho : LOp K r f) (ha : LE K s c H0 ta a) (hb : LE K s c H0 tb b) : LE K s c H0 (tOp r ta tb) (pOp f a b) := fun σ σd H Q P R h k => by
  refine ha σ σd H _ _ R h fun x v H1 h1 r1 s1 => ?_
  refine hb σ σd H1 _ _ (R.stp s1) h1 fun y w H2 h2 r2 s2 => ?_
  exact ho s c v w x y H2 Q P (r1.stp s1.src s2) r2 s2.src h2 fun z u H3 h3 r3 s3 => k z u H3 h3 r3 ((s1.trans s2).trans s3)
def LUn (K : PySem.W.Frag) (r : V → Hp → VK → Prop) (f : Cell → (Cell → Prop) → Prop) : Prop := ∀ (s c : Addr) (v : V) (x : Cell) (H : Hp) (Q : VK) (P : Cell → Prop), CellR K s c H v x → Src H s c → f x P →
  (∀ z u H', P z → CellR K s c H' u z → Stp s c H H' → Q u H') → r v H Q
def pUn (f : Cell → (Cell → Prop) → Prop) (a : PEx) : PEx := fun σd P => a σd fun x => f x P
theorem L_un {r : V → Hp → VK → Prop} {f : Cell → (Cell → Prop) → Prop} {ta : TE} {a : PEx} (ho : LUn K r f) (ha : LE K s c H0 ta a) : LE K s c H0 (tUn r ta) (pUn f a) := fun σ σd H Q P R h k => by
  refine ha σ σd H _ _ R h fun x v H1 h1 r1 s1 => ?_
  exact ho s c v x H1 Q P r1 s1.src h1 fun z u H3 h3 r3 s3 => k z u H3 h3 r3 (s1.trans s3)
def fNeg : Cell → (Cell → Prop) → Prop := fun x P => ∃ i, x = cI i ∧ P (cI (-i))
theorem U_neg : LUn K (rU fun i => .int (-i)) fNeg := fun s c v x H Q P hx S h k => by
  obtain ⟨i, rfl, h⟩ := h
  exact ⟨i, int_eq hx, k _ _ H h (.int _) (.refl S)⟩
def fI (g : Int → Int → Int) : P2 := fun x y P => ∃ i j, x = cI i ∧ y = cI j ∧ P (cI (g i j))
def fIB (g : Int → Int → Bool) : P2 := fun x y P => ∃ i j, x = cI i ∧ y = cI j ∧ P (cB (g i j))
def fIC (C : Int → Int → Prop) (g : Int → Int → Int) : P2 := fun x y P => ∃ i j, x = cI i ∧ y = cI j ∧ C i j ∧ P (cI (g i j))
theorem O_I (g : Int → Int → Int) : LOp K (rI0 fun i j => .int (g i j)) (fI g) := fun s c v w x y H Q P hx hy S h k => by
  obtain ⟨i, j, rfl, rfl, h⟩ := h
  exact ⟨i, j, int_eq hx, int_eq hy, k _ _ H h (.int _) (.refl S)⟩
theorem O_IB (g : Int → Int → Bool) : LOp K (rI0 fun i j => .bl (g i j)) (fIB g) := fun s c v w x y H Q P hx hy S h k => by
  obtain ⟨i, j, rfl, rfl, h⟩ := h
  exact ⟨i, j, int_eq hx, int_eq hy, k _ _ H h (.bl _) (.refl S)⟩
theorem O_IC (C : Int → Int → Prop) (g : Int → Int → Int) : LOp K (rI C fun i j => .int (g i j)) (fIC C g) := fun s c v w x y H Q P hx hy S h k => by
  obtain ⟨i, j, rfl, rfl, hc, h⟩ := h
  exact ⟨i, j, int_eq hx, int_eq hy, hc, k _ _ H h (.int _) (.refl S)⟩
def fCatS : P2 := fun x y P => ∃ i j, x = cS i ∧ y = cS j ∧ i.length + j.length ≤ 1000000 ∧ P (cS (i ++ j))
theorem O_catS : LOp K rCatS fCatS := fun s c v w x y H Q P hx hy S h k => by
  obtain ⟨i, j, rfl, rfl, hc, h⟩ := h
  exact ⟨i, j, str_eq hx, str_eq hy, Nat.le_trans hc (by decide), k _ _ H h (.str _) (.refl S)⟩
def fSB (g : Str → Str → Bool) : P2 := fun x y P => ∃ i j, x = cS i ∧ y = cS j ∧ P (cB (g i j))
theorem O_ltS : LOp K rLtS (fSB fun i j => decide (i.cps.toList < j.cps.toList)) := fun s c v w x y H Q P hx hy S h k => by
  obtain ⟨i, j, rfl, rfl, h⟩ := h
  exact ⟨i, j, str_eq hx, str_eq hy, k _ _ H h (.bl _) (.refl S)⟩
theorem O_leS : LOp K rLeS (fSB fun i j => !decide (j.cps.toList < i.cps.toList)) := fun s c v w x y H Q P hx hy S h k => by
  obtain ⟨i, j, rfl, rfl, h⟩ := h
  exact ⟨i, j, str_eq hx, str_eq hy, k _ _ H h (.bl _) (.refl S)⟩
def fInSign (g : Bool → Bool) : P2 := fun x y P => ∃ (c : Nat) (z : Str), x = cS ⟨#[c]⟩ ∧ y = cS z ∧ P (cB (g (decide (c ∈ z.cps.toList))))
theorem O_inSign : LOp K rInSign (fInSign id) := fun s c v w x y H Q P hx hy S h k => by
  obtain ⟨i, j, rfl, rfl, h⟩ := h
  exact ⟨i, j, str_eq hx, str_eq hy, k _ _ H h (.bl _) (.refl S)⟩
theorem O_notInSign : LOp K rNotInSign (fInSign not) := fun s c v w x y H Q P hx hy S h k => by
  obtain ⟨i, j, rfl, rfl, h⟩ := h
  exact ⟨i, j, str_eq hx, str_eq hy, k _ _ H h (.bl _) (.refl S)⟩
/-- is None: data is None or is not -/
def nonC : Cell → Option Bool
  | .dat .non => some true
  | .un => none
  | _ => some false
theorem non_iff {s c : Addr} {H : Hp} {v : V} {x : Cell} {b : Bool} (h : CellR K s c H v x) (e : nonC x = some b) : decide (v = .non) = b := by
  cases x with
  | dat d => cases h <;> (cases e; rfl)
  | lm ds => obtain ⟨a, vs, rfl, _⟩ := h; cases e; rfl
  | dm ds => obtain ⟨a, vs, rfl, _⟩ := h; cases e; rfl
  | tm ds => obtain ⟨a, vs, rfl, _⟩ := h; cases e; rfl
  | om x C ds => obtain ⟨dx, vs, rfl, _⟩ := h; cases e; rfl
  | un => cases e
  | ex a cls d x => obtain ⟨rfl, _⟩ := h; cases e; rfl
  | rl ds => obtain ⟨a, vs, rfl, _⟩ := h; cases e; rfl
  | rd ds => obtain ⟨a, vs, rfl, _⟩ := h; cases e; rfl
  | rt ds => obtain ⟨a, vs, rfl, _⟩ := h; cases e; rfl
def fIsN (g : Bool → Bool) : P2 := fun x y P => ∃ b, nonC x = some b ∧ y = cN ∧ P (cB (g b))
theorem O_isN : LOp K rIsN (fIsN id) := fun s c v w x y H Q P hx hy S h k => by
  obtain ⟨b, e, rfl, h⟩ := h
  refine ⟨flat_eq hy rfl, ?_⟩
  rw [non_iff hx e]
  exact k _ _ H h (.bl _) (.refl S)
theorem O_notN : LOp K rNotN (fIsN not) := fun s c v w x y H Q P hx hy S h k => by
  obtain ⟨b, e, rfl, h⟩ := h
  refine ⟨flat_eq hy rfl, ?_⟩
  rw [non_iff hx e]
  exact k _ _ H h (.bl _) (.refl S)
def fIxL : P2 := fun x y P => ∃ ds i d, seqL x = some ds ∧ y = cI i ∧ atI ds i = some d ∧ P (.dat d)
theorem O_ixL : LOp K (rIxL K) fIxL := fun s c v w x y H Q P hx hy S h k => by
  obtain ⟨ds, i, d, e, rfl, ea, h⟩ := h
  obtain ⟨a, vs, rfl, ha, hd⟩ := seqL_at hx e
  obtain ⟨u, hu, hr⟩ := atI_dr hd ea
  exact ⟨a, vs, i, u, rfl, int_eq hy, ha, hu, k _ _ H h hr (.refl S)⟩
def fIxT : P2 := fun x y P => ∃ ds i d, x = .dat (.tup ds) ∧ y = cI i ∧ atI ds i = some d ∧ P (.dat d)
theorem O_ixT : LOp K (rIxT K) fIxT := fun s c v w x y H Q P hx hy S h k => by
  obtain ⟨ds, i, d, rfl, rfl, ea, h⟩ := h
  obtain ⟨a, vs, rfl, ha, hd⟩ := tup_at hx
  obtain ⟨u, hu, hr⟩ := atI_dr hd ea
  exact ⟨a, vs, i, u, rfl, int_eq hy, .inl (.inl ha), hu, k _ _ H h hr (.refl S)⟩
def fIxS : P2 := fun x y P => ∃ z i e, x = cS z ∧ y = cI i ∧ z.length ≤ 1000000 ∧ atI z.cps.toList i = some e ∧ P (cS ⟨#[e]⟩)
theorem O_ixS : LOp K rIxS fIxS := fun s c v w x y H Q P hx hy S h k => by
  obtain ⟨z, i, e, rfl, rfl, hl, ea, h⟩ := h
  exact ⟨z, i, e, str_eq hx, int_eq hy, Nat.le_trans hl (by decide), ea, k _ _ H h (.str _) (.refl S)⟩
/-- x in list or tuple of texts -/
def fInS (g : Bool → Bool) : P2 := fun x y P => ∃ (z : Str) (zs : List Str), x = cS z ∧ seqC y = some (zs.map .str) ∧ P (cB (g (decide (z ∈ zs))))
theorem O_inS : LOp K (rIn K false) (fInS id) := fun s c v w x y H Q P hx hy S h k => by
  obtain ⟨z, zs, rfl, e, h⟩ := h
  obtain ⟨a, vs, rfl, ha, hd⟩ := seqC_at hy e
  rw [str_eq hx]
  cases strs_of hd
  refine ⟨a, _, rfl, ha, rfl, flat_strs _, ?_⟩
  rw [inV_strs]
  exact k _ _ H h (.bl _) (.refl S)
theorem O_notInS : LOp K (rIn K true) (fInS not) := fun s c v w x y H Q P hx hy S h k => by
  obtain ⟨z, zs, rfl, e, h⟩ := h
  obtain ⟨a, vs, rfl, ha, hd⟩ := seqC_at hy e
  rw [str_eq hx]
  cases strs_of hd
  refine ⟨a, _, rfl, ha, rfl, flat_strs _, ?_⟩
  rw [inV_strs]
  exact k _ _ H h (.bl _) (.refl S)
/-- == of data -/
def fEqD (g : Bool → Bool) : P2 := fun x y P => ∃ p q, toPyC x = some p ∧ toPyC y = some q ∧ SeqAt.shaped p = true ∧ SeqAt.shaped q = true ∧ P (cB (g (PyData.eqv p q)))
theorem O_eqD : LOp K (rEqD K) (fEqD id) := fun s c v w x y H Q P hx hy S h k => by
  obtain ⟨p, q, e1, e2, h1, h2, h⟩ := h
  exact ⟨p, q, toPyC_at hx e1, toPyC_at hy e2, h1, h2, k _ _ H h (.bl _) (.refl S)⟩
theorem O_neD : LOp K (rNeD K) (fEqD not) := fun s c v w x y H Q P hx hy S h k => by
  obtain ⟨p, q, e1, e2, h1, h2, h⟩ := h
  exact ⟨p, q, toPyC_at hx e1, toPyC_at hy e2, h1, h2, k _ _ H h (.bl _) (.refl S)⟩
/-- == of flat values -/
def fEq (g : Bool → Bool) : P2 := fun x y P => ∃ v w, flatC x = some v ∧ flatC y = some w ∧ scal v w = true ∧ P (cB (g (decide (v = w))))
theorem O_eq : LOp K rEq (fEq id) := fun s c v w x y H Q P hx hy S h k => by
  obtain ⟨a, b, e1, e2, e3, h⟩ := h
  rw [flat_eq hx e1, flat_eq hy e2]
  exact ⟨e3, k _ _ H h (.bl _) (.refl S)⟩
theorem O_ne : LOp K rNe (fEq not) := fun s c v w x y H Q P hx hy S h k => by
  obtain ⟨a, b, e1, e2, e3, h⟩ := h
  rw [flat_eq hx e1, flat_eq hy e2]
  exact ⟨e3, k _ _ H h (.bl _) (.refl S)⟩
/-! ### arguments, tuples, lists -/
def pNil : PAx := fun _ P => P []
def pCons (a : PEx) (b : PAx) : PAx := fun σd P => a σd fun x => b σd fun xs => P (x :: xs)
theorem L_nil : LA K s c H0 tNil pNil := fun σ σd H Q P R h k => k [] [] H h .nil (.refl R.src)
theorem L_cons {ta : TE} {tr : TA} {a : PEx} {b : PAx} (ha : LE K s c H0 ta a) (hb : LA K s c H0 tr b) : LA K s c H0 (tCons ta tr) (pCons a b) := fun σ σd H Q P R h k => by
  refine ha σ σd H _ _ R h fun x v H1 h1 r1 s1 => ?_
  refine hb σ σd H1 _ _ (R.stp s1) h1 fun xs vs H2 h2 r2 s2 => ?_
  exact k _ _ H2 h2 (.cons (r1.stp s1.src s2) r2) (s1.trans s2)
theorem stp_new {s c p : Addr} {H : Hp} {o : HO} (S : Src H s c) (h : H p = none) : Stp s c H (upd H p o) := .same S (same_new h)
def pTup (a : PAx) : PEx := fun σd P => a σd fun xs => ∃ ds, datsC xs = some ds ∧ ds.length ≤ 100000 ∧ P (.dat (.tup ds))
theorem L_tup {ta : TA} {a : PAx} (ha : LA K s c H0 ta a) : LE K s c H0 (tTup ta) (pTup a) := fun σ σd H Q P R h k => by
  refine ha σ σd H _ _ R h fun xs vs H1 h1 r1 s1 => ?_
  obtain ⟨ds, e, hl, h⟩ := h1
  have hd := datsC_at r1 e
  refine ⟨by rw [hd.len]; exact Nat.le_trans hl (by decide), fun p hp => ?_⟩
  have e2 := stp_new (o := .tup vs) s1.src hp
  exact k _ _ _ h (.tup upd_same (hd.im (e2.im s1.src))) (s1.trans e2)
def pLst (a : PAx) : PNx := fun σd P => a σd fun xs => ∃ ds, datsC xs = some ds ∧ ds.length ≤ 100000 ∧ P ds
theorem L_lst {ta : TA} {a : PAx} (ha : LA K s c H0 ta a) : LN K s c H0 (tLst ta) (pLst a) := fun σ σd H Q P R h k => by
  refine ha σ σd H _ _ R h fun xs vs H1 h1 r1 s1 => ?_
  obtain ⟨ds, e, hl, h⟩ := h1
  have hd := datsC_at r1 e
  refine ⟨by rw [hd.len]; exact Nat.le_trans hl (by decide), fun p hp => ?_⟩
  have e2 := stp_new (o := .lst vs) s1.src hp
  exact k _ _ _ _ h upd_same (Kp.none s1.kp (s1.src.ne hp).1 hp) (hd.im (e2.im s1.src)) (s1.trans e2)
/-- a new list as a value at hand -/
def pNewL (p : PNx) : PEx := fun σd P => p σd fun ds => P (.lm ds)
theorem LN.le {t : TE} {p : PNx} (h : LN K s c H0 t p) : LE K s c H0 t (pNewL p) := fun σ σd H Q P R hp k =>
  h σ σd H Q _ R hp fun ds a vs H1 h1 ha hn hd st => k _ _ H1 h1 ⟨a, vs, rfl, ha, hd, (R.src.ne hn).1, (R.src.ne hn).2⟩ st
/-- .. locked for good -/
def tFrz (t : TE) : TE := fun σ H Q => t σ H fun v H1 => ∃ (a : Addr) (u : HO), v = .ref a ∧ H1 a = some u ∧ Mut (some u) ∧ ∀ o, Q v (upd H1 a (.frz o u))
theorem pe_frz {X : Cx} {e : Expr} {t : TE} (h : PE X e t) : PE X e (tFrz t) := by
  refine ⟨fun pins s σ H Q I hq => ?_⟩
  refine thn (h.run pins s σ H _ I hq) fun v s1 ⟨x, H1, I1, r1, a, u, ex, ea, mu, q⟩ => ?_
  obtain ⟨od, I2⟩ := I1.lock ea mu
  exact ⟨x, _, I2, r1, q od⟩
def pFrz (p : PNx) : PEx := fun σd P => p σd fun ds => P (.dat (.lst ds))
theorem LN.frz {t : TE} {p : PNx} (h : LN K s c H0 t p) : LE K s c H0 (tFrz t) (pFrz p) := fun σ σd H Q P R hp k => by
  refine h σ σd H _ _ R hp fun ds a vs H1 h1 ha hn hd st => ⟨a, _, rfl, ha, trivial, fun o => ?_⟩
  have nn := R.src.ne hn
  have kl : Kp a H1 (upd H1 a (.frz o (.lst vs))) := Kp.self
  have im : Im H1 (upd H1 a (.frz o (.lst vs))) := kl.im ⟨_, ha, rfl⟩
  refine k _ _ _ h1 (.lst upd_same (hd.im im)) ⟨fun b o' nb hb => ?_, st.src.kp nn.1.symm nn.2.symm kl⟩
  exact kl _ _ (fun z => by subst z; rw [hn] at hb; cases hb) (st.kp _ _ nb hb)
/-! ### slices -/
abbrev POx := Sd → (Option Int → Prop) → Prop
def LO (K : PySem.W.Frag) (s c : Addr) (H0 : Hp) (t : TO) (p : POx) : Prop := ∀ (σ : L2.St) (σd : Sd) (H : Hp) (Q : Option Int → Hp → Prop) (P : Option Int → Prop), Rel K s c H0 σ H σd → p σd P →
  (∀ b H', P b → Stp s c H H' → Q b H') → t σ H Q
def pNoPart : POx := fun _ P => P none
def pPart (a : PEx) : POx := fun σd P => a σd fun x => ∃ i, x = cI i ∧ P (some i)
theorem L_noPart : LO K s c H0 tNoPart pNoPart := fun σ σd H Q P R h k => k _ H h (.refl R.src)
theorem L_part {t : TE} {a : PEx} (ha : LE K s c H0 t a) : LO K s c H0 (tPart t) (pPart a) := fun σ σd H Q P R h k => by
  refine ha σ σd H _ _ R h fun x v H1 h1 r1 s1 => ?_
  obtain ⟨i, rfl, h⟩ := h1
  exact ⟨i, int_eq r1, k _ H1 h s1⟩
def pSlS (a : PEx) (lo hi : POx) : PEx := fun σd P => a σd fun x => lo σd fun l => hi σd fun u => ∃ z, x = cS z ∧ z.length ≤ 1000000 ∧ P (cS (cutS z l u))
theorem L_slS {t : TE} {tl th : TO} {a : PEx} {lo hi : POx} (ha : LE K s c H0 t a) (hl : LO K s c H0 tl lo) (hh : LO K s c H0 th hi) : LE K s c H0 (tSl rSlS t tl th) (pSlS a lo hi) := fun σ σd H Q P R h k => by
  refine ha σ σd H _ _ R h fun x v H1 h1 r1 s1 => ?_
  refine hl σ σd H1 _ _ (R.stp s1) h1 fun l H2 h2 s2 => ?_
  refine hh σ σd H2 _ _ ((R.stp s1).stp s2) h2 fun u H3 h3 s3 => ?_
  obtain ⟨z, rfl, hz, h⟩ := h3
  exact ⟨z, str_eq r1, Nat.le_trans hz (by decide), k _ _ H3 h (.str _) ((s1.trans s2).trans s3)⟩
/-- the cut of any list -/
def cutL {α : Type} (xs : List α) (lo hi : Option Int) : List α := (xs.drop (HT.sIx xs.length 0 lo)).take (HT.sIx xs.length xs.length hi - HT.sIx xs.length 0 lo)
theorem cutV_dr {s : Addr} {H : Hp} {vs : List V} {ds : List D} (h : DRs K s H vs ds) (l u : Option Int) : DRs K s H (cutV vs l u) (cutL ds l u) := by
  unfold cutV cutL
  rw [h.len]
  exact (h.drop _).take _
def pSlL (a : PEx) (lo hi : POx) : PNx := fun σd P => a σd fun x => lo σd fun l => hi σd fun u => ∃ ds, seqL x = some ds ∧ P (cutL ds l u)
theorem L_slL {t : TE} {tl th : TO} {a : PEx} {lo hi : POx} (ha : LE K s c H0 t a) (hl : LO K s c H0 tl lo) (hh : LO K s c H0 th hi) : LN K s c H0 (tSl (rSlL K) t tl th) (pSlL a lo hi) := fun σ σd H Q P R h k => by
  refine ha σ σd H _ _ R h fun x v H1 h1 r1 s1 => ?_
  refine hl σ σd H1 _ _ (R.stp s1) h1 fun l H2 h2 s2 => ?_
  refine hh σ σd H2 _ _ ((R.stp s1).stp s2) h2 fun u H3 h3 s3 => ?_
  obtain ⟨ds, e, h⟩ := h3
  have st := (s1.trans s2).trans s3
  obtain ⟨b, vs, rfl, hb, hd⟩ := seqL_at (r1.stp s1.src (s2.trans s3)) e
  refine ⟨b, vs, rfl, hb, fun p hp => ?_⟩
  have e2 := stp_new (o := .lst (cutV vs l u)) st.src hp
  exact k _ _ _ _ h upd_same (Kp.none st.kp (st.src.ne hp).1 hp) ((cutV_dr hd l u).im (e2.im st.src)) (st.trans e2)
/-- t[lo:hi] of a tuple -/
def pSlA (a : PEx) (lo hi : POx) : PEx := fun σd P => a σd fun x => lo σd fun l => hi σd fun u => ∃ ds, x = .dat (.tup ds) ∧ P (.dat (.tup (cutL ds l u)))
theorem cutL_all {α : Type} (xs : List α) (lo hi : Option Int) (h : HT.sIx xs.length 0 lo = 0 ∧ HT.sIx xs.length xs.length hi = xs.length) : cutL xs lo hi = xs := by
  unfold cutL
  rw [h.1, h.2]
  simp
theorem L_slA {t : TE} {tl th : TO} {a : PEx} {lo hi : POx} (ha : LE K s c H0 t a) (hl : LO K s c H0 tl lo) (hh : LO K s c H0 th hi) : LE K s c H0 (tSl (rSlA K) t tl th) (pSlA a lo hi) := fun σ σd H Q P R h k => by
  refine ha σ σd H _ _ R h fun x v H1 h1 r1 s1 => ?_
  refine hl σ σd H1 _ _ (R.stp s1) h1 fun l H2 h2 s2 => ?_
  refine hh σ σd H2 _ _ ((R.stp s1).stp s2) h2 fun u H3 h3 s3 => ?_
  obtain ⟨ds, rfl, h⟩ := h3
  have st := (s1.trans s2).trans s3
  obtain ⟨b, vs, rfl, hb, hd⟩ := tup_at (r1.stp s1.src (s2.trans s3))
  refine ⟨b, vs, rfl, .inl (.inl hb), fun hw => ?_, fun hw p hp => ?_⟩
  · rw [cutL_all ds l u (by rw [← hd.len]; exact hw)] at h
    exact k _ _ H3 h (.tup hb hd) st
  · have e2 := stp_new (o := .tup (cutV vs l u)) st.src hp
    exact k _ _ _ h (.tup upd_same ((cutV_dr hd l u).im (e2.im st.src))) (st.trans e2)
end
end My


/-! Q3: truth, calls of built-ins, calls of own defs. -/
namespace My
open PySem PySem.Spec PyProof.Rows L2
section
variable {K : PySem.W.Frag} {s c : Addr} {H0 : Hp}
/-! ### tests -/
def pTest (a : PEx) : PTx := fun σd P => a σd fun x => ∃ b, x = cB b ∧ P b
theorem L_test {t : TE} {a : PEx} (ha : LE K s c H0 t a) : LT K s c H0 (tTest t) (pTest a) := fun σ σd H Q P R h k => by
  refine ha σ σd H _ _ R h fun x v H1 h1 r1 s1 => ?_
  obtain ⟨b, rfl, h⟩ := h1
  exact ⟨b, bl_eq r1, k _ H1 h s1⟩
theorem L_b {t : TE} {a : PEx} (ha : LE K s c H0 t a) : LT K s c H0 (tB t) (pTest a) := fun σ σd H Q P R h k => by
  refine ha σ σd H _ _ R h fun x v H1 h1 r1 s1 => ?_
  obtain ⟨b, rfl, h⟩ := h1
  exact ⟨b, bl_eq r1, k _ H1 h s1⟩
def pAnd (a b : PTx) : PTx := fun σd P => a σd fun x => if x = true then b σd P else P false
def pOr (a b : PTx) : PTx := fun σd P => a σd fun x => if x = true then P true else b σd P
def pNot (a : PTx) : PTx := fun σd P => a σd fun x => P (!x)
theorem L_and {t u : TT} {a b : PTx} (ha : LT K s c H0 t a) (hb : LT K s c H0 u b) : LT K s c H0 (tAnd t u) (pAnd a b) := fun σ σd H Q P R h k => by
  refine ha σ σd H _ _ R h fun x H1 h1 s1 => ?_
  cases x with
  | true => exact hb σ σd H1 _ _ (R.stp s1) h1 fun y H2 h2 s2 => k y H2 h2 (s1.trans s2)
  | false => exact k _ H1 h1 s1
theorem L_or {t u : TT} {a b : PTx} (ha : LT K s c H0 t a) (hb : LT K s c H0 u b) : LT K s c H0 (tOr t u) (pOr a b) := fun σ σd H Q P R h k => by
  refine ha σ σd H _ _ R h fun x H1 h1 s1 => ?_
  cases x with
  | true => exact k _ H1 h1 s1
  | false => exact hb σ σd H1 _ _ (R.stp s1) h1 fun y H2 h2 s2 => k y H2 h2 (s1.trans s2)
theorem L_not {t : TT} {a : PTx} (ha : LT K s c H0 t a) : LT K s c H0 (tNot t) (pNot a) := fun σ σd H Q P R h k =>
  ha σ σd H _ _ R h fun x H1 h1 s1 => k _ H1 h1 s1
def pYes : PTx := fun _ P => P true
theorem L_yes : LT K s c H0 tYes pYes := fun σ σd H Q P R h k => k _ H h (.refl R.src)
def pIf (t : PTx) (a b : PEx) : PEx := fun σd P => t σd fun x => if x = true then a σd P else b σd P
theorem L_if {t : TT} {ta tb : TE} {p : PTx} {a b : PEx} (ht : LT K s c H0 t p) (ha : LE K s c H0 ta a) (hb : LE K s c H0 tb b) : LE K s c H0 (tIf t ta tb) (pIf p a b) := fun σ σd H Q P R h k => by
  refine ht σ σd H _ _ R h fun x H1 h1 s1 => ?_
  cases x with
  | true => exact ha σ σd H1 _ _ (R.stp s1) h1 fun y v H2 h2 r2 s2 => k y v H2 h2 r2 (s1.trans s2)
  | false => exact hb σ σd H1 _ _ (R.stp s1) h1 fun y v H2 h2 r2 s2 => k y v H2 h2 r2 (s1.trans s2)
def pAndV (a b : PEx) : PEx := fun σd P => a σd fun x => ∃ c, x = cB c ∧ if c = true then b σd P else P (cB false)
def pOrV (a b : PEx) : PEx := fun σd P => a σd fun x => ∃ c, x = cB c ∧ if c = true then P (cB true) else b σd P
def pNotV (a : PEx) : PEx := fun σd P => a σd fun x => ∃ c, x = cB c ∧ P (cB (!c))
theorem L_andV {ta tb : TE} {a b : PEx} (ha : LE K s c H0 ta a) (hb : LE K s c H0 tb b) : LE K s c H0 (tAndV ta tb) (pAndV a b) := fun σ σd H Q P R h k => by
  refine ha σ σd H _ _ R h fun x v H1 h1 r1 s1 => ?_
  obtain ⟨q, rfl, h⟩ := h1
  refine ⟨q, bl_eq r1, ?_⟩
  cases q with
  | true => exact hb σ σd H1 _ _ (R.stp s1) h fun y v H2 h2 r2 s2 => k y v H2 h2 r2 (s1.trans s2)
  | false => exact k _ _ H1 h (.bl _) s1
theorem L_orV {ta tb : TE} {a b : PEx} (ha : LE K s c H0 ta a) (hb : LE K s c H0 tb b) : LE K s c H0 (tOrV ta tb) (pOrV a b) := fun σ σd H Q P R h k => by
  refine ha σ σd H _ _ R h fun x v H1 h1 r1 s1 => ?_
  obtain ⟨q, rfl, h⟩ := h1
  refine ⟨q, bl_eq r1, ?_⟩
  cases q with
  | true => exact k _ _ H1 h (.bl _) s1
  | false => exact hb σ σd H1 _ _ (R.stp s1) h fun y v H2 h2 r2 s2 => k y v H2 h2 r2 (s1.trans s2)
theorem L_notV {ta : TE} {a : PEx} (ha : LE K s c H0 ta a) : LE K s c H0 (tNotV ta) (pNotV a) := fun σ σd H Q P R h k => by
  refine ha σ σd H _ _ R h fun x v H1 h1 r1 s1 => ?_
  obtain ⟨q, rfl, h⟩ := h1
  exact ⟨q, bl_eq r1, k _ _ H1 h (.bl _) s1⟩
def pChain (f g : P2) (a b c : PEx) : PEx := fun σd P => a σd fun x => b σd fun y => f x y fun z => ∃ k, z = cB k ∧ if k = true then c σd fun w => g y w P else P (cB false)
theorem L_chain {r r' : R2} {f g : P2} {ta tb tc : TE} {a b d : PEx} (ho : LOp K r f) (ho' : LOp K r' g) (ha : LE K s c H0 ta a) (hb : LE K s c H0 tb b) (hc : LE K s c H0 tc d) : LE K s c H0 (tChain r r' ta tb tc) (pChain f g a b d) := fun σ σd H Q P R h k => by
  refine ha σ σd H _ _ R h fun x v H1 h1 r1 s1 => ?_
  refine hb σ σd H1 _ _ (R.stp s1) h1 fun y w H2 h2 r2 s2 => ?_
  have st := s1.trans s2
  refine ho s c v w x y H2 _ _ (r1.stp s1.src s2) r2 s2.src h2 fun z u H3 h3 r3 s3 => ?_
  obtain ⟨q, rfl, h⟩ := h3
  refine ⟨q, bl_eq r3, ?_⟩
  cases q with
  | false => exact k _ _ H3 h (.bl _) (st.trans s3)
  | true =>
    refine hc σ σd H3 _ _ ((R.stp st).stp s3) h fun z2 u2 H4 h4 r4 s4 => ?_
    exact ho' s c w u2 y z2 H4 Q P ((r2.stp s2.src s3).stp s3.src s4) r4 s4.src h4 fun z5 u5 H5 h5 r5 s5 => k z5 u5 H5 h5 r5 (((st.trans s3).trans s4).trans s5)
/-! ### calls of built-ins -/
def LC (K : PySem.W.Frag) (r : List V → Hp → VK → Prop) (f : List Cell → (Cell → Prop) → Prop) : Prop := ∀ (s c : Addr) (vs : List V) (xs : List Cell) (H : Hp) (Q : VK) (P : Cell → Prop), CellsR K s c H vs xs → Src H s c → f xs P →
  (∀ z u H', P z → CellR K s c H' u z → Stp s c H H' → Q u H') → r vs H Q
def pCB (f : List Cell → (Cell → Prop) → Prop) (a : PAx) : PEx := fun σd P => a σd fun xs => f xs P
theorem L_cb {r : List V → Hp → VK → Prop} {f : List Cell → (Cell → Prop) → Prop} {t : TA} {a : PAx} (hr : LC K r f) (ha : LA K s c H0 t a) : LE K s c H0 (tCB r t) (pCB f a) := fun σ σd H Q P R h k => by
  refine ha σ σd H _ _ R h fun xs vs H1 h1 r1 s1 => ?_
  exact hr s c vs xs H1 Q P r1 s1.src h1 fun z u H2 h2 r2 s2 => k z u H2 h2 r2 (s1.trans s2)
/-- .. that give a new list -/
def LCN (K : PySem.W.Frag) (r : List V → Hp → VK → Prop) (f : List Cell → (List D → Prop) → Prop) : Prop := ∀ (s c : Addr) (vs : List V) (xs : List Cell) (H : Hp) (Q : VK) (P : List D → Prop), CellsR K s c H vs xs → Src H s c → f xs P →
  (∀ ds a us H', P ds → H' a = some (.lst us) → H a = none → DRs K s H' us ds → Stp s c H H' → Q (.ref a) H') → r vs H Q
def pCBN (f : List Cell → (List D → Prop) → Prop) (a : PAx) : PNx := fun σd P => a σd fun xs => f xs P
theorem L_cbn {r : List V → Hp → VK → Prop} {f : List Cell → (List D → Prop) → Prop} {t : TA} {a : PAx} (hr : LCN K r f) (ha : LA K s c H0 t a) : LN K s c H0 (tCB r t) (pCBN f a) := fun σ σd H Q P R h k => by
  refine ha σ σd H _ _ R h fun xs vs H1 h1 r1 s1 => ?_
  exact hr s c vs xs H1 Q P r1 s1.src h1 fun ds a us H2 h2 ha hn hd s2 => k ds a us H2 h2 ha (Kp.none s1.kp (s1.src.ne hn).1 hn) hd (s1.trans s2)
theorem one_of {s c : Addr} {H : Hp} {vs : List V} {x : Cell} (h : CellsR K s c H vs [x]) : ∃ v, vs = [v] ∧ CellR K s c H v x := by
  cases h with
  | cons h r => cases r; exact ⟨_, rfl, h⟩
def gLenS : List Cell → (Cell → Prop) → Prop := fun xs P => ∃ z, xs = [cS z] ∧ z.length ≤ 1000000 ∧ P (cI z.length)
theorem C_lenS : LC K cLenS gLenS := fun s c vs xs H Q P hx S h k => by
  obtain ⟨z, rfl, hz, h⟩ := h
  obtain ⟨v, rfl, hv⟩ := one_of hx
  rw [str_eq hv]
  exact ⟨z, rfl, Nat.le_trans hz (by decide), k _ _ H h (.int _) (.refl S)⟩
def gLenQ : List Cell → (Cell → Prop) → Prop := fun xs P => ∃ x ds, xs = [x] ∧ seqC x = some ds ∧ P (cI ds.length)
theorem C_lenQ : LC K (cLenQ K) gLenQ := fun s c vs xs H Q P hx S h k => by
  obtain ⟨x, ds, rfl, e, h⟩ := h
  obtain ⟨v, rfl, hv⟩ := one_of hx
  obtain ⟨a, us, rfl, ha, hd⟩ := seqC_at hv e
  refine ⟨a, us, rfl, ha, ?_⟩
  rw [hd.len]
  exact k _ _ H h (.int _) (.refl S)
def gAbs : List Cell → (Cell → Prop) → Prop := fun xs P => ∃ i, xs = [cI i] ∧ P (cI (if i < 0 then -i else i))
theorem C_abs : LC K cAbs gAbs := fun s c vs xs H Q P hx S h k => by
  obtain ⟨z, rfl, h⟩ := h
  obtain ⟨v, rfl, hv⟩ := one_of hx
  rw [int_eq hv]
  exact ⟨z, rfl, k _ _ H h (.int _) (.refl S)⟩
def gInt1 : List Cell → (Cell → Prop) → Prop := fun xs P => (∃ i, xs = [cI i] ∧ P (cI i)) ∨ ∃ b : Bool, xs = [cB b] ∧ P (cI (if b then 1 else 0))
theorem C_int1 : LC K cInt1 gInt1 := fun s c vs xs H Q P hx S h k => by
  rcases h with ⟨z, rfl, h⟩ | ⟨z, rfl, h⟩
  · obtain ⟨v, rfl, hv⟩ := one_of hx
    rw [int_eq hv]
    exact .inl ⟨z, rfl, k _ _ H h (.int _) (.refl S)⟩
  · obtain ⟨v, rfl, hv⟩ := one_of hx
    rw [bl_eq hv]
    exact .inr ⟨z, rfl, k _ _ H h (.int _) (.refl S)⟩
def gIntS : List Cell → (Cell → Prop) → Prop := fun xs P => ∃ a n, xs = [cS a] ∧ PySem.intText? a = some n ∧ a.length ≤ 640 ∧ P (cI n)
theorem C_intS : LC K cIntS gIntS := fun s c vs xs H Q P hx S h k => by
  obtain ⟨a, n, rfl, h1, h2, h⟩ := h
  obtain ⟨v, rfl, hv⟩ := one_of hx
  rw [str_eq hv]
  exact ⟨a, n, rfl, h1, h2, k _ _ H h (.int _) (.refl S)⟩
def gStrI : List Cell → (Cell → Prop) → Prop := fun xs P => ∃ i : Int, xs = [cI i] ∧ i.natAbs.log2 < 1920 ∧ P (cS (toString i))
theorem C_strI : LC K cStrI gStrI := fun s c vs xs H Q P hx S h k => by
  obtain ⟨a, rfl, h1, h⟩ := h
  obtain ⟨v, rfl, hv⟩ := one_of hx
  rw [int_eq hv]
  exact ⟨a, rfl, h1, k _ _ H h (.str _) (.refl S)⟩
def gStrS : List Cell → (Cell → Prop) → Prop := fun xs P => ∃ z, xs = [cS z] ∧ P (cS z)
theorem C_strS : LC K cStrS gStrS := fun s c vs xs H Q P hx S h k => by
  obtain ⟨a, rfl, h⟩ := h
  obtain ⟨v, rfl, hv⟩ := one_of hx
  rw [str_eq hv]
  exact ⟨a, rfl, k _ _ H h (.str _) (.refl S)⟩
def gTuple : List Cell → (Cell → Prop) → Prop := fun xs P => ∃ x ds, xs = [x] ∧ seqC x = some ds ∧ P (.dat (.tup ds))
theorem C_tuple : LC K (cTuple K) gTuple := fun s c vs xs H Q P hx S h k => by
  obtain ⟨x, ds, rfl, e, h⟩ := h
  obtain ⟨v, rfl, hv⟩ := one_of hx
  by_cases q : ∃ es, x = .dat (.tup es)
  · obtain ⟨es, rfl⟩ := q
    cases e
    obtain ⟨a, us, rfl, ha, hd⟩ := tup_at hv
    exact ⟨a, us, rfl, .inr ⟨.inl (.inl ha), k _ _ H h (.tup ha hd) (.refl S)⟩⟩
  · have e2 : seqL x = some ds := by
      cases x with
      | dat d => cases d <;> first | exact e | (exfalso; exact q ⟨_, rfl⟩)
      | lm ds => exact e
      | dm ds => cases e
      | tm ds => cases e
      | om x C ds => cases e
      | un => cases e
      | ex a cls d x => cases e
      | rl ds => exact e
      | rd ds => cases e
      | rt ds => cases e
    obtain ⟨a, us, rfl, ha, hd⟩ := seqL_at hv e2
    refine ⟨a, us, rfl, .inl ⟨ha, fun l hl => ?_⟩⟩
    have e2 := stp_new (o := .tup us) S hl
    exact k _ _ _ h (.tup upd_same (hd.im (e2.im S))) e2
def gList : List Cell → (List D → Prop) → Prop := fun xs P => ∃ x ds, xs = [x] ∧ seqC x = some ds ∧ P ds
theorem C_list : LCN K (cList K) gList := fun s c vs xs H Q P hx S h k => by
  obtain ⟨x, ds, rfl, e, h⟩ := h
  obtain ⟨v, rfl, hv⟩ := one_of hx
  obtain ⟨a, us, rfl, ha, hd⟩ := seqC_at hv e
  refine ⟨a, us, rfl, ha, fun l hl => ?_⟩
  have e2 := stp_new (o := .lst us) S hl
  exact k _ _ _ _ h upd_same hl (hd.im (e2.im S)) e2
def gAll : List Cell → (Cell → Prop) → Prop := fun xs P => ∃ (x : Cell) (bs : List Bool), xs = [x] ∧ seqL x = some (bs.map D.bl) ∧ P (cB (bs.all id))
theorem C_all : LC K (rAll K) gAll := fun s c vs xs H Q P hx S h k => by
  obtain ⟨x, bs, rfl, e, h⟩ := h
  obtain ⟨v, rfl, hv⟩ := one_of hx
  obtain ⟨a, us, rfl, ha, hd⟩ := seqL_at hv e
  cases bls_of hd
  exact ⟨a, bs, rfl, ha, k _ _ H h (.bl _) (.refl S)⟩
def gAny : List Cell → (Cell → Prop) → Prop := fun xs P => ∃ (x : Cell) (bs : List Bool), xs = [x] ∧ seqL x = some (bs.map D.bl) ∧ P (cB (bs.any id))
theorem C_any : LC K (rAny K) gAny := fun s c vs xs H Q P hx S h k => by
  obtain ⟨x, bs, rfl, e, h⟩ := h
  obtain ⟨v, rfl, hv⟩ := one_of hx
  obtain ⟨a, us, rfl, ha, hd⟩ := seqL_at hv e
  cases bls_of hd
  exact ⟨a, bs, rfl, ha, k _ _ H h (.bl _) (.refl S)⟩
def gSum : List Cell → (Cell → Prop) → Prop := fun xs P => ∃ (x : Cell) (ns : List Int), xs = [x] ∧ seqL x = some (ns.map D.int) ∧ P (cI ns.sum)
theorem C_sum : LC K (rSum K) gSum := fun s c vs xs H Q P hx S h k => by
  obtain ⟨x, bs, rfl, e, h⟩ := h
  obtain ⟨v, rfl, hv⟩ := one_of hx
  obtain ⟨a, us, rfl, ha, hd⟩ := seqL_at hv e
  cases ints_of hd
  exact ⟨a, bs, rfl, ha, k _ _ H h (.int _) (.refl S)⟩
def gSortedS : List Cell → (List D → Prop) → Prop := fun xs P => ∃ (x : Cell) (zs : List Str), xs = [x] ∧ seqL x = some (zs.map D.str) ∧ zs.length < 64 ∧ ∀ ys : List Str, ys.Perm zs → sortedS ys = true → P (ys.map D.str)
theorem C_sortedS : LCN K (rSortedS K) gSortedS := fun s c vs xs H Q P hx S h k => by
  obtain ⟨x, bs, rfl, e, hl, h⟩ := h
  obtain ⟨v, rfl, hv⟩ := one_of hx
  obtain ⟨a, us, rfl, ha, hd⟩ := seqL_at hv e
  cases strs_of hd
  refine ⟨a, bs, rfl, ha, hl, fun ys p h1 h2 hp => ?_⟩
  have e2 := stp_new (o := .lst (ys.map V.str)) S hp
  exact k _ _ _ _ (h ys h1 h2) upd_same hp (strs_dr ys) e2
def gRepr : List Cell → (Cell → Prop) → Prop := fun xs P => ∃ x d, xs = [x] ∧ toPyC x = some d ∧ flatC x = none ∧ PyData.showable d = true ∧ d.hasDict = false ∧ d.depth ≤ 60 ∧ d.shown.length ≤ 1000000 ∧ P (cS d.shown)
theorem ref_of {s c : Addr} {H : Hp} {v : V} {x : Cell} {d : PyData} (h : CellR K s c H v x) (e : flatC x = none) (e2 : toPyC x = some d) : ∃ a, v = .ref a := by
  cases x with
  | dat d => cases h <;> first | exact ⟨_, rfl⟩ | cases e
  | lm ds => obtain ⟨a, vs, rfl, _⟩ := h; exact ⟨a, rfl⟩
  | dm ds => obtain ⟨a, vs, rfl, _⟩ := h; exact ⟨a, rfl⟩
  | tm ds => cases e2
  | om x C ds => cases e2
  | un => cases e2
  | ex a cls d x => cases e2
  | rl ds => obtain ⟨a, vs, rfl, _⟩ := h; exact ⟨a, rfl⟩
  | rd ds => cases e2
  | rt ds => cases e2
theorem C_repr : LC K (cRepr K) gRepr := fun s c vs xs H Q P hx S h k => by
  obtain ⟨x, d, rfl, e, ef, h1, h2, h3, h4, h⟩ := h
  obtain ⟨v, rfl, hv⟩ := one_of hx
  obtain ⟨a, rfl⟩ := ref_of hv ef e
  exact ⟨a, d, rfl, toPyC_at hv e, h1, h2, h3, Nat.le_trans h4 (by decide), k _ _ H h (.str _) (.refl S)⟩
/-! ### methods of texts -/
def pJoin (a b : PEx) : PEx := fun σd P => a σd fun x => ∃ z, x = cS z ∧ b σd fun y => ∃ zs : List Str, seqC y = some (zs.map .str) ∧ (zs.map (·.length)).sum + zs.length * z.length ≤ 16777216 ∧ P (cS (Txt.join z zs))
theorem L_join {ta tb : TE} {a b : PEx} (ha : LE K s c H0 ta a) (hb : LE K s c H0 tb b) : LE K s c H0 (tM1 (mJoin K) ta tb) (pJoin a b) := fun σ σd H Q P R h k => by
  refine ha σ σd H _ _ R h fun x v H1 h1 r1 s1 => ?_
  obtain ⟨z, rfl, h1⟩ := h1
  refine ⟨⟨z, str_eq r1⟩, ?_⟩
  refine hb σ σd H1 _ _ (R.stp s1) h1 fun y w H2 h2 r2 s2 => ?_
  obtain ⟨zs, e, hl, h⟩ := h2
  obtain ⟨p, us, rfl, hp, hd⟩ := seqC_at r2 e
  cases strs_of hd
  exact ⟨z, p, zs, str_eq r1, rfl, hp, hl, k _ _ H2 h (.str _) (s1.trans s2)⟩
def pSplit (a b : PEx) : PNx := fun σd P => a σd fun x => ∃ z, x = cS z ∧ b σd fun y => ∃ w, y = cS w ∧ (w.length == 0) = false ∧ z.length ≤ 1000000 ∧ P ((Txt.split z w).map .str)
theorem L_split {ta tb : TE} {a b : PEx} (ha : LE K s c H0 ta a) (hb : LE K s c H0 tb b) : LN K s c H0 (tM1 mSplit ta tb) (pSplit a b) := fun σ σd H Q P R h k => by
  refine ha σ σd H _ _ R h fun x v H1 h1 r1 s1 => ?_
  obtain ⟨z, rfl, h1⟩ := h1
  refine ⟨⟨z, str_eq r1⟩, ?_⟩
  refine hb σ σd H1 _ _ (R.stp s1) h1 fun y w H2 h2 r2 s2 => ?_
  obtain ⟨w', rfl, hw, hl, h⟩ := h2
  have st := s1.trans s2
  refine ⟨z, w', str_eq r1, by rw [str_eq r2], hw, Nat.le_trans (Nat.add_le_add_right hl 2) (by decide), fun p hp => ?_⟩
  have e2 := stp_new (o := .lst ((Txt.split z w').map V.str)) st.src hp
  exact k _ _ _ _ h upd_same (Kp.none st.kp (st.src.ne hp).1 hp) (strs_dr _) (st.trans e2)
/-! ### own defs -/
/-- what a def does, over plain values -/
abbrev QP := List D → (D → Prop) → Prop
def up (K : PySem.W.Frag) (q : QP) : Sp := fun vs H Q _ => ∃ (s c : Addr) (ds : List D), Src H s c ∧ DRs K s H vs ds ∧ q ds fun d => ∀ v H', DR K s H' v d → Stp s c H H' → Q v H'
def pCall (q : QP) (a : PAx) : PEx := fun σd P => a σd fun xs => ∃ ds, datsC xs = some ds ∧ q ds fun d => P (.dat d)
/-- q asks no more of what it is followed by than that it holds -/
def Mono (q : QP) : Prop := ∀ ds P P', (∀ d, P d → P' d) → q ds P → q ds P'
theorem L_call {q : QP} {t : TA} {a : PAx} {E : XK} (m : Mono q) (ha : LA K s c H0 t a) : LE K s c H0 (tCall (up K q) [] E t) (pCall q a) := fun σ σd H Q P R h k => by
  refine ha σ σd H _ _ R h fun xs vs H1 h1 r1 s1 => ?_
  obtain ⟨ds, e, h⟩ := h1
  refine ⟨s, c, ds, s1.src, by rw [List.append_nil]; exact datsC_at r1 e, m _ _ _ (fun d hd v H2 r2 s2 => k (.dat d) _ H2 hd r2 (s1.trans s2)) h⟩
end
end My


/-! Q4: statements, loops, comprehensions. -/
namespace My
open PySem PySem.Spec PyProof.Rows L2
structure PEnds where
  nx : Sd → Prop
  rt : D → Prop
  bk : Sd → Prop := fun _ => False
  ct : Sd → Prop := fun _ => False
  rn : Cell → Prop := fun _ => False
abbrev PSx := PEnds → Sd → Prop
structure EndsR (K : PySem.W.Frag) (s c : Addr) (H0 H : Hp) (E : Ends) (e : PEnds) : Prop where
  nx : ∀ σ σd H', e.nx σd → Rel K s c H0 σ H' σd → Im H H' → E.nx σ H'
  rt : ∀ d v H', e.rt d → DR K s H' v d → Src H' s c → Kp s H0 H' → E.rt v H'
  bk : ∀ σ σd H', e.bk σd → Rel K s c H0 σ H' σd → Im H H' → E.bk σ H'
  ct : ∀ σ σd H', e.ct σd → Rel K s c H0 σ H' σd → Im H H' → E.ct σ H'
  rn : ∀ x v H', e.rn x → looseC (some x) = true → CellR K s c H' v x → (∀ a, v = .ref a → H0 a = none) → Src H' s c → Kp s H0 H' → E.rt v H'
def LS (K : PySem.W.Frag) (s c : Addr) (H0 : Hp) (t : TS) (p : PSx) : Prop := ∀ (σ : L2.St) (σd : Sd) (H : Hp) (E : Ends) (e : PEnds), Rel K s c H0 σ H σd → p e σd → EndsR K s c H0 H E e → t E σ H
section
variable {K : PySem.W.Frag} {s c : Addr} {H0 H H' : Hp} {E : Ends} {e : PEnds}
theorem EndsR.im (h : EndsR K s c H0 H E e) (i : Im H H') : EndsR K s c H0 H' E e :=
  ⟨fun σ σd H2 a b d => h.nx σ σd H2 a b (i.trans d), h.rt, fun σ σd H2 a b d => h.bk σ σd H2 a b (i.trans d), fun σ σd H2 a b d => h.ct σ σd H2 a b (i.trans d), h.rn⟩
end
section
variable {K : PySem.W.Frag} {s c : Addr} {H0 : Hp}
def pNext : PSx := fun e σd => e.nx σd
theorem S_next : LS K s c H0 tNext pNext := fun σ σd H E e R h k => k.nx σ σd H h R (Im.refl H)
def pSeq (a b : PSx) : PSx := fun e σd => a { e with nx := b e } σd
theorem S_seq {t u : TS} {a b : PSx} (ha : LS K s c H0 t a) (hb : LS K s c H0 u b) : LS K s c H0 (tSeq t u) (pSeq a b) := fun σ σd H E e R h k =>
  ha σ σd H _ _ R h ⟨fun σ' σd' H' h1 R1 i => hb σ' σd' H' E e R1 h1 (k.im i), k.rt, k.bk, k.ct, k.rn⟩
def pRet (a : PEx) : PSx := fun e σd => a σd fun x => ∃ d, x = .dat d ∧ e.rt d
theorem S_ret {t : TE} {a : PEx} (ha : LE K s c H0 t a) : LS K s c H0 (tRet t) (pRet a) := fun σ σd H E e R h k => by
  refine ha σ σd H _ _ R h fun x v H1 h1 r1 s1 => ?_
  obtain ⟨d, rfl, h⟩ := h1
  exact k.rt d v H1 h r1 s1.src (R.kp0.trans s1.kp)
def pRetN : PSx := fun e _ => e.rt .non
theorem S_retN : LS K s c H0 tRetN pRetN := fun σ σd H E e R h k => k.rt .non .non H h .non R.src R.kp0
def pBreak : PSx := fun e σd => e.bk σd
theorem S_break : LS K s c H0 tBreak pBreak := fun σ σd H E e R h k => k.bk σ σd H h R (Im.refl H)
def pCont : PSx := fun e σd => e.ct σd
theorem S_cont : LS K s c H0 tCont pCont := fun σ σd H E e R h k => k.ct σ σd H h R (Im.refl H)
def pNever : PSx := fun _ _ => False
def pIfS (t : PTx) (a b : PSx) : PSx := fun e σd => t σd fun x => if x = true then a e σd else b e σd
theorem S_if {t : TT} {u w : TS} {p : PTx} {a b : PSx} (ht : LT K s c H0 t p) (ha : LS K s c H0 u a) (hb : LS K s c H0 w b) : LS K s c H0 (tIfS t u w) (pIfS p a b) := fun σ σd H E e R h k => by
  refine ht σ σd H _ _ R h fun x H1 h1 s1 => ?_
  cases x with
  | true => exact ha σ σd H1 E e (R.stp s1) h1 (k.im (s1.im R.src))
  | false => exact hb σ σd H1 E e (R.stp s1) h1 (k.im (s1.im R.src))
def pDrop (a : PEx) : PSx := fun e σd => a σd fun _ => e.nx σd
theorem S_drop {t : TE} {a : PEx} (ha : LE K s c H0 t a) : LS K s c H0 (tDrop t) (pDrop a) := fun σ σd H E e R h k =>
  ha σ σd H _ _ R h fun x v H1 h1 r1 s1 => k.nx σ σd H1 h1 (R.stp s1) (s1.im R.src)
/-! ### stores -/
section
variable {H H' : Hp} {σ : L2.St} {σd : Sd}
theorem set_at {α : Type} (l : List α) (i j : Nat) (a : α) : (l.set i a)[j]? = if i = j then (if j < l.length then some a else none) else l[j]? := by
  rw [List.getElem?_set]
  by_cases h : i = j
  · subst h
    rw [if_pos rfl]
  · rw [if_neg h, if_neg h]
theorem Rel.set {i : Nat} {v : V} {x : Cell} (R : Rel K s c H0 σ H σd) (h : CellR K s c H v x) (hn : looseC (some x) = true → ∀ a, v = .ref a → H0 a = none)
    (ha : looseC (some x) = true → ∀ a, v = .ref a → ∀ j, j ≠ i → looseC ((σd[j]?).join) = true → σ[j]? ≠ some (some (.ref a))) (hro : roC (some x) = true → ∀ a, v = .ref a → H0 a ≠ none := by exact fun z => nomatch z) : Rel K s c H0 (σ.set i (some v)) H (σd.set i (some x)) := by
  have hl := R.len
  refine ⟨R.src, R.kp0, by rw [List.length_set, List.length_set, hl], fun j u hj => ?_, fun j a hj lo => ?_, fun j k a hjk lj lk hj hk => ?_, fun j a hj lo => ?_⟩
  · rw [set_at] at hj ⊢
    by_cases e : i = j
    · rw [if_pos e] at hj ⊢
      rw [← hl]
      by_cases q : j < σ.length
      · rw [if_pos q] at hj ⊢
        cases hj
        exact ⟨_, rfl, h⟩
      · rw [if_neg q] at hj
        cases hj
    · rw [if_neg e] at hj ⊢
      exact R.slot j u hj
  · rw [set_at] at hj lo
    by_cases e : i = j
    · rw [if_pos e] at hj lo
      rw [← hl] at lo
      by_cases q : j < σ.length
      · rw [if_pos q] at hj lo
        have : v = .ref a := Option.some.inj (Option.some.inj hj)
        exact hn lo a this
      · rw [if_neg q] at hj
        cases hj
    · rw [if_neg e] at hj lo
      exact R.new j a hj lo
  · rw [set_at] at hj hk lj lk
    by_cases e : i = j
    · have e2 : ¬ i = k := fun z => hjk (e.symm.trans z)
      rw [if_pos e] at hj lj
      rw [if_neg e2] at hk lk
      rw [← hl] at lj
      by_cases q : j < σ.length
      · rw [if_pos q] at hj lj
        have : v = .ref a := Option.some.inj (Option.some.inj hj)
        exact ha lj a this k (fun z => e2 z.symm) lk hk
      · rw [if_neg q] at hj
        cases hj
    · rw [if_neg e] at hj lj
      by_cases e2 : i = k
      · rw [if_pos e2] at hk lk
        rw [← hl] at lk
        by_cases q : k < σ.length
        · rw [if_pos q] at hk lk
          have : v = .ref a := Option.some.inj (Option.some.inj hk)
          exact ha lk a this j (fun z => e z.symm) lj hj
        · rw [if_neg q] at hk
          cases hk
      · rw [if_neg e2] at hk lk
        exact R.apart j k a hjk lj lk hj hk
  · rw [set_at] at hj lo
    by_cases e : i = j
    · rw [if_pos e] at hj lo
      rw [← hl] at lo
      by_cases q : j < σ.length
      · rw [if_pos q] at hj lo
        have : v = .ref a := Option.some.inj (Option.some.inj hj)
        exact hro lo a this
      · rw [if_neg q] at hj
        cases hj
    · rw [if_neg e] at hj lo
      exact R.old j a hj lo
theorem Rel.setD {i : Nat} {v : V} {d : D} (R : Rel K s c H0 σ H σd) (h : DR K s H v d) : Rel K s c H0 (σ.set i (some v)) H (σd.set i (some (.dat d))) :=
  R.set (x := .dat d) h (fun z => nomatch z) (fun z => nomatch z)
end
/-- what may change or is lent stands as it stood -/
def Stand (σ : L2.St) (σd : Sd) (σ' : L2.St) (σd' : Sd) : Prop := ∀ j : Nat, (looseC ((σd'[j]?).join) = true ∨ roC ((σd'[j]?).join) = true) → σ'[j]? = σ[j]? ∧ σd'[j]? = σd[j]?
theorem Stand.refl (σ : L2.St) (σd : Sd) : Stand σ σd σ σd := fun _ _ => ⟨rfl, rfl⟩
theorem Stand.trans {σ σ1 σ2 : L2.St} {σd σd1 σd2 : Sd} (a : Stand σ σd σ1 σd1) (b : Stand σ1 σd1 σ2 σd2) : Stand σ σd σ2 σd2 := fun j h => by
  obtain ⟨h1, h2⟩ := b j h
  rw [h2] at h
  obtain ⟨h3, h4⟩ := a j h
  exact ⟨h1.trans h3, h2.trans h4⟩
theorem Stand.set {σ : L2.St} {σd : Sd} {i : Nat} {v : Option V} {d : D} : Stand σ σd (σ.set i v) (σd.set i (some (.dat d))) := fun j h => by
  rw [set_at] at h
  by_cases e : i = j
  · rw [if_pos e] at h
    by_cases q : j < σd.length
    · rw [if_pos q] at h
      rcases h with h | h <;> cases h
    · rw [if_neg q] at h
      rcases h with h | h <;> cases h
  · rw [set_at, set_at, if_neg e, if_neg e]
    exact ⟨rfl, rfl⟩
/-- targets: ts are the slots that may change -/
abbrev PGx := D → Sd → (Sd → Prop) → Prop
def LG (K : PySem.W.Frag) (s c : Addr) (H0 : Hp) (g : TG) (p : PGx) (ts : List Nat) : Prop := ∀ (σ : L2.St) (σd : Sd) (H : Hp) (v : V) (d : D) (Q : L2.St → Hp → Prop) (P : Sd → Prop), Rel K s c H0 σ H σd → DR K s H v d → p d σd P →
  (∀ σ' σd', P σd' → Rel K s c H0 σ' H σd' → σ'.length = σ.length → (∀ j, j ∉ ts → σ'[j]? = σ[j]?) → Stand σ σd σ' σd' → Q σ' H) → g v σ H Q
def pgName (i : Nat) : PGx := fun d σd P => P (σd.set i (some (.dat d)))
theorem G_name (i : Nat) : LG K s c H0 (gName i) (pgName i) [i] := fun σ σd H v d Q P R hd h k =>
  k _ _ h (R.setD hd) (List.length_set ..) (fun j hj => by
    rw [set_at, if_neg (fun z => hj (by rw [z]; exact List.mem_singleton.mpr rfl))]) .set
def LGs (K : PySem.W.Frag) (s c : Addr) (H0 : Hp) (g : TGs) (p : List D → Sd → (Sd → Prop) → Prop) (ts : List Nat) : Prop := ∀ (σ : L2.St) (σd : Sd) (H : Hp) (vs : List V) (ds : List D) (Q : L2.St → Hp → Prop) (P : Sd → Prop), Rel K s c H0 σ H σd → DRs K s H vs ds → p ds σd P →
  (∀ σ' σd', P σd' → Rel K s c H0 σ' H σd' → σ'.length = σ.length → (∀ j, j ∉ ts → σ'[j]? = σ[j]?) → Stand σ σd σ' σd' → Q σ' H) → g vs σ H Q
def pgNil : List D → Sd → (Sd → Prop) → Prop := fun ds σd P => ds = [] ∧ P σd
def pgCons (a : PGx) (b : List D → Sd → (Sd → Prop) → Prop) : List D → Sd → (Sd → Prop) → Prop := fun ds σd P => ∃ d r, ds = d :: r ∧ a d σd fun σd' => b r σd' P
theorem G_nil : LGs K s c H0 gNil pgNil [] := fun σ σd H vs ds Q P R hd h k => by
  obtain ⟨rfl, h⟩ := h
  cases hd
  exact ⟨rfl, k _ _ h R rfl (fun _ _ => rfl) (.refl _ _)⟩
theorem G_cons {g : TG} {gs : TGs} {a : PGx} {b : List D → Sd → (Sd → Prop) → Prop} {ts us : List Nat} (ha : LG K s c H0 g a ts) (hb : LGs K s c H0 gs b us) : LGs K s c H0 (gCons g gs) (pgCons a b) (ts ++ us) := fun σ σd H vs ds Q P R hd h k => by
  obtain ⟨d, r, rfl, h⟩ := h
  cases hd with
  | cons x xs =>
    refine ⟨_, _, rfl, ha σ σd H _ d _ _ R x h fun σ1 σd1 h1 R1 l1 k1 st1 => ?_⟩
    refine hb σ1 σd1 H _ r _ _ R1 xs h1 fun σ2 σd2 h2 R2 l2 k2 st2 => k σ2 σd2 h2 R2 (l2.trans l1) (fun j hj => ?_) (st1.trans st2)
    rw [k2 j (fun z => hj (List.mem_append_right _ z)), k1 j (fun z => hj (List.mem_append_left _ z))]
def pgTup (b : List D → Sd → (Sd → Prop) → Prop) : PGx := fun d σd P => ∃ ds, d = .tup ds ∧ b ds σd P
theorem G_tup {n : Nat} {gs : TGs} {b : List D → Sd → (Sd → Prop) → Prop} {ts : List Nat} (hb : LGs K s c H0 gs b ts) (hn : ∀ ds σd P, b ds σd P → ds.length = n) : LG K s c H0 (gTup K n gs) (pgTup b) ts := fun σ σd H v d Q P R hd h k => by
  obtain ⟨ds, rfl, h⟩ := h
  cases hd with
  | tup h1 r1 =>
    refine ⟨_, _, rfl, .inl (.inl h1), by rw [r1.len]; exact hn _ _ _ h, ?_⟩
    exact hb σ σd H _ ds _ _ R r1 h k
theorem glen_nil {ds : List D} {σd : Sd} {P : Sd → Prop} (h : pgNil ds σd P) : ds.length = 0 := by rw [h.1]; rfl
theorem glen_cons {n : Nat} {a : PGx} {b : List D → Sd → (Sd → Prop) → Prop} (hb : ∀ ds σd P, b ds σd P → ds.length = n) (hm : ∀ d σd P, a d σd P → ∃ σd', P σd') {ds : List D} {σd : Sd} {P : Sd → Prop} (h : pgCons a b ds σd P) : ds.length = n + 1 := by
  obtain ⟨d, r, rfl, h⟩ := h
  obtain ⟨σd', h⟩ := hm _ _ _ h
  rw [List.length_cons, hb _ _ _ h]
theorem name_some (i : Nat) (d : D) (σd : Sd) (P : Sd → Prop) (h : pgName i d σd P) : ∃ σd', P σd' := ⟨_, h⟩
def pAsg (a : PEx) (g : PGx) : PSx := fun e σd => a σd fun x => ∃ d, x = .dat d ∧ g d σd e.nx
theorem S_asg {t : TE} {g : TG} {a : PEx} {p : PGx} {ts : List Nat} (ha : LE K s c H0 t a) (hg : LG K s c H0 g p ts) : LS K s c H0 (tAsg t g) (pAsg a p) := fun σ σd H E e R h k => by
  refine ha σ σd H _ _ R h fun x v H1 h1 r1 s1 => ?_
  obtain ⟨d, rfl, h⟩ := h1
  exact hg σ σd H1 v d _ _ (R.stp s1) r1 h fun σ' σd' h2 R2 _ _ _ => k.nx σ' σd' H1 h2 R2 (s1.im R.src)
/-- x = a new list that will change -/
def pNew (a : PNx) (i : Nat) : PSx := fun e σd => a σd fun ds => e.nx (σd.set i (some (.lm ds)))
theorem S_new {t : TE} {a : PNx} (i : Nat) (ha : LN K s c H0 t a) : LS K s c H0 (tAsg t (gName i)) (pNew a i) := fun σ σd H E e R h k => by
  refine ha σ σd H _ _ R h fun ds a vs H1 h1 hv hn hd st => ?_
  have nn := R.src.ne hn
  have n0 : H0 a = none := Kp.none R.kp0 nn.1 hn
  refine k.nx _ _ H1 h1 ((R.stp st).set (x := .lm ds) ⟨a, vs, rfl, hv, hd, nn⟩ (fun _ b eb => by cases eb; exact n0) (fun _ b eb j nj lj hj => ?_)) (st.im R.src)
  cases eb
  -- the slot j holds a loose thing of H
  obtain ⟨x, hx, hr⟩ := R.slot j _ hj
  rw [hx] at lj
  cases x with
  | none => cases lj
  | some x =>
    cases x with
    | dat d => cases lj
    | lm es =>
      obtain ⟨b, us, eb, hb, _⟩ := hr
      cases eb
      rw [hn] at hb
      cases hb
    | dm es =>
      obtain ⟨b, us, eb, hb, _⟩ := hr
      cases eb
      rw [hn] at hb
      cases hb
    | tm es =>
      obtain ⟨b, us, eb, hb, _⟩ := hr
      cases eb
      rw [hn] at hb
      cases hb
    | om x C es =>
      obtain ⟨dx, us, eb, hb, _⟩ := hr
      cases eb
      rw [hn] at hb
      cases hb
    | un => cases lj
    | ex a cls d x => cases lj
    | rl ds => cases lj
    | rd ds => cases lj
    | rt ds => cases lj
end
end My


/-! Q5: what changes, loops, comprehensions. -/
namespace My
open PySem PySem.Spec PyProof.Rows L2
section
variable {K : PySem.W.Frag} {s c : Addr} {H0 H H' : Hp} {σ : L2.St} {σd : Sd}
theorem loose_at {i l : Nat} {v : V} {x : Cell} (h : CellR K s c H v x) (lo : looseC (some x) = true) : ∃ a, v = .ref a ∧ Loose H a ∧ a ≠ s ∧ a ≠ c := by
  cases x with
  | dat d => cases lo
  | lm ds => obtain ⟨a, vs, rfl, ha, _, h1, h2⟩ := h; exact ⟨a, rfl, ⟨_, ha, rfl⟩, h1, h2⟩
  | dm ds => obtain ⟨a, vs, rfl, ha, _, h1, h2⟩ := h; exact ⟨a, rfl, ⟨_, ha, rfl⟩, h1, h2⟩
  | tm ds => obtain ⟨a, vs, rfl, ha, _, h1, h2⟩ := h; exact ⟨a, rfl, ⟨_, ha, rfl⟩, h1, h2⟩
  | om x C ds => obtain ⟨dx, vs, rfl, ha, _, h1, h2⟩ := h; exact ⟨x, rfl, ⟨_, ha, rfl⟩, h1, h2⟩
  | un => cases lo
  | ex a cls d x => cases lo
  | rl ds => cases lo
  | rd ds => cases lo
  | rt ds => cases lo
/-- the thing of slot i is written -/
theorem Rel.write {i : Nat} {l : Addr} {x x' : Cell} {o : HO} (R : Rel K s c H0 σ H σd) (hi : σ[i]? = some (some (.ref l))) (hx : σd[i]? = some (some x)) (lo : looseC (some x) = true)
    (hc : CellR K s c (upd H l o) (.ref l) x') (hro : roC (some x') = false := by rfl) : Rel K s c H0 σ (upd H l o) (σd.set i (some x')) := by
  obtain ⟨y, hy, hr⟩ := R.slot i _ hi
  rw [hx] at hy
  cases hy
  obtain ⟨a, ea, hl, n1, n2⟩ := loose_at (i := 0) (l := 0) hr lo
  cases ea
  have kl : Kp l H (upd H l o) := Kp.self
  have im := kl.im hl
  have lo' : ∀ j, looseC (((σd.set i (some x'))[j]?).join) = true → looseC ((σd[j]?).join) = true := fun j h => by
    rw [set_at] at h
    by_cases e : i = j
    · subst e
      rw [hx]
      exact lo
    · rw [if_neg e] at h
      exact h
  refine ⟨R.src.kp n1.symm n2.symm kl, R.kp0.via (R.new i l hi (by rw [hx]; exact lo)) kl, by rw [List.length_set]; exact R.len, fun j v hj => ?_, fun j a hj h => R.new j a hj (lo' j h), fun j k a n h1 h2 => R.apart j k a n (lo' j h1) (lo' k h2), fun j a hj h => ?_⟩
  rotate_left
  · rw [set_at] at h
    by_cases e : i = j
    · subst e
      rw [if_pos rfl] at h
      by_cases q : i < σd.length
      · rw [if_pos q] at h
        rw [show (some (some x')).join = some x' from rfl, hro] at h
        cases h
      · rw [if_neg q] at h
        cases h
    · rw [if_neg e] at h
      exact R.old j a hj h
  rw [set_at]
  by_cases e : i = j
  · subst e
    rw [if_pos rfl, if_pos (by rw [← R.len]; exact (List.getElem?_eq_some_iff.mp hi).1)]
    rw [hi] at hj
    cases hj
    exact ⟨_, rfl, hc⟩
  · rw [if_neg e]
    obtain ⟨y, hy, hr2⟩ := R.slot j v hj
    refine ⟨y, hy, ?_⟩
    cases v with
    | none => cases y with
      | none => trivial
      | some y => exact hr2
    | some v => cases y with
      | none => exact hr2
      | some y =>
        cases y with
        | dat d => exact DR.im im hr2
        | lm es =>
          obtain ⟨b, us, rfl, hb, hd, q1, q2⟩ := hr2
          have nb : b ≠ l := fun z => by
            subst z
            exact R.apart i j _ e (by rw [hx]; exact lo) (by rw [hy]; rfl) hi hj
          exact ⟨b, us, rfl, kl _ _ nb hb, hd.im im, q1, q2⟩
        | dm es =>
          obtain ⟨b, us, rfl, hb, hd, q1, q2⟩ := hr2
          have nb : b ≠ l := fun z => by
            subst z
            exact R.apart i j _ e (by rw [hx]; exact lo) (by rw [hy]; rfl) hi hj
          exact ⟨b, us, rfl, kl _ _ nb hb, hd.im im, q1, q2⟩
        | tm es =>
          obtain ⟨b, us, rfl, hb, hd, q1, q2⟩ := hr2
          have nb : b ≠ l := fun z => by
            subst z
            exact R.apart i j _ e (by rw [hx]; exact lo) (by rw [hy]; rfl) hi hj
          exact ⟨b, us, rfl, kl _ _ nb hb, hd.im im, q1, q2⟩
        | om b C es =>
          obtain ⟨dx, us, rfl, hb, hd, q1, q2⟩ := hr2
          have nb : b ≠ l := fun z => by
            subst z
            exact R.apart i j _ e (by rw [hx]; exact lo) (by rw [hy]; rfl) hi hj
          exact ⟨dx, us, rfl, kl _ _ nb hb, hd.im im, q1, q2⟩
        | un => trivial
        | ex a cls d x => exact ⟨hr2.1, hr2.2.im im⟩
        | rl es =>
          obtain ⟨b, us, rfl, hb, hd, q1, q2⟩ := hr2
          have nb : b ≠ l := fun z => by
            subst z
            exact R.old j _ hj (by rw [hy]; rfl) (R.new i _ hi (by rw [hx]; exact lo))
          exact ⟨b, us, rfl, kl _ _ nb hb, hd.im im, q1, q2⟩
        | rd es =>
          obtain ⟨b, us, rfl, hb, hd, q1, q2⟩ := hr2
          have nb : b ≠ l := fun z => by
            subst z
            exact R.old j _ hj (by rw [hy]; rfl) (R.new i _ hi (by rw [hx]; exact lo))
          exact ⟨b, us, rfl, kl _ _ nb hb, hd.im im, q1, q2⟩
        | rt es =>
          obtain ⟨b, us, rfl, hb, hd, q1, q2⟩ := hr2
          have nb : b ≠ l := fun z => by
            subst z
            exact R.old j _ hj (by rw [hy]; rfl) (R.new i _ hi (by rw [hx]; exact lo))
          exact ⟨b, us, rfl, kl _ _ nb hb, hd.im im, q1, q2⟩
end
section
variable {K : PySem.W.Frag} {s c : Addr} {H0 : Hp}
/-! ### xs.append(e), the list locked for good -/
def pApp (i : Nat) (a : PEx) : PSx := fun e σd => ∃ ds, σd[i]? = some (some (.lm ds)) ∧ a σd fun x => ∃ d, x = .dat d ∧ ds.length ≤ 100000 ∧ e.nx (σd.set i (some (.lm (ds ++ [d]))))
theorem S_app {t : TE} {a : PEx} (i : Nat) (ha : LE K s c H0 t a) : LS K s c H0 (tDrop (tBM K "list" rAppend (tVar i) (tCons t tNil))) (pApp i a) := fun σ σd H E e R h k => by
  obtain ⟨ds, hi, h⟩ := h
  obtain ⟨v, hv, hr⟩ := R.at hi
  obtain ⟨l, vs, rfl, hl, hd, n1, n2⟩ := id hr
  refine ⟨_, hv, .inl ⟨rfl, _, SqL.of hl⟩, ?_⟩
  refine ha σ σd H _ _ R h fun x w H1 h1 r1 s1 => ?_
  obtain ⟨d, rfl, hz, h2⟩ := h1
  have R1 := R.stp s1
  obtain ⟨l', vs', e', hl1, hd1, _⟩ := hr.stp R.src s1
  cases e'
  have kl : Kp l H1 (upd H1 l (.lst (vs' ++ [w]))) := Kp.self
  have im := kl.im ⟨_, hl1, rfl⟩
  refine ⟨l, vs', w, rfl, rfl, hl1, Nat.lt_of_le_of_lt (by rw [hd1.len]; exact hz) (by decide), ?_⟩
  exact k.nx σ _ _ h2 (R1.write hv hi rfl ⟨l, _, rfl, upd_same, (hd1.im im).snoc (DR.im im r1), n1, n2⟩) ((s1.im R.src).trans im)
/-- the list in slot i is locked for good, then the statement -/
def tFrzS (i : Nat) (t : TS) : TS := fun E σ H => ∃ (a : Addr) (u : HO), σ[i]? = some (some (.ref a)) ∧ H a = some u ∧ Mut (some u) ∧ ∀ o, t E σ (upd H a (.frz o u))
theorem ps_frz {X : Cx} {st : Stmt} {t : TS} (i : Nat) (h : PS X st t) : PS X st (tFrzS i t) := by
  refine ⟨fun pins s σ H E I hq => ?_⟩
  obtain ⟨a, u, _, ea, mu, q⟩ := hq
  obtain ⟨od, I2⟩ := I.lock ea mu
  exact h.run pins s σ _ E I2 (q od)
def pFrzS (i : Nat) (p : PSx) : PSx := fun e σd => ∃ ds, σd[i]? = some (some (.lm ds)) ∧ p e (σd.set i (some (.dat (.lst ds))))
theorem S_frz {t : TS} {p : PSx} (i : Nat) (hp : LS K s c H0 t p) : LS K s c H0 (tFrzS i t) (pFrzS i p) := fun σ σd H E e R h k => by
  obtain ⟨ds, hi, h⟩ := h
  obtain ⟨v, hv, hr⟩ := R.at hi
  obtain ⟨l, vs, rfl, hl, hd, n1, n2⟩ := id hr
  refine ⟨l, _, hv, hl, trivial, fun o => ?_⟩
  have kl : Kp l H (upd H l (.frz o (.lst vs))) := Kp.self
  have im := kl.im ⟨_, hl, rfl⟩
  have w := R.write (x' := .dat (.lst ds)) (o := .frz o (.lst vs)) hv hi rfl (.lst upd_same (hd.im im))
  exact hp σ _ _ E e w h (k.im im)
/-! ### loops -/
def LI (K : PySem.W.Frag) (s c : Addr) (H0 : Hp) (ti : TI) (p : PNx) : Prop := ∀ (σ : L2.St) (σd : Sd) (H : Hp) (R : It → Hp → Prop) (P : List D → Prop), Rel K s c H0 σ H σd → p σd P →
  (∀ (ds : List D) (J : It) (G : Hp → Prop) (Y : Nat → Hp → V → Hp → Prop) (H' : Hp), P ds → Stp s c H H' → Walk J ds.length G Y → G H' → (∀ H1 H2, Im H1 H2 → G H1 → G H2) →
    (∀ i H1 x H2, i < ds.length → Im H' H1 → G H1 → Y i H1 x H2 → Same H1 H2 ∧ ∃ d, ds[i]? = some d ∧ DR K s H2 x d) → R J H') → ti σ H R
def pIL (a : PEx) : PNx := fun σd P => a σd fun x => ∃ ds, x = .dat (.lst ds) ∧ P ds
theorem I_list {t : TE} {a : PEx} (ha : LE K s c H0 t a) : LI K s c H0 (iList K t) (pIL a) := fun σ σd H R P Rl h k => by
  refine ha σ σd H _ _ Rl h fun x v H1 h1 r1 s1 => ?_
  obtain ⟨ds, rfl, h⟩ := h1
  cases r1 with
  | @lst l o vs _ hl hd =>
    refine ⟨l, rfl, ⟨vs, .inl (.inr ⟨o, hl⟩)⟩, ?_⟩
    have w : Walk (Itl K l) ds.length (fun H => H l = some (.frz o (.lst vs))) (YAt vs) := by
      rw [← hd.len]
      exact walk_list.mono (fun H h => .inl (.inr ⟨o, h⟩)) fun i H x H' _ _ y => y
    refine k ds _ _ _ H1 h s1 w hl (fun A B im h => frz_im im h) fun i A x B hi im hG y => ?_
    obtain ⟨e, hx⟩ := y
    subst e
    obtain ⟨d, h1, h2⟩ := (hd.im im).get hx
    exact ⟨Same.refl _, d, h1, h2⟩
def pIT (a : PEx) : PNx := fun σd P => a σd fun x => ∃ ds, x = .dat (.tup ds) ∧ P ds
theorem I_tup {t : TE} {a : PEx} (ha : LE K s c H0 t a) : LI K s c H0 (iTup K t) (pIT a) := fun σ σd H R P Rl h k => by
  refine ha σ σd H _ _ Rl h fun x v H1 h1 r1 s1 => ?_
  obtain ⟨ds, rfl, h⟩ := h1
  cases r1 with
  | @tup l vs _ hl hd =>
    have hl : SqT K H1 l vs := .inl (.inl hl)
    refine ⟨l, rfl, ⟨vs, hl⟩, ?_⟩
    have w : Walk (Itt K l) ds.length (fun H => SqT K H l vs) (YAt vs) := by
      rw [← hd.len]
      exact walk_tup
    refine k ds _ _ _ H1 h s1 w hl (fun A B im h => sqT_im im h) fun i A x B hi im hG y => ?_
    obtain ⟨e, hx⟩ := y
    subst e
    obtain ⟨d, h1, h2⟩ := (hd.im im).get hx
    exact ⟨Same.refl _, d, h1, h2⟩
/-- the signs of a text -/
def signsD (z : Str) : List D := z.cps.toList.map fun c => .str ⟨#[c]⟩
def pIS (a : PEx) : PNx := fun σd P => a σd fun x => ∃ z, x = cS z ∧ P (signsD z)
theorem I_str {t : TE} {a : PEx} (ha : LE K s c H0 t a) : LI K s c H0 (iStr t) (pIS a) := fun σ σd H R P Rl h k => by
  refine ha σ σd H _ _ Rl h fun x v H1 h1 r1 s1 => ?_
  obtain ⟨z, rfl, h⟩ := h1
  refine ⟨z, str_eq r1, ?_⟩
  have w : Walk (Its z) (signsD z).length (fun _ => True) (fun i H v H' => H' = H ∧ ∃ c, z.cps[i]? = some c ∧ v = .str ⟨#[c]⟩) := by
    unfold signsD
    rw [List.length_map, Array.length_toList]
    exact walk_str
  refine k (signsD z) _ _ _ H1 h s1 w trivial (fun A B im h => trivial) fun i A x B hi im hG y => ?_
  obtain ⟨e, d, hc, hx⟩ := y
  subst e hx
  refine ⟨Same.refl _, .str ⟨#[d]⟩, ?_, .str _⟩
  unfold signsD
  rw [List.getElem?_map, Array.getElem?_toList, hc]
  rfl
def rangeD (n : Int) : List D := (List.range n.toNat).map fun (i : Nat) => .int (i : Int)
def pIR (a : PAx) : PNx := fun σd P => a σd fun xs => ∃ n : Int, xs = [cI n] ∧ n ≤ 100000 ∧ -100000 ≤ n ∧ P (rangeD n)
theorem I_rng1 {t : TA} {a : PAx} (ha : LA K s c H0 t a) : LI K s c H0 (iRng1 t) (pIR a) := fun σ σd H R P Rl h k => by
  refine ha σ σd H _ _ Rl h fun xs vs H1 h1 r1 s1 => ?_
  obtain ⟨n, rfl, hn1, hn2, h⟩ := h1
  obtain ⟨v, rfl, hv⟩ := one_of r1
  rw [int_eq hv]
  refine ⟨n, rfl, by omega, by omega, ?_⟩
  have w : Walk (Itr 0 n.toNat) (rangeD n).length (fun _ => True) (YFn fun i => .int (0 + i)) := by
    unfold rangeD
    rw [List.length_map, List.length_range]
    exact walk_range
  refine k (rangeD n) _ _ _ H1 h s1 w trivial (fun A B im h => trivial) fun i A x B hi im hG y => ?_
  obtain ⟨e, hx⟩ := y
  subst e hx
  refine ⟨Same.refl _, .int (i : Int), ?_, by show DR K s B (V.int (0 + (i : Int))) _; rw [Int.zero_add]; exact .int _⟩
  have hi : i < n.toNat := by
    unfold rangeD at hi
    rw [List.length_map, List.length_range] at hi
    exact hi
  unfold rangeD
  rw [List.getElem?_map, List.getElem?_range hi]
  rfl
/-- pairs of place and item -/
def enumD (ds : List D) : List D := ds.zipIdx.map fun p => .tup [.int (p.2 : Int), p.1]
theorem enumD_len (ds : List D) : (enumD ds).length = ds.length := by unfold enumD; rw [List.length_map, List.length_zipIdx]
theorem enumD_at {ds : List D} {i : Nat} {d : D} (h : ds[i]? = some d) : (enumD ds)[i]? = some (.tup [.int (i : Int), d]) := by
  unfold enumD
  rw [List.getElem?_map, List.getElem?_zipIdx, h]
  simp
def pIE (a : PAx) : PNx := fun σd P => a σd fun xs => ∃ ds, xs = [.dat (.lst ds)] ∧ P (enumD ds)
theorem I_enum {t : TA} {a : PAx} (ha : LA K s c H0 t a) : LI K s c H0 (iEnum K t) (pIE a) := fun σ σd H R P Rl h k => by
  refine ha σ σd H _ _ Rl h fun xs vs H1 h1 r1 s1 => ?_
  obtain ⟨ds, rfl, h⟩ := h1
  obtain ⟨v, rfl, hv⟩ := one_of r1
  cases hv with
  | @lst l o us _ hl hd =>
    refine ⟨l, us, rfl, .inl (.inr ⟨o, hl⟩), ?_⟩
    have w : Walk (Ite K l) (enumD ds).length (fun H => H l = some (.frz o (.lst us))) (YPair (fun i => some (.int (i : Nat))) (fun i => us[i]?)) := by
      rw [enumD_len, ← hd.len]
      exact walk_enum.mono (fun H h => .inl (.inr ⟨o, h⟩)) fun i H x H' _ _ y => y
    refine k (enumD ds) _ _ _ H1 h s1 w hl (fun A B im h => frz_im im h) fun i A x B hi im hG y => ?_
    obtain ⟨T, x1, y1, rfl, hT, rfl, e1, e2⟩ := y
    cases e1
    have sm := same_new (o := .tup [V.int ((i : Nat) : Int), y1]) hT
    obtain ⟨d, h3, h4⟩ := (hd.im im).get e2
    exact ⟨sm, _, enumD_at h3, .tup upd_same (.cons (.int _) (.cons (h4.im (Same.im sm)) .nil))⟩
def zipD (ds es : List D) : List D := (ds.zip es).map fun p => .tup [p.1, p.2]
theorem zipD_len (ds es : List D) : (zipD ds es).length = min ds.length es.length := by unfold zipD; rw [List.length_map, List.length_zip]
theorem zipD_at {ds es : List D} {i : Nat} {d e : D} (h : ds[i]? = some d) (h2 : es[i]? = some e) : (zipD ds es)[i]? = some (.tup [d, e]) := by
  unfold zipD
  rw [List.getElem?_map, List.getElem?_zip_eq_some (z := (d, e)) |>.mpr ⟨h, h2⟩]
  rfl
def pIZ (a : PAx) : PNx := fun σd P => a σd fun xs => ∃ ds es, xs = [.dat (.lst ds), .dat (.lst es)] ∧ P (zipD ds es)
theorem two_of {s c : Addr} {H : Hp} {vs : List V} {x y : Cell} (h : CellsR K s c H vs [x, y]) : ∃ v w, vs = [v, w] ∧ CellR K s c H v x ∧ CellR K s c H w y := by
  cases h with
  | cons h r => cases r with
    | cons h2 r2 => cases r2; exact ⟨_, _, rfl, h, h2⟩
theorem I_zip {t : TA} {a : PAx} (ha : LA K s c H0 t a) : LI K s c H0 (iZip K t) (pIZ a) := fun σ σd H R P Rl h k => by
  refine ha σ σd H _ _ Rl h fun xs vs H1 h1 r1 s1 => ?_
  obtain ⟨ds, es, rfl, h⟩ := h1
  obtain ⟨v, u, rfl, hv, hu⟩ := two_of r1
  cases hv with
  | @lst l o us _ hl hd =>
    cases hu with
    | @lst m o2 ws _ hm he =>
      refine ⟨l, m, us, ws, rfl, .inl (.inr ⟨o, hl⟩), .inl (.inr ⟨o2, hm⟩), ?_⟩
      have w : Walk (Itz K l m) (zipD ds es).length (fun H => H l = some (.frz o (.lst us)) ∧ H m = some (.frz o2 (.lst ws))) (YPair (fun i => us[i]?) (fun i => ws[i]?)) := by
        refine (walk_zip (n := (zipD ds es).length) ?_).mono (fun H h => ⟨.inl (.inr ⟨o, h.1⟩), .inl (.inr ⟨o2, h.2⟩)⟩) fun i H x H' _ _ y => y
        rw [zipD_len, ← hd.len, ← he.len]
      refine k (zipD ds es) _ _ _ H1 h s1 w ⟨hl, hm⟩ (fun A B im h => ⟨frz_im im h.1, frz_im im h.2⟩) fun i A x B hi im hG y => ?_
      obtain ⟨T, x1, y1, rfl, hT, rfl, e1, e2⟩ := y
      have sm := same_new (o := .tup [x1, y1]) hT
      obtain ⟨d, h3, h4⟩ := (hd.im im).get e1
      obtain ⟨d2, h5, h6⟩ := (he.im im).get e2
      exact ⟨sm, _, zipD_at h3 h5, .tup upd_same (.cons (h4.im (Same.im sm)) (.cons (h6.im (Same.im sm)) .nil))⟩
/-- for: inv by the turn and the slots -/
def pFor (it : PNx) (g : PGx) (b : PSx) : PSx := fun e σd => it σd fun ds => ∃ inv : Nat → Sd → Prop, inv 0 σd ∧ (∀ i d σd', ds[i]? = some d → inv i σd' → g d σd' fun σd2 => b { e with nx := inv (i + 1), ct := inv (i + 1), bk := e.nx } σd2) ∧ ∀ σd', inv ds.length σd' → e.nx σd'
theorem S_for {ti : TI} {g : TG} {tb : TS} {it : PNx} {pg : PGx} {b : PSx} {ts : List Nat} (hi : LI K s c H0 ti it) (hg : LG K s c H0 g pg ts) (hb : LS K s c H0 tb b) : LS K s c H0 (tFor ti g tb) (pFor it pg b) := fun σ σd H E e R h k => by
  refine hi σ σd H _ _ R h fun ds J G Y H1 h1 s1 w g0 gp hy => ?_
  obtain ⟨inv, i0, turn, fin⟩ := h1
  refine for_it w (fun i σ' H' => ∃ σd', inv i σd' ∧ Rel K s c H0 σ' H' σd' ∧ Im H1 H') ⟨σd, i0, R.stp s1, Im.refl _⟩ (fun i σ' H' _ ⟨_, _, _, im⟩ => gp _ _ im g0) ?_ ?_
  · rintro i x σ' A B hlt ⟨σd', hinv, R', im⟩ y
    obtain ⟨sm, d, hd, hr⟩ := hy i A x B hlt im (gp _ _ im g0) y
    have R2 : Rel K s c H0 σ' B σd' := R'.stp (.same R'.src sm)
    refine hg σ' σd' B x d _ _ R2 hr (turn i d σd' hd hinv) fun σ2 σd2 h2 R3 _ _ _ => ?_
    refine hb σ2 σd2 B _ _ R3 h2 ⟨fun σ3 σd3 C h3 R4 im2 => ⟨σd3, h3, R4, (im.trans (Same.im sm)).trans im2⟩, k.rt, fun σ3 σd3 C h3 R4 im2 => k.nx σ3 σd3 C h3 R4 ((s1.im R.src).trans ((im.trans (Same.im sm)).trans im2)), fun σ3 σd3 C h3 R4 im2 => ⟨σd3, h3, R4, (im.trans (Same.im sm)).trans im2⟩, k.rn⟩
  · rintro σ' A ⟨σd', hinv, R', im⟩
    exact k.nx σ' σd' A (fin σd' hinv) R' ((s1.im R.src).trans im)
/-- while: inv with a measure -/
def pWhile (t : PTx) (b : PSx) : PSx := fun e σd => ∃ inv : Nat → Sd → Prop, (∃ m, inv m σd) ∧ ∀ m σd', inv m σd' → t σd' fun x => if x = true then b { e with nx := fun σd2 => ∃ m', m' < m ∧ inv m' σd2, ct := fun σd2 => ∃ m', m' < m ∧ inv m' σd2, bk := e.nx } σd' else e.nx σd'
theorem S_while {tc : TT} {tb : TS} {t : PTx} {b : PSx} (ht : LT K s c H0 tc t) (hb : LS K s c H0 tb b) : LS K s c H0 (tWhile tc tb) (pWhile t b) := fun σ σd H E e R h k => by
  obtain ⟨inv, ⟨m0, i0⟩, turn⟩ := h
  refine ⟨fun m σ' H' => ∃ σd', inv m σd' ∧ Rel K s c H0 σ' H' σd' ∧ Im H H', ⟨m0, σd, i0, R, Im.refl _⟩, ?_⟩
  rintro m σ' A ⟨σd', hinv, R', im⟩
  refine ht σ' σd' A _ _ R' (turn m σd' hinv) fun x B h1 s1 => ?_
  cases x with
  | false => exact k.nx σ' σd' B h1 (R'.stp s1) (im.trans (s1.im R'.src))
  | true =>
    refine ⟨fun σ2 C => ∃ m', m' < m ∧ ∃ σd2, inv m' σd2 ∧ Rel K s c H0 σ2 C σd2 ∧ Im H C, fun σ2 C ⟨m', h1, h2⟩ => ⟨m', h1, h2⟩, ?_⟩
    have im1 := im.trans (s1.im R'.src)
    exact hb σ' σd' B _ _ (R'.stp s1) h1 ⟨fun σ3 σd3 C ⟨m', a1, a2⟩ R4 im2 => ⟨m', a1, σd3, a2, R4, im1.trans im2⟩, k.rt, fun σ3 σd3 C h3 R4 im2 => k.nx σ3 σd3 C h3 R4 (im1.trans im2), fun σ3 σd3 C ⟨m', a1, a2⟩ R4 im2 => ⟨m', a1, σd3, a2, R4, im1.trans im2⟩, k.rn⟩
end
end My


/-! Q6: comprehensions; a def's promise by its reading over plain values. -/
namespace My
open PySem PySem.Spec PyProof.Rows L2
def wipeD (σd : Sd) : List Nat → Sd
  | [] => σd
  | v :: vs => (wipeD σd vs).set v none
section
variable {K : PySem.W.Frag} {s c : Addr} {H0 H H' : Hp} {σ : L2.St} {σd : Sd}
theorem Rel.wipe1 {i : Nat} (R : Rel K s c H0 σ H σd) : Rel K s c H0 (σ.set i none) H (σd.set i none) := by
  have hl := R.len
  have lo : ∀ j, looseC (((σd.set i none)[j]?).join) = true → i ≠ j ∧ looseC ((σd[j]?).join) = true := fun j h => by
    rw [set_at] at h
    by_cases e : i = j
    · rw [if_pos e] at h
      by_cases q : j < σd.length
      · rw [if_pos q] at h; cases h
      · rw [if_neg q] at h; cases h
    · rw [if_neg e] at h
      exact ⟨e, h⟩
  refine ⟨R.src, R.kp0, by rw [List.length_set, List.length_set, hl], fun j u hj => ?_, fun j a hj h => ?_, fun j k a n h1 h2 hj hk => ?_, fun j a hj h => ?_⟩
  · rw [set_at] at hj ⊢
    by_cases e : i = j
    · rw [if_pos e] at hj ⊢
      rw [← hl]
      by_cases q : j < σ.length
      · rw [if_pos q] at hj ⊢
        cases hj
        exact ⟨_, rfl, trivial⟩
      · rw [if_neg q] at hj
        cases hj
    · rw [if_neg e] at hj ⊢
      exact R.slot j u hj
  · obtain ⟨e, h⟩ := lo j h
    rw [set_at, if_neg e] at hj
    exact R.new j a hj h
  · obtain ⟨e, h1⟩ := lo j h1
    obtain ⟨e2, h2⟩ := lo k h2
    rw [set_at, if_neg e] at hj
    rw [set_at, if_neg e2] at hk
    exact R.apart j k a n h1 h2 hj hk
  · rw [set_at] at hj h
    by_cases e : i = j
    · rw [if_pos e] at h
      by_cases q : j < σd.length
      · rw [if_pos q] at h; cases h
      · rw [if_neg q] at h; cases h
    · rw [if_neg e] at hj h
      exact R.old j a hj h
theorem Rel.wipe (R : Rel K s c H0 σ H σd) : ∀ vs : List Nat, Rel K s c H0 (wipe σ vs) H (wipeD σd vs)
  | [] => R
  | v :: vs => (R.wipe vs).wipe1
theorem wipe_at (σ : L2.St) (j : Nat) : ∀ vs : List Nat, (wipe σ vs)[j]? = if j ∈ vs then (if j < σ.length then some none else none) else σ[j]?
  | [] => by simp [wipe]
  | v :: vs => by
    unfold wipe
    rw [set_at, wipe_length, wipe_at σ j vs]
    by_cases e : v = j
    · rw [if_pos e, if_pos (show j ∈ v :: vs from by rw [e]; exact List.mem_cons_self)]
    · rw [if_neg e]
      by_cases q : j ∈ vs
      · rw [if_pos q, if_pos (List.mem_cons_of_mem _ q)]
      · rw [if_neg q, if_neg (fun z => by rcases List.mem_cons.mp z with z | z; exact e z.symm; exact q z)]
theorem wipe_back {σ σ2 : L2.St} {vs ts : List Nat} (hl : σ2.length = (wipe σ vs).length) (h : ∀ j, j ∉ ts → σ2[j]? = (wipe σ vs)[j]?) (sub : ∀ t ∈ ts, t ∈ vs) : wipe σ2 vs = wipe σ vs := by
  have hl2 : σ2.length = σ.length := by rw [hl, wipe_length]
  apply List.ext_getElem?
  intro j
  rw [wipe_at, wipe_at, hl2]
  by_cases q : j ∈ vs
  · rw [if_pos q, if_pos q]
  · rw [if_neg q, if_neg q, h j (fun z => q (sub j z)), wipe_at, if_neg q]
end
section
variable {K : PySem.W.Frag} {s c : Addr} {H0 : Hp}
/-- [e for g in it if t]: inv by the turn and the list so far -/
def pLc (it : PNx) (g : PGx) (t : PTx) (el : PEx) (vs : List Nat) : PNx := fun σd P => it σd fun ds => ds.length ≤ 100000 ∧ ∃ inv : Nat → List D → Prop, inv 0 [] ∧
  (∀ i d acc, ds[i]? = some d → inv i acc → g d (wipeD σd vs) fun σd2 => t σd2 fun b => if b = true then el σd2 fun x => ∃ y, x = .dat y ∧ inv (i + 1) (acc ++ [y]) else inv (i + 1) acc) ∧ ∀ acc, inv ds.length acc → P acc
theorem L_lc {ti : TI} {g : TG} {tt : TT} {te : TE} {it : PNx} {pg : PGx} {t : PTx} {el : PEx} {vs ts : List Nat} (hi : LI K s c H0 ti it) (hg : LG K s c H0 g pg ts) (ht : LT K s c H0 tt t) (he : LE K s c H0 te el) (sub : ∀ x ∈ ts, x ∈ vs := by decide) :
    LN K s c H0 (tLc ti g tt te vs) (pLc it pg t el vs) := fun σ σd H Q P R h k => by
  refine hi σ σd H _ _ R h fun ds J G Y H1 h1 s1 w g0 gp hy => ?_
  obtain ⟨hlen, inv, i0, turn, fin⟩ := h1
  intro L hL
  have nL := s1.src.ne hL
  have R1 := R.stp s1
  have hL0 : H0 L = none := Kp.none R1.kp0 nL.1 hL
  have hLH : H L = none := Kp.none s1.kp nL.1 hL
  have sm0 := same_new (o := .lst []) hL
  refine lc_it w (fun i A => ∃ acc us, inv i acc ∧ acc.length ≤ i ∧ A L = some (.lst us) ∧ DRs K s A us acc ∧ Rel K s c H0 σ A σd ∧ Im H1 A ∧ Kp s H A) ⟨[], [], i0, Nat.le_refl _, upd_same, .nil, R1.stp (.same s1.src sm0), Same.im sm0, s1.kp.trans (kp_same sm0)⟩
    (fun i A _ ⟨_, _, _, _, _, _, _, im, _⟩ => gp _ _ im g0) ?_ ?_
  · rintro i x A B hlt ⟨acc, us, hinv, hal, hA, hdr, RA, im, kpA⟩ y
    obtain ⟨sm, d, hd, hr⟩ := hy i A x B hlt im (gp _ _ im g0) y
    have RB : Rel K s c H0 σ B σd := RA.stp (.same RA.src sm)
    have imB := im.trans (Same.im sm)
    have hB : B L = some (.lst us) := sm _ _ hA
    refine hg (wipe σ vs) (wipeD σd vs) B x d _ _ (RB.wipe vs) hr (turn i d acc hd hinv) fun σ2 σd2 h2 R2 l2 k2 _ => ⟨wipe_back l2 k2 sub, ?_⟩
    refine ht σ2 σd2 B _ _ R2 h2 fun b C h3 s3 => ?_
    have hC : C L = some (.lst us) := s3.kp _ _ nL.1 hB
    have imC := imB.trans (s3.im R2.src)
    have RC := RB.stp s3
    have kpC : Kp s H C := (kpA.trans (kp_same sm)).trans s3.kp
    have hdC := hdr.im ((Same.im sm).trans (s3.im R2.src))
    cases b with
    | false =>
      rw [if_neg Bool.false_ne_true] at h3
      exact ⟨acc, us, h3, Nat.le_succ_of_le hal, hC, hdC, RC, imC, kpC⟩
    | true =>
      rw [if_pos rfl] at h3
      refine he σ2 σd2 C _ _ (R2.stp s3) h3 fun z v F h4 r4 s4 => ?_
      obtain ⟨e, rfl, h5⟩ := h4
      have hF : F L = some (.lst us) := s4.kp _ _ nL.1 hC
      have kl : Kp L F (upd F L (.lst (us ++ [v]))) := Kp.self
      have imL := kl.im ⟨_, hF, rfl⟩
      have RF := RC.stp s4
      have hdF := hdC.im (s4.im RC.src)
      refine ⟨us, hF, Nat.lt_of_le_of_lt (show us.length ≤ 100000 from by rw [hdF.len]; omega) (by decide), acc ++ [e], us ++ [v], h5, by rw [List.length_append, List.length_singleton]; omega, upd_same, (hdF.im imL).snoc (DR.im imL r4), ?_, (imC.trans (s4.im RC.src)).trans imL, (kpC.trans s4.kp).via hLH kl⟩
      -- the slots do not see the new list
      refine ⟨RF.src.kp nL.1.symm nL.2.symm kl, RF.kp0.via hL0 kl, RF.len, fun j u hj => ?_, RF.new, RF.apart, RF.old⟩
      obtain ⟨q, hq, hrq⟩ := RF.slot j u hj
      refine ⟨q, hq, ?_⟩
      cases u with
      | none => cases q with
        | none => trivial
        | some q => exact hrq
      | some u => cases q with
        | none => exact hrq
        | some q =>
          cases q with
          | dat d => exact DR.im imL hrq
          | lm es =>
            obtain ⟨b, ws, rfl, hb, hdd, q1, q2⟩ := hrq
            have nb : b ≠ L := fun z => by
              subst z
              obtain ⟨q', hq', hrq'⟩ := R.slot j _ hj
              rw [hq] at hq'
              cases hq'
              obtain ⟨b', ws', eb', hb', _⟩ := hrq'
              cases eb'
              rw [hLH] at hb'
              cases hb'
            exact ⟨b, ws, rfl, kl _ _ nb hb, hdd.im imL, q1, q2⟩
          | dm es =>
            obtain ⟨b, ws, rfl, hb, hdd, q1, q2⟩ := hrq
            have nb : b ≠ L := fun z => by
              subst z
              obtain ⟨q', hq', hrq'⟩ := R.slot j _ hj
              rw [hq] at hq'
              cases hq'
              obtain ⟨b', ws', eb', hb', _⟩ := hrq'
              cases eb'
              rw [hLH] at hb'
              cases hb'
            exact ⟨b, ws, rfl, kl _ _ nb hb, hdd.im imL, q1, q2⟩
          | tm es =>
            obtain ⟨b, ws, rfl, hb, hdd, q1, q2⟩ := hrq
            have nb : b ≠ L := fun z => by
              subst z
              obtain ⟨q', hq', hrq'⟩ := R.slot j _ hj
              rw [hq] at hq'
              cases hq'
              obtain ⟨b', ws', eb', hb', _⟩ := hrq'
              cases eb'
              rw [hLH] at hb'
              cases hb'
            exact ⟨b, ws, rfl, kl _ _ nb hb, hdd.im imL, q1, q2⟩
          | om b C es =>
            obtain ⟨dx, ws, rfl, hb, hdd, q1, q2⟩ := hrq
            have nb : b ≠ L := fun z => by
              subst z
              obtain ⟨q', hq', hrq'⟩ := R.slot j _ hj
              rw [hq] at hq'
              cases hq'
              obtain ⟨dx', ws', eb', hb', _⟩ := hrq'
              cases eb'
              rw [hLH] at hb'
              cases hb'
            exact ⟨dx, ws, rfl, kl _ _ nb hb, hdd.im imL, q1, q2⟩
          | un => trivial
          | ex a cls d x => exact ⟨hrq.1, hrq.2.im imL⟩
          | rl es =>
            obtain ⟨b, ws, rfl, hb, hdd, q1, q2⟩ := hrq
            have nb : b ≠ L := fun z => by
              subst z
              obtain ⟨q', hq', hrq'⟩ := R.slot j _ hj
              rw [hq] at hq'
              cases hq'
              obtain ⟨b', ws', eb', hb', _⟩ := hrq'
              cases eb'
              rw [hLH] at hb'
              cases hb'
            exact ⟨b, ws, rfl, kl _ _ nb hb, hdd.im imL, q1, q2⟩
          | rd es =>
            obtain ⟨b, ws, rfl, hb, hdd, q1, q2⟩ := hrq
            have nb : b ≠ L := fun z => by
              subst z
              obtain ⟨q', hq', hrq'⟩ := R.slot j _ hj
              rw [hq] at hq'
              cases hq'
              obtain ⟨b', ws', eb', hb', _⟩ := hrq'
              cases eb'
              rw [hLH] at hb'
              cases hb'
            exact ⟨b, ws, rfl, kl _ _ nb hb, hdd.im imL, q1, q2⟩
          | rt es =>
            obtain ⟨b, ws, rfl, hb, hdd, q1, q2⟩ := hrq
            have nb : b ≠ L := fun z => by
              subst z
              obtain ⟨q', hq', hrq'⟩ := R.slot j _ hj
              rw [hq] at hq'
              cases hq'
              obtain ⟨b', ws', eb', hb', _⟩ := hrq'
              cases eb'
              rw [hLH] at hb'
              cases hb'
            exact ⟨b, ws, rfl, kl _ _ nb hb, hdd.im imL, q1, q2⟩
  · rintro A ⟨acc, us, hinv, hal, hA, hdr, RA, im, kpA⟩
    exact k acc L us A (fin acc hinv) hA hLH hdr ⟨kpA, RA.src⟩
/-! ### a def's promise -/
def startD (N : List Str) (ds : List D) : Sd := ds.map (fun d => some (.dat d)) ++ List.replicate (N.length - ds.length) none
theorem start_slot {s c : Addr} {H : Hp} (n : Nat) : ∀ {vs : List V} {ds : List D}, DRs K s H vs ds → ∀ (i : Nat) (v : Option V), (vs.map some ++ List.replicate n none)[i]? = some v →
    ∃ x, (ds.map (fun d => some (Cell.dat d)) ++ List.replicate n none)[i]? = some x ∧ SlotR K s c H v x ∧ looseC x = false ∧ roC x = false
  | _, _, .nil, i, v, h => by
    have h : (List.replicate n (none : Option V))[i]? = some v := h
    rw [List.getElem?_replicate] at h
    show ∃ x, (List.replicate n (none : Option Cell))[i]? = some x ∧ _
    by_cases q : i < n
    · rw [if_pos q] at h
      cases h
      exact ⟨none, by rw [List.getElem?_replicate, if_pos q], trivial, rfl, rfl⟩
    · rw [if_neg q] at h
      cases h
  | _, _, .cons x r, 0, v, h => by
    cases h
    exact ⟨_, rfl, x, rfl, rfl⟩
  | _, _, .cons x r, i + 1, v, h => start_slot n r i v h
theorem rel_start {s c : Addr} {H : Hp} {vs : List V} {ds : List D} {N : List Str} (S : Src H s c) (h : DRs K s H vs ds) : Rel K s c H (L2.start N vs) H (startD N ds) := by
  unfold L2.start startD
  rw [h.len]
  have hs := start_slot (K := K) (s := s) (c := c) (H := H) (N.length - ds.length) h
  have nl : ∀ i a, (vs.map some ++ List.replicate (N.length - ds.length) none)[i]? = some (some (V.ref a)) → looseC (((ds.map (fun d => some (Cell.dat d)) ++ List.replicate (N.length - ds.length) none)[i]?).join) = true → False := fun i a e lo => by
    obtain ⟨x, h1, _, h3, _⟩ := hs i _ e
    rw [h1] at lo
    cases x with
    | none => cases lo
    | some x => rw [show (some (some x)).join = some x from rfl, h3] at lo; cases lo
  have nr : ∀ i a, (vs.map some ++ List.replicate (N.length - ds.length) none)[i]? = some (some (V.ref a)) → roC (((ds.map (fun d => some (Cell.dat d)) ++ List.replicate (N.length - ds.length) none)[i]?).join) = true → False := fun i a e lo => by
    obtain ⟨x, h1, _, _, h3⟩ := hs i _ e
    rw [h1] at lo
    cases x with
    | none => cases lo
    | some x => rw [show (some (some x)).join = some x from rfl, h3] at lo; cases lo
  refine ⟨S, Kp.refl _ _, by simp [h.len], fun i v e => ?_, fun i a e lo => (nl i a e lo).elim, fun i j a n l1 l2 e1 e2 => nl i a e1 l1, fun i a e lo => (nr i a e lo).elim⟩
  obtain ⟨x, h1, h2, _⟩ := hs i v e
  exact ⟨x, h1, h2⟩
/-- run: what q asks is what the reading gives -/
theorem run_up {t : TS} {p : PSx} {N : List Str} {q : QP} {vs : List V} {H : Hp} {Q : VK} {E : XK} (hl : ∀ s c H0, LS K s c H0 t p) (hq : ∀ ds P, q ds P → p { nx := fun _ => P .non, rt := P } (startD N ds)) (h : up K q vs H Q E) :
    t { nx := fun _ H' => Q .non H', rt := Q } (L2.start N vs) H := by
  obtain ⟨s, c, ds, S, hd, h⟩ := h
  refine hl s c H (L2.start N vs) (startD N ds) H _ _ (rel_start S hd) (hq ds _ h) ⟨fun σ σd H' h1 R _ => ?_, fun d v H' h1 r1 S1 k1 => ?_, fun _ _ _ h1 => h1.elim, fun _ _ _ h1 => h1.elim, fun _ _ _ h1 => h1.elim⟩
  · exact h1 .non H' .non ⟨R.kp0, R.src⟩
  · exact h1 v H' r1 ⟨k1, S1⟩
end
end My


/-! Inst: fields, methods, properties of instances, locked or not. -/
namespace My
open PySem PySem.Spec PyProof.Rows L2
theorem ins_rd {P : Program} {w : World} {H : Hp} {h : Heap} {a C dx : Addr} {fs : List (Str × V)} (ok : HOk P w H h) (e : Rd H a (.ins C dx fs)) :
    ∃ mA, ObjM h a dx C mA ∧ ∀ f, RelO (fs.lookup f) (mA f) := by
  obtain ⟨_, _, ne, ob, mA, ns, rl, _⟩ := (show ObjOk P w H h a (.ins C dx fs) from e.ok ok)
  exact ⟨mA, ⟨ob, ns, ne⟩, rl⟩
section
variable {X : Cx} {k : Nat} {f C p g : Addr} {fd : FuncData} {ps : List Str} {sp : Sp} {o e : Expr} {es : List Expr} {to : TE} {t : TA} {m x : Str} {pos apos : Pos}
/-- e.f -/
def tFldR (K : PySem.W.Frag) (te : TE) (x : Str) : TE := fun σ H Q => te σ H fun y H1 => ∃ a C dx fs v, y = .ref a ∧ Rd H1 a (.ins C dx fs) ∧ Cls K C ∧ NoAttr K C x ∧ fs.lookup x = some v ∧ Q v H1
theorem pe_fldR (ho : PE X o to) (hab : attributeBase o x X.env (eval o X.env) = eval o X.env := by rfl) : PE X (.Attribute o x pos) (tFldR X.K to x) := by
  refine ⟨fun pins s σ H Q I h => ?_⟩
  refine attr_of hab (thn (ho.run pins s σ H _ I h) fun u s1 hh => ?_)
  obtain ⟨y, H1, I1, ry, a, C, dx, fs, v, rfl, ha, hc, hn, hl, q⟩ := hh
  cases ry
  obtain ⟨mA, O, rl⟩ := ins_rd I1.hok ha
  obtain ⟨u, hu, ru⟩ := RelO.some_of (v := v) (o := mA x) (by rw [← hl]; exact rl x)
  exact get_map I1.kIn O (hc.get x) hc.hd hn hu (handed_of ru) ⟨v, H1, I1.tok _, ru, q⟩
/-- o.m(..) -/
def tMethR (C : Addr) (m : Str) (sp : Sp) (te : TE) (t : TA) : TE := fun σ H Q => te σ H fun y H1 => ∃ a dx fs, y = .ref a ∧ Rd H1 a (.ins C dx fs) ∧ fs.lookup m = none ∧ t σ H1 fun vs H2 => sp (y :: vs) H2 Q E0
theorem meth_rd {pins : List (Addr × Obj)} {σ : L2.St} {H : Hp} {s : Shared} {a dx : Addr} {fs : List (Str × V)} {pl : Sem Bool} {Q : Value × List Value → Shared → Prop} {A : Around} {E : Value → Shared → Prop} (I : Inv X pins σ H s) (ha : Rd H a (.ins C dx fs)) (c : Cls X.K C) (hm : Meth X.K C m f)
    (hl : fs.lookup m = none) (h : Q (.ref f, [.ref a]) s) : wpAny (model X.prog X.w) A (getMethod (.ref a) m pl) Q E s := by
  obtain ⟨mA, O, rl⟩ := ins_rd I.hok ha
  exact get_meth I.kIn O (c.get m) hm.at_ hm.fn (RelO.none_of (by rw [← hl]; exact rl m)) h
theorem pe_methR {pl : Sem Bool} (ho : PE X o to) (c : Cls X.K C) (hm : Meth X.K C m f) (F : FnOk X.prog X.w X.K X.mg X.base CX0 k f fd ps sp) (hr : Room k X.A) (hb : Binds X.K fd ps []) (ha : PA X (e :: es) t)
    (hst : starEach (e :: es) X.env = (false, eval e X.env) :: starEach es X.env := by rfl) (hpl : (backTo pos (starEach es X.env)).any (·.1) = false := by rfl)
    (ht : eval (.Call (.Attribute o m apos) (e :: es) [] pos) X.env = (eval o X.env >>= fun ov => standAt apos.atName >>= fun _ => holding [ov] (getMethod ov m pl) >>= fun fp => callWith pos fp.1 fp.2 (backTo pos (starEach (e :: es) X.env)) (backToKw pos (keywordEach [] X.env))) := by rfl) :
    PE X (.Call (.Attribute o m apos) (e :: es) [] pos) (tMethR C m sp to t) := by
  refine ⟨fun pins s σ H Q I h => ?_⟩
  refine PySem.W.methodCall_KW (pl := pl) (thn (ho.run pins s σ H _ I h) fun u s1 hh => ?_) ht
  obtain ⟨y, H1, I1, ry, a, dx, fs, rfl, hi, hl, q⟩ := hh
  cases ry
  refine meth_rd I1 hi c hm hl ?_
  refine PySem.W.callWith_K (first := [.ref a]) (h₀ := X.base) I.ok.mod.kin hm.kp (thn (ha.run pos pins s1 σ H1 _ I1 q) fun us s2 hv => ?_) hst hpl
  obtain ⟨vs, H2, I2, rv, q2⟩ := hv
  refine ⟨I2.kIn, run_fn (us := .ref a :: us) (vs := .ref a :: vs) F hr hb .nil pass0 I2 (.cons rfl rv) ?_⟩
  rw [List.append_nil]
  exact q2
theorem pe_meth0R {pl : Sem Bool} (ho : PE X o to) (c : Cls X.K C) (hm : Meth X.K C m f) (F : FnOk X.prog X.w X.K X.mg X.base CX0 k f fd ps sp) (hr : Room k X.A) (hb : Binds X.K fd ps [])
    (ht : eval (.Call (.Attribute o m apos) [] [] pos) X.env = (eval o X.env >>= fun ov => standAt apos.atName >>= fun _ => holding [ov] (getMethod ov m pl) >>= fun fp => callWith pos fp.1 fp.2 (backTo pos (starEach [] X.env)) (backToKw pos (keywordEach [] X.env))) := by rfl) :
    PE X (.Call (.Attribute o m apos) [] [] pos) (tMethR C m sp to tNil) := by
  refine ⟨fun pins s σ H Q I h => ?_⟩
  refine PySem.W.methodCall_KW (pl := pl) (thn (ho.run pins s σ H _ I h) fun u s1 hh => ?_) ht
  obtain ⟨y, H1, I1, ry, a, dx, fs, rfl, hi, hl, q⟩ := hh
  cases ry
  refine meth_rd I1 hi c hm hl ?_
  exact PySem.W.callWith_K0 (first := [.ref a]) I1.kIn hm.kp (run_fn (us := [.ref a]) (vs := [.ref a]) F hr hb .nil pass0 I1 (.cons rfl .nil) q)
/-- e.f, a property -/
def tPropR (C : Addr) (sp : Sp) (te : TE) : TE := fun σ H Q => te σ H fun y H1 => ∃ a dx fs, y = .ref a ∧ Rd H1 a (.ins C dx fs) ∧ sp [y] H1 Q E0
theorem pe_propR (ho : PE X o to) (c : Cls X.K C) (hp : PropOf X.K C x p g) (F : FnOk X.prog X.w X.K X.mg X.base CX0 k g fd ps sp) (hr : Room (k + 1) X.A) (hb : Binds X.K fd ps [])
    (hab : attributeBase o x X.env (eval o X.env) = eval o X.env := by rfl) : PE X (.Attribute o x pos) (tPropR C sp to) := by
  refine ⟨fun pins s σ H Q I h => ?_⟩
  refine attr_of hab (thn (ho.run pins s σ H _ I h) fun u s1 hh => ?_)
  obtain ⟨y, H1, I1, ry, a, dx, fs, rfl, hi, q⟩ := hh
  cases ry
  obtain ⟨mA, O, rl⟩ := ins_rd I1.hok hi
  obtain ⟨od, J, _⟩ := O.look
  obtain ⟨rest, hrec⟩ := hp.rec_
  have I2 := I1.tok (s1.toks + 1)
  have hlen : ([Value.ref a] ++ []).length = ps.length := by
    rw [← F.len _ _ _ _ q]
    rfl
  have hcls : (PySem.W.clsIn X.K C).isSome = true := by
    obtain ⟨cd, h1, _⟩ := PySem.W.any_some c.hd
    rw [h1]
    rfl
  have bt := hb { s1 with toks := s1.toks + 1 } [.ref a] I2.kIn hlen
  rw [List.append_nil] at bt
  refine PySem.W.get_bind I1.kIn J (PySem.W.plainGet_of (c.get x)).1 (PySem.W.findObj_data hcls hp.at_ hp.get hp.tak) (PySem.W.plainGet_of (c.get x)).2 (wpAny_call (PySem.W.prop_get (s := { s1 with toks := s1.toks + 1 }) I1.kIn hrec ?_))
  refine codeAny_mono (F.run X.A.in1 X.stack { s1 with toks := s1.toks + 1 } H1 ⟨[.ref a], []⟩ [.ref a] [.ref a] Q E0 hr.in1 I2.env0.in1 bt (.cons rfl .nil) q) fun r s' hq => ?_
  cases r with
  | error er => exact False.elim hq
  | ok fl =>
    cases fl with
    | ret u =>
      obtain ⟨v, H', I3, rv, q3⟩ := I2.after hq
      show wpAny _ _ (handedOut u) _ _ _
      rw [PySem.W.handedOut_of (handed_of rv)]
      exact wpAny_pure ⟨v, H', I3, rv, q3⟩
    | next => exact False.elim hq
    | brk => exact False.elim hq
    | cont => exact False.elim hq
end
end My


/-! Q7: the law's top, two stores at once, dicts, instances, the draws. -/
namespace My
open PySem PySem.Spec PyProof.Rows L2
section
variable {K : PySem.W.Frag} {s c : Addr} {H0 : Hp}
/-! ### a, b = e, f -/
def pPar (i j : Nat) (a : PAx) : PSx := fun e σd => a σd fun xs => ∃ d d2, datsC xs = some [d, d2] ∧ e.nx ((σd.set i (some (.dat d))).set j (some (.dat d2)))
theorem S_par {s c : Addr} {H0 : Hp} {t : TA} {a : PAx} (i j : Nat) (ha : LA K s c H0 t a) : LS K s c H0 (tPar i j t) (pPar i j a) := fun σ σd H E e R h k => by
  refine ha σ σd H _ _ R h fun xs vs H1 h1 r1 s1 => ?_
  obtain ⟨d, d2, ed, h⟩ := h1
  have hd := datsC_at r1 ed
  cases hd with
  | cons x r => cases r with
    | cons y r2 =>
      cases r2
      exact ⟨_, _, rfl, k.nx _ _ H1 h (((R.stp s1).setD x).setD y) (s1.im R.src)⟩
/-! ### the law: its first statement makes the source -/
theorem rel_top {s c a : Addr} {H : Hp} {n j : Nat} (S : Src H s c) (hj : j ≠ 0) : Rel K s c H (([some (V.ref a)] ++ List.replicate n none).set j (some (.ref s))) H (([some Cell.un] ++ List.replicate n none).set j (some (.dat .src))) := by
  have base : Rel K s c H ([some (V.ref a)] ++ List.replicate n none) H ([some Cell.un] ++ List.replicate n none) := by
    have nl : ∀ i : Nat, looseC ((([some Cell.un] ++ List.replicate n none : Sd)[i]?).join) = true → False := fun i lo => by
      cases i with
      | zero => cases lo
      | succ i =>
        rw [show ([some Cell.un] ++ List.replicate n none : Sd)[i + 1]? = (List.replicate n (none : Option Cell))[i]? from rfl, List.getElem?_replicate] at lo
        by_cases q : i < n
        · rw [if_pos q] at lo; cases lo
        · rw [if_neg q] at lo; cases lo
    have nr : ∀ i : Nat, roC ((([some Cell.un] ++ List.replicate n none : Sd)[i]?).join) = true → False := fun i lo => by
      cases i with
      | zero => cases lo
      | succ i =>
        rw [show ([some Cell.un] ++ List.replicate n none : Sd)[i + 1]? = (List.replicate n (none : Option Cell))[i]? from rfl, List.getElem?_replicate] at lo
        by_cases q : i < n
        · rw [if_pos q] at lo; cases lo
        · rw [if_neg q] at lo; cases lo
    refine ⟨S, Kp.refl _ _, by simp, fun i v e => ?_, fun i b e lo => (nl i lo).elim, fun i k b m lo _ _ _ => nl i lo, fun i b e lo => (nr i lo).elim⟩
    cases i with
    | zero =>
      cases e
      exact ⟨_, rfl, trivial⟩
    | succ i =>
      have e : (List.replicate n (none : Option V))[i]? = some v := e
      rw [List.getElem?_replicate] at e
      by_cases q : i < n
      · rw [if_pos q] at e
        cases e
        refine ⟨none, ?_, trivial⟩
        show (List.replicate n (none : Option Cell))[i]? = some none
        rw [List.getElem?_replicate, if_pos q]
      · rw [if_neg q] at e
        cases e
  exact base.setD .src
def sp_top (K : PySem.W.Frag) : Sp := fun vs H Q _ => ∃ (a : Addr) (ns : List Int), vs = [.ref a] ∧ SqL K H a (ns.map V.int) ∧ ∀ H', Q (.bl true) H'
theorem len_top {vs : List V} {H : Hp} {Q : VK} {E : XK} (h : sp_top K vs H Q E) : vs.length = 1 := by
  obtain ⟨_, _, rfl, _⟩ := h
  rfl
theorem run_top {t : TS} {p : PSx} {N : List Str} {j n : Nat} {vs : List V} {H : Hp} {Q : VK} {E : XK} (hl : ∀ s c H0, LS K s c H0 t p) (hN : N.length - 1 = n) (hj : j ≠ 0)
    (hp : p { nx := fun _ => False, rt := fun d => d = .bl true } (([some Cell.un] ++ List.replicate n none).set j (some (.dat .src)))) (h : sp_top K vs H Q E) :
    tSeq (tAsg (tCall (sp_law_source K) [] E0 (tCons (tVar 0) tNil)) (gName j)) t { nx := fun _ H' => Q .non H', rt := Q } (L2.start N vs) H := by
  obtain ⟨a, ns, rfl, ha, k⟩ := h
  refine ⟨_, rfl, a, ns, rfl, ha, fun s c H1 _ _ _ S1 => ?_⟩
  have R := rel_top (K := K) (a := a) (n := n) S1 hj
  unfold L2.start
  rw [show N.length - [V.ref a].length = n from hN]
  refine hl s c H1 _ _ H1 _ _ R hp ⟨fun _ _ _ z => z.elim, fun d v H' hd r _ _ => ?_, fun _ _ _ z => z.elim, fun _ _ _ z => z.elim, fun _ _ _ z => z.elim⟩
  subst hd
  cases r
  exact k H'
/-! ### the draws -/
def q_law_take : QP := fun ds P => ∃ m : Int, ds = [.src, .int m] ∧ 0 < m ∧ m.natAbs.log2 < 9000 ∧ ∀ d : Int, 0 ≤ d → d < m → P (.int d)
theorem m_law_take : Mono q_law_take := fun _ _ _ m ⟨x, a, b, c, k⟩ => ⟨x, a, b, c, fun d h1 h2 => m _ (k d h1 h2)⟩
theorem up_take {vs : List V} {H : Hp} {Q : VK} {E : XK} (h : up K q_law_take vs H Q E) : sp_law_take K vs H Q E := by
  obtain ⟨s, c, ds, S, hd, m, rfl, h1, h2, k⟩ := h
  cases hd with
  | cons x r =>
    cases x
    cases r with
    | cons y r2 =>
      cases y
      cases r2
      exact ⟨s, c, m, rfl, h1, h2, S, fun d H' a b S' kp => k d a b _ H' (.int d) ⟨kp, S'⟩⟩
/-! ### instances -/
theorem DRf.look {s : Addr} {H : Hp} {f : Str} {d : D} : ∀ {fs : List (Str × V)} {fds : List (Str × D)}, DRf K s H fs fds → fds.lookup f = some d → ∃ v, fs.lookup f = some v ∧ DR K s H v d
  | _, _, .nil, h => by cases h
  | _, _, .cons (k := k) x r, h => by
    unfold List.lookup at h ⊢
    cases q : f == k with
    | true =>
      rw [q] at h
      cases h
      exact ⟨_, rfl, x⟩
    | false =>
      rw [q] at h
      exact DRf.look r h
theorem DRf.look_none {s : Addr} {H : Hp} {f : Str} : ∀ {fs : List (Str × V)} {fds : List (Str × D)}, DRf K s H fs fds → fds.lookup f = none → fs.lookup f = none
  | _, _, .nil, h => rfl
  | _, _, .cons (k := k) x r, h => by
    unfold List.lookup at h ⊢
    cases q : f == k with
    | true =>
      rw [q] at h
      cases h
    | false =>
      rw [q] at h
      exact DRf.look_none r h
def pFld (C : Addr) (f : Str) (a : PEx) : PEx := fun σd P => a σd fun x => ∃ fs d, (x = .dat (.ins C fs) ∨ ∃ o, x = .om o C fs) ∧ fs.lookup f = some d ∧ P (.dat d)
/-- the instance at hand, locked or not -/
theorem ins_at {s c C : Addr} {H : Hp} {v : V} {x : Cell} {fs : List (Str × D)} (h : CellR K s c H v x) (e : x = .dat (.ins C fs) ∨ ∃ o, x = .om o C fs) : ∃ a dx vs, v = .ref a ∧ Rd H a (.ins C dx vs) ∧ DRf K s H vs fs := by
  rcases e with rfl | ⟨o, rfl⟩
  · cases h with
    | ins h r => exact ⟨_, _, _, rfl, .inr ⟨_, h⟩, r⟩
  · obtain ⟨dx, vs, rfl, ha, hd, _⟩ := h
    exact ⟨_, dx, vs, rfl, .inl ha, hd⟩
theorem L_fld {C : Addr} {f : Str} {t : TE} {a : PEx} (hc : Cls K C) (hn : NoAttr K C f) (ha : LE K s c H0 t a) : LE K s c H0 (tFldR K t f) (pFld C f a) := fun σ σd H Q P R h k => by
  refine ha σ σd H _ _ R h fun x v H1 h1 r1 s1 => ?_
  obtain ⟨fs, d, hx, e, h⟩ := h1
  obtain ⟨b, dx, vs, rfl, hi, hf⟩ := ins_at r1 hx
  obtain ⟨u, hu, hr⟩ := hf.look e
  exact ⟨_, _, _, _, u, rfl, hi, hc, hn, hu, k _ _ H1 h hr s1⟩
def pMeth (C : Addr) (m : Str) (q : QP) (a : PEx) (b : PAx) : PEx := fun σd P => a σd fun x => ∃ fs, x = .dat (.ins C fs) ∧ fs.lookup m = none ∧ b σd fun xs => ∃ ds, datsC xs = some ds ∧ q (.ins C fs :: ds) fun d => P (.dat d)
theorem L_meth {C : Addr} {m : Str} {q : QP} {ta : TE} {t : TA} {a : PEx} {b : PAx} (mo : Mono q) (ha : LE K s c H0 ta a) (hb : LA K s c H0 t b) : LE K s c H0 (tMethR C m (up K q) ta t) (pMeth C m q a b) := fun σ σd H Q P R h k => by
  refine ha σ σd H _ _ R h fun x v H1 h1 r1 s1 => ?_
  obtain ⟨fs, rfl, e, h1⟩ := h1
  cases id r1 with
  | ins hi hf =>
    refine ⟨_, _, _, rfl, .inr ⟨_, hi⟩, hf.look_none e, ?_⟩
    refine hb σ σd H1 _ _ (R.stp s1) h1 fun xs vs H2 h2 r2 s2 => ?_
    obtain ⟨ds, ed, h⟩ := h2
    exact ⟨s, c, .ins C fs :: ds, s2.src, .cons (CellR.stp (x := .dat (.ins C fs)) s1.src s2 r1) (datsC_at r2 ed), mo _ _ _ (fun d hd v H3 r3 s3 => k (.dat d) _ H3 hd r3 ((s1.trans s2).trans s3)) h⟩
def pProp (C : Addr) (q : QP) (a : PEx) : PEx := fun σd P => a σd fun x => ∃ fs, x = .dat (.ins C fs) ∧ q [.ins C fs] fun d => P (.dat d)
theorem L_prop {C : Addr} {q : QP} {ta : TE} {a : PEx} (mo : Mono q) (ha : LE K s c H0 ta a) : LE K s c H0 (tPropR C (up K q) ta) (pProp C q a) := fun σ σd H Q P R h k => by
  refine ha σ σd H _ _ R h fun x v H1 h1 r1 s1 => ?_
  obtain ⟨fs, rfl, h⟩ := h1
  cases id r1 with
  | ins hi hf =>
    exact ⟨_, _, _, rfl, .inr ⟨_, hi⟩, s, c, [.ins C fs], s1.src, .cons r1 .nil, mo _ _ _ (fun d hd v H3 r3 s3 => k (.dat d) _ H3 hd r3 (s1.trans s3)) h⟩
/-! ### __init__ -/
def putD (f : Str) (d : D) : List (Str × D) → List (Str × D)
  | [] => [(f, d)]
  | (g, e) :: r => if g = f then (g, d) :: r else (g, e) :: putD f d r
theorem DRf.put {s : Addr} {H : Hp} {f : Str} {v : V} {d : D} (x : DR K s H v d) : ∀ {fs : List (Str × V)} {fds : List (Str × D)}, DRf K s H fs fds → DRf K s H (putF f v fs) (putD f d fds)
  | _, _, .nil => .cons x .nil
  | _, _, .cons (k := k) y r => by
    unfold putF putD
    by_cases e : k = f
    · rw [if_pos e, if_pos e]
      exact .cons x r
    · rw [if_neg e, if_neg e]
      exact .cons y (DRf.put x r)
theorem DRf.len {s : Addr} {H : Hp} : ∀ {fs : List (Str × V)} {fds : List (Str × D)}, DRf K s H fs fds → fs.length = fds.length
  | _, _, .nil => rfl
  | _, _, .cons _ r => by rw [List.length_cons, List.length_cons, DRf.len r]
/-- self.f = e -/
def pSelf (C : Addr) (i : Nat) (f : Str) (a : PEx) : PSx := fun e σd => a σd fun x => ∃ d o fs, x = .dat d ∧ σd[i]? = some (some (.om o C fs)) ∧ fs.length ≤ 100 ∧ e.nx (σd.set i (some (.om o C (putD f d fs))))
theorem S_self {s c : Addr} {H0 : Hp} {C : Addr} {f : Str} {t : TE} {a : PEx} (i : Nat) (hc : Cls K C) (hn : NoAttr K C f) (ha : LE K s c H0 t a) :
    LS K s c H0 (sFld K (tVar i) t f) (pSelf C i f a) := fun σ σd H E e R h k => by
  refine ha σ σd H _ _ R h fun x v H1 h1 r1 s1 => ?_
  obtain ⟨d, o, fs, rfl, hi, hz, h⟩ := h1
  have R1 := R.stp s1
  obtain ⟨w, hw, hr⟩ := R1.at hi
  obtain ⟨dx, us, rfl, ho, hf, n1, n2⟩ := id hr
  have kl : Kp o H1 (upd H1 o (.ins C dx (putF f v us))) := Kp.self
  have im := kl.im ⟨_, ho, rfl⟩
  refine ⟨_, hw, o, C, dx, us, rfl, ho, hc, hn, by rw [hf.len]; omega, ?_⟩
  exact k.nx σ _ _ h (R1.write hw hi rfl ⟨dx, _, rfl, upd_same, (hf.im im).put (DR.im im r1), n1, n2⟩) ((s1.im R.src).trans im)
/-- what __init__ does: the fields it leaves -/
abbrev QI := List D → (List (Str × D) → Prop) → Prop
def MonoI (q : QI) : Prop := ∀ ds P P', (∀ fs, P fs → P' fs) → q ds P → q ds P'
def upI (K : PySem.W.Frag) (C : Addr) (q : QI) : Sp := fun vs H Q _ => ∃ (s c : Addr) (ds : List D) (Hb : Hp) (x dx : Addr) (us : List V), vs = .ref x :: us ∧ H = upd (upd Hb dx (.own x)) x (.ins C dx []) ∧ Hb x = none ∧ Hb dx = none ∧ dx ≠ x ∧ Src Hb s c ∧ DRs K s Hb us ds ∧
  q ds fun fds => ∀ H' dx' fs, H' x = some (.ins C dx' fs) → DRf K s H' fs fds → Stp s c Hb H' → Q .non H'
theorem L_make {C : Addr} {q : QI} {t : TA} {a : PAx} (mo : MonoI q) (ha : LA K s c H0 t a) : LE K s c H0 (tFrz (tMake C (upI K C q) [] E0 t)) (fun σd P => a σd fun xs => ∃ ds, datsC xs = some ds ∧ q ds fun fs => P (.dat (.ins C fs))) := fun σ σd H Q P R h k => by
  refine ha σ σd H _ _ R h fun xs vs H1 h1 r1 s1 => ?_
  obtain ⟨ds, e, h⟩ := h1
  intro x dx hx hdx ne
  rw [List.append_nil]
  refine ⟨s, c, ds, H1, x, dx, vs, rfl, rfl, hx, hdx, ne, s1.src, datsC_at r1 e, mo _ _ _ (fun fds hfd H' dx' fs hx' hf st => ⟨rfl, x, _, rfl, hx', trivial, fun o => ?_⟩) h⟩
  have nn := s1.src.ne hx
  have kl : Kp x H' (upd H' x (.frz o (.ins C dx' fs))) := Kp.self
  have im := kl.im ⟨_, hx', rfl⟩
  exact k _ _ _ hfd (.ins upd_same (hf.im im)) (s1.trans ⟨st.kp.via hx kl, st.src.kp nn.1.symm nn.2.symm kl⟩)
theorem rel_startI {s c C x dx : Addr} {Hb : Hp} {us : List V} {ds : List D} {N : List Str} (S : Src Hb s c) (h : DRs K s Hb us ds) (hx : Hb x = none) (hdx : Hb dx = none) (ne : dx ≠ x) :
    Rel K s c Hb (L2.start N (.ref x :: us)) (upd (upd Hb dx (.own x)) x (.ins C dx [])) (some (.om x C []) :: (startD (N.drop 1) ds)) := by
  have nx := S.ne hx
  have sm : Same Hb (upd (upd Hb dx (.own x)) x (.ins C dx [])) := (same_new hdx).trans (same_new (by rw [upd_ne ne.symm]; exact hx))
  have S' := S.same sm
  have R0 := (rel_start (K := K) (N := N.drop 1) S h).stp (.same S sm)
  unfold L2.start at R0 ⊢
  have hN : N.length - (V.ref x :: us).length = (N.drop 1).length - us.length := by
    rw [List.length_cons, List.length_drop]
    omega
  rw [hN]
  have nl : ∀ i : Nat, looseC (((startD (N.drop 1) ds)[i]?).join) = true → False := fun i lo => by
    unfold startD at lo
    have hs := start_slot (K := K) (s := s) (c := c) (H := Hb) ((N.drop 1).length - ds.length) h
    have hlen : (us.map some ++ List.replicate ((N.drop 1).length - ds.length) none).length = (ds.map (fun d => some (Cell.dat d)) ++ List.replicate ((N.drop 1).length - ds.length) none).length := by simp [h.len]
    by_cases q : i < (us.map some ++ List.replicate ((N.drop 1).length - ds.length) (none : Option V)).length
    · obtain ⟨y, h1, _, h3, _⟩ := hs i _ (List.getElem?_eq_getElem q)
      rw [h1] at lo
      cases y with
      | none => cases lo
      | some y => rw [show (some (some y)).join = some y from rfl, h3] at lo; cases lo
    · rw [List.getElem?_eq_none (by rw [← hlen]; exact Nat.le_of_not_lt q)] at lo
      cases lo
  have nr : ∀ i : Nat, roC (((startD (N.drop 1) ds)[i]?).join) = true → False := fun i lo => by
    unfold startD at lo
    have hs := start_slot (K := K) (s := s) (c := c) (H := Hb) ((N.drop 1).length - ds.length) h
    have hlen : (us.map some ++ List.replicate ((N.drop 1).length - ds.length) none).length = (ds.map (fun d => some (Cell.dat d)) ++ List.replicate ((N.drop 1).length - ds.length) none).length := by simp [h.len]
    by_cases q : i < (us.map some ++ List.replicate ((N.drop 1).length - ds.length) (none : Option V)).length
    · obtain ⟨y, h1, _, _, h3⟩ := hs i _ (List.getElem?_eq_getElem q)
      rw [h1] at lo
      cases y with
      | none => cases lo
      | some y => rw [show (some (some y)).join = some y from rfl, h3] at lo; cases lo
    · rw [List.getElem?_eq_none (by rw [← hlen]; exact Nat.le_of_not_lt q)] at lo
      cases lo
  refine ⟨S', kp_same sm, ?_, fun i v hi => ?_, fun i a hi lo => ?_, fun i j a nij l1 l2 hi hj => ?_, fun i a hi lo => ?_⟩
  · have := R0.len
    simp only [List.map_cons, List.cons_append, List.length_cons]
    rw [this]
  · cases i with
    | zero =>
      cases hi
      exact ⟨_, rfl, dx, [], rfl, upd_same, .nil, nx⟩
    | succ i => exact R0.slot i v hi
  · cases i with
    | zero => cases hi; exact hx
    | succ i => exact (nl i lo).elim
  · cases i with
    | zero => cases j with
      | zero => exact nij rfl
      | succ j => exact nl j l2
    | succ i => exact nl i l1
  · cases i with
    | zero => cases lo
    | succ i => exact (nr i lo).elim
theorem run_upI {t : TS} {p : PSx} {N : List Str} {C : Addr} {q : QI} {vs : List V} {H : Hp} {Q : VK} {E : XK} (hl : ∀ s c H0, LS K s c H0 t p) (hq : ∀ x ds P, q ds P → p { nx := fun σd => ∃ fs r, σd = some (.om x C fs) :: r ∧ P fs, rt := fun _ => False } (some (.om x C []) :: startD (N.drop 1) ds)) (h : upI K C q vs H Q E) :
    t { nx := fun _ H' => Q .non H', rt := Q } (L2.start N vs) H := by
  obtain ⟨s, c, ds, Hb, x, dx, us, rfl, rfl, hx, hdx, ne, S, hd, h⟩ := h
  refine hl s c Hb _ _ _ _ _ (rel_startI (N := N) S hd hx hdx ne) (hq x ds _ h) ⟨fun σ σd H' h1 R _ => ?_, fun d v H' h1 => h1.elim, fun _ _ _ h1 => h1.elim, fun _ _ _ h1 => h1.elim, fun _ _ _ h1 => h1.elim⟩
  obtain ⟨fs, r, rfl, h2⟩ := h1
  obtain ⟨w, hw, dx', us', ew, hu, hf, _⟩ := R.at (i := 0) (x := .om x C fs) rfl
  cases ew
  exact h2 H' dx' us' hu hf ⟨R.kp0, R.src⟩
end
end My


/-! Q8: dicts over plain values. -/
namespace My
open PySem PySem.Spec PyProof.Rows L2
/-! ### pairs of key and value -/
section
variable {κ α : Type} [DecidableEq κ]
def valD (kvs : List (κ × α)) (k : κ) : Option α := (kvs.find? fun kv => decide (kv.1 = k)).map (·.2)
def putG (kvs : List (κ × α)) (k : κ) (v : α) : List (κ × α) :=
  if (kvs.any fun kv => decide (kv.1 = k)) = true then kvs.map (fun kv => if kv.1 = k then (kv.1, v) else kv) else kvs ++ [(k, v)]
theorem valD_cons {p : κ × α} {r : List (κ × α)} {k : κ} : valD (p :: r) k = if p.1 = k then some p.2 else valD r k := by
  unfold valD
  rw [List.find?_cons]
  by_cases e : p.1 = k
  · rw [decide_eq_true e, if_pos e]
    rfl
  · rw [decide_eq_false e, if_neg e]
end
def keyC : Cell → Option Key
  | .dat (.int i) => some (.inl i)
  | .dat (.str z) => some (.inr z)
  | _ => none
def keysD : List D → Option (List Key)
  | [] => some []
  | .int i :: r => (keysD r).map (.inl i :: ·)
  | .str z :: r => (keysD r).map (.inr z :: ·)
  | _ :: _ => none
def keyT : Cell → Option (List Key)
  | .dat (.tup ds) => keysD ds
  | _ => none
def keyD : Key → D
  | .inl i => .int i
  | .inr z => .str z
def dicK : Cell → Option (List (Key × D))
  | .dat (.dic kds) => some kds
  | .dm kds => some kds
  | .rd kds => some kds
  | _ => none
def dicT : Cell → Option (List (List Key × D))
  | .dat (.dit kds) => some kds
  | .tm kds => some kds
  | .rt kds => some kds
  | _ => none
section
variable {K : PySem.W.Frag} {s c : Addr} {H H' : Hp}
theorem keyD_dr (k : Key) : DR K s H (kV k) (keyD k) := by
  cases k with
  | inl i => exact .int i
  | inr z => exact .str z
theorem key_eq {v : V} {x : Cell} {k : Key} (h : CellR K s c H v x) (e : keyC x = some k) : v = kV k := by
  cases x with
  | dat d =>
    cases d <;> first
      | (cases e; cases h; rfl)
      | cases e
  | lm ds => cases e
  | dm ds => cases e
  | tm ds => cases e
  | om x C ds => cases e
  | un => cases e
  | ex a cls d x => cases e
  | rl ds => cases e
  | rd ds => cases e
  | rt ds => cases e
theorem keys_eq : ∀ {vs : List V} {ds : List D} {ks : List Key}, DRs K s H vs ds → keysD ds = some ks → vs = ks.map kV
  | _, _, ks, .nil, e => by cases e; rfl
  | _, _, ks, .cons (d := d) x r, e => by
    cases d <;> first
      | (obtain ⟨ks', h1, rfl⟩ := Option.map_eq_some_iff.mp e
         cases x
         rw [keys_eq r h1]
         rfl)
      | cases e
theorem keyT_at {v : V} {x : Cell} {ks : List Key} (h : CellR K s c H v x) (e : keyT x = some ks) : ∃ b, v = .ref b ∧ H b = some (.tup (ks.map kV)) := by
  cases x with
  | dat d =>
    cases d <;> first
      | (cases h with | tup h r => rw [keys_eq r e] at h; exact ⟨_, rfl, h⟩)
      | cases e
  | lm ds => cases e
  | dm ds => cases e
  | tm ds => cases e
  | om x C ds => cases e
  | un => cases e
  | ex a cls d x => cases e
  | rl ds => cases e
  | rd ds => cases e
  | rt ds => cases e
theorem dicK_at {v : V} {x : Cell} {kds : List (Key × D)} (h : CellR K s c H v x) (e : dicK x = some kds) : ∃ a kvs, v = .ref a ∧ Rd H a (.dK kvs) ∧ DRk K s H kvs kds := by
  cases x with
  | dat d =>
    cases d <;> first
      | (cases e; cases h with | dic h r => exact ⟨_, _, rfl, .inr ⟨_, h⟩, r⟩)
      | cases e
  | dm ds =>
    cases e
    obtain ⟨a, vs, rfl, ha, hd, _⟩ := h
    exact ⟨a, vs, rfl, .inl ha, hd⟩
  | lm ds => cases e
  | tm ds => cases e
  | om x C ds => cases e
  | un => cases e
  | ex a cls d x => cases e
  | rd ds =>
    cases e
    obtain ⟨a, vs, rfl, ha, hd, _⟩ := h
    exact ⟨a, vs, rfl, .inl ha, hd⟩
  | rl ds => cases e
  | rt ds => cases e
theorem dicT_at {v : V} {x : Cell} {kds : List (List Key × D)} (h : CellR K s c H v x) (e : dicT x = some kds) : ∃ a kvs, v = .ref a ∧ Rd H a (.dT kvs) ∧ DRt K s H kvs kds := by
  cases x with
  | dat d =>
    cases d <;> first
      | (cases e; cases h with | dit h r => exact ⟨_, _, rfl, .inr ⟨_, h⟩, r⟩)
      | cases e
  | tm ds =>
    cases e
    obtain ⟨a, vs, rfl, ha, hd, _⟩ := h
    exact ⟨a, vs, rfl, .inl ha, hd⟩
  | lm ds => cases e
  | dm ds => cases e
  | om x C ds => cases e
  | un => cases e
  | ex a cls d x => cases e
  | rt ds =>
    cases e
    obtain ⟨a, vs, rfl, ha, hd, _⟩ := h
    exact ⟨a, vs, rfl, .inl ha, hd⟩
  | rl ds => cases e
  | rd ds => cases e
/-- what is found at a key -/
def OptR (K : PySem.W.Frag) (s : Addr) (H : Hp) : Option V → Option D → Prop
  | some v, some d => DR K s H v d
  | none, none => True
  | _, _ => False
theorem DRk.val (k : Key) : ∀ {kvs : List (Key × V)} {kds : List (Key × D)}, DRk K s H kvs kds → OptR K s H (valV kvs k) (valD kds k)
  | _, _, .nil => trivial
  | _, _, .cons (k := j) (v := v) (vs := vs) x r => by
    rw [valD_cons]
    by_cases e : j = k
    · rw [if_pos e, valV_pos (p := (j, v)) e]
      exact x
    · rw [if_neg e, valV_neg (p := (j, v)) e]
      exact DRk.val k r
theorem DRt.val (k : List Key) : ∀ {kvs : List (List Key × V)} {kds : List (List Key × D)}, DRt K s H kvs kds → OptR K s H (valV kvs k) (valD kds k)
  | _, _, .nil => trivial
  | _, _, .cons (k := j) (v := v) (vs := vs) x r => by
    rw [valD_cons]
    by_cases e : j = k
    · rw [if_pos e, valV_pos (p := (j, v)) e]
      exact x
    · rw [if_neg e, valV_neg (p := (j, v)) e]
      exact DRt.val k r
theorem DRk.any (k : Key) : ∀ {kvs : List (Key × V)} {kds : List (Key × D)}, DRk K s H kvs kds → (kvs.any fun kv => decide (kv.1 = k)) = kds.any fun kv => decide (kv.1 = k)
  | _, _, .nil => rfl
  | _, _, .cons x r => by rw [List.any_cons, List.any_cons, DRk.any k r]
theorem DRt.any (k : List Key) : ∀ {kvs : List (List Key × V)} {kds : List (List Key × D)}, DRt K s H kvs kds → (kvs.any fun kv => decide (kv.1 = k)) = kds.any fun kv => decide (kv.1 = k)
  | _, _, .nil => rfl
  | _, _, .cons x r => by rw [List.any_cons, List.any_cons, DRt.any k r]
theorem DRk.repl (k : Key) {v : V} {d : D} (y : DR K s H v d) : ∀ {kvs : List (Key × V)} {kds : List (Key × D)}, DRk K s H kvs kds → DRk K s H (kvs.map fun kv => if kv.1 = k then (kv.1, v) else kv) (kds.map fun kv => if kv.1 = k then (kv.1, d) else kv)
  | _, _, .nil => .nil
  | _, _, .cons (k := j) x r => by
    rw [List.map_cons, List.map_cons]
    by_cases e : j = k
    · rw [if_pos e, if_pos e]
      exact .cons y (DRk.repl k y r)
    · rw [if_neg e, if_neg e]
      exact .cons x (DRk.repl k y r)
theorem DRt.repl (k : List Key) {v : V} {d : D} (y : DR K s H v d) : ∀ {kvs : List (List Key × V)} {kds : List (List Key × D)}, DRt K s H kvs kds → DRt K s H (kvs.map fun kv => if kv.1 = k then (kv.1, v) else kv) (kds.map fun kv => if kv.1 = k then (kv.1, d) else kv)
  | _, _, .nil => .nil
  | _, _, .cons (k := j) x r => by
    rw [List.map_cons, List.map_cons]
    by_cases e : j = k
    · rw [if_pos e, if_pos e]
      exact .cons y (DRt.repl k y r)
    · rw [if_neg e, if_neg e]
      exact .cons x (DRt.repl k y r)
theorem DRk.snoc (k : Key) {v : V} {d : D} (y : DR K s H v d) : ∀ {kvs : List (Key × V)} {kds : List (Key × D)}, DRk K s H kvs kds → DRk K s H (kvs ++ [(k, v)]) (kds ++ [(k, d)])
  | _, _, .nil => .cons y .nil
  | _, _, .cons x r => .cons x (DRk.snoc k y r)
theorem DRt.snoc (k : List Key) {v : V} {d : D} (y : DR K s H v d) : ∀ {kvs : List (List Key × V)} {kds : List (List Key × D)}, DRt K s H kvs kds → DRt K s H (kvs ++ [(k, v)]) (kds ++ [(k, d)])
  | _, _, .nil => .cons y .nil
  | _, _, .cons x r => .cons x (DRt.snoc k y r)
theorem DRk.put (k : Key) {v : V} {d : D} (y : DR K s H v d) {kvs : List (Key × V)} {kds : List (Key × D)} (h : DRk K s H kvs kds) : DRk K s H (putK kvs k v) (putG kds k d) := by
  unfold putK putG
  rw [h.any k]
  by_cases e : (kds.any fun kv => decide (kv.1 = k)) = true
  · rw [if_pos e, if_pos e]
    exact h.repl k y
  · rw [if_neg e, if_neg e]
    exact h.snoc k y
theorem DRt.put (k : List Key) {v : V} {d : D} (y : DR K s H v d) {kvs : List (List Key × V)} {kds : List (List Key × D)} (h : DRt K s H kvs kds) : DRt K s H (putK kvs k v) (putG kds k d) := by
  unfold putK putG
  rw [h.any k]
  by_cases e : (kds.any fun kv => decide (kv.1 = k)) = true
  · rw [if_pos e, if_pos e]
    exact h.repl k y
  · rw [if_neg e, if_neg e]
    exact h.snoc k y
theorem DRk.len : ∀ {kvs : List (Key × V)} {kds : List (Key × D)}, DRk K s H kvs kds → kvs.length = kds.length
  | _, _, .nil => rfl
  | _, _, .cons _ r => by rw [List.length_cons, List.length_cons, DRk.len r]
theorem DRt.len : ∀ {kvs : List (List Key × V)} {kds : List (List Key × D)}, DRt K s H kvs kds → kvs.length = kds.length
  | _, _, .nil => rfl
  | _, _, .cons _ r => by rw [List.length_cons, List.length_cons, DRt.len r]
/-- the look -/
def getC (x y : Cell) (R : Option D → Prop) : Prop := (∃ kds k, dicK x = some kds ∧ keyC y = some k ∧ R (valD kds k)) ∨ ∃ kds k, dicT x = some kds ∧ keyT y = some k ∧ R (valD kds k)
theorem getC_at {v w : V} {x y : Cell} {R : Option D → Prop} (hx : CellR K s c H v x) (hy : CellR K s c H w y) (h : getC x y R) : ∃ a o od, v = .ref a ∧ DGet H a w o ∧ OptR K s H o od ∧ R od := by
  rcases h with ⟨kds, k, e1, e2, h⟩ | ⟨kds, k, e1, e2, h⟩
  · obtain ⟨a, kvs, rfl, ha, hd⟩ := dicK_at hx e1
    exact ⟨a, _, _, rfl, .inl ⟨kvs, k, ha, key_eq hy e2, rfl⟩, hd.val k, h⟩
  · obtain ⟨a, kvs, rfl, ha, hd⟩ := dicT_at hx e1
    obtain ⟨b, rfl, hb⟩ := keyT_at hy e2
    exact ⟨a, _, _, rfl, .inr ⟨kvs, k, b, ha, rfl, hb, rfl⟩, hd.val k, h⟩
end
section
variable {K : PySem.W.Frag} {s c : Addr} {H0 : Hp}
def pDGet (a b : PEx) : PEx := fun σd P => a σd fun x => b σd fun y => getC x y fun o => ∃ d, o = some d ∧ P (.dat d)
theorem L_dget {ta tb : TE} {a b : PEx} (ha : LE K s c H0 ta a) (hb : LE K s c H0 tb b) : LE K s c H0 (tDGet ta tb) (pDGet a b) := fun σ σd H Q P R h k => by
  refine ha σ σd H _ _ R h fun x v H1 h1 r1 s1 => ?_
  refine hb σ σd H1 _ _ (R.stp s1) h1 fun y w H2 h2 r2 s2 => ?_
  obtain ⟨p, o, od, rfl, hg, ho, d, rfl, hp⟩ := getC_at (r1.stp s1.src s2) r2 h2
  cases o with
  | none => exact ho.elim
  | some u => exact ⟨p, u, rfl, hg, k _ _ H2 hp ho (s1.trans s2)⟩
def pDIn (g : Bool → Bool) (b a : PEx) : PEx := fun σd P => b σd fun y => a σd fun x => getC x y fun o => P (cB (g o.isSome))
theorem L_din {ta tb : TE} {a b : PEx} (hb : LE K s c H0 tb b) (ha : LE K s c H0 ta a) : LE K s c H0 (tDIn tb ta) (pDIn id b a) := fun σ σd H Q P R h k => by
  refine hb σ σd H _ _ R h fun y w H1 h1 r1 s1 => ?_
  refine ha σ σd H1 _ _ (R.stp s1) h1 fun x v H2 h2 r2 s2 => ?_
  obtain ⟨p, o, od, rfl, hg, ho, hp⟩ := getC_at r2 (r1.stp s1.src s2) h2
  refine ⟨p, o, rfl, hg, ?_⟩
  have e : o.isSome = od.isSome := by cases o <;> cases od <;> first | rfl | exact ho.elim
  rw [e]
  exact k _ _ H2 hp (.bl _) (s1.trans s2)
theorem L_dnotin {ta tb : TE} {a b : PEx} (hb : LE K s c H0 tb b) (ha : LE K s c H0 ta a) : LE K s c H0 (tDNotIn tb ta) (pDIn not b a) := fun σ σd H Q P R h k => by
  refine hb σ σd H _ _ R h fun y w H1 h1 r1 s1 => ?_
  refine ha σ σd H1 _ _ (R.stp s1) h1 fun x v H2 h2 r2 s2 => ?_
  obtain ⟨p, o, od, rfl, hg, ho, hp⟩ := getC_at r2 (r1.stp s1.src s2) h2
  refine ⟨p, o, rfl, hg, ?_⟩
  have e : o.isSome = od.isSome := by cases o <;> cases od <;> first | rfl | exact ho.elim
  rw [e]
  exact k _ _ H2 hp (.bl _) (s1.trans s2)
/-- a dict, of one kind or the other -/
def isDic (x : Cell) : Prop := (∃ kds, dicK x = some kds) ∨ ∃ kds, dicT x = some kds
theorem isD_of {s c : Addr} {H : Hp} {v : V} {x : Cell} (hx : CellR K s c H v x) (h : isDic x) : ∃ a, v = .ref a ∧ IsD H a := by
  rcases h with ⟨kds, e⟩ | ⟨kds, e⟩
  · obtain ⟨a, kvs, rfl, ha, _⟩ := dicK_at hx e
    exact ⟨a, rfl, .inl ⟨kvs, ha⟩⟩
  · obtain ⟨a, kvs, rfl, ha, _⟩ := dicT_at hx e
    exact ⟨a, rfl, .inr ⟨kvs, ha⟩⟩
/-- d.get(k, z) -/
def pDGet2 (a b f : PEx) : PEx := fun σd P => a σd fun x => isDic x ∧ b σd fun y => f σd fun z => ∃ dz, z = .dat dz ∧ getC x y fun o => P (.dat (o.getD dz))
theorem L_dget2 {ta tb tf : TE} {a b f : PEx} (ha : LE K s c H0 ta a) (hb : LE K s c H0 tb b) (hf : LE K s c H0 tf f) : LE K s c H0 (tDGet2 ta tb tf) (pDGet2 a b f) := fun σ σd H Q P R h k => by
  refine ha σ σd H _ _ R h fun x v H1 h1 r1 s1 => ?_
  obtain ⟨hd, h1⟩ := h1
  obtain ⟨p, rfl, hD⟩ := isD_of r1 hd
  refine ⟨p, rfl, hD, ?_⟩
  refine hb σ σd H1 _ _ (R.stp s1) h1 fun y w H2 h2 r2 s2 => ?_
  refine hf σ σd H2 _ _ ((R.stp s1).stp s2) h2 fun z u H3 h3 r3 s3 => ?_
  obtain ⟨dz, rfl, h⟩ := h3
  obtain ⟨q, o, od, eq, hg, ho, hp⟩ := getC_at ((r1.stp s1.src s2).stp s2.src s3) (r2.stp s2.src s3) h
  cases eq
  refine ⟨o, hg, k _ _ H3 hp ?_ ((s1.trans s2).trans s3)⟩
  cases o <;> cases od <;> first | exact r3 | exact ho | exact ho.elim
/-- d = {} -/
def pDNew (i : Nat) (x : Cell) : PSx := fun e σd => e.nx (σd.set i (some x))
theorem rel_new {s c a : Addr} {H0 H : Hp} {σ : L2.St} {σd : Sd} {i : Nat} {o : HO} {x : Cell} (R : Rel K s c H0 σ H σd) (hn : H a = none) (hc : CellR K s c (upd H a o) (.ref a) x) (hro : roC (some x) = false := by rfl) : Rel K s c H0 (σ.set i (some (.ref a))) (upd H a o) (σd.set i (some x)) := by
  have nn := R.src.ne hn
  have st := stp_new (o := o) R.src hn
  refine (R.stp st).set (x := x) hc (fun _ b eb => by cases eb; exact Kp.none R.kp0 nn.1 hn) (fun _ b eb j nj lj hj => ?_) (fun z => by rw [hro] at z; cases z)
  cases eb
  obtain ⟨y, hy, hr⟩ := R.slot j _ hj
  rw [hy] at lj
  cases y with
  | none => cases lj
  | some y =>
    obtain ⟨b, eb, ⟨u, hb, _⟩, _⟩ := loose_at (i := 0) (l := 0) hr lj
    cases eb
    rw [hn] at hb
    cases hb
theorem S_dnewK {s c : Addr} {H0 : Hp} (i : Nat) : LS K s c H0 (tAsg tDNewK (gName i)) (pDNew i (.dm [])) := fun σ σd H E e R h k => by
  intro p hp
  have nn := R.src.ne hp
  exact k.nx _ _ _ h (rel_new R hp ⟨p, [], rfl, upd_same, .nil, nn⟩) ((stp_new R.src hp).im R.src)
theorem S_dnewT {s c : Addr} {H0 : Hp} (i : Nat) : LS K s c H0 (tAsg tDNewT (gName i)) (pDNew i (.tm [])) := fun σ σd H E e R h k => by
  intro p hp
  have nn := R.src.ne hp
  exact k.nx _ _ _ h (rel_new R hp ⟨p, [], rfl, upd_same, .nil, nn⟩) ((stp_new R.src hp).im R.src)
/-- d[k] = v, d in slot i -/
def pDPutK (i : Nat) (b v : PEx) : PSx := fun e σd => ∃ kds, σd[i]? = some (some (.dm kds)) ∧ v σd fun z => b σd fun y => ∃ d k, z = .dat d ∧ keyC y = some k ∧ kds.length ≤ 100000 ∧ e.nx (σd.set i (some (.dm (putG kds k d))))
theorem S_dputK {s c : Addr} {H0 : Hp} {tb tv : TE} {b v : PEx} (i : Nat) (hb : LE K s c H0 tb b) (hv : LE K s c H0 tv v) : LS K s c H0 (sDPut (tVar i) tb tv) (pDPutK i b v) := fun σ σd H E e R h k => by
  obtain ⟨kds, hi, h⟩ := h
  refine hv σ σd H _ _ R h fun z u H1 h1 r1 s1 => ?_
  have R1 := R.stp s1
  obtain ⟨w, hw, hr⟩ := R1.at hi
  refine ⟨w, hw, ?_⟩
  refine hb σ σd H1 _ _ R1 h1 fun y y' H2 h2 r2 s2 => ?_
  obtain ⟨d, key, rfl, ek, hz, h⟩ := h2
  have R2 := R1.stp s2
  obtain ⟨l, kvs, rfl, hl, hd, n1, n2⟩ := CellR.stp (x := .dm kds) s1.src s2 hr
  have kl : Kp l H2 (upd H2 l (.dK (putK kvs key u))) := Kp.self
  have im := kl.im ⟨_, hl, rfl⟩
  have r3 : DR K s H2 u d := CellR.stp (x := .dat d) s1.src s2 r1
  refine ⟨l, _, rfl, .inl ⟨kvs, key, hl, key_eq r2 ek, Nat.lt_of_le_of_lt (by rw [hd.len]; exact hz) (by decide), rfl⟩, ?_⟩
  exact k.nx σ _ _ h (R2.write hw hi rfl ⟨l, _, rfl, upd_same, (hd.im im).put key (r3.im im), n1, n2⟩) (((s1.trans s2).im R.src).trans im)
def pDPutT (i : Nat) (b v : PEx) : PSx := fun e σd => ∃ kds, σd[i]? = some (some (.tm kds)) ∧ v σd fun z => b σd fun y => ∃ d k, z = .dat d ∧ keyT y = some k ∧ kds.length ≤ 100000 ∧ e.nx (σd.set i (some (.tm (putG kds k d))))
theorem S_dputT {s c : Addr} {H0 : Hp} {tb tv : TE} {b v : PEx} (i : Nat) (hb : LE K s c H0 tb b) (hv : LE K s c H0 tv v) : LS K s c H0 (sDPut (tVar i) tb tv) (pDPutT i b v) := fun σ σd H E e R h k => by
  obtain ⟨kds, hi, h⟩ := h
  refine hv σ σd H _ _ R h fun z u H1 h1 r1 s1 => ?_
  have R1 := R.stp s1
  obtain ⟨w, hw, hr⟩ := R1.at hi
  refine ⟨w, hw, ?_⟩
  refine hb σ σd H1 _ _ R1 h1 fun y y' H2 h2 r2 s2 => ?_
  obtain ⟨d, key, rfl, ek, hz, h⟩ := h2
  have R2 := R1.stp s2
  obtain ⟨l, kvs, rfl, hl, hd, n1, n2⟩ := CellR.stp (x := .tm kds) s1.src s2 hr
  have kl : Kp l H2 (upd H2 l (.dT (putK kvs key u))) := Kp.self
  have im := kl.im ⟨_, hl, rfl⟩
  have r3 : DR K s H2 u d := CellR.stp (x := .dat d) s1.src s2 r1
  obtain ⟨b', rfl, hb'⟩ := keyT_at r2 ek
  refine ⟨l, _, rfl, .inr ⟨kvs, key, b', hl, rfl, hb', Nat.lt_of_le_of_lt (by rw [hd.len]; exact hz) (by decide), rfl⟩, ?_⟩
  exact k.nx σ _ _ h (R2.write hw hi rfl ⟨l, _, rfl, upd_same, (hd.im im).put key (r3.im im), n1, n2⟩) (((s1.trans s2).im R.src).trans im)
/-- the thing of slot i is locked for good, then the statement -/
def frzC : Cell → Option D
  | .lm ds => some (.lst ds)
  | .dm kds => some (.dic kds)
  | .tm kds => some (.dit kds)
  | _ => none
def pFrzC (i : Nat) (p : PSx) : PSx := fun e σd => ∃ x d, σd[i]? = some (some x) ∧ frzC x = some d ∧ p e (σd.set i (some (.dat d)))
theorem S_frzC {s c : Addr} {H0 : Hp} {t : TS} {p : PSx} (i : Nat) (hp : LS K s c H0 t p) : LS K s c H0 (tFrzS i t) (pFrzC i p) := fun σ σd H E e R h k => by
  obtain ⟨x, d, hi, hx, h⟩ := h
  obtain ⟨v, hv, hr⟩ := R.at hi
  cases x with
  | lm ds => cases hx; exact S_frz i hp σ σd H E e R ⟨ds, hi, h⟩ k
  | dm ds =>
    cases hx
    obtain ⟨l, vs, rfl, hl, hd, n1, n2⟩ := id hr
    refine ⟨l, _, hv, hl, trivial, fun o => ?_⟩
    have kl : Kp l H (upd H l (.frz o (.dK vs))) := Kp.self
    have im := kl.im ⟨_, hl, rfl⟩
    exact hp σ _ _ E e (R.write (x' := .dat (.dic ds)) (o := .frz o (.dK vs)) hv hi rfl (.dic upd_same (hd.im im))) h (k.im im)
  | tm ds =>
    cases hx
    obtain ⟨l, vs, rfl, hl, hd, n1, n2⟩ := id hr
    refine ⟨l, _, hv, hl, trivial, fun o => ?_⟩
    have kl : Kp l H (upd H l (.frz o (.dT vs))) := Kp.self
    have im := kl.im ⟨_, hl, rfl⟩
    exact hp σ _ _ E e (R.write (x' := .dat (.dit ds)) (o := .frz o (.dT vs)) hv hi rfl (.dit upd_same (hd.im im))) h (k.im im)
  | dat d => cases hx
  | om x C ds => cases hx
  | un => cases hx
  | ex a cls d x => cases hx
  | rl ds => cases hx
  | rd ds => cases hx
  | rt ds => cases hx
/-! ### walks over the keys, list(d) -/
def pIK (a : PEx) : PNx := fun σd P => a σd fun x => ∃ kds, x = .dat (.dic kds) ∧ P (kds.map fun kd => keyD kd.1)
theorem DRk.at {s : Addr} {H : Hp} : ∀ {kvs : List (Key × V)} {kds : List (Key × D)}, DRk K s H kvs kds → ∀ {i : Nat} {k : Key} {v : V}, kvs[i]? = some (k, v) → ∃ d, kds[i]? = some (k, d) ∧ DR K s H v d
  | _, _, .nil, i, k, v, h => by simp at h
  | _, _, .cons x r, 0, k, v, h => by cases h; exact ⟨_, rfl, x⟩
  | _, _, .cons x r, i + 1, k, v, h => DRk.at r (i := i) h
theorem I_keys {t : TE} {a : PEx} (ha : LE K s c H0 t a) : LI K s c H0 (iKeys t) (pIK a) := fun σ σd H R P Rl h k => by
  refine ha σ σd H _ _ Rl h fun x v H1 h1 r1 s1 => ?_
  obtain ⟨kds, rfl, h⟩ := h1
  cases r1 with
  | @dic l o kvs _ hl hd =>
    refine ⟨l, o, rfl, .inl ⟨kvs, hl, ?_⟩⟩
    have w : Walk (Itk l o kvs) (kds.map fun kd => keyD kd.1).length (fun H => H l = some (.frz o (.dK kvs))) (fun i H x H' => H' = H ∧ ∃ k v, kvs[i]? = some (k, v) ∧ x = kV k) := by
      rw [List.length_map, ← hd.len]
      exact walk_keys
    refine k _ _ _ _ H1 h s1 w hl (fun A B im h => frz_im im h) fun i A x B hi im hG y => ?_
    obtain ⟨e, key, v, hx, rfl⟩ := y
    subst e
    obtain ⟨d, h1, h2⟩ := hd.at hx
    refine ⟨Same.refl _, keyD key, ?_, keyD_dr key⟩
    rw [List.getElem?_map, h1]
    rfl
end
end My


/-! Own: operators that an own class writes (+, -, ==, in, [..]). -/
namespace My
open PySem PySem.Spec PyProof.Rows L2
section
variable {X : Cx} {k : Nat} {f C : Addr} {fd : FuncData} {ps : List Str} {sp : Sp}
theorem notNI {v : V} {u : Value} (r : RelV v u) : u ≠ .notImplemented := by
  intro e
  subst e
  cases v <;> first | (obtain ⟨_, z⟩ := r; cases z) | cases r
theorem back_of {pins : List (Addr × Obj)} {σ : L2.St} {Q : VK} {u : Value} {s' : Shared} (h : EP X pins σ Q u s') : PySem.W.CmpBack (EP X pins σ Q) u s' := by
  obtain ⟨v, H', I, r, q⟩ := id h
  have n := notNI r
  cases u <;> first | exact absurd rfl n | exact h
/-- both are instances of the class at C -/
def rOwn (C : Addr) (sp : Sp) : R2 := fun x y H Q => (∃ a dx fs, x = .ref a ∧ Rd H a (.ins C dx fs)) ∧ (∃ b dy gs, y = .ref b ∧ Rd H b (.ins C dy gs)) ∧ sp [x, y] H Q E0
theorem op_own {op : Operator} (F : FnOk X.prog X.w X.K X.mg X.base CX0 k f fd ps sp) (hr : Room k X.A) (hb : Binds X.K fd ps []) (hc : PySem.W.selfFirst X.K C = true)
    (hs : PySem.W.findIn X.K (.ref C) (PySem.dunder op.info.2) = some (some (.ref f))) (hf : PySem.W.isFn X.K (.ref f) = true) : OpR X (binaryOp op) (rOwn C sp) := by
  intro pins s σ H x y v u Q I rx ry h
  obtain ⟨⟨a, dx, fs, rfl, ha⟩, ⟨b, dy, gs, rfl, hb'⟩, h⟩ := h
  cases rx
  cases ry
  obtain ⟨mA, J, _⟩ := ins_rd I.hok ha
  obtain ⟨mB, J', _⟩ := ins_rd I.hok hb'
  obtain ⟨od, J, _⟩ := J.look
  obtain ⟨od', J', _⟩ := J'.look
  obtain ⟨m, hF⟩ := I.fr
  refine PySem.W.binop_K hF I.ok.mod.kin J J'.type hc hs hf (wpAny_mono (run_fn (us := [.ref a, .ref b]) (vs := [.ref a, .ref b]) F hr hb .nil pass0 I (.cons rfl (.cons rfl .nil)) ?_) (fun w s' hw => back_of hw) fun _ _ z => z)
  rw [List.append_nil]
  exact h
/-- == of an instance and anything whose type is known -/
def rOwnEq (K : PySem.W.Frag) (C : Addr) (sp : Sp) : R2 := fun x y H Q => (∃ a dx fs, x = .ref a ∧ Rd H a (.ins C dx fs)) ∧ (∃ t, TyX K H y t ∧ PySem.W.notFirst K C t = true) ∧ sp [x, y] H Q E0
theorem op_ownEq (F : FnOk X.prog X.w X.K X.mg X.base CX0 k f fd ps sp) (hr : Room k X.A) (hb : Binds X.K fd ps [])
    (hs : PySem.W.findIn X.K (.ref C) "__eq__" = some (some (.ref f))) (hf : PySem.W.isFn X.K (.ref f) = true) : OpR X (compareOp .Eq) (rOwnEq X.K C sp) := by
  intro pins s σ H x y v u Q I rx ry h
  obtain ⟨⟨a, dx, fs, rfl, ha⟩, ⟨t, ty, nf⟩, h⟩ := h
  cases rx
  obtain ⟨mA, J, _⟩ := ins_rd I.hok ha
  obtain ⟨od, J, _⟩ := J.look
  obtain ⟨P, Z, p, hx⟩ := kit_of I ry ty
  obtain ⟨m, hF⟩ := I.fr
  show wpAny (model X.prog X.w) X.A (richCompare .Eq (.ref a) u) (EP X pins σ Q) X.xe s
  refine PySem.W.cmp_K (op := .Eq) (tb := t) (hr.units0) hF I.ok.mod.kin J (Z.ty _ _ I.kIn p) nf hs hf (wpAny_mono (run_fn (us := [.ref a, u]) (vs := [.ref a, y]) F hr hb .nil pass0 I (.cons rfl (.cons ry .nil)) ?_) (fun w s' hw => back_of hw) fun _ _ z => z)
  rw [List.append_nil]
  exact h
/-- x in o -/
def rOwnIn (C : Addr) (sp : Sp) (g : Bool → Bool) : R2 := fun x y H Q => (∃ a dx fs, y = .ref a ∧ Rd H a (.ins C dx fs)) ∧ sp [y, x] H (fun r H' => ∃ b, r = .bl b ∧ Q (.bl (g b)) H') E0
theorem op_ownIn (F : FnOk X.prog X.w X.K X.mg X.base CX0 k f fd ps sp) (hr : Room k X.A) (hb : Binds X.K fd ps [])
    (hs : PySem.W.findIn X.K (.ref C) "__contains__" = some (some (.ref f))) (hf : PySem.W.isFn X.K (.ref f) = true) : OpR X (compareOp .In) (rOwnIn C sp id) := by
  intro pins s σ H x y v u Q I rx ry h
  obtain ⟨⟨a, dx, fs, rfl, ha⟩, h⟩ := h
  cases ry
  obtain ⟨mA, J, _⟩ := ins_rd I.hok ha
  obtain ⟨od, J, _⟩ := J.look
  obtain ⟨m, hF⟩ := I.fr
  refine PySem.W.in_K hF I.ok.mod.kin J hs hf (wpAny_mono (run_fn (us := [.ref a, v]) (vs := [.ref a, x]) F hr hb .nil pass0 I (.cons rfl (.cons rx .nil)) (by rw [List.append_nil]; exact h)) (fun w s' hw => ?_) fun _ _ z => z)
  obtain ⟨z, H', I', rz, b, rfl, q⟩ := hw
  cases rz
  exact wpAny_truthy_bool ⟨.bl b, H', I', rfl, q⟩
theorem op_ownNotIn (F : FnOk X.prog X.w X.K X.mg X.base CX0 k f fd ps sp) (hr : Room k X.A) (hb : Binds X.K fd ps [])
    (hs : PySem.W.findIn X.K (.ref C) "__contains__" = some (some (.ref f))) (hf : PySem.W.isFn X.K (.ref f) = true) : OpR X (compareOp .NotIn) (rOwnIn C sp not) := by
  intro pins s σ H x y v u Q I rx ry h
  obtain ⟨⟨a, dx, fs, rfl, ha⟩, h⟩ := h
  cases ry
  obtain ⟨mA, J, _⟩ := ins_rd I.hok ha
  obtain ⟨od, J, _⟩ := J.look
  obtain ⟨m, hF⟩ := I.fr
  refine PySem.W.notIn_K hF I.ok.mod.kin J hs hf (wpAny_mono (run_fn (us := [.ref a, v]) (vs := [.ref a, x]) F hr hb .nil pass0 I (.cons rfl (.cons rx .nil)) (by rw [List.append_nil]; exact h)) (fun w s' hw => ?_) fun _ _ z => z)
  obtain ⟨z, H', I', rz, b, rfl, q⟩ := hw
  cases rz
  exact wpAny_truthy_bool ⟨.bl (!b), H', I', rfl, q⟩
end
end My


/-! Own2: instance * int, int * instance. -/
namespace My
open PySem PySem.Spec PyProof.Rows L2 PySem.W
section
variable {prog : Program} {w : World} {A : Around} {E : Value → Shared → Prop} {s : Shared} {K : Frag} {x C L f r : Addr} {h₀ : Heap} {m : Str → Option Value} {ox : Obj} {od : Option Obj}
theorem mro_head (hc : selfFirst K C = true) : ∃ cd rest, clsIn K C = some cd ∧ cd.mro = .ref C :: rest := by
  obtain ⟨cd, hcd, hm⟩ := any_some hc
  cases q : cd.mro with
  | nil => rw [q] at hm; cases hm
  | cons a r => rw [q] at hm; exact ⟨cd, r, hcd, by rw [List.head?_cons] at hm; cases (beq_iff_eq.mp hm); exact q⟩
theorem binop_CI {i : Int} {t : Tok} {Q : Value → Shared → Prop} (F : Fr h₀ L s.heap m) (X₀ : K.In h₀) (I : InstAt s.heap x ox C od) (hc : selfFirst K C = true) (hsub : subIn K (.type "int") (.ref C) = some false)
    (hs : findIn K (.ref C) (PySem.dunder "mul") = some (some (.ref f))) (hr : findIn K (.ref C) (PySem.dunderR "mul") = some (some (.ref r))) (hf : isFn K (.ref f) = true)
    (h : wpAny (model prog w) A (call (.ref f) [.ref x, .int i t]) (PySem.W.CmpBack Q) E s) : wpAny (model prog w) A (binaryOp .Mult (.ref x) (.int i t)) Q E s := by
  have X := X₀.keeps F.keep
  obtain ⟨cd, rest, hcd, hm⟩ := mro_head hc
  have ne : (Value.ref C == Value.type "int") = false := rfl
  unfold binaryOp
  refine wpAny_holding (wpAny_bind ?_)
  unfold binaryOp1
  refine wpAny_bind (I.type.here (wpAny_bind ?_))
  show wpAny _ _ (pure (Value.type "int")) _ _ _
  refine wpAny_pure (wpAny_bind ((fills_K X hcd hm hs).here ?_))
  simp only [ne, Bool.false_eq_true, if_false]
  rw [PySem.F.fills_int_mul]
  refine wpAny_bind (wpAny_pure ?_)
  simp only [Bool.and_self, if_true]
  refine wpAny_bind ((looks_subIn X hsub).here ?_)
  simp only [Bool.not_false, Bool.and_self, Bool.false_eq_true, if_false, if_true]
  refine wpAny_bind ?_
  have nsp : Looks (model prog w) s.heap (numberSlotInPython (.ref C) "mul") true := by
    intro A Q E s' k q
    unfold numberSlotInPython
    dsimp only
    refine wpAny_bind ((looks_findIn X hs) A _ E s' k ?_)
    show wpAny _ _ (pure true >>= _) _ _ _
    refine wpAny_bind (wpAny_pure (wpAny_bind ((looks_findIn X hr) A _ E s' k ?_)))
    show wpAny _ _ (pure true >>= _) _ _ _
    refine wpAny_bind (wpAny_pure ?_)
    simp only [Bool.or_self, if_true]
    exact wpAny_pure q
  refine nsp.here ?_
  simp only [if_true]
  refine wpAny_bind (show wpAny _ _ (pure false) _ _ _ from wpAny_pure ?_)
  simp only [Bool.not_false, if_true]
  rw [PySem.F.slot_int_rmul.lookup]
  refine wpAny_bind (wpAny_pure (wpAny_bind ?_))
  unfold tryMethod
  refine wpAny_bind (special_fn X I hs (beq_iff_eq.mp hf) (wpAny_mono h (fun v s' hv => ?_) fun _ _ e => e))
  cases v <;> first | exact hv.elim | exact wpAny_pure (wpAny_pure (wpAny_pure hv))
theorem int_mul_no {i : Int} {t : Tok} {dx : Addr} {Q : Value → Shared → Prop} (hx : s.heap.get? x = some (instObj C dx)) (h : Q .notImplemented s) :
    wpAny (model prog w) A (call (.builtin "int.__mul__") [.int i t, .ref x]) Q E s := by
  refine wpAny_call_entry PySem.F.slot_int_mul (typeIs_int s i t) PySem.F.entry_int_mul ?_ (PySem.F.args_int_mul_2 _ _)
  unfold Builtin.«int.__mul__» Builtin.Int.intBinary
  refine wpAny_bind (wpAny_of_eq (a := (Value.int i t, [Value.ref x])) (by first | rfl | (simp only [slotArgs]; rfl)) ?_)
  refine wpAny_bind (wpAny_pure ?_)
  dsimp only [List.headD]
  refine wpAny_bind ?_
  show wpAny _ _ (load x >>= _) _ _ _
  refine wpAny_bind (wpAny_load hx ?_)
  refine wpAny_pure ?_
  refine wpAny_bind (wpAny_rule ?_)
  exact wpAny_pure ⟨_, rfl, h⟩
theorem binop_IC {i : Int} {t : Tok} {dx : Addr} {od : Obj} {Q : Value → Shared → Prop} (F : Fr h₀ L s.heap m) (X₀ : K.In h₀) (I : InstAt s.heap x (instObj C dx) C (some od)) (hc : selfFirst K C = true) (hsub : subIn K (.ref C) (.type "int") = some false)
    (hs : findIn K (.ref C) (PySem.dunder "mul") = some (some (.ref f))) (hr : findIn K (.ref C) (PySem.dunderR "mul") = some (some (.ref r))) (hf : isFn K (.ref r) = true)
    (h : wpAny (model prog w) A (call (.ref r) [.ref x, .int i t]) (PySem.W.CmpBack Q) E s) : wpAny (model prog w) A (binaryOp .Mult (.int i t) (.ref x)) Q E s := by
  have X := X₀.keeps F.keep
  obtain ⟨cd, rest, hcd, hm⟩ := mro_head hc
  have ne : (Value.type "int" == Value.ref C) = false := rfl
  unfold binaryOp
  refine wpAny_holding (wpAny_bind ?_)
  unfold binaryOp1
  refine wpAny_bind (show wpAny _ _ (pure (Value.type "int")) _ _ _ from wpAny_pure ?_)
  refine wpAny_bind (I.type.here ?_)
  rw [PySem.F.fills_int_mul]
  refine wpAny_bind (wpAny_pure ?_)
  simp only [ne, Bool.false_eq_true, if_false]
  refine wpAny_bind ((fills_K X hcd hm hs).here ?_)
  simp only [Bool.and_self, if_true]
  refine wpAny_bind ((looks_subIn X hsub).here ?_)
  simp only [Bool.not_false, Bool.and_self, Bool.false_eq_true, if_false, if_true]
  refine wpAny_bind (show wpAny _ _ (pure false) _ _ _ from wpAny_pure ?_)
  simp only [Bool.false_eq_true, if_false]
  refine wpAny_bind ?_
  have one : wpAny (model prog w) A (tryMethod (.int i t) (PySem.dunder "mul") (.ref x)) (fun v s' => v = none ∧ s' = s) E s := by
    unfold tryMethod
    refine wpAny_bind (wpAny_callSpecial?_slot (typeIs_int s i t) PySem.F.slot_int_mul (int_mul_no I.at_ ?_))
    exact wpAny_pure ⟨rfl, rfl⟩
  refine wpAny_mono one (fun v s' hv => ?_) fun _ _ e => e
  obtain ⟨rfl, rfl⟩ := hv
  dsimp only
  refine wpAny_bind ?_
  unfold tryMethod
  refine wpAny_bind (special_fn X I hr (beq_iff_eq.mp hf) (wpAny_mono h (fun v s2 hv => ?_) fun _ _ e => e))
  cases v <;> first | exact hv.elim | exact wpAny_pure (wpAny_bind (wpAny_rule (wpAny_pure (wpAny_pure hv))))
end
/-! ### as rules -/
section
variable {X : Cx} {k : Nat} {f g C : Addr} {fd : FuncData} {ps : List Str} {sp : Sp}
def rOwnI (C : Addr) (sp : Sp) : R2 := fun x y H Q => (∃ a dx fs, x = .ref a ∧ Rd H a (.ins C dx fs)) ∧ (∃ i, y = .int i) ∧ sp [x, y] H Q E0
theorem op_ownI (F : FnOk X.prog X.w X.K X.mg X.base CX0 k f fd ps sp) (hr : Room k X.A) (hb : Binds X.K fd ps []) (hc : selfFirst X.K C = true) (hsub : subIn X.K (.type "int") (.ref C) = some false)
    (hs : findIn X.K (.ref C) (PySem.dunder "mul") = some (some (.ref f))) (hg : findIn X.K (.ref C) (PySem.dunderR "mul") = some (some (.ref g))) (hf : isFn X.K (.ref f) = true) : OpR X (binaryOp .Mult) (rOwnI C sp) := by
  intro pins s σ H x y v u Q I rx ry h
  obtain ⟨⟨a, dx, fs, rfl, ha⟩, ⟨i, rfl⟩, h⟩ := h
  cases rx
  obtain ⟨t, rfl⟩ := id ry
  obtain ⟨mA, J, _⟩ := ins_rd I.hok ha
  obtain ⟨od, J, _⟩ := J.look
  obtain ⟨m, hF⟩ := I.fr
  refine binop_CI hF I.ok.mod.kin J hc hsub hs hg hf (wpAny_mono (run_fn (us := [.ref a, .int i t]) (vs := [.ref a, .int i]) F hr hb .nil pass0 I (.cons rfl (.cons ry .nil)) ?_) (fun w s' hw => back_of hw) fun _ _ z => z)
  rw [List.append_nil]
  exact h
def rIOwn (C : Addr) (sp : Sp) : R2 := fun x y H Q => (∃ a dx fs, y = .ref a ∧ Rd H a (.ins C dx fs)) ∧ (∃ i, x = .int i) ∧ sp [y, x] H Q E0
theorem op_Iown (F : FnOk X.prog X.w X.K X.mg X.base CX0 k g fd ps sp) (hr : Room k X.A) (hb : Binds X.K fd ps []) (hc : selfFirst X.K C = true) (hsub : subIn X.K (.ref C) (.type "int") = some false)
    (hs : findIn X.K (.ref C) (PySem.dunder "mul") = some (some (.ref f))) (hg : findIn X.K (.ref C) (PySem.dunderR "mul") = some (some (.ref g))) (hf : isFn X.K (.ref g) = true) : OpR X (binaryOp .Mult) (rIOwn C sp) := by
  intro pins s σ H x y v u Q I rx ry h
  obtain ⟨⟨a, dx, fs, rfl, ha⟩, ⟨i, rfl⟩, h⟩ := h
  cases ry
  obtain ⟨t, rfl⟩ := id rx
  obtain ⟨mA, J, _⟩ := ins_rd I.hok ha
  obtain ⟨od, J, _⟩ := J.look
  obtain ⟨m, hF⟩ := I.fr
  refine binop_IC hF I.ok.mod.kin J hc hsub hs hg hf (wpAny_mono (run_fn (us := [.ref a, .int i t]) (vs := [.ref a, .int i]) F hr hb .nil pass0 I (.cons rfl (.cons rx .nil)) ?_) (fun w s' hw => back_of hw) fun _ _ z => z)
  rw [List.append_nil]
  exact h
end
end My


/-! Own3: o[i], for x in o, by own __getitem__ and __iter__. -/
namespace My
open PySem PySem.Spec PyProof.Rows L2
section
variable {X : Cx} {k : Nat} {f C : Addr} {fd : FuncData} {ps : List Str} {sp : Sp}
/-- the callee runs one deeper -/
theorem run_fn1 {pins : List (Addr × Obj)} {σ : L2.St} {H : Hp} {s : Shared} {Q : VK} {us : List Value} {vs : List V} {E' : Value → Shared → Prop} (F : FnOk X.prog X.w X.K X.mg X.base CX0 k f fd ps sp) (hr : Room (k + 1) X.A) (hb : Binds X.K fd ps [])
    (I : Inv X pins σ H s) (r : Vals vs us) (h : sp vs H Q E0) : wpAny (model X.prog X.w) X.A.in1 (call (.ref f) us) (EP X pins σ Q) E' s := by
  have hl : (us ++ []).length = ps.length := by
    rw [List.append_nil, ← r.length]
    exact F.len _ _ _ _ h
  have bt := hb s us I.kIn hl
  rw [List.append_nil] at bt
  refine wpAny_call (codeAny_mono (F.run X.A.in1 X.stack s H ⟨us, []⟩ us vs Q E0 hr.in1 I.env0.in1 bt r h) fun r s' hq => ?_)
  cases r with
  | error e => exact False.elim hq
  | ok fl =>
    cases fl with
    | ret u => exact I.after hq
    | next => exact False.elim hq
    | brk => exact False.elim hq
    | cont => exact False.elim hq
def rOwnIx (C : Addr) (sp : Sp) : R2 := fun x y H Q => (∃ a dx fs, x = .ref a ∧ Rd H a (.ins C dx fs)) ∧ sp [x, y] H Q E0
theorem pe_ownIx {a b : Expr} {ta tb : TE} {pos : Pos} (F : FnOk X.prog X.w X.K X.mg X.base CX0 k f fd ps sp) (hr : Room (k + 1) X.A) (hb : Binds X.K fd ps []) (hs : PySem.W.findIn X.K (.ref C) "__getitem__" = some (some (.ref f)))
    (hfn : PySem.W.fnIn X.K f = true) (hf : PySem.W.isFn X.K (.ref f) = true) (ha : PE X a ta) (hb' : PE X b tb)
    (hsl : ∀ (x : Addr) (i : Value), subscripted b true (.ref x) i = runValue (.builtin "lifetime.subscript" ⟨[.ref x, i], []⟩) := by intro _ _; with_unfolding_all rfl) : PE X (.Subscript a b pos) (tOp (rOwnIx C sp) ta tb) := by
  refine ⟨fun pins s σ H Q I h => ?_⟩
  refine Subscript_ (binT ha hb' I h fun v u s2 x y H2 I2 rx ry q => ?_)
  obtain ⟨⟨p, dx, fs, rfl, hp⟩, q⟩ := q
  cases rx
  obtain ⟨mA, J, _⟩ := ins_rd I2.hok hp
  obtain ⟨od, J, _⟩ := J.look
  obtain ⟨m, hF⟩ := I2.fr
  exact PySem.W.sub_K hF I2.ok.mod.kin J hs hfn hf (run_fn1 (vs := [.ref p, y]) F hr hb I2 (.cons rfl (.cons ry .nil)) q) (hsl _ _)
end
/-! ### a def whose promise speaks of the size of the heap at its entry -/
structure NOk (P : Program) (w : World) (K : PySem.W.Frag) (mg : Str → Option Value) (base : Heap) (k : Nat) (f : Addr) (fd : FuncData) (ps : List Str) (sp : Nat → Sp) : Prop where
  len : ∀ n vs H Q E, sp n vs H Q E → vs.length = ps.length
  go : ∀ (A : Around) (outer : List Env) (s : Shared) (H : Hp) (args : Args) (us : List Value) (vs : List V) (Q : VK) (E : XK), Room k A → Env0 P w K mg base A outer s H →
    BindsTo s fd args (ps.zip us) → Vals vs us → sp s.heap.objs.size vs H Q E → codeAny (model P w) A (.call (.ref f) args) (CR CX0 outer P w H s Q E) s
section
variable {P : Program} {w : World} {K : PySem.W.Frag} {mg : Str → Option Value} {base : Heap}
theorem nok_of {x qual : Str} {st : Stmt} {f : Addr} {fd : FuncData} {N ps : List Str} {k : Nat} {sp : Nat → Sp} (F : FunD K x qual (defArgs st) (defBody st) (defScope st) [] [] f fd) (S : FnScope N ps (defScope st)) (len : ∀ n vs H Q E, sp n vs H Q E → vs.length = ps.length)
    (hb : ∀ (cdv : Value) (A : Around) (outer : List Env) (s : Shared) (H : Hp) (vs : List V) (Q : VK) (E : XK), Room k (A.deeper (envOfC qual (defScope st) s.heap.objs.size f cdv)) → sp s.heap.objs.size vs H Q E →
      ∃ t, PSs (cxOf CX0 P w K mg base N qual (defScope st) f cdv A outer s H E) (defBody st) t ∧ t { nx := fun _ H' => Q .non H', rt := Q } (L2.start N vs) H) : NOk P w K mg base (k + 1) f fd ps sp := by
  obtain ⟨oc, od, dV, kV, doc, pm, an, cdv, ct, osl, rfl, lk, hcd, _, _⟩ := F.ex
  refine ⟨len, fun A outer s H args us vs Q E hr e0 bt r hsp => ?_⟩
  have hl := len _ _ _ _ _ hsp
  have kx : K.In s.heap := e0.mod.kin.keeps fun b o e => (e0.bs b o e).1
  have nl : s.heap.NoLimit := e0.mod.nolimit.keeps fun b o e => (e0.bs b o e).1
  refine codeAny_call_function hr.depth (kx _ _ lk) rfl S.co S.gen rfl (PySem.W.codeRec_of kx hcd) (bt _ _ _ _ ?_)
  refine wpAny_newFunctionEnv_cells S.kind (fun y hy => ?_) fun env he s1 z => ?_
  · obtain ⟨n, v⟩ := y
    rcases S.par n (List.of_mem_zip hy).1 with q | q
    · exact .inl q
    · exact .inr ⟨q, PySem.W.cellsFrom_some _ _ _ (.inl q)⟩
  · subst he
    refine ⟨nl.keeps z.toInCall.keep, codeAny_func ?_⟩
    obtain ⟨t, ht, hq⟩ := hb cdv A outer s H vs Q E (hr.deeper _) hsp
    have J := inv_start (CX := CX0) (E := E) (mg := mg) (base := base) (P := P) (w := w) (K := K) S hr.hd e0 hl r z
    refine wpAny_mono (ht.run [] s1 (L2.start N vs) H _ J hq) (fun fl s' hs => ?_) fun e s' hs => hs
    cases fl with
    | ret u =>
      obtain ⟨v, σ', H', L, rv, q⟩ := hs
      exact ⟨v, H', L.os, L.bare, L.base, L.hok, rv, q⟩
    | next =>
      obtain ⟨σ', H', L, q⟩ := hs
      exact ⟨V.non, H', L.os, L.bare, L.base, L.hok, rfl, q⟩
    | brk =>
      obtain ⟨_, _, _, q⟩ := hs
      exact q.elim
    | cont =>
      obtain ⟨_, _, _, q⟩ := hs
      exact q.elim
end
/-- own __iter__ that gives iter(self.f) -/
def spItF (K : PySem.W.Frag) (C : Addr) (f : Str) (n : Nat) : Sp := fun vs H Q _ => ∃ (a dx l : Addr) (fs : List (Str × V)) (xs : List V), vs = [.ref a] ∧ Rd H a (.ins C dx fs) ∧ fs.lookup f = some (.ref l) ∧ SqL K H l xs ∧ ∀ it, H it = none → n ≤ it → Q (.ref it) (upd H it (ItO l it 0))
theorem len_itF {K : PySem.W.Frag} {C : Addr} {f : Str} {n : Nat} {vs : List V} {H : Hp} {Q : VK} {E : XK} (h : spItF K C f n vs H Q E) : vs.length = 1 := by
  obtain ⟨_, _, _, _, _, rfl, _⟩ := h
  rfl
section
variable {X : Cx} {k : Nat} {fi C : Addr} {fd : FuncData} {ps : List Str} {fld : Str}
/-- pyIter of such an instance -/
theorem own_pyIter {pins : List (Addr × Obj)} {σ : L2.St} {H : Hp} {s : Shared} {a dx l : Addr} {fs : List (Str × V)} {xs : List V} {E' : Value → Shared → Prop} {Q : Value → Shared → Prop} {A : Around} (hA : A.frames = X.A.frames) (F : NOk X.prog X.w X.K X.mg X.base k fi fd ps (spItF X.K C fld)) (hr : Room k A) (hb : Binds X.K fd ps [])
    (hs : PySem.W.findIn X.K (.ref C) "__iter__" = some (some (.ref fi))) (hf : PySem.W.isFn X.K (.ref fi) = true) (I : Inv X pins σ H s) (ha : Rd H a (.ins C dx fs)) (hl : fs.lookup fld = some (.ref l)) (hx : SqL X.K H l xs)
    (hq : ∀ it s', H it = none → s.heap.objs.size ≤ it → Inv X pins σ (upd H it (ItO l it 0)) s' → Q (.ref it) s') : wpAny (model X.prog X.w) A (pyIter (.ref a)) Q E' s := by
  obtain ⟨mA, J, _⟩ := ins_rd I.hok ha
  obtain ⟨od, J, _⟩ := J.look
  obtain ⟨m, hF⟩ := I.fr
  refine PySem.W.owit_iter hF I.ok.mod.kin J hs hf ?_
  have hsp : spItF X.K C fld s.heap.objs.size [.ref a] H (fun v H' => ∃ it, v = .ref it ∧ H it = none ∧ s.heap.objs.size ≤ it ∧ H' = upd H it (ItO l it 0)) E0 := ⟨a, dx, l, fs, xs, rfl, ha, hl, hx, fun it h1 h2 => ⟨it, rfl, h1, h2, rfl⟩⟩
  have e0 : Env0 X.prog X.w X.K X.mg X.base A X.stack s H := by
    have e := I.env0
    exact ⟨by rw [hA]; exact e.frames, e.mod, e.bs, e.bsz, e.funs, e.frf, e.hok, e.bare⟩
  have hlen : ([Value.ref a] ++ []).length = ps.length := by
    rw [← F.len _ _ _ _ _ hsp]
    rfl
  have bt := hb s [.ref a] I.kIn hlen
  rw [List.append_nil] at bt
  refine wpAny_call (codeAny_mono (F.go A X.stack s H ⟨[.ref a], []⟩ [.ref a] [.ref a] _ E0 hr e0 bt (.cons rfl .nil) hsp) fun r s' hq' => ?_)
  cases r with
  | error e => exact False.elim hq'
  | ok fl =>
    cases fl with
    | next => exact False.elim hq'
    | brk => exact False.elim hq'
    | cont => exact False.elim hq'
    | ret u =>
      obtain ⟨v, H', I', rv, it, ev, h1, h2, eH⟩ := I.after hq'
      subst ev
      rw [eH] at I'
      cases rv
      have eo := itO_get I' upd_same
      have hT : s'.TypeIs (.ref it) "list_iterator" := ⟨_, eo, rfl⟩
      unfold PySem.W.OwitIt
      exact wpAny_specialOf (name := Str.ofString "__next__") hT slot_listiter_next.lookup (hq it s' h1 h2 I')
def iOwn (K : PySem.W.Frag) (C : Addr) (fld : Str) (te : TE) : TI := fun σ H R => te σ H fun x H1 => ∃ (a dx l : Addr) (fs : List (Str × V)), x = .ref a ∧ Rd H1 a (.ins C dx fs) ∧ fs.lookup fld = some (.ref l) ∧ (∃ xs, SqL K H1 l xs) ∧ R (Itl K l) H1
theorem pi_own {tg e : Expr} {te : TE} (F : NOk X.prog X.w X.K X.mg X.base k fi fd ps (spItF X.K C fld)) (hr : Room k X.A) (hb : Binds X.K fd ps []) (hs : PySem.W.findIn X.K (.ref C) "__iter__" = some (some (.ref fi))) (hf : PySem.W.isFn X.K (.ref fi) = true)
    (he : PE X e te) : PI X tg e (iOwn X.K C fld te) := by
  refine ⟨fun pins s σ H R I h => ?_⟩
  refine thn (he.run pins s σ H _ I h) fun v s1 ⟨x, H1, I1, r1, a, dx, l, fs, ex, ha, hl, ⟨xs, hx⟩, q⟩ => ?_
  subst ex
  cases r1
  refine own_pyIter rfl F hr hb hs hf I1 ha hl hx fun it s' h1 h2 I' => ?_
  have hi : upd H1 it (ItO l it 0) it = some (ItO l it 0) := upd_same
  have eo := itO_get I' hi
  have st : s'.heap.IsListIter it l 0 := ⟨_, eo, rfl, rfl⟩
  have hi' := hi
  unfold ItO at hi'
  refine ⟨it, [it], _, _, ItX.dropH (upd H1 it (ItO l it 0)) it, rfl, ItX.inv_drop I' hi', turn_list l it, st, fun b hb' => ?_, ?_⟩
  · have e : b = it := by simpa using hb'
    rw [e]
    exact ItX.inv_fp I' hi (Nat.le_trans I1.sz h2)
  · rw [ItX.dropH_upd h1]
    exact q
end
end My


/-! Own4: sorted texts of any number; == with a built-in on the left. -/
namespace My
open PySem PySem.Spec PyProof.Rows L2
section
variable {X : Cx}
def leS (a b : Str) : Bool := decide (a.cps.toList ≤ b.cps.toList)
/-- sorted(xs), texts, any number -/
def rSortedL (K : PySem.W.Frag) : List V → Hp → VK → Prop := fun vs H Q => ∃ (a : Addr) (xs : List Str), vs = [V.ref a] ∧ SqL K H a (xs.map V.str) ∧ ∀ p : Addr, H p = none → Q (.ref p) (upd H p (.lst ((xs.mergeSort leS).map V.str)))
theorem each_strs : ∀ {us : List Value} {xs : List Str}, StrsAre us xs → PySem.W.EachIs (fun v b => ∃ t, v = Value.str b t) us xs
  | _, _, .nil => .nil
  | _, _, .cons x t h => .cons ⟨t, rfl⟩ (each_strs h)
theorem strs_each : ∀ {us : List Value} {xs : List Str}, PySem.W.EachIs (fun v b => ∃ t, v = Value.str b t) us xs → StrsAre us xs
  | _, _, .nil => .nil
  | _, _, .cons ⟨t, e⟩ h => by subst e; exact .cons _ t (strs_each h)
theorem cr_sortedL (hu : X.A.units + 2 < cLine) : CallR X (.builtin "sorted") (rSortedL X.K) := by
  intro pins s σ H vs us Q I r h
  obtain ⟨a, xs, rfl, hs, q⟩ := h
  obtain ⟨its, rv, hl, hz⟩ := I.list hs
  rw [Vals.ref1 r]
  rw [List.length_map] at hz
  have e := each_strs rv.strs
  refine PySem.W.sorted_data (enc := fun b => .str b) hl.isList e (e.mono fun v b ⟨t, ht⟩ => ⟨[], by subst ht; exact .str _ _⟩) (PySem.W.AllAlike.of fun b b' => by simp [PySem.W.alike]) (PySem.W.Sortable.others fun b => ⟨fun z => (nomatch z), fun _ z => (nomatch z)⟩) hz (fun b _ => by show X.A.units + 2 + 0 < cLine; exact hu) fun out ho eo => ?_
  rw [PySem.W.dataLe_str (fun b => b)] at eo
  obtain ⟨ep, he'⟩ := PyProof.Rows.sortedAll_at s.heap its out.toArray
  have hlen : ((xs.mergeSort leS).map V.str).length ≤ sizeLine := by rw [List.length_map, List.length_mergeSort]; exact hz
  exact ⟨.ref _, upd H (s.heap.objs.size + 1) (.lst ((xs.mergeSort leS).map V.str)), I.laid (t' := s.toks) (fun _ _ => PyProof.Rows.sortedAll_old) (Nat.le_succ _) ⟨hlen, out, ep, vals_of_strs (strs_each eo), he'⟩, rfl, q _ (I.hok.fresh (Nat.le_succ _))⟩
end
end My


/-! Own5: == with a built-in on the left and an instance on the right. -/
namespace My
open PySem PySem.Spec PyProof.Rows L2 PySem.W
open AutoSeq1 (wpAny_loadPart')
section
variable {prog : Program} {w : World} {A : Around} {E : Value → Shared → Prop} {s : Shared} {K : Frag} {x C L f dx : Addr} {h₀ : Heap} {m : Str → Option Value} {ox : Obj} {od : Option Obj}
theorem cmp_KR {a : Value} {T id : String} {Q : Value → Shared → Prop} (hu : A.units < cLine) (F : Fr h₀ L s.heap m) (X₀ : K.In h₀) (I : InstAt s.heap x ox C od) (ha : s.TypeIs a T) (hsub : subIn K (.ref C) (.type T) = some false) (h1 : Slot T (cmpInfo .Eq).2.1 id)
    (hc : ∀ Q' : Value → Shared → Prop, Q' .notImplemented s → wpAny (model prog w) A (call (.builtin id) [a, .ref x]) Q' E s)
    (hs : findIn K (.ref C) "__eq__" = some (some (.ref f))) (hf : isFn K (.ref f) = true)
    (h : wpAny (model prog w) A (call (.ref f) [.ref x, a]) (PySem.W.CmpBack Q) E s) : wpAny (model prog w) A (richCompare .Eq a (.ref x)) Q E s := by
  have X := X₀.keeps F.keep
  have one : wpAny (model prog w) A (tryCompare (.ref x) "__eq__" a) (fun r s' => ∃ v, r = some v ∧ Q v s') E s := by
    unfold tryCompare
    refine wpAny_bind (ifBound_K X I hs hf (wpAny_mono h (fun v s' hv => ?_) fun _ _ e => e))
    cases v <;> first | exact hv.elim | exact wpAny_pure ⟨_, rfl, hv⟩
  rcases hi : cmpInfo CmpOp.Eq with ⟨sym, g, r⟩
  have hi2 : (cmpInfo CmpOp.Eq).2.2 = "__eq__" := rfl
  rw [hi] at h1 hi2
  simp only [richCompare, hi, ha.oneThing_none]
  refine wpAny_holding (wpAny_bind (wpAny_cRoomFor hu ?_))
  refine wpAny_bind (wpAny_typeOf ha (wpAny_bind (I.type.here ?_)))
  have hne : (Value.type T != Value.ref C) = true := rfl
  simp only [hne, if_true]
  refine wpAny_bind ((looks_subIn X hsub).here ?_)
  simp only [Bool.false_eq_true, if_false, Bool.not_false, if_true]
  refine wpAny_bind (m := tryCompare a _ (.ref x)) (wpAny_tryCompare_declines ha h1 (hc _ ⟨rfl, ?_⟩))
  have hi3 : r = "__eq__" := hi2
  subst hi3
  refine wpAny_bind (m := tryCompare (.ref x) _ a) (wpAny_mono one (fun r s' z => ?_) fun _ _ e => e)
  obtain ⟨v, rfl, hq⟩ := z
  exact wpAny_pure hq
theorem decl_none {Q : Value → Shared → Prop} (h : Q .notImplemented s) : wpAny (model prog w) A (call (.builtin "NoneType.__eq__") [.none, .ref x]) Q E s := by
  refine GQ.call_here F.slot_NoneType_eq rfl F.entry_NoneType_eq (F.args_NoneType_eq_2 _ _) ?_
  obtain ⟨hp, g, d, tk, os⟩ := s
  wp_walk
  exact h
theorem decl_int {i : Int} {t : Tok} {Q : Value → Shared → Prop} (I : s.heap.get? x = some (instObj C dx)) (h : Q .notImplemented s) : wpAny (model prog w) A (call (.builtin "int.__eq__") [.int i t, .ref x]) Q E s := by
  refine GQ.call_here F.slot_int_eq rfl F.entry_int_eq (F.args_int_eq_2 _ _) ?_
  obtain ⟨hp, g, d, tk, os⟩ := s
  wp_walk using wpAny_loadPart' I, wpAny_load I
  exact h
theorem decl_str {z : Str} {t : Tok} {Q : Value → Shared → Prop} (I : s.heap.get? x = some (instObj C dx)) (h : Q .notImplemented s) : wpAny (model prog w) A (call (.builtin "str.__eq__") [.str z t, .ref x]) Q E s := by
  refine GQ.call_here F.slot_str_eq rfl F.entry_str_eq (F.args_str_eq_2 _ _) ?_
  obtain ⟨hp, g, d, tk, os⟩ := s
  wp_walk using wpAny_loadPart' I, wpAny_load I
  exact h
theorem decl_list {l : Addr} {ol : Obj} {Q : Value → Shared → Prop} (X : K.In s.heap) (I : InstAt s.heap x ox C od) (hsub : subIn K (.ref C) (.type "list") = some false) (hl : s.heap.get? l = some ol) (hc : ol.cls = .type "list") (h : Q .notImplemented s) : wpAny (model prog w) A (call (.builtin "list.__eq__") [.ref l, .ref x]) Q E s := by
  refine GQ.call_here F.slot_list_eq ⟨_, hl, hc⟩ F.entry_list_eq (F.args_list_eq_2 _ _) ?_
  show wpAny _ _ (isInstance (.ref x) (.type "list") >>= _) _ _ _
  unfold isInstance
  refine wpAny_bind (wpAny_bind (I.type.here ((looks_subIn X hsub).here ?_)))
  obtain ⟨hp, g, d, tk, os⟩ := s
  wp_walk
  exact h
theorem decl_dict {l : Addr} {ol : Obj} {Q : Value → Shared → Prop} (X : K.In s.heap) (I : InstAt s.heap x ox C od) (hsub : subIn K (.ref C) (.type "dict") = some false) (hl : s.heap.get? l = some ol) (hc : ol.cls = .type "dict") (h : Q .notImplemented s) : wpAny (model prog w) A (call (.builtin "dict.__eq__") [.ref l, .ref x]) Q E s := by
  refine GQ.call_here F.slot_dict_eq ⟨_, hl, hc⟩ F.entry_dict_eq (F.args_dict_eq_2 _ _) ?_
  show wpAny _ _ (isInstance (.ref x) (.type "dict") >>= _) _ _ _
  unfold isInstance
  refine wpAny_bind (wpAny_bind (I.type.here ((looks_subIn X hsub).here ?_)))
  obtain ⟨hp, g, d, tk, os⟩ := s
  wp_walk
  exact h
end
/-- what may stand on the left -/
def LeftB (K : Frag) (H : Hp) (x : V) : Prop := x = .non ∨ (∃ i, x = .int i) ∨ (∃ z, x = .str z) ∨ (∃ l xs, x = .ref l ∧ SqL K H l xs) ∨ ∃ l kvs, x = .ref l ∧ Rd H l (.dK kvs)
def subsNo (K : Frag) (C : Addr) : Bool := ["NoneType", "int", "str", "list", "dict"].all fun T => subIn K (.ref C) (.type T) == some false
def rOwnEqR (K : Frag) (C : Addr) (sp : Sp) : R2 := fun x y H Q => (∃ a dx fs, y = .ref a ∧ Rd H a (.ins C dx fs)) ∧ LeftB K H x ∧ sp [y, x] H Q E0
section
variable {X : Cx} {k : Nat} {f C : Addr} {fd : FuncData} {ps : List Str} {sp : Sp}
theorem op_ownEqR (F : FnOk X.prog X.w X.K X.mg X.base CX0 k f fd ps sp) (hr : Room k X.A) (hb : Binds X.K fd ps []) (hn : subsNo X.K C = true)
    (hs : PySem.W.findIn X.K (.ref C) "__eq__" = some (some (.ref f))) (hf : PySem.W.isFn X.K (.ref f) = true) : OpR X (compareOp .Eq) (rOwnEqR X.K C sp) := by
  intro pins s σ H x y v u Q I rx ry h
  obtain ⟨⟨a, dx, fs, rfl, ha⟩, hl, h⟩ := h
  cases ry
  have sub : ∀ T ∈ ["NoneType", "int", "str", "list", "dict"], subIn X.K (.ref C) (.type T) = some false := fun T hT => beq_iff_eq.mp (List.all_eq_true.mp hn T hT)
  obtain ⟨mA, J, _⟩ := ins_rd I.hok ha
  have ob := J.obj
  obtain ⟨od, J, _⟩ := J.look
  obtain ⟨m, hF⟩ := I.fr
  show wpAny (model X.prog X.w) X.A (richCompare .Eq v (.ref a)) (EP X pins σ Q) X.xe s
  have run : wpAny (model X.prog X.w) X.A (call (.ref f) [.ref a, v]) (PySem.W.CmpBack (EP X pins σ Q)) X.xe s :=
    wpAny_mono (run_fn (us := [.ref a, v]) (vs := [.ref a, x]) F hr hb .nil pass0 I (.cons rfl (.cons rx .nil)) (by rw [List.append_nil]; exact h)) (fun w s' hw => back_of hw) fun _ _ z => z
  rcases hl with rfl | ⟨i, rfl⟩ | ⟨z, rfl⟩ | ⟨l, xs, rfl, hx⟩ | ⟨l, kvs, rfl, hx⟩
  · cases rx
    exact cmp_KR hr.units0 hF I.ok.mod.kin J (T := "NoneType") rfl (sub _ (by decide)) PySem.F.slot_NoneType_eq (fun Q' q => decl_none q) hs hf run
  · obtain ⟨t, rfl⟩ := rx
    exact cmp_KR hr.units0 hF I.ok.mod.kin J (T := "int") rfl (sub _ (by decide)) PySem.F.slot_int_eq (fun Q' q => decl_int ob q) hs hf run
  · obtain ⟨t, rfl⟩ := rx
    exact cmp_KR hr.units0 hF I.ok.mod.kin J (T := "str") rfl (sub _ (by decide)) PySem.F.slot_str_eq (fun Q' q => decl_str ob q) hs hf run
  · cases rx
    obtain ⟨its, rv, ⟨o, n, ho, hc, _⟩, _⟩ := I.list hx
    exact cmp_KR hr.units0 hF I.ok.mod.kin J (T := "list") ⟨o, ho, hc⟩ (sub _ (by decide)) PySem.F.slot_list_eq (fun Q' q => decl_list I.kIn J (sub _ (by decide)) ho hc q) hs hf run
  · cases rx
    obtain ⟨z, lo, vs, rel, dd⟩ := dk_rd I.hok hx
    obtain ⟨ep, o, es, ho, hc0, _⟩ := dd.dictAt
    have hc := hc0.1
    exact cmp_KR hr.units0 hF I.ok.mod.kin J (T := "dict") ⟨o, ho, hc⟩ (sub _ (by decide)) PySem.F.slot_dict_eq (fun Q' q => decl_dict I.kIn J (sub _ (by decide)) ho hc q) hs hf run
end
end My


/-! Own6: list(o) of an instance whose __iter__ is iter(self.f). -/
namespace My
open PySem PySem.Spec PyProof.Rows L2
theorem sql_upd {K : PySem.W.Frag} {H : Hp} {l q : Addr} {xs : List V} {o : HO} (h : SqL K H l xs) (hq : H q = none) : SqL K (upd H q o) l xs := by
  rcases h with h | h
  · refine .inl ?_
    rcases h with h | ⟨u, h⟩
    · exact .inl (by rw [upd_ne (ne_of_none h hq)]; exact h)
    · exact .inr ⟨u, by rw [upd_ne (ne_of_none h hq)]; exact h⟩
  · exact .inr h
section
variable {X : Cx} {k : Nat} {fi C : Addr} {fd : FuncData} {ps : List Str} {fld : Str} {pins : List (Addr × Obj)} {σ : L2.St} {A1 : Around}
theorem ownL_loop {H : Hp} {it l q : Addr} {xs : List V} {Rs : Result → Shared → Prop} (hh : A1.in1.handled = none) (hqn : H q = none) (hx : SqL X.K H l xs) (hz : xs.length ≤ sizeLine) (hi : FpOk X pins H it) (hne : it ≠ q)
    (hdone : ∀ s, Inv X pins σ (upd H q (.lst xs)) s → Rs (.ok (.ret .none)) s) :
    ∀ (n i : Nat) (s : Shared), xs.length - i = n → i ≤ xs.length → Inv X pins σ (upd H q (.lst (xs.take i))) s → s.heap.IsListIter it l i → codeAny (model X.prog X.w) A1 (.builtin "list.extend.loop" ⟨[.ref q, .ref it, .none], []⟩) Rs s := by
  obtain ⟨f0, f1, f2, f3, f4, f5⟩ := hi
  intro n
  induction n with
  | zero =>
    intro i s hn hi I st
    have e : xs.take i = xs := List.take_of_length_le (by omega)
    rw [e] at I
    obtain ⟨its, rv, p, _⟩ := I.list (sql_upd hx hqn)
    have hl := rv.length
    refine codeAny_builtin PySem.F.entry_extend_loop ?_
    rw [Around.under_plainId PySem.F.plain_extend_loop _]
    show wpAny _ A1.in1 (pyNext (.ref it) >>= _) _ _ s
    refine wpAny_bind (wpAny_pyNext_list_end hh st p.isList (by simp; omega) fun h' eb => ?_)
    refine wpAny_pure (hdone _ (I.turned (t' := s.toks) (fun b o hb e => eb b o hb e) ?_ f1 f3 f4 f5))
    rw [upd_ne hne]
    exact f0
  | succ n ih =>
    intro i s hn hi I st
    have hlt : i < xs.length := by omega
    obtain ⟨its, rv, p, _⟩ := I.list (sql_upd hx hqn)
    obtain ⟨u, hu, ru⟩ := rv.get (List.getElem?_eq_getElem hlt)
    refine codeAny_builtin PySem.F.entry_extend_loop ?_
    rw [Around.under_plainId PySem.F.plain_extend_loop _]
    show wpAny _ A1.in1 (pyNext (.ref it) >>= _) _ _ s
    refine wpAny_bind (wpAny_pyNext_list_item st p.isList (x := u) (by simpa using hu) fun h' st' sb => ?_)
    have I1 : Inv X pins σ (upd H q (.lst (xs.take i))) { s with heap := h' } := I.turned (t' := s.toks) (fun b o hb e => (sb.2 b hb).trans e) (by rw [upd_ne hne]; exact f0) f1 f3 f4 f5
    show wpAny _ A1.in1 (updateSeq q (·.push u) >>= _) _ _ _
    obtain ⟨z, its2, m, r2, hl2, e2⟩ := I1.lstM upd_same
    have hlen : its2.length = i := by rw [← r2.length, List.length_take]; omega
    refine wpAny_bind (wpAny_updateSeq e2 rfl (wpAny_pure ⟨plainId_quiet PySem.F.plain_extend_loop _, ?_⟩) (by rw [List.size_toArray]; omega) (by show (its2.toArray.push u).size ≤ sizeLine + 1; rw [Array.size_push, List.size_toArray]; omega))
    have I2 := I1.lset (f := (·.push u)) (its' := its2 ++ [u]) (ys := xs.take i ++ [xs[i]]) (t' := s.toks) upd_same e2 (by simp) (r2.append (.cons ru .nil)) (by rw [List.length_append, List.length_take, List.length_singleton]; omega)
    rw [upd_upd, List.take_append_getElem hlt] at I2
    refine ih (i + 1) _ (by omega) hlt I2 ?_
    exact st'.at fun o e => (Heap.get?_update_other _ _ (fun z => hne z.symm)).trans e
theorem ownL_hint {M : Model} {A : Around} {E : Value → Shared → Prop} {s : Shared} {a : Addr} {Q : Bool → Shared → Prop} {K : PySem.W.Frag} {ox : Obj} {od : Option Obj} (h1 : PySem.W.findIn K (.ref C) "__len__" = some none) (h2 : PySem.W.findIn K (.ref C) "__length_hint__" = some none) (hK : K.In s.heap) (J : PySem.W.InstAt s.heap a ox C od) (h : Q true s) :
    wpAny M A (Builtin.List.listLengthHint (.ref a)) Q E s := by
  unfold Builtin.List.listLengthHint
  refine wpAny_bind (wpAny_bind (J.type.here ((PySem.W.looks_findIn hK h1).here ?_)))
  refine PySem.W.KFB.if_not rfl ?_
  refine PySem.W.KFB.if_not rfl ?_
  refine wpAny_bind (wpAny_bind (J.type.here ((PySem.W.looks_findIn hK h2).here ?_)))
  exact wpAny_pure h
/-- list(o) -/
def rListOwn (K : PySem.W.Frag) (C : Addr) (fld : Str) : List V → Hp → VK → Prop := fun xs H Q => ∃ (a dx l : Addr) (fs : List (Str × V)) (ys : List V), xs = [.ref a] ∧ Rd H a (.ins C dx fs) ∧ fs.lookup fld = some (.ref l) ∧ SqL K H l ys ∧ ∀ q, H q = none → Q (.ref q) (upd H q (.lst ys))
theorem rd_upd {H : Hp} {l q : Addr} {o u : HO} (h : Rd H l u) (hq : H q = none) : Rd (upd H q o) l u := by
  rcases h with h | ⟨z, h⟩
  · exact .inl (by rw [upd_ne (ne_of_none h hq)]; exact h)
  · exact .inr ⟨z, by rw [upd_ne (ne_of_none h hq)]; exact h⟩
theorem rd_ne {H : Hp} {l q : Addr} {u : HO} (h : Rd H l u) (hq : H q = none) : q ≠ l := by
  rintro rfl
  rcases h with h | ⟨z, h⟩ <;> (rw [hq] at h; cases h)
theorem call_listOwnF (hcalm : X.calm = true) (F : NOk X.prog X.w X.K X.mg X.base k fi fd ps (spItF X.K C fld)) (hr : Room (k + 2) X.A) (hb : Binds X.K fd ps []) (hs : PySem.W.findIn X.K (.ref C) "__iter__" = some (some (.ref fi))) (hf : PySem.W.isFn X.K (.ref fi) = true)
    (h1 : PySem.W.findIn X.K (.ref C) "__len__" = some none) (h2 : PySem.W.findIn X.K (.ref C) "__length_hint__" = some none) : CallR X (.type "list") (rListOwn X.K C fld) := by
  intro pins s σ H xs us Q I rv h
  obtain ⟨a, dx, l, fs, ys, rfl, ha, hl, hx, hq⟩ := h
  obtain ⟨u, rfl, ru⟩ := rv.one
  cases ru
  have hz : ys.length ≤ sizeLine := let ⟨_, _, _, z⟩ := I.list hx; z
  refine callType_codes (Q₁ := fun obj s₁ => obj = .ref s.heap.objs.size ∧ s₁ = { s with heap := s.heap.push { cls := .type "list", data := .seq #[] } }) PySem.F.called_list (PySem.F.typeCall_list_1 _) PySem.F.entry_list_init
    (code_list_new _ ⟨rfl, rfl⟩) fun obj s₁ h₁ => ?_
  obtain ⟨rfl, rfl⟩ := h₁
  have hS : (s.heap.push { cls := .type "list", data := .seq #[] }).get? s.heap.objs.size = some { cls := .type "list", data := .seq #[] } := Heap.get?_push_size _ rfl
  refine ⟨⟨_, hS, rfl⟩, PySem.F.args_list_init_2 _ _, ?_⟩
  have fr : H s.heap.objs.size = none := I.hok.fresh (Nat.le_refl _)
  have I1 : Inv X pins σ (upd H s.heap.objs.size (.lst [])) { s with heap := s.heap.push { cls := .type "list", data := .seq #[] } } := I.lnew (its := []) (t' := s.toks) .nil (Nat.zero_le _)
  show wpAny _ _ (do let old ← Builtin.List.listItems (.ref s.heap.objs.size); Builtin.List.listUpdate (.ref s.heap.objs.size) (fun _ => #[]); letGo old.toList.reverse; Builtin.List.listExtendWith (.ref s.heap.objs.size) (.ref a) .none) _ _ _
  refine wpAny_bind ?_
  unfold Builtin.List.listItems
  refine wpAny_bind (wpAny_seqItems hS rfl (wpAny_pure ?_))
  show wpAny _ _ (updateSeq s.heap.objs.size (fun _ => #[]) >>= fun _ => letGo (#[] : Array Value).toList.reverse >>= fun _ => Builtin.List.listExtendWith (.ref s.heap.objs.size) (.ref a) .none) _ _ _
  refine wpAny_bind (wpAny_updateSeq hS rfl ?_)
  have I2 := I1.lset (f := fun _ => #[]) (its := []) (its' := []) (ys := []) (t' := s.toks) upd_same hS rfl .nil (Nat.zero_le _)
  rw [upd_upd] at I2
  refine wpAny_bind (wpAny_letGo ?_)
  have ha2 : Rd (upd H s.heap.objs.size (.lst [])) a (.ins C dx fs) := rd_upd ha fr
  have hx2 : SqL X.K (upd H s.heap.objs.size (.lst [])) l ys := sql_upd hx fr
  have hne := rd_ne ha fr
  revert I2
  generalize (Shared.mk _ _ _ _ _ : Shared) = s2
  intro I2
  obtain ⟨mA, J, _⟩ := ins_rd I2.hok ha2
  obtain ⟨od, J, _⟩ := J.look
  unfold Builtin.List.listExtendWith
  refine wpAny_bind (J.type.here ?_)
  have e1 : Builtin.List.listSameRef (.ref s.heap.objs.size) (.ref a) = false := by simp [Builtin.List.listSameRef, hne]
  have e2 : (Value.ref C == Value.type "list") = false := rfl
  have e3 : (Value.ref C == Value.type "tuple") = false := rfl
  simp only [e1, e2, e3, Bool.or_false, Bool.false_eq_true, if_false]
  refine wpAny_bind (own_pyIter (A := X.A.in1.in1) rfl F hr.in1.in1 hb hs hf I2 ha2 hl hx2 fun it s3 n1 n2 I3 => ?_)
  have hi : upd (upd H s.heap.objs.size (.lst [])) it (ItO l it 0) it = some (ItO l it 0) := upd_same
  have eo := itO_get I3 hi
  have st : s3.heap.IsListIter it l 0 := ⟨_, eo, rfl, rfl⟩
  have hi' := hi
  unfold ItO at hi'
  have fp := ItX.inv_fp I3 hi (Nat.le_trans I2.sz n2)
  have I4 := ItX.inv_drop I3 hi'
  have ed : ItX.dropH (upd (upd H s.heap.objs.size (.lst [])) it (ItO l it 0)) it = upd H s.heap.objs.size (.lst []) := ItX.dropH_upd n1
  rw [ed] at I4
  rw [ed] at fp
  have hne2 : it ≠ s.heap.objs.size := by
    rintro rfl
    rw [upd_same] at n1
    cases n1
  have fp0 : FpOk X pins H it := ⟨by rw [upd_ne hne2] at n1; exact n1, fp.2⟩
  have fin : ∀ s', Inv X pins σ (upd H s.heap.objs.size (.lst ys)) s' → wants (fun r s₂ => r = .none ∧ EP X pins σ Q (.ref s.heap.objs.size) s₂) X.xe (.ok (.ret .none)) s' := fun s' I' => ⟨rfl, .ref s.heap.objs.size, _, I', rfl, hq _ fr⟩
  obtain ⟨mA', J', _⟩ := ins_rd I4.hok ha2
  obtain ⟨od', J', _⟩ := J'.look
  refine wpAny_bind (wpAny_holding (ownL_hint h1 h2 I4.kIn J' ?_))
  obtain ⟨z, its, kk, r3, hl3, e3⟩ := I4.lstM upd_same
  cases r3
  have hd : X.A.in1.in1.handled = none := I.ok.hd hcalm
  refine wpAny_ite_split (fun _ => ?_) (fun _ => wpAny_pure ⟨plainId_quiet PySem.F.plain_extend_loop _, ownL_loop (A1 := X.A.in1) hd fr hx hz fp0 hne2 fin _ 0 s3 rfl (Nat.zero_le _) I4 st⟩)
  refine wpAny_bind (wpAny_rule ?_)
  refine wpAny_bind ?_
  show wpAny _ _ (updateSeq s.heap.objs.size (·.push .none) >>= fun _ => updateSeq s.heap.objs.size (·.pop)) _ _ _
  refine wpAny_bind (wpAny_updateSeq e3 rfl ?_)
  have I5 := I4.lset (f := (·.push Value.none)) (its' := [Value.none]) (ys := [.non]) (t' := s3.toks) upd_same e3 (by simp) (.cons rfl .nil) (by rw [List.length_singleton, sizeLine_eq]; decide)
  obtain ⟨z4, its4, k4, r4, hl4, e4⟩ := I5.lstM upd_same
  obtain ⟨u4, rfl, ru4⟩ := r4.one
  refine wpAny_updateSeq e4 rfl ?_ (by show 1 ≤ sizeLine; rw [sizeLine_eq]; decide) (by show 0 ≤ sizeLine + 1; exact Nat.zero_le _)
  have I6 := I5.lset (f := (·.pop)) (its := [u4]) (its' := []) (ys := []) (t' := s3.toks) upd_same e4 (by rfl) .nil (Nat.zero_le _)
  rw [upd_upd, upd_upd] at I6
  refine wpAny_pure ⟨plainId_quiet PySem.F.plain_extend_loop _, ownL_loop (A1 := X.A.in1) hd fr hx hz fp0 hne2 fin _ 0 _ rfl (Nat.zero_le _) I6 ?_⟩
  exact (st.at fun o e => (Heap.get?_update_other _ _ (fun z => hne2 z.symm)).trans e).at fun o e => (Heap.get?_update_other _ _ (fun z => hne2 z.symm)).trans e
end
end My


/-! Own7: == of two dicts, isinstance with locked instances, xs[::-1]. -/
namespace My
open PySem PySem.Spec PyProof.Rows L2
/-! ### == of two dicts of flat values, both answers -/
def hitV (kvs : List (Key × V)) (p : Key × V) : Bool := match valV kvs p.1 with
  | some y => eqV p.2 y
  | none => false
def eqKV (ks kvs : List (Key × V)) : Bool := ks.length == kvs.length && ks.all (hitV kvs)
theorem hits_any {A : Around} {s : Shared} {kvs : List (Key × V)} {vb : List (Key × Value)} (rb : KV kvs vb) (fb : ∀ k y, valV kvs k = some y → flatV y = true) {ks : List (Key × V)} {va : List (Key × Value)} (ra : KV ks va) :
    (∀ p ∈ ks, flatV p.2 = true) → PySem.W.KeqHits A s vb va (ks.all (hitV kvs)) := by
  unfold KV at ra
  induction ra with
  | nil => intro _; exact .nil
  | @cons p q ps qs h t ih =>
    intro hp
    obtain ⟨h1, h2⟩ := h
    have f := hp p List.mem_cons_self
    have it := ih fun p' hm => hp p' (List.mem_cons_of_mem _ hm)
    have rr := rb.val p.1
    obtain ⟨k, v⟩ := q
    have h1' : p.1 = k := h1
    rw [List.all_cons]
    cases hv : valV kvs p.1 with
    | none =>
      rw [hv] at rr
      have e := RelO.none_of rr
      rw [h1'] at e
      rw [show hitV kvs p = false from by unfold hitV; rw [hv], Bool.false_and]
      exact .miss e
    | some y =>
      rw [hv] at rr
      obtain ⟨z, hz, rz⟩ := rr.some_of
      rw [h1'] at hz
      rw [show hitV kvs p = eqV p.2 y from by unfold hitV; rw [hv]]
      exact .hit hz (eqAt_V h2 rz f (fb _ _ hv)) it
def rEqDict : R2 := fun x y H Q => ∃ a b ks kvs, x = .ref a ∧ y = .ref b ∧ Rd H a (.dK ks) ∧ Rd H b (.dK kvs) ∧ (∀ p ∈ ks, flatV p.2 = true) ∧ (∀ k y, valV kvs k = some y → flatV y = true) ∧ Q (.bl (eqKV ks kvs)) H
section
variable {X : Cx}
theorem op_eqDict (hu : X.A.units < cLine) : OpR X (compareOp .Eq) rEqDict := by
  intro pins s σ H x y v u Q I rx ry h
  obtain ⟨a, b, ks, kvs, rfl, rfl, ea, eb, fa, fb, q⟩ := h
  obtain rfl : v = Value.ref a := rx
  obtain rfl : u = Value.ref b := ry
  obtain ⟨_, ya, va, ra, da⟩ := dk_rd I.hok ea
  obtain ⟨_, yb, vb, rb, db⟩ := dk_rd I.hok eb
  refine PySem.W.keq_eq (knd := mixKind X.prog X.w) (r := ks.all (hitV kvs)) ya yb da db hu (fun _ => hits_any rb fb ra fa) (fin_bl I q ?_)
  unfold eqKV
  rw [ra.length, rb.length]
/-! ### isinstance -/
inductive TyD (K : PySem.W.Frag) (H : Hp) : V → Value → Prop where
  | x {x : V} {t : Value} (h : TyX K H x t) : TyD K H x t
  | ins {a C dx : Addr} {fs : List (Str × V)} (e : Rd H a (.ins C dx fs)) (c : C8.InsC K C) : TyD K H (.ref a) (.ref C)
theorem kit_ofD {pins : List (Addr × Obj)} {σ : L2.St} {H : Hp} {s : Shared} {x : V} {u t : Value} (I : Inv X pins σ H s) (rx : RelV x u) (ty : TyD X.K H x t) : ∃ P : Heap → Prop, PySem.W.KitX X.K u t P ∧ P s.heap ∧ u ≠ .builtin "__main__.__loader__#opaque" := by
  cases ty with
  | x h => exact kit_of I rx h
  | @ins a C dx fs e c =>
    cases rx
    obtain ⟨mA, O, _⟩ := ins_rd I.hok e
    obtain ⟨od, J, _⟩ := O.look
    exact ⟨_, PySem.W.kitx_own (c.cl.get _) c.cl.hd c.ha c.hn c.htk c.hm, J, fun z => nomatch z⟩
def rIsiD (K : PySem.W.Frag) : List V → Hp → VK → Prop := fun xs H Q => ∃ (x c : V) (t u : Value) (b : Bool), xs = [x, c] ∧ ClsV c u ∧ TyD K H x t ∧ PySem.W.kitOne K t u = some b ∧ Q (.bl b) H
theorem call_isiD : CallR X (.builtin "isinstance") (rIsiD X.K) := by
  intro pins s σ H xs us Q I r h
  obtain ⟨x, c, t, u, b, rfl, k, ty, e, q⟩ := h
  obtain ⟨u1, u2, rfl, r1, r2⟩ := vals2 r
  have e2 := k.eq r2
  subst e2
  obtain ⟨P, Z, p, hx⟩ := kit_ofD I r1 ty
  exact PySem.W.kia_one Z I.kIn p e hx fun tk => ⟨.bl b, H, I.tok tk, rfl, q⟩
/-- o == y, o an instance with own __eq__ -/
def rOwnEqD (K : PySem.W.Frag) (C : Addr) (sp : Sp) : R2 := fun x y H Q => (∃ a dx fs, x = .ref a ∧ Rd H a (.ins C dx fs)) ∧ (∃ t, TyD K H y t ∧ PySem.W.notFirst K C t = true) ∧ sp [x, y] H Q E0
theorem op_ownEqD {k : Nat} {f C : Addr} {fd : FuncData} {ps : List Str} {sp : Sp} (F : FnOk X.prog X.w X.K X.mg X.base CX0 k f fd ps sp) (hr : Room k X.A) (hb : Binds X.K fd ps [])
    (hs : PySem.W.findIn X.K (.ref C) "__eq__" = some (some (.ref f))) (hf : PySem.W.isFn X.K (.ref f) = true) : OpR X (compareOp .Eq) (rOwnEqD X.K C sp) := by
  intro pins s σ H x y v u Q I rx ry h
  obtain ⟨⟨a, dx, fs, rfl, ha⟩, ⟨t, ty, nf⟩, h⟩ := h
  cases rx
  obtain ⟨mA, J, _⟩ := ins_rd I.hok ha
  obtain ⟨od, J, _⟩ := J.look
  obtain ⟨P, Z, p, hx⟩ := kit_ofD I ry ty
  obtain ⟨m, hF⟩ := I.fr
  show wpAny (model X.prog X.w) X.A (richCompare .Eq (.ref a) u) (EP X pins σ Q) X.xe s
  refine PySem.W.cmp_K (op := .Eq) (tb := t) (hr.units0) hF I.ok.mod.kin J (Z.ty _ _ I.kIn p) nf hs hf (wpAny_mono (run_fn (us := [.ref a, u]) (vs := [.ref a, y]) F hr hb .nil pass0 I (.cons rfl (.cons ry .nil)) ?_) (fun w s' hw => back_of hw) fun _ _ z => z)
  rw [List.append_nil]
  exact h
end
/-! ### xs[::-1] -/
theorem range_pick {α : Type} : ∀ l : List α, (List.range l.length).filterMap (fun k => l[k]?) = l
  | [] => rfl
  | x :: r => by
    rw [List.length_cons, List.range_succ_eq_map, List.filterMap_cons]
    simp only [List.getElem?_cons_zero, List.filterMap_map]
    exact congrArg (x :: ·) (range_pick r)
theorem pick_rev (xs : List Value) : slicePick xs.toArray none none (some (-1)) = xs.reverse.toArray := by
  have e : sliceBounds none none (some (-1)) xs.toArray.size = ((xs.length : Int) - 1, -1, -1) := by simp [sliceBounds]
  unfold slicePick
  rw [e]
  dsimp only
  have e2 : sliceRange ((xs.length : Int) - 1) (-1) (-1) = (List.range xs.length).map fun k => xs.length - 1 - k := by
    unfold sliceRange
    have c : (if (-1 : Int) > 0 then (if (xs.length : Int) - 1 < -1 then (-1 - ((xs.length : Int) - 1) + -1 - 1) / -1 else 0) else (if (xs.length : Int) - 1 > -1 then ((xs.length : Int) - 1 - -1 - -1 - 1) / (- -1) else 0)) = (xs.length : Int) := by
      rw [if_neg (by decide)]
      by_cases h : (xs.length : Int) - 1 > -1
      · rw [if_pos h]
        simp
      · rw [if_neg h]
        omega
    simp only [c, Int.toNat_natCast]
    apply List.map_congr_left
    intro k hk
    have hk := List.mem_range.mp hk
    omega
  rw [e2, List.filterMap_map]
  congr 1
  have e3 : ∀ n, n ≤ xs.length → (List.range n).filterMap ((fun x => xs.toArray[x]?) ∘ fun k => xs.length - 1 - k) = (List.range n).filterMap (fun k => xs.reverse[k]?) := by
    intro n
    induction n with
    | zero => intro _; rfl
    | succ n ih =>
      intro hn
      rw [List.range_succ, List.filterMap_append, List.filterMap_append, ih (by omega)]
      congr 1
      have : xs.toArray[xs.length - 1 - n]? = xs.reverse[n]? := by
        rw [List.getElem?_reverse (by omega)]
        simp
      rw [List.filterMap_cons, List.filterMap_cons]
      have this2 : ((fun x => xs.toArray[x]?) ∘ fun k => xs.length - 1 - k) n = xs.reverse[n]? := this
      rw [this2]
      rfl
  have e4 := range_pick xs.reverse
  rw [List.length_reverse] at e4
  rw [e3 _ (Nat.le_refl _), e4]
def tRev (K : PySem.W.Frag) (te : TE) : TE := fun σ H Q => te σ H fun x H1 => ∃ a xs, x = .ref a ∧ SqL K H1 a xs ∧ ∀ p, H1 p = none → Q (.ref p) (upd H1 p (.lst xs.reverse))
theorem vals_rev : ∀ {vs : List V} {us : List Value}, Vals vs us → Vals vs.reverse us.reverse
  | _, _, .nil => .nil
  | _, _, .cons h t => by
    rw [List.reverse_cons, List.reverse_cons]
    exact (vals_rev t).append (.cons h .nil)
section
variable {X : Cx} {e m : Expr} {te : TE} {p2 pos : Pos}
theorem pe_rev (he : PE X e te) (hm : PE X m (tUn (rU fun i => .int (-i)) (tC (.int 1)))) : PE X (.Subscript e (.Slice none none (some m) p2) pos) (tRev X.K te) := by
  refine ⟨fun pins s σ H Q I h => ?_⟩
  refine Subscript_ (thn (he.run pins s σ H _ I h) fun v s1 ⟨x, H1, I1, r1, q1⟩ => ?_)
  refine wpAny_Slice (wpAny_pure (wpAny_pure ?_))
  rw [evalPart_some]
  refine thn (hm.run pins s1 σ H1 (fun v H' => v = .int (-1) ∧ H' = H1) I1 ⟨1, rfl, rfl, rfl⟩) fun vs s3 ⟨w, H3, I3, rw3, ew, eH⟩ => ?_
  subst ew eH
  obtain ⟨tk, rfl⟩ := rw3
  obtain ⟨a, xs, rfl, hx, q⟩ := q1
  cases r1
  have I4 : Inv X pins σ H3 { s3 with heap := s3.heap.push { cls := .type "slice", data := .fields #[.none, .none, .int (-1) tk] } } := I3.kept (t' := s3.toks) fun b ob q => Heap.get?_push_of_some _ q
  obtain ⟨its, r, ht, hz⟩ := I4.list hx
  have hlen := r.length
  show wpAny (model X.prog X.w) X.A (subscriptTail e (.Slice none none (some m) p2) (.ref a) (.ref s3.heap.objs.size)) (EP X pins σ Q) X.xe { s3 with heap := s3.heap.push { cls := .type "slice", data := .fields #[.none, .none, .int (-1) tk] } }
  refine tail_any (ops := [.ref a, .ref s3.heap.objs.size]) ht.isList.typeIs slot_list_getitem.lookup ?_ (by with_unfolding_all rfl)
  refine wpAny_getItem_list_slice ht.isList (Heap.IsSliceOf.new ..) .none .none (.int (-1) tk) (by simp) ?_ (by rw [List.size_toArray] <;> omega)
  rw [pick_rev]
  refine ⟨.ref _, _, I4.laid (t' := s3.toks) (o := .lst xs.reverse) (fun b ob q => Heap.get?_push_of_some _ q) (Nat.le_refl _) ?_, rfl, q _ (I4.hok.fresh (Nat.le_refl _))⟩
  exact ⟨by rw [List.length_reverse]; exact hz, _, 0, vals_rev r, Heap.get?_push_size _ rfl⟩
end
end My


/-! Q9: new dicts, own operators, isinstance over plain values. -/
namespace My
open PySem PySem.Spec PyProof.Rows L2
abbrev PDx := Sd → (List (Key × D) → Prop) → Prop
/-- a new dict comes -/
def LD (K : PySem.W.Frag) (s c : Addr) (H0 : Hp) (t : TE) (p : PDx) : Prop := ∀ (σ : L2.St) (σd : Sd) (H : Hp) (Q : VK) (P : List (Key × D) → Prop), Rel K s c H0 σ H σd → p σd P →
  (∀ kds a kvs H', P kds → H' a = some (.dK kvs) → H a = none → DRk K s H' kvs kds → Stp s c H H' → Q (.ref a) H') → t σ H Q
section
variable {K : PySem.W.Frag} {s c : Addr} {H0 : Hp}
def pNewM (p : PDx) : PEx := fun σd P => p σd fun kds => P (.dm kds)
theorem LD.le {t : TE} {p : PDx} (h : LD K s c H0 t p) : LE K s c H0 t (pNewM p) := fun σ σd H Q P R hp k =>
  h σ σd H Q _ R hp fun kds a kvs H1 h1 ha hn hd st => k _ _ H1 h1 ⟨a, kvs, rfl, ha, hd, (R.src.ne hn).1, (R.src.ne hn).2⟩ st
def pFrzM (p : PDx) : PEx := fun σd P => p σd fun kds => P (.dat (.dic kds))
theorem LD.frz {t : TE} {p : PDx} (h : LD K s c H0 t p) : LE K s c H0 (tFrz t) (pFrzM p) := fun σ σd H Q P R hp k => by
  refine h σ σd H _ _ R hp fun kds a kvs H1 h1 ha hn hd st => ⟨a, _, rfl, ha, trivial, fun o => ?_⟩
  have nn := R.src.ne hn
  have kl : Kp a H1 (upd H1 a (.frz o (.dK kvs))) := Kp.self
  have im : Im H1 (upd H1 a (.frz o (.dK kvs))) := kl.im ⟨_, ha, rfl⟩
  refine k _ _ _ h1 (.dic upd_same (hd.im im)) ⟨fun b o' nb hb => ?_, st.src.kp nn.1.symm nn.2.symm kl⟩
  exact kl _ _ (fun z => by subst z; rw [hn] at hb; cases hb) (st.kp _ _ nb hb)
def pNewD (a : PDx) (i : Nat) : PSx := fun e σd => a σd fun kds => e.nx (σd.set i (some (.dm kds)))
theorem rel_put {s c a : Addr} {H0 H H1 : Hp} {σ : L2.St} {σd : Sd} {i : Nat} {x : Cell} (R : Rel K s c H0 σ H σd) (st : Stp s c H H1) (hn : H a = none) (hc : CellR K s c H1 (.ref a) x) (hro : roC (some x) = false := by rfl) : Rel K s c H0 (σ.set i (some (.ref a))) H1 (σd.set i (some x)) := by
  have nn := R.src.ne hn
  refine (R.stp st).set (x := x) hc (fun _ b eb => by cases eb; exact Kp.none R.kp0 nn.1 hn) (fun _ b eb j nj lj hj => ?_) (fun z => by rw [hro] at z; cases z)
  cases eb
  obtain ⟨y, hy, hr⟩ := R.slot j _ hj
  rw [hy] at lj
  cases y with
  | none => cases lj
  | some y =>
    obtain ⟨b, eb, ⟨u, hb, _⟩, _⟩ := loose_at (i := 0) (l := 0) hr lj
    cases eb
    rw [hn] at hb
    cases hb
theorem S_newD {t : TE} {a : PDx} (i : Nat) (ha : LD K s c H0 t a) : LS K s c H0 (tAsg t (gName i)) (pNewD a i) := fun σ σd H E e R h k => by
  refine ha σ σd H _ _ R h fun kds a kvs H1 h1 hv hn hd st => ?_
  exact k.nx _ _ H1 h1 (rel_put R st hn ⟨a, kvs, rfl, hv, hd, R.src.ne hn⟩) (st.im R.src)
def pDNil : PDx := fun _ P => P []
theorem L_dnewK : LD K s c H0 tDNewK pDNil := fun σ σd H Q P R h k => by
  intro p hp
  exact k [] p [] _ h upd_same hp .nil (stp_new R.src hp)
def LCD (K : PySem.W.Frag) (r : List V → Hp → VK → Prop) (f : List Cell → (List (Key × D) → Prop) → Prop) : Prop := ∀ (s c : Addr) (vs : List V) (xs : List Cell) (H : Hp) (Q : VK) (P : List (Key × D) → Prop), CellsR K s c H vs xs → Src H s c → f xs P →
  (∀ kds a kvs H', P kds → H' a = some (.dK kvs) → H a = none → DRk K s H' kvs kds → Stp s c H H' → Q (.ref a) H') → r vs H Q
def pCBD (f : List Cell → (List (Key × D) → Prop) → Prop) (a : PAx) : PDx := fun σd P => a σd fun xs => f xs P
theorem L_cbd {r : List V → Hp → VK → Prop} {f : List Cell → (List (Key × D) → Prop) → Prop} {t : TA} {a : PAx} (hr : LCD K r f) (ha : LA K s c H0 t a) : LD K s c H0 (tCB r t) (pCBD f a) := fun σ σd H Q P R h k => by
  refine ha σ σd H _ _ R h fun xs vs H1 h1 r1 s1 => ?_
  exact hr s c vs xs H1 Q P r1 s1.src h1 fun kds a kvs H2 h2 ha hn hd s2 => k kds a kvs H2 h2 ha (Kp.none s1.kp (s1.src.ne hn).1 hn) hd (s1.trans s2)
/-! ### dict(d), dict(pairs), list(d) -/
def rDictD : List V → Hp → VK → Prop := fun xs H Q => ∃ (a : Addr) (kvs : List (Key × V)), xs = [.ref a] ∧ Rd H a (.dK kvs) ∧ ∀ p, H p = none → Q (.ref p) (upd H p (.dK kvs))
def gDictD : List Cell → (List (Key × D) → Prop) → Prop := fun xs P => ∃ x kds, xs = [x] ∧ dicK x = some kds ∧ P kds
theorem C_dictD : LCD K rDictD gDictD := fun s c vs xs H Q P hx S h k => by
  obtain ⟨x, kds, rfl, e, h⟩ := h
  obtain ⟨v, rfl, hv⟩ := one_of hx
  obtain ⟨a, kvs, rfl, ha, hd⟩ := dicK_at hv e
  refine ⟨a, kvs, rfl, ha, fun p hp => ?_⟩
  have e2 := stp_new (o := .dK kvs) S hp
  exact k _ _ _ _ h upd_same hp (hd.im (e2.im S)) e2
def rListD : List V → Hp → VK → Prop := fun xs H Q => ∃ (a : Addr) (kvs : List (Key × V)), xs = [.ref a] ∧ Rd H a (.dK kvs) ∧ ∀ p, H p = none → Q (.ref p) (upd H p (.lst (kvs.map fun kv => kV kv.1)))
def gListD : List Cell → (List D → Prop) → Prop := fun xs P => ∃ x kds, xs = [x] ∧ dicK x = some kds ∧ P (kds.map fun kd => keyD kd.1)
theorem DRk.keys {s : Addr} {H : Hp} : ∀ {kvs : List (Key × V)} {kds : List (Key × D)}, DRk K s H kvs kds → ∀ H', DRs K s H' (kvs.map fun kv => kV kv.1) (kds.map fun kd => keyD kd.1)
  | _, _, .nil, _ => .nil
  | _, _, .cons _ r, H' => .cons (keyD_dr _) (DRk.keys r H')
theorem C_listD : LCN K rListD gListD := fun s c vs xs H Q P hx S h k => by
  obtain ⟨x, kds, rfl, e, h⟩ := h
  obtain ⟨v, rfl, hv⟩ := one_of hx
  obtain ⟨a, kvs, rfl, ha, hd⟩ := dicK_at hv e
  refine ⟨a, kvs, rfl, ha, fun p hp => ?_⟩
  have e2 := stp_new (o := .lst (kvs.map fun kv => kV kv.1)) S hp
  exact k _ _ _ _ h upd_same hp (hd.keys _) e2
def rDictP (K : PySem.W.Frag) : List V → Hp → VK → Prop := fun xs H Q => ∃ (a : Addr) (ps : List Addr) (kvs : List (Key × V)), xs = [.ref a] ∧ SqL K H a (ps.map V.ref) ∧ Paired (fun p kv => SqT K H p [kV kv.1, kv.2]) ps kvs ∧ ∀ p, H p = none → Q (.ref p) (upd H p (.dK (mergeK [] kvs)))
def mergeG (kds more : List (Key × D)) : List (Key × D) := more.foldl (fun acc kd => putG acc kd.1 kd.2) kds
def pairD (kd : Key × D) : D := .tup [keyD kd.1, kd.2]
def gDictP : List Cell → (List (Key × D) → Prop) → Prop := fun xs P => ∃ x kds, xs = [x] ∧ seqL x = some (kds.map pairD) ∧ P (mergeG [] kds)
theorem DRk.merge {s : Addr} {H : Hp} : ∀ {more : List (Key × V)} {mored : List (Key × D)}, DRk K s H more mored → ∀ {kvs : List (Key × V)} {kds : List (Key × D)}, DRk K s H kvs kds → DRk K s H (mergeK kvs more) (mergeG kds mored)
  | _, _, .nil, _, _, h => h
  | _, _, .cons x r, _, _, h => DRk.merge r (h.put _ x)
theorem key_of_dr {s : Addr} {H : Hp} {v : V} {k : Key} (h : DR K s H v (keyD k)) : v = kV k := by
  cases k with
  | inl i => cases h; rfl
  | inr z => cases h; rfl
theorem pairs_at {s : Addr} {H : Hp} : ∀ {vs : List V} {kds : List (Key × D)}, DRs K s H vs (kds.map pairD) → ∃ ps kvs, vs = ps.map V.ref ∧ Paired (fun p kv => SqT K H p [kV kv.1, kv.2]) ps kvs ∧ DRk K s H kvs kds
  | _, [], h => by cases h; exact ⟨[], [], rfl, .nil, .nil⟩
  | _, kd :: kds, h => by
    cases h with
    | cons x r =>
      obtain ⟨ps, kvs, rfl, h1, h2⟩ := pairs_at r
      cases x with
      | @tup a us _ ha hu =>
        cases hu with
        | cons y z => cases z with
          | cons y2 z2 =>
            cases z2
            rw [key_of_dr y] at ha
            exact ⟨a :: ps, (kd.1, _) :: kvs, rfl, .cons (.inl (.inl ha)) h1, .cons y2 h2⟩
theorem C_dictP : LCD K (rDictP K) gDictP := fun s c vs xs H Q P hx S h k => by
  obtain ⟨x, kds, rfl, e, h⟩ := h
  obtain ⟨v, rfl, hv⟩ := one_of hx
  obtain ⟨a, us, rfl, ha, hd⟩ := seqL_at hv e
  obtain ⟨ps, kvs, rfl, h1, h2⟩ := pairs_at hd
  refine ⟨a, ps, kvs, rfl, ha, h1, fun p hp => ?_⟩
  have e2 := stp_new (o := .dK (mergeK [] kvs)) S hp
  exact k _ _ _ _ h upd_same hp (DRk.merge (h2.im (e2.im S)) .nil) e2
/-! ### operators that give a new list -/
def LOpN (K : PySem.W.Frag) (r : R2) (f : Cell → Cell → (List D → Prop) → Prop) : Prop := ∀ (s c : Addr) (v w : V) (x y : Cell) (H : Hp) (Q : VK) (P : List D → Prop), CellR K s c H v x → CellR K s c H w y → Src H s c → f x y P →
  (∀ ds a us H', P ds → H' a = some (.lst us) → H a = none → DRs K s H' us ds → Stp s c H H' → Q (.ref a) H') → r v w H Q
def pOpN (f : Cell → Cell → (List D → Prop) → Prop) (a b : PEx) : PNx := fun σd P => a σd fun x => b σd fun y => f x y P
theorem L_opN {r : R2} {f : Cell → Cell → (List D → Prop) → Prop} {ta tb : TE} {a b : PEx} (ho : LOpN K r f) (ha : LE K s c H0 ta a) (hb : LE K s c H0 tb b) : LN K s c H0 (tOp r ta tb) (pOpN f a b) := fun σ σd H Q P R h k => by
  refine ha σ σd H _ _ R h fun x v H1 h1 r1 s1 => ?_
  refine hb σ σd H1 _ _ (R.stp s1) h1 fun y w H2 h2 r2 s2 => ?_
  have st := s1.trans s2
  exact ho s c v w x y H2 Q P (r1.stp s1.src s2) r2 s2.src h2 fun ds a us H3 h3 ha hn hd s3 => k ds a us H3 h3 ha (Kp.none st.kp (st.src.ne hn).1 hn) hd (st.trans s3)
def fCat : Cell → Cell → (List D → Prop) → Prop := fun x y P => ∃ ds es, x = .lm ds ∧ y = .lm es ∧ ds.length + es.length ≤ 100000 ∧ P (ds ++ es)
theorem O_cat : LOpN K rCat fCat := fun s c v w x y H Q P hx hy S h k => by
  obtain ⟨ds, es, rfl, rfl, hl, h⟩ := h
  obtain ⟨a, us, rfl, ha, hd, _⟩ := hx
  obtain ⟨b, ws, rfl, hb, he, _⟩ := hy
  refine ⟨a, b, us, ws, rfl, rfl, ha, hb, by rw [hd.len, he.len]; exact Nat.le_trans hl (by decide), fun p hp => ?_⟩
  have e2 := stp_new (o := .lst (us ++ ws)) S hp
  exact k _ _ _ _ h upd_same hp ((hd.append he).im (e2.im S)) e2
theorem DRs.rev {s : Addr} {H : Hp} : ∀ {vs : List V} {ds : List D}, DRs K s H vs ds → DRs K s H vs.reverse ds.reverse
  | _, _, .nil => .nil
  | _, _, .cons x r => by
    rw [List.reverse_cons, List.reverse_cons]
    exact (DRs.rev r).snoc x
def pRev (a : PEx) : PNx := fun σd P => a σd fun x => ∃ ds, seqL x = some ds ∧ P ds.reverse
theorem L_rev {t : TE} {a : PEx} (ha : LE K s c H0 t a) : LN K s c H0 (tRev K t) (pRev a) := fun σ σd H Q P R h k => by
  refine ha σ σd H _ _ R h fun x v H1 h1 r1 s1 => ?_
  obtain ⟨ds, e, h⟩ := h1
  obtain ⟨b, vs, rfl, hb, hd⟩ := seqL_at r1 e
  refine ⟨b, vs, rfl, hb, fun p hp => ?_⟩
  have e2 := stp_new (o := .lst vs.reverse) s1.src hp
  exact k _ _ _ _ h upd_same (Kp.none s1.kp (s1.src.ne hp).1 hp) (hd.rev.im (e2.im s1.src)) (s1.trans e2)
def gSortedL : List Cell → (List D → Prop) → Prop := fun xs P => ∃ (x : Cell) (zs : List Str), xs = [x] ∧ seqL x = some (zs.map D.str) ∧ P ((zs.mergeSort leS).map D.str)
theorem C_sortedL : LCN K (rSortedL K) gSortedL := fun s c vs xs H Q P hx S h k => by
  obtain ⟨x, zs, rfl, e, h⟩ := h
  obtain ⟨v, rfl, hv⟩ := one_of hx
  obtain ⟨a, us, rfl, ha, hd⟩ := seqL_at hv e
  cases strs_of hd
  refine ⟨a, zs, rfl, ha, fun p hp => ?_⟩
  exact k _ _ _ _ h upd_same hp (strs_dr _) (stp_new (o := .lst ((zs.mergeSort leS).map V.str)) S hp)
/-! ### == of dicts -/
def flatD : D → Bool
  | .non => true
  | .bl _ => true
  | .int _ => true
  | .str _ => true
  | _ => false
theorem flatD_at {s : Addr} {H : Hp} {v : V} {d : D} (h : DR K s H v d) (f : flatD d = true) : flatV v = true := by
  cases h <;> first | rfl | cases f
def hitD (kds : List (Key × D)) (p : Key × D) : Bool := match p.2, valD kds p.1 with
  | .int i, some (.int j) => i == j
  | _, _ => false
def allInt (kds : List (Key × D)) : Prop := ∀ p ∈ kds, ∃ i, p.2 = .int i
def eqKD (ks kds : List (Key × D)) : Bool := ks.length == kds.length && ks.all (hitD kds)
theorem valD_mem {kds : List (Key × D)} {k : Key} {d : D} (h : valD kds k = some d) : (k, d) ∈ kds := by
  unfold valD at h
  obtain ⟨p, h1, h2⟩ := Option.map_eq_some_iff.mp h
  have h3 := List.find?_some h1
  have h4 := List.mem_of_find?_eq_some h1
  obtain ⟨a, b⟩ := p
  cases of_decide_eq_true h3
  cases h2
  exact h4
theorem DRk.hit {s : Addr} {H : Hp} {kvs : List (Key × V)} {kds : List (Key × D)} (hb : DRk K s H kvs kds) (ib : allInt kds) : ∀ {ks : List (Key × V)} {kes : List (Key × D)}, DRk K s H ks kes → allInt kes → (∀ p ∈ ks, flatV p.2 = true) ∧ ks.all (hitV kvs) = kes.all (hitD kds)
  | _, _, .nil, _ => ⟨fun p hp => (by cases hp), rfl⟩
  | _, _, .cons (k := k) (v := v) (d := d) x r, ia => by
    obtain ⟨h1, h2⟩ := DRk.hit hb ib r fun p hp => ia p (List.mem_cons_of_mem _ hp)
    obtain ⟨i, hi⟩ := ia _ List.mem_cons_self
    cases (show d = .int i from hi)
    cases x
    refine ⟨fun p hp => ?_, ?_⟩
    · rcases List.mem_cons.mp hp with rfl | hp
      · rfl
      · exact h1 p hp
    · rw [List.all_cons, List.all_cons, h2]
      congr 1
      have o := hb.val k
      unfold hitV hitD
      dsimp only
      cases hv : valV kvs k with
      | none =>
        rw [hv] at o
        cases hd : valD kds k with
        | none => rfl
        | some y => rw [hd] at o; exact o.elim
      | some y =>
        rw [hv] at o
        cases hd : valD kds k with
        | none => rw [hd] at o; exact o.elim
        | some z =>
          rw [hd] at o
          obtain ⟨j, hj⟩ := ib _ (valD_mem hd)
          cases (show z = .int j from hj)
          cases (show DR K s H y (.int j) from o)
          rfl
def fEqDict : P2 := fun x y P => ∃ ks kds, dicK x = some ks ∧ dicK y = some kds ∧ allInt ks ∧ allInt kds ∧ P (cB (eqKD ks kds))
theorem O_eqDict : LOp K rEqDict fEqDict := fun s c v w x y H Q P hx hy S h k => by
  obtain ⟨ks, kds, e1, e2, i1, i2, h⟩ := h
  obtain ⟨a, kvs, rfl, ha, hd⟩ := dicK_at hx e1
  obtain ⟨b, kws, rfl, hb, he⟩ := dicK_at hy e2
  obtain ⟨h1, h2⟩ := DRk.hit he i2 hd i1
  refine ⟨a, b, kvs, kws, rfl, rfl, ha, hb, h1, fun j y hv => ?_, ?_⟩
  · have o := he.val j
    rw [hv] at o
    cases hd2 : valD kds j with
    | none => rw [hd2] at o; exact o.elim
    | some z =>
      rw [hd2] at o
      obtain ⟨i, hi⟩ := i2 _ (valD_mem hd2)
      cases (show z = .int i from hi)
      cases (show DR K s H y (.int i) from o)
      rfl
  · rw [show eqKV kvs kws = eqKD ks kds from by unfold eqKV eqKD; rw [hd.len, he.len, h2]]
    exact k _ _ H h (.bl _) (.refl S)
def fIsB (g : Bool → Bool) : P2 := fun x y P => ∃ a b, x = cB a ∧ y = cB b ∧ P (cB (g (decide (a = b))))
theorem O_notB : LOp K rNotB (fIsB not) := fun s c v w x y H Q P hx hy S h k => by
  obtain ⟨a, b, rfl, rfl, h⟩ := h
  exact ⟨a, b, bl_eq hx, bl_eq hy, k _ _ H h (.bl _) (.refl S)⟩
/-! ### isinstance -/
def tyN : D → Option String
  | .non => some "NoneType"
  | .bl _ => some "bool"
  | .int _ => some "int"
  | .str _ => some "str"
  | .tup _ => some "tuple"
  | .lst _ => some "list"
  | .dic _ => some "dict"
  | _ => none
theorem tyN_at {s : Addr} {H : Hp} {v : V} {d : D} {T : String} (h : DR K s H v d) (e : tyN d = some T) : TyX K H v (.type T) := by
  cases h with
  | non => cases e; exact .base .non
  | bl b => cases e; exact .base (.bl b)
  | int i => cases e; exact .base (.int i)
  | str z => cases e; exact .base (.str z)
  | tup h r => cases e; exact .base (.tup h)
  | lst h r => cases e; exact .base (.frz h)
  | dic h r => cases e; exact .fDict h
  | dit h r => cases e
  | ins h r => cases e
  | src => cases e
def bTys : List String := ["NoneType", "bool", "int", "str", "tuple", "list", "dict"]
theorem tyN_mem {d : D} {T : String} (e : tyN d = some T) : T ∈ bTys := by
  cases d <;> first | (cases e; decide) | cases e
/-- isinstance(x, T), T a built-in type -/
def pIsT (T : String) (a : PEx) : PEx := fun σd P => a σd fun x => ∃ d S b, x = .dat d ∧ tyN d = some S ∧ kitB S T = some b ∧ P (cB b)
theorem L_isT {T : String} {t : TE} {a : PEx} (ha : LE K s c H0 t a) : LE K s c H0 (tCB (rIsiD K) (tCons t (tCons (tC (.ty T)) tNil))) (pIsT T a) := fun σ σd H Q P R h k => by
  refine ha σ σd H _ _ R h fun x v H1 h1 r1 s1 => ?_
  obtain ⟨d, S, b, rfl, e, eb, h⟩ := h1
  exact ⟨v, .ty T, .type S, .type T, b, rfl, .ty T, .x (tyN_at r1 e), kit_ty eb, k _ _ H1 h (.bl _) s1⟩
/-- isinstance(x, C), C an own class -/
def isC (C : Addr) : D → Option Bool
  | .ins C' _ => if C' = C then some true else none
  | d => (tyN d).map fun _ => false
def notBs (K : PySem.W.Frag) (C : Addr) : Bool := bTys.all fun T => PySem.W.kitOne K (.type T) (.ref C) == some false
def pIsC (C : Addr) (a : PEx) : PEx := fun σd P => a σd fun x => ∃ d b, x = .dat d ∧ isC C d = some b ∧ P (cB b)
theorem isC_not {C : Addr} {d : D} {b : Bool} (h : isC C d = some b) : (∃ fs, d = .ins C fs ∧ b = true) ∨ ∃ T, tyN d = some T ∧ b = false := by
  by_cases hi : ∃ C' gs, d = .ins C' gs
  · obtain ⟨C', gs, rfl⟩ := hi
    have h : (if C' = C then some true else none) = some b := h
    by_cases e : C' = C
    · rw [if_pos e] at h
      cases h
      subst e
      exact .inl ⟨_, rfl, rfl⟩
    · rw [if_neg e] at h
      cases h
  · cases d <;> first
      | (cases h; exact .inr ⟨_, rfl, rfl⟩)
      | (exfalso; exact hi ⟨_, _, rfl⟩)
      | cases h
theorem L_isC {C : Addr} {t : TE} {a : PEx} (ic : C8.InsC K C) (nb : notBs K C = true) (ha : LE K s c H0 t a) : LE K s c H0 (tCB (rIsiD K) (tCons t (tCons (tC (.ref C)) tNil))) (pIsC C a) := fun σ σd H Q P R h k => by
  refine ha σ σd H _ _ R h fun x v H1 h1 r1 s1 => ?_
  obtain ⟨d, b, rfl, e, h⟩ := h1
  rcases isC_not e with ⟨fs, rfl, rfl⟩ | ⟨T, eT, rfl⟩
  · cases id r1 with
    | ins hi hf => exact ⟨_, .ref C, .ref C, .ref C, true, rfl, .own C, .ins (.inr ⟨_, hi⟩) ic, ic.me, k _ _ H1 h (.bl _) s1⟩
  · exact ⟨v, .ref C, .type T, .ref C, false, rfl, .own C, .x (tyN_at r1 eT), beq_iff_eq.mp (List.all_eq_true.mp nb T (tyN_mem eT)), k _ _ H1 h (.bl _) s1⟩
/-! ### own operators -/
variable {C : Addr} {q : QP}
theorem up_of {s c : Addr} {H : Hp} {vs : List V} {ds : List D} {P : D → Prop} {Q : VK} {E : XK} (mo : Mono q) (S : Src H s c) (hd : DRs K s H vs ds) (h : q ds P) (k : ∀ d v H', P d → DR K s H' v d → Stp s c H H' → Q v H') : up K q vs H Q E :=
  ⟨s, c, ds, S, hd, mo _ _ _ (fun d hp v H' r st => k d v H' hp r st) h⟩
def fOwn (C : Addr) (q : QP) : P2 := fun x y P => ∃ fs gs, x = .dat (.ins C fs) ∧ y = .dat (.ins C gs) ∧ q [.ins C fs, .ins C gs] fun d => P (.dat d)
theorem ins_rd' {s : Addr} {H : Hp} {v : V} {fs : List (Str × D)} (h : DR K s H v (.ins C fs)) : ∃ a dx us, v = .ref a ∧ Rd H a (.ins C dx us) := by
  cases h with
  | ins hi hf => exact ⟨_, _, _, rfl, .inr ⟨_, hi⟩⟩
theorem O_own (mo : Mono q) : LOp K (rOwn C (up K q)) (fOwn C q) := fun s c v w x y H Q P hx hy S h k => by
  obtain ⟨fs, gs, rfl, rfl, h⟩ := h
  exact ⟨ins_rd' hx, ins_rd' hy, up_of mo S (.cons hx (.cons hy .nil)) h fun d v H' hp r st => k _ _ H' hp r st⟩
def fOwnI (C : Addr) (q : QP) : P2 := fun x y P => ∃ fs i, x = .dat (.ins C fs) ∧ y = cI i ∧ q [.ins C fs, .int i] fun d => P (.dat d)
theorem O_ownI (mo : Mono q) : LOp K (rOwnI C (up K q)) (fOwnI C q) := fun s c v w x y H Q P hx hy S h k => by
  obtain ⟨fs, i, rfl, rfl, h⟩ := h
  exact ⟨ins_rd' hx, ⟨i, int_eq hy⟩, up_of mo S (.cons hx (.cons hy .nil)) h fun d v H' hp r st => k _ _ H' hp r st⟩
def fIOwn (C : Addr) (q : QP) : P2 := fun x y P => ∃ fs i, y = .dat (.ins C fs) ∧ x = cI i ∧ q [.ins C fs, .int i] fun d => P (.dat d)
theorem O_Iown (mo : Mono q) : LOp K (rIOwn C (up K q)) (fIOwn C q) := fun s c v w x y H Q P hx hy S h k => by
  obtain ⟨fs, i, rfl, rfl, h⟩ := h
  exact ⟨ins_rd' hy, ⟨i, int_eq hx⟩, up_of mo S (.cons hy (.cons hx .nil)) h fun d v H' hp r st => k _ _ H' hp r st⟩
def firstNo (K : PySem.W.Frag) (C : Addr) : Bool := PySem.W.notFirst K C (.ref C) && bTys.all fun T => PySem.W.notFirst K C (.type T)
def fOwnEq (C : Addr) (q : QP) : P2 := fun x y P => ∃ fs d b, x = .dat (.ins C fs) ∧ y = .dat d ∧ isC C d = some b ∧ q [.ins C fs, d] fun d => P (.dat d)
theorem O_ownEq (mo : Mono q) (ic : C8.InsC K C) (nf : firstNo K C = true) : LOp K (rOwnEqD K C (up K q)) (fOwnEq C q) := fun s c v w x y H Q P hx hy S h k => by
  obtain ⟨fs, d, b, rfl, rfl, e, h⟩ := h
  obtain ⟨n1, n2⟩ := Bool.and_eq_true_iff.mp nf
  refine ⟨ins_rd' hx, ?_, up_of mo S (.cons hx (.cons hy .nil)) h fun d v H' hp r st => k _ _ H' hp r st⟩
  rcases isC_not e with ⟨gs, rfl, rfl⟩ | ⟨T, eT, rfl⟩
  · obtain ⟨a, dx, us, rfl, hi⟩ := ins_rd' hy
    exact ⟨.ref C, .ins hi ic, n1⟩
  · exact ⟨.type T, .x (tyN_at hy eT), List.all_eq_true.mp n2 T (tyN_mem eT)⟩
def leftD : D → Bool
  | .non => true
  | .int _ => true
  | .str _ => true
  | .lst _ => true
  | .dic _ => true
  | _ => false
def fOwnEqR (C : Addr) (q : QP) : P2 := fun x y P => ∃ fs d, y = .dat (.ins C fs) ∧ x = .dat d ∧ leftD d = true ∧ q [.ins C fs, d] fun d => P (.dat d)
theorem O_ownEqR (mo : Mono q) : LOp K (rOwnEqR K C (up K q)) (fOwnEqR C q) := fun s c v w x y H Q P hx hy S h k => by
  obtain ⟨fs, d, rfl, rfl, e, h⟩ := h
  refine ⟨ins_rd' hy, ?_, up_of mo S (.cons hy (.cons hx .nil)) h fun d v H' hp r st => k _ _ H' hp r st⟩
  cases id hx with
  | non => exact .inl rfl
  | int i => exact .inr (.inl ⟨i, rfl⟩)
  | str z => exact .inr (.inr (.inl ⟨z, rfl⟩))
  | lst hl r => exact .inr (.inr (.inr (.inl ⟨_, _, rfl, .inl (.inr ⟨_, hl⟩)⟩)))
  | dic hl r => exact .inr (.inr (.inr (.inr ⟨_, _, rfl, .inr ⟨_, hl⟩⟩)))
  | bl b => cases e
  | tup h r => cases e
  | dit h r => cases e
  | ins h r => cases e
  | src => cases e
def fOwnIx (C : Addr) (q : QP) : P2 := fun x y P => ∃ fs d, x = .dat (.ins C fs) ∧ y = .dat d ∧ q [.ins C fs, d] fun d => P (.dat d)
theorem O_ownIx (mo : Mono q) : LOp K (rOwnIx C (up K q)) (fOwnIx C q) := fun s c v w x y H Q P hx hy S h k => by
  obtain ⟨fs, d, rfl, rfl, h⟩ := h
  exact ⟨ins_rd' hx, up_of mo S (.cons hx (.cons hy .nil)) h fun d v H' hp r st => k _ _ H' hp r st⟩
def fOwnIn (C : Addr) (q : QP) (g : Bool → Bool) : P2 := fun x y P => ∃ fs d, y = .dat (.ins C fs) ∧ x = .dat d ∧ q [.ins C fs, d] fun e => ∃ b, e = .bl b ∧ P (cB (g b))
theorem O_ownIn {g : Bool → Bool} (mo : Mono q) : LOp K (rOwnIn C (up K q) g) (fOwnIn C q g) := fun s c v w x y H Q P hx hy S h k => by
  obtain ⟨fs, d, rfl, rfl, h⟩ := h
  refine ⟨ins_rd' hy, up_of mo S (.cons hy (.cons hx .nil)) h fun d v H' hp r st => ?_⟩
  obtain ⟨b, rfl, hp⟩ := hp
  cases r
  exact ⟨b, rfl, k _ _ H' hp (.bl _) st⟩
theorem fld_lst {s : Addr} {H : Hp} {v : V} {fs : List (Str × D)} {fld : Str} {ds : List D} (h : DR K s H v (.ins C fs)) (e : fs.lookup fld = some (.lst ds)) : ∃ a dx us l o vs, v = .ref a ∧ Rd H a (.ins C dx us) ∧ us.lookup fld = some (.ref l) ∧ H l = some (.frz o (.lst vs)) ∧ DRs K s H vs ds := by
  cases h with
  | ins hi hf =>
    obtain ⟨u, hu, hr⟩ := hf.look e
    cases hr with
    | lst hl hd => exact ⟨_, _, _, _, _, _, rfl, .inr ⟨_, hi⟩, hu, hl, hd⟩
def pIOwn (C : Addr) (fld : Str) (a : PEx) : PNx := fun σd P => a σd fun x => ∃ fs ds, x = .dat (.ins C fs) ∧ fs.lookup fld = some (.lst ds) ∧ P ds
theorem I_own {fld : Str} {t : TE} {a : PEx} (ha : LE K s c H0 t a) : LI K s c H0 (iOwn K C fld t) (pIOwn C fld a) := fun σ σd H R P Rl h k => by
  refine ha σ σd H _ _ Rl h fun x v H1 h1 r1 s1 => ?_
  obtain ⟨fs, ds, rfl, e, h⟩ := h1
  obtain ⟨b, dx, us, l, o, vs, rfl, hi, hu, hl, hd⟩ := fld_lst r1 e
  refine ⟨b, dx, l, us, rfl, hi, hu, ⟨vs, .inl (.inr ⟨o, hl⟩)⟩, ?_⟩
  have w : Walk (Itl K l) ds.length (fun H => H l = some (.frz o (.lst vs))) (YAt vs) := by
    rw [← hd.len]
    exact walk_list.mono (fun H h => .inl (.inr ⟨o, h⟩)) fun i H x H' _ _ y => y
  refine k ds _ _ _ H1 h s1 w hl (fun A B im h => frz_im im h) fun i A x B hi im hG y => ?_
  obtain ⟨e, hx⟩ := y
  subst e
  obtain ⟨d, h1, h2⟩ := (hd.im im).get hx
  exact ⟨Same.refl _, d, h1, h2⟩
def gListOwn (C : Addr) (fld : Str) : List Cell → (List D → Prop) → Prop := fun xs P => ∃ fs ds, xs = [.dat (.ins C fs)] ∧ fs.lookup fld = some (.lst ds) ∧ P ds
theorem C_listOwn {fld : Str} : LCN K (rListOwn K C fld) (gListOwn C fld) := fun s c vs xs H Q P hx S h k => by
  obtain ⟨fs, ds, rfl, e, h⟩ := h
  obtain ⟨v, rfl, hv⟩ := one_of hx
  obtain ⟨b, dx, us, l, o, ws, rfl, hi, hu, hl, hd⟩ := fld_lst hv e
  refine ⟨b, dx, l, us, ws, rfl, hi, hu, .inl (.inr ⟨o, hl⟩), fun p hp => ?_⟩
  have e2 := stp_new (o := .lst ws) S hp
  exact k _ _ _ _ h upd_same hp (hd.im (e2.im S)) e2
end
end My


/-! Own8: an own class by its methods' promises. -/
namespace My
open PySem PySem.Spec PyProof.Rows L2
section
variable (P : Program) (w : World) (K : PySem.W.Frag) (mg : Str → Option Value) (base : Heap) (C : Addr)
/-- the method m of C -/
def OkM (m : Str) (k : Nat) (ps : List Str) (sp : Sp) : Prop := ∃ f fd, Meth K C m f ∧ PySem.W.fnIn K f = true ∧ Binds K fd ps [] ∧ FnOk P w K mg base CX0 k f fd ps sp
/-- __init__ -/
def OkI (k : Nat) (ps : List Str) (sp : Sp) : Prop := ∃ f fd, Mk K C f ∧ Binds K fd ps [] ∧ FnOk P w K mg base CX0 k f fd ps sp
/-- the property x of C -/
def OkP (x : Str) (k : Nat) (ps : List Str) (sp : Sp) : Prop := ∃ p g fd, PropOf K C x p g ∧ Binds K fd ps [] ∧ FnOk P w K mg base CX0 k g fd ps sp
/-- __iter__ that is iter(self.fld) -/
def OkIt (fld : Str) (k : Nat) (ps : List Str) : Prop := ∃ f fd, Meth K C "__iter__" f ∧ Binds K fd ps [] ∧ NOk P w K mg base k f fd ps (spItF K C fld)
end
/-- what is known of an own class -/
structure ClsK (K : PySem.W.Frag) (C : Addr) : Prop where
  cls : Cls K C
  ins : C8.InsC K C
  nb : notBs K C = true
  fn : firstNo K C = true
  sf : PySem.W.selfFirst K C = true
  s1 : PySem.W.subIn K (.type "int") (.ref C) = some false
  s2 : PySem.W.subIn K (.ref C) (.type "int") = some false
  sn : subsNo K C = true
section
variable {X : Cx} {C : Addr} {m m2 x : Str} {k k2 : Nat} {ps ps2 : List Str} {sp sp2 : Sp} {a b o e f : Expr} {es : List Expr} {ta tb to : TE} {t : TA} {p pos apos : Pos}
theorem opM {op : Operator} (G : OkM X.prog X.w X.K X.mg X.base C m k ps sp) (hr : Room k X.A) (Z : ClsK X.K C) (hm : PySem.dunder op.info.2 = m := by rfl) : OpR X (binaryOp op) (rOwn C sp) := by
  obtain ⟨f, fd, M, _, B, F⟩ := G
  subst hm
  exact op_own F hr B Z.sf M.at_ M.fn
theorem opM_mulI (G : OkM X.prog X.w X.K X.mg X.base C "__mul__" k ps sp) (G2 : OkM X.prog X.w X.K X.mg X.base C "__rmul__" k2 ps2 sp2) (hr : Room k X.A) (Z : ClsK X.K C) : OpR X (binaryOp .Mult) (rOwnI C sp) := by
  obtain ⟨f, fd, M, _, B, F⟩ := G
  obtain ⟨f2, fd2, M2, _, B2, F2⟩ := G2
  exact op_ownI F hr B Z.sf Z.s1 M.at_ M2.at_ M.fn
theorem opM_mulA {h : Addr} (hM : Meth X.K C "__rmul__" h) (G : OkM X.prog X.w X.K X.mg X.base C "__mul__" k ps sp) (hr : Room k X.A) (Z : ClsK X.K C) : OpR X (binaryOp .Mult) (rOwnI C sp) := by
  obtain ⟨f, fd, M, _, B, F⟩ := G
  exact op_ownI F hr B Z.sf Z.s1 M.at_ hM.at_ M.fn
theorem opM_Imul (G : OkM X.prog X.w X.K X.mg X.base C "__mul__" k ps sp) (G2 : OkM X.prog X.w X.K X.mg X.base C "__rmul__" k2 ps2 sp2) (hr : Room k2 X.A) (Z : ClsK X.K C) : OpR X (binaryOp .Mult) (rIOwn C sp2) := by
  obtain ⟨f, fd, M, _, B, F⟩ := G
  obtain ⟨f2, fd2, M2, _, B2, F2⟩ := G2
  exact op_Iown F2 hr B2 Z.sf Z.s2 M.at_ M2.at_ M2.fn
theorem opM_eq (G : OkM X.prog X.w X.K X.mg X.base C "__eq__" k ps sp) (hr : Room k X.A) : OpR X (compareOp .Eq) (rOwnEqD X.K C sp) := by
  obtain ⟨f, fd, M, _, B, F⟩ := G
  exact op_ownEqD F hr B M.at_ M.fn
theorem opM_eqR (G : OkM X.prog X.w X.K X.mg X.base C "__eq__" k ps sp) (hr : Room k X.A) (Z : ClsK X.K C) : OpR X (compareOp .Eq) (rOwnEqR X.K C sp) := by
  obtain ⟨f, fd, M, _, B, F⟩ := G
  exact op_ownEqR F hr B Z.sn M.at_ M.fn
theorem opM_in (G : OkM X.prog X.w X.K X.mg X.base C "__contains__" k ps sp) (hr : Room k X.A) : OpR X (compareOp .In) (rOwnIn C sp id) := by
  obtain ⟨f, fd, M, _, B, F⟩ := G
  exact op_ownIn F hr B M.at_ M.fn
theorem pe_ixM (G : OkM X.prog X.w X.K X.mg X.base C "__getitem__" k ps sp) (hr : Room (k + 1) X.A) (ha : PE X a ta) (hb : PE X b tb) (hsl : ∀ (x : Addr) (i : Value), subscripted b true (.ref x) i = runValue (.builtin "lifetime.subscript" ⟨[.ref x, i], []⟩) := by intro _ _; with_unfolding_all rfl) : PE X (.Subscript a b pos) (tOp (rOwnIx C sp) ta tb) := by
  obtain ⟨f, fd, M, hf, B, F⟩ := G
  exact pe_ownIx F hr B M.at_ hf M.fn ha hb hsl
theorem pe_methM {pl : Sem Bool} (ho : PE X o to) (G : OkM X.prog X.w X.K X.mg X.base C m k ps sp) (hr : Room k X.A) (Z : ClsK X.K C) (ha : PA X (e :: es) t)
    (hst : starEach (e :: es) X.env = (false, eval e X.env) :: starEach es X.env := by rfl) (hpl : (backTo pos (starEach es X.env)).any (·.1) = false := by rfl)
    (ht : eval (.Call (.Attribute o m apos) (e :: es) [] pos) X.env = (eval o X.env >>= fun ov => standAt apos.atName >>= fun _ => holding [ov] (getMethod ov m pl) >>= fun fp => callWith pos fp.1 fp.2 (backTo pos (starEach (e :: es) X.env)) (backToKw pos (keywordEach [] X.env))) := by rfl) :
    PE X (.Call (.Attribute o m apos) (e :: es) [] pos) (tMethR C m sp to t) := by
  obtain ⟨f, fd, M, _, B, F⟩ := G
  exact pe_methR (pl := pl) ho Z.cls M F hr B ha hst hpl ht
theorem pe_propM (ho : PE X o to) (G : OkP X.prog X.w X.K X.mg X.base C x k ps sp) (hr : Room (k + 1) X.A) (Z : ClsK X.K C) (hab : attributeBase o x X.env (eval o X.env) = eval o X.env := by rfl) : PE X (.Attribute o x pos) (tPropR C sp to) := by
  obtain ⟨q, g, fd, M, B, F⟩ := G
  exact pe_propR ho Z.cls M F hr B hab
theorem pe_mkM (G : OkI X.prog X.w X.K X.mg X.base C k ps sp) (hr : Room (k + 1) X.A) (hg : Gl X x) (hm : X.mg x = some (.ref C)) (ha : PA X (e :: es) t) (hdb : (x == ("__debug__" : Str)) = false := by decide)
    (he : starEach (e :: es) X.env = (false, eval e X.env) :: starEach es X.env := by rfl) (hpl : (backTo pos (starEach es X.env)).any (·.1) = false := by rfl) : PE X (.Call (.Name x p) (e :: es) [] pos) (tMake C sp [] E0 t) := by
  obtain ⟨f, fd, M, B, F⟩ := G
  exact pe_make M F hr hg hm B .nil pass0 ha hdb he hpl
theorem pi_itM {fld : Str} {tg : Expr} (G : OkIt X.prog X.w X.K X.mg X.base C fld k ps) (hr : Room k X.A) (he : PE X e ta) : PI X tg e (iOwn X.K C fld ta) := by
  obtain ⟨f, fd, M, B, F⟩ := G
  exact pi_own F hr B M.at_ M.fn he
theorem call_listM {fld : Str} (hcalm : X.calm = true) (G : OkIt X.prog X.w X.K X.mg X.base C fld k ps) (hr : Room (k + 2) X.A) (l1 : PySem.W.findIn X.K (.ref C) "__len__" = some none) (l2 : PySem.W.findIn X.K (.ref C) "__length_hint__" = some none) : CallR X (.type "list") (rListOwn X.K C fld) := by
  obtain ⟨f, fd, M, B, F⟩ := G
  exact call_listOwnF hcalm F hr B M.at_ M.fn l1 l2
/-- len(d) -/
def rLenD : List V → Hp → VK → Prop := fun xs H Q => ∃ (a : Addr) (kvs : List (Key × V)), xs = [.ref a] ∧ Rd H a (.dK kvs) ∧ Q (.int kvs.length) H
theorem call_lenD : CallR X (.builtin "len") rLenD := by
  intro pins s σ H xs us Q I r h
  obtain ⟨a, kvs, rfl, hd, q⟩ := h
  obtain ⟨u, rfl, ru⟩ := vals1 r
  cases ru
  exact d_len I hd fun t s' I' => ⟨.int kvs.length, H, I', ⟨t, rfl⟩, q⟩
end
section
variable {K : PySem.W.Frag} {s c : Addr} {H0 : Hp}
def gLenD : List Cell → (Cell → Prop) → Prop := fun xs P => ∃ x kds, xs = [x] ∧ dicK x = some kds ∧ P (cI kds.length)
theorem C_lenD : LC K rLenD gLenD := fun s c vs xs H Q P hx S h k => by
  obtain ⟨x, kds, rfl, e, h⟩ := h
  obtain ⟨v, rfl, hv⟩ := one_of hx
  obtain ⟨a, kvs, rfl, ha, hd⟩ := dicK_at hv e
  refine ⟨a, kvs, rfl, ha, ?_⟩
  rw [hd.len]
  exact k _ _ H h (.int _) (.refl S)
theorem len_up {q : QP} {n : Nat} {vs : List V} {H : Hp} {Q : VK} {E : XK} (hq : ∀ ds P, q ds P → ds.length = n) (h : up K q vs H Q E) : vs.length = n := by
  obtain ⟨s, c, ds, S, hd, h⟩ := h
  rw [hd.len]
  exact hq _ _ h
end
end My


/-! QX: new things returned; exceptions over plain values. -/
namespace My
open PySem PySem.Spec PyProof.Rows L2
/-! ### defs that return a new list or dict which the caller may change -/
section
variable {K : PySem.W.Frag} {s c : Addr} {H0 : Hp}
def pRetL (i : Nat) : PSx := fun e σd => ∃ x, σd[i]? = some (some x) ∧ looseC (some x) = true ∧ e.rn x
theorem S_retL (i : Nat) : LS K s c H0 (tRet (tVar i)) (pRetL i) := fun σ σd H E e R h k => by
  obtain ⟨x, h1, lo, h2⟩ := h
  obtain ⟨v, hv, hr⟩ := R.at h1
  refine ⟨v, hv, k.rn x v H h2 lo hr (fun a ea => ?_) R.src R.kp0⟩
  subst ea
  exact R.new i a hv (by rw [h1]; exact lo)
def pRetNw (p : PNx) : PSx := fun e σd => p σd fun ds => e.rn (.lm ds)
theorem S_retNw {t : TE} {p : PNx} (ha : LN K s c H0 t p) : LS K s c H0 (tRet t) (pRetNw p) := fun σ σd H E e R h k => by
  refine ha σ σd H _ _ R h fun ds a vs H1 h1 hv hn hd st => ?_
  have nn := R.src.ne hn
  exact k.rn (.lm ds) _ H1 h1 rfl ⟨a, vs, rfl, hv, hd, nn⟩ (fun b eb => by cases eb; exact Kp.none R.kp0 nn.1 hn) st.src (R.kp0.trans st.kp)
abbrev QL := List D → (Cell → Prop) → Prop
def MonoL (q : QL) : Prop := ∀ ds P P', (∀ x, P x → P' x) → q ds P → q ds P'
def upL (K : PySem.W.Frag) (q : QL) : Sp := fun vs H Q _ => ∃ (s c : Addr) (ds : List D), Src H s c ∧ DRs K s H vs ds ∧ q ds fun x => ∀ v H', looseC (some x) = true → CellR K s c H' v x → (∀ a, v = .ref a → H a = none) → Stp s c H H' → Q v H'
theorem len_upL {q : QL} {n : Nat} {vs : List V} {H : Hp} {Q : VK} {E : XK} (hq : ∀ ds P, q ds P → ds.length = n) (h : upL K q vs H Q E) : vs.length = n := by
  obtain ⟨s, c, ds, S, hd, h⟩ := h
  rw [hd.len]
  exact hq _ _ h
theorem run_upL {t : TS} {p : PSx} {N : List Str} {q : QL} {vs : List V} {H : Hp} {Q : VK} {E : XK} (hl : ∀ s c H0, LS K s c H0 t p) (hq : ∀ ds P, q ds P → p { nx := fun _ => False, rt := fun _ => False, rn := P } (startD N ds)) (h : upL K q vs H Q E) :
    t { nx := fun _ H' => Q .non H', rt := Q } (L2.start N vs) H := by
  obtain ⟨s, c, ds, S, hd, h⟩ := h
  refine hl s c H (L2.start N vs) (startD N ds) H _ _ (rel_start S hd) (hq ds _ h) ⟨fun _ _ _ h1 => h1.elim, fun _ _ _ h1 => h1.elim, fun _ _ _ h1 => h1.elim, fun _ _ _ h1 => h1.elim, fun x v H' h1 lo r1 n1 S1 k1 => ?_⟩
  exact h1 v H' lo r1 n1 ⟨k1, S1⟩
def pCallL (q : QL) (a : PAx) : PNx := fun σd P => a σd fun xs => ∃ ds, datsC xs = some ds ∧ q ds fun x => ∃ es, x = .lm es ∧ P es
theorem L_callL {q : QL} {t : TA} {a : PAx} {E : XK} (m : MonoL q) (ha : LA K s c H0 t a) : LN K s c H0 (tCall (upL K q) [] E t) (pCallL q a) := fun σ σd H Q P R h k => by
  refine ha σ σd H _ _ R h fun xs vs H1 h1 r1 s1 => ?_
  obtain ⟨ds, e, h⟩ := h1
  refine ⟨s, c, ds, s1.src, by rw [List.append_nil]; exact datsC_at r1 e, m _ _ _ (fun x hx v H2 lo r2 n2 s2 => ?_) h⟩
  obtain ⟨es, rfl, hp⟩ := hx
  obtain ⟨b, us, rfl, hb, hd, q1, q2⟩ := r2
  exact k es b us H2 hp hb (Kp.none s1.kp q1 (n2 b rfl)) hd (s1.trans s2)
def pMethL (C : Addr) (m : Str) (q : QL) (a : PEx) (b : PAx) : PNx := fun σd P => a σd fun x => ∃ fs, x = .dat (.ins C fs) ∧ fs.lookup m = none ∧ b σd fun xs => ∃ ds, datsC xs = some ds ∧ q (.ins C fs :: ds) fun x => ∃ es, x = .lm es ∧ P es
theorem L_methL {C : Addr} {m : Str} {q : QL} {ta : TE} {t : TA} {a : PEx} {b : PAx} (mo : MonoL q) (ha : LE K s c H0 ta a) (hb : LA K s c H0 t b) : LN K s c H0 (tMethR C m (upL K q) ta t) (pMethL C m q a b) := fun σ σd H Q P R h k => by
  refine ha σ σd H _ _ R h fun x v H1 h1 r1 s1 => ?_
  obtain ⟨fs, rfl, e, h1⟩ := h1
  cases id r1 with
  | ins hi hf =>
    refine ⟨_, _, _, rfl, .inr ⟨_, hi⟩, hf.look_none e, ?_⟩
    refine hb σ σd H1 _ _ (R.stp s1) h1 fun xs vs H2 h2 r2 s2 => ?_
    obtain ⟨ds, ed, h⟩ := h2
    have st := s1.trans s2
    refine ⟨s, c, .ins C fs :: ds, s2.src, .cons (CellR.stp (x := .dat (.ins C fs)) s1.src s2 r1) (datsC_at r2 ed), mo _ _ _ (fun x hx v H3 lo r3 n3 s3 => ?_) h⟩
    obtain ⟨es, rfl, hp⟩ := hx
    obtain ⟨b, us, rfl, hb2, hd, q1, q2⟩ := r3
    exact k es b us H3 hp hb2 (Kp.none st.kp q1 (n3 b rfl)) hd (st.trans s3)
def pPropL (C : Addr) (q : QL) (a : PEx) : PNx := fun σd P => a σd fun x => ∃ fs, x = .dat (.ins C fs) ∧ q [.ins C fs] fun x => ∃ es, x = .lm es ∧ P es
theorem L_propL {C : Addr} {q : QL} {ta : TE} {a : PEx} (mo : MonoL q) (ha : LE K s c H0 ta a) : LN K s c H0 (tPropR C (upL K q) ta) (pPropL C q a) := fun σ σd H Q P R h k => by
  refine ha σ σd H _ _ R h fun x v H1 h1 r1 s1 => ?_
  obtain ⟨fs, rfl, h⟩ := h1
  cases id r1 with
  | ins hi hf =>
    refine ⟨_, _, _, rfl, .inr ⟨_, hi⟩, s, c, [.ins C fs], s1.src, .cons r1 .nil, mo _ _ _ (fun x hx v H3 lo r3 n3 s3 => ?_) h⟩
    obtain ⟨es, rfl, hp⟩ := hx
    obtain ⟨b, us, rfl, hb2, hd, q1, q2⟩ := r3
    exact k es b us H3 hp hb2 (Kp.none s1.kp q1 (n3 b rfl)) hd (s1.trans s3)
/-- xs.clear(), the list in slot i -/
def pClear (i : Nat) : PSx := fun e σd => ∃ ds, σd[i]? = some (some (.lm ds)) ∧ e.nx (σd.set i (some (.lm [])))
end
/-! ### statements that may raise -/
abbrev PSXx := PEnds → (Ex → Sd → Prop) → Sd → Prop
def LSX (K : PySem.W.Frag) (s c : Addr) (H0 : Hp) (t : WX → TS) (p : PSXx) : Prop := ∀ (σ : L2.St) (σd : Sd) (H : Hp) (E : Ends) (e : PEnds) (W : WX) (xr : Ex → Sd → Prop), Rel K s c H0 σ H σd → p e xr σd → EndsR K s c H0 H E e →
  (∀ x cls d σ' σd' H', xr x σd' → ExR K s H' cls d x → Rel K s c H0 σ' H' σd' → Im H H' → W cls d σ' H') → t W E σ H
section
variable {K : PySem.W.Frag} {s c : Addr} {H0 : Hp}
theorem X_lift {t : TS} {p : PSx} (h : LS K s c H0 t p) : LSX K s c H0 (fun _ => t) (fun e _ => p e) := fun σ σd H E e W xr R hp k kx => h σ σd H E e R hp k
def pSeqX (a b : PSXx) : PSXx := fun e xr σd => a { e with nx := b e xr } xr σd
theorem X_seq {t u : WX → TS} {a b : PSXx} (ha : LSX K s c H0 t a) (hb : LSX K s c H0 u b) : LSX K s c H0 (fun W => tSeq (t W) (u W)) (pSeqX a b) := fun σ σd H E e W xr R h k kx =>
  ha σ σd H _ _ W xr R h ⟨fun σ' σd' H' h1 R1 i => hb σ' σd' H' E e W xr R1 h1 (k.im i) fun x cls d σ2 σd2 H2 a1 a2 a3 a4 => kx x cls d σ2 σd2 H2 a1 a2 a3 (i.trans a4), k.rt, k.bk, k.ct, k.rn⟩ kx
def pIfX (t : PTx) (a b : PSXx) : PSXx := fun e xr σd => t σd fun x => if x = true then a e xr σd else b e xr σd
theorem X_if {t : TT} {u w : WX → TS} {p : PTx} {a b : PSXx} (ht : LT K s c H0 t p) (ha : LSX K s c H0 u a) (hb : LSX K s c H0 w b) : LSX K s c H0 (fun W => tIfS t (u W) (w W)) (pIfX p a b) := fun σ σd H E e W xr R h k kx => by
  refine ht σ σd H _ _ R h fun x H1 h1 s1 => ?_
  have im := s1.im R.src
  cases x with
  | true => exact ha σ σd H1 E e W xr (R.stp s1) h1 (k.im im) fun x cls d σ2 σd2 H2 a1 a2 a3 a4 => kx x cls d σ2 σd2 H2 a1 a2 a3 (im.trans a4)
  | false => exact hb σ σd H1 E e W xr (R.stp s1) h1 (k.im im) fun x cls d σ2 σd2 H2 a1 a2 a3 a4 => kx x cls d σ2 σd2 H2 a1 a2 a3 (im.trans a4)
def pForX (it : PNx) (g : PGx) (b : PSXx) : PSXx := fun e xr σd => it σd fun ds => ∃ inv : Nat → Sd → Prop, inv 0 σd ∧ (∀ i d σd', ds[i]? = some d → inv i σd' → g d σd' fun σd2 => b { e with nx := inv (i + 1), ct := inv (i + 1), bk := e.nx } xr σd2) ∧ ∀ σd', inv ds.length σd' → e.nx σd'
theorem X_for {ti : TI} {g : TG} {tb : WX → TS} {it : PNx} {pg : PGx} {b : PSXx} {ts : List Nat} (hi : LI K s c H0 ti it) (hg : LG K s c H0 g pg ts) (hb : LSX K s c H0 tb b) : LSX K s c H0 (fun W => tFor ti g (tb W)) (pForX it pg b) := fun σ σd H E e W xr R h k kx => by
  refine hi σ σd H _ _ R h fun ds J G Y H1 h1 s1 w g0 gp hy => ?_
  obtain ⟨inv, i0, turn, fin⟩ := h1
  have im1 := s1.im R.src
  refine for_it w (fun i σ' H' => ∃ σd', inv i σd' ∧ Rel K s c H0 σ' H' σd' ∧ Im H1 H') ⟨σd, i0, R.stp s1, Im.refl _⟩ (fun i σ' H' _ ⟨_, _, _, im⟩ => gp _ _ im g0) ?_ ?_
  · rintro i x σ' A B hlt ⟨σd', hinv, R', im⟩ y
    obtain ⟨sm, d, hd, hr⟩ := hy i A x B hlt im (gp _ _ im g0) y
    have R2 : Rel K s c H0 σ' B σd' := R'.stp (.same R'.src sm)
    have imB := im.trans (Same.im sm)
    refine hg σ' σd' B x d _ _ R2 hr (turn i d σd' hd hinv) fun σ2 σd2 h2 R3 _ _ _ => ?_
    exact hb σ2 σd2 B _ _ W xr R3 h2 ⟨fun σ3 σd3 C h3 R4 im2 => ⟨σd3, h3, R4, imB.trans im2⟩, k.rt, fun σ3 σd3 C h3 R4 im2 => k.nx σ3 σd3 C h3 R4 (im1.trans (imB.trans im2)), fun σ3 σd3 C h3 R4 im2 => ⟨σd3, h3, R4, imB.trans im2⟩, k.rn⟩
      fun x cls d σ4 σd4 H4 a1 a2 a3 a4 => kx x cls d σ4 σd4 H4 a1 a2 a3 (im1.trans (imB.trans a4))
  · rintro σ' A ⟨σd', hinv, R', im⟩
    exact k.nx σ' σd' A (fin σd' hinv) R' (im1.trans im)
def pFrzX (i : Nat) (p : PSXx) : PSXx := fun e xr σd => ∃ x d, σd[i]? = some (some x) ∧ frzC x = some d ∧ p e xr (σd.set i (some (.dat d)))
/-! ### raise -/
def LMk (K : PySem.W.Frag) (s c : Addr) (H0 : Hp) (m : L2.St → Hp → XK → Prop) (p : Sd → (Ex → Prop) → Prop) : Prop := ∀ (σ : L2.St) (σd : Sd) (H : Hp) (Q : XK) (P : Ex → Prop), Rel K s c H0 σ H σd → p σd P →
  (∀ x cls d H', P x → ExR K s H' cls d x → Stp s c H H' → Q cls d H') → m σ H Q
def tRaise (m : L2.St → Hp → XK → Prop) (W : WX) : TS := fun _ σ H => m σ H fun cls d H' => W cls d σ H'
def pRaise (p : Sd → (Ex → Prop) → Prop) : PSXx := fun _ xr σd => p σd fun x => xr x σd
theorem X_raise {m : L2.St → Hp → XK → Prop} {p : Sd → (Ex → Prop) → Prop} (hm : LMk K s c H0 m p) : LSX K s c H0 (tRaise m) (pRaise p) := fun σ σd H E e W xr R h k kx =>
  hm σ σd H _ _ R h fun x cls d H' h1 r1 st => kx x cls d σ σd H' h1 r1 (R.stp st) (st.im R.src)
/-- class E(..): def __init__(self, y): self.f = y -/
def sp_exc1 (C : Addr) (f : Str) : Sp := fun vs H Q _ => ∃ (a : Addr) (y : V), vs = [.ref a, y] ∧ H a = some (exo a C none) ∧ ∀ dx, H dx = none → dx ≠ a → Q .non (upd (upd H dx (exd dx [(f, y)])) a (exo a C (some dx)))
theorem len_exc1 {C : Addr} {f : Str} {vs : List V} {H : Hp} {Q : VK} {E : XK} (h : sp_exc1 C f vs H Q E) : vs.length = 2 := by
  obtain ⟨_, _, rfl, _⟩ := h
  rfl
theorem run_exc1 {C : Addr} {f : Str} {N : List Str} {vs : List V} {H : Hp} {Q : VK} {E : XK} (T : OexC K C) (hno : PySem.W.findIn K (.ref C) f = some none) (hN : N.length = 2) (h : sp_exc1 C f vs H Q E) :
    tOst K f (tVar 0) (tVar 1) { nx := fun _ H' => Q .non H', rt := Q } (L2.start N vs) H := by
  obtain ⟨a, y, rfl, ha, q⟩ := h
  unfold L2.start
  rw [show N.length - [V.ref a, y].length = 0 from by rw [hN]; rfl]
  exact ⟨_, rfl, _, rfl, a, C, rfl, T, hno, .inl ⟨ha, q⟩⟩
def sp_exc2 (C : Addr) (f g : Str) : Sp := fun vs H Q _ => ∃ (a : Addr) (y z : V), vs = [.ref a, y, z] ∧ H a = some (exo a C none) ∧ ∀ dx, H dx = none → dx ≠ a → Q .non (upd (upd (upd H dx (exd dx [(f, y)])) a (exo a C (some dx))) dx (exd dx [(g, z), (f, y)]))
theorem len_exc2 {C : Addr} {f g : Str} {vs : List V} {H : Hp} {Q : VK} {E : XK} (h : sp_exc2 C f g vs H Q E) : vs.length = 3 := by
  obtain ⟨_, _, _, rfl, _⟩ := h
  rfl
theorem run_exc2 {C : Addr} {f g : Str} {N : List Str} {vs : List V} {H : Hp} {Q : VK} {E : XK} (T : OexC K C) (hf : PySem.W.findIn K (.ref C) f = some none) (hg : PySem.W.findIn K (.ref C) g = some none) (hN : N.length = 3) (h : sp_exc2 C f g vs H Q E) :
    tSeq (tOst K f (tVar 0) (tVar 1)) (tOst K g (tVar 0) (tVar 2)) { nx := fun _ H' => Q .non H', rt := Q } (L2.start N vs) H := by
  obtain ⟨a, y, z, rfl, ha, q⟩ := h
  unfold L2.start
  rw [show N.length - [V.ref a, y, z].length = 0 from by rw [hN]; rfl]
  refine ⟨_, rfl, _, rfl, a, C, rfl, T, hf, .inl ⟨ha, fun dx hdx ne => ?_⟩⟩
  exact ⟨_, rfl, _, rfl, a, C, rfl, T, hg, .inr ⟨dx, _, upd_same, by rw [upd_ne ne, upd_same], by show 1 ≤ 900; decide, q dx hdx ne⟩⟩
def pMkE1 (C : Addr) (f : Str) (a : PEx) : Sd → (Ex → Prop) → Prop := fun σd P => a σd fun x => ∃ d, x = .dat d ∧ P ⟨C, [(f, d)]⟩
theorem mk_same {H : Hp} {a dx : Addr} {o : HO} {fs : List (Str × V)} (ha : H a = none) (hd : H dx = none) (ne : dx ≠ a) {H2 : Hp} (h2 : ∀ b, b ≠ a → b ≠ dx → H2 b = H b) : Same H (upd (del H2 a) dx (.xd fs)) := fun b u e => by
  have b1 : b ≠ a := fun z => by subst z; rw [ha] at e; cases e
  have b2 : b ≠ dx := fun z => by subst z; rw [hd] at e; cases e
  rw [upd_ne b2, del_ne b1, h2 b b1 b2]
  exact e
theorem L_mkE1 {C : Addr} {f : Str} {t : TE} {a : PEx} (ha : LE K s c H0 t a) : LMk K s c H0 (tMkO C (sp_exc1 C f) [] (tCons t tNil)) (pMkE1 C f a) := fun σ σd H Q P R h k => by
  refine ha σ σd H _ _ R h fun x v H1 h1 r1 s1 => ?_
  obtain ⟨d, rfl, h⟩ := h1
  refine ⟨by show 1 ≤ 1000; decide, fun b hb => ⟨b, v, rfl, upd_same, fun dx hdx ne => ⟨rfl, dx, [(f, v)], upd_same, by rw [upd_ne ne, upd_same], by rw [upd_ne ne] at hdx; exact hdx, ?_⟩⟩⟩
  have hd1 : H1 dx = none := by rw [upd_ne ne] at hdx; exact hdx
  have sm : Same H1 (upd (del (upd (upd (upd H1 b (exo b C none)) dx (exd dx [(f, v)])) b (exo b C (some dx))) b) dx (.xd [(f, v)])) := mk_same (o := .lst []) hb hd1 ne fun e n1 n2 => by rw [upd_ne n1, upd_ne n2, upd_ne n1]
  have st := s1.trans (.same s1.src sm)
  exact k _ _ _ _ h ⟨rfl, .inr ⟨dx, _, rfl, upd_same, .cons (DR.im (Same.im sm) r1) .nil⟩⟩ st
def pMkE2 (C : Addr) (f g : Str) (a b : PEx) : Sd → (Ex → Prop) → Prop := fun σd P => a σd fun x => b σd fun y => ∃ d e, x = .dat d ∧ y = .dat e ∧ P ⟨C, [(g, e), (f, d)]⟩
theorem L_mkE2 {C : Addr} {f g : Str} {t u : TE} {a b : PEx} (ha : LE K s c H0 t a) (hb : LE K s c H0 u b) : LMk K s c H0 (tMkO C (sp_exc2 C f g) [] (tCons t (tCons u tNil))) (pMkE2 C f g a b) := fun σ σd H Q P R h k => by
  refine ha σ σd H _ _ R h fun x v H1 h1 r1 s1 => ?_
  refine hb σ σd H1 _ _ (R.stp s1) h1 fun y w H2 h2 r2 s2 => ?_
  obtain ⟨d, e, rfl, rfl, h⟩ := h2
  have r1 : DR K s H2 v d := CellR.stp (x := .dat d) s1.src s2 r1
  refine ⟨by show 2 ≤ 1000; decide, fun o ho => ⟨o, v, w, rfl, upd_same, fun dx hdx ne => ⟨rfl, dx, [(g, w), (f, v)], by rw [upd_ne ne.symm, upd_same], upd_same, by rw [upd_ne ne] at hdx; exact hdx, ?_⟩⟩⟩
  have hd1 : H2 dx = none := by rw [upd_ne ne] at hdx; exact hdx
  have sm : Same H2 (upd (del (upd (upd (upd (upd H2 o (exo o C none)) dx (exd dx [(f, v)])) o (exo o C (some dx))) dx (exd dx [(g, w), (f, v)])) o) dx (.xd [(g, w), (f, v)])) := mk_same (o := .lst []) ho hd1 ne fun e n1 n2 => by rw [upd_ne n2, upd_ne n1, upd_ne n2, upd_ne n1]
  have st := (s1.trans s2).trans (.same s2.src sm)
  exact k _ _ _ _ h ⟨rfl, .inr ⟨dx, _, rfl, upd_same, .cons (DR.im (Same.im sm) r2) (.cons (DR.im (Same.im sm) r1) .nil)⟩⟩ st
/-! ### promises with an end for exceptions -/
abbrev QX := List D → (D → Prop) → (Ex → Prop) → Prop
def MonoX (q : QX) : Prop := ∀ ds P P' X X', (∀ d, P d → P' d) → (∀ x, X x → X' x) → q ds P X → q ds P' X'
def upX (K : PySem.W.Frag) (q : QX) : Sp := fun vs H Q E => ∃ (s c : Addr) (ds : List D), Src H s c ∧ DRs K s H vs ds ∧ q ds (fun d => ∀ v H', DR K s H' v d → Stp s c H H' → Q v H') fun x => ∀ cls d H', ExR K s H' cls d x → Stp s c H H' → E cls d H'
theorem len_upX {q : QX} {n : Nat} {vs : List V} {H : Hp} {Q : VK} {E : XK} (hq : ∀ ds P X, q ds P X → ds.length = n) (h : upX K q vs H Q E) : vs.length = n := by
  obtain ⟨s, c, ds, S, hd, h⟩ := h
  rw [hd.len]
  exact hq _ _ _ h
theorem run_upX {t : WX → TS} {p : PSXx} {N : List Str} {q : QX} {vs : List V} {H : Hp} {Q : VK} {E : XK} (hl : ∀ s c H0, LSX K s c H0 t p) (hq : ∀ ds P X, q ds P X → p { nx := fun _ => P .non, rt := P } (fun x _ => X x) (startD N ds)) (h : upX K q vs H Q E) :
    t (fun cls d _ H' => E cls d H') { nx := fun _ H' => Q .non H', rt := Q } (L2.start N vs) H := by
  obtain ⟨s, c, ds, S, hd, h⟩ := h
  refine hl s c H (L2.start N vs) (startD N ds) H _ _ _ _ (rel_start S hd) (hq ds _ _ h) ⟨fun σ σd H' h1 R _ => ?_, fun d v H' h1 r1 S1 k1 => ?_, fun _ _ _ h1 => h1.elim, fun _ _ _ h1 => h1.elim, fun _ _ _ h1 => h1.elim⟩ fun x cls d σ' σd' H' h1 r1 R _ => ?_
  · exact h1 .non H' .non ⟨R.kp0, R.src⟩
  · exact h1 v H' r1 ⟨k1, S1⟩
  · exact h1 cls d H' r1 ⟨R.kp0, R.src⟩
/-- __init__ that may raise -/
abbrev QIX := List D → (List (Str × D) → Prop) → (Ex → Prop) → Prop
def MonoIX (q : QIX) : Prop := ∀ ds P P' X X', (∀ fs, P fs → P' fs) → (∀ x, X x → X' x) → q ds P X → q ds P' X'
def upIX (K : PySem.W.Frag) (C : Addr) (q : QIX) : Sp := fun vs H Q E => ∃ (s c : Addr) (ds : List D) (Hb : Hp) (x dx : Addr) (us : List V), vs = .ref x :: us ∧ H = upd (upd Hb dx (.own x)) x (.ins C dx []) ∧ Hb x = none ∧ Hb dx = none ∧ dx ≠ x ∧ Src Hb s c ∧ DRs K s Hb us ds ∧
  q ds (fun fds => ∀ H' dx' fs, H' x = some (.ins C dx' fs) → DRf K s H' fs fds → Stp s c Hb H' → Q .non H') fun ex => ∀ cls d H', ExR K s H' cls d ex → Stp s c Hb H' → E cls d H'
theorem len_upIX {C : Addr} {q : QIX} {n : Nat} {vs : List V} {H : Hp} {Q : VK} {E : XK} (hq : ∀ ds P X, q ds P X → ds.length = n) (h : upIX K C q vs H Q E) : vs.length = n + 1 := by
  obtain ⟨s, c, ds, Hb, x, dx, us, rfl, _, _, _, _, _, hd, h⟩ := h
  rw [List.length_cons, hd.len, hq _ _ _ h]
theorem run_upIX {t : WX → TS} {p : PSXx} {N : List Str} {C : Addr} {q : QIX} {vs : List V} {H : Hp} {Q : VK} {E : XK} (hl : ∀ s c H0, LSX K s c H0 t p) (hq : ∀ x ds P X, q ds P X → p { nx := fun σd => ∃ fs r, σd = some (.om x C fs) :: r ∧ P fs, rt := fun _ => False } (fun ex _ => X ex) (some (.om x C []) :: startD (N.drop 1) ds)) (h : upIX K C q vs H Q E) :
    t (fun cls d _ H' => E cls d H') { nx := fun _ H' => Q .non H', rt := Q } (L2.start N vs) H := by
  obtain ⟨s, c, ds, Hb, x, dx, us, rfl, rfl, hx, hdx, ne, S, hd, h⟩ := h
  refine hl s c Hb _ _ _ _ _ _ _ (rel_startI (N := N) S hd hx hdx ne) (hq x ds _ _ h) ⟨fun σ σd H' h1 R _ => ?_, fun d v H' h1 => h1.elim, fun _ _ _ h1 => h1.elim, fun _ _ _ h1 => h1.elim, fun _ _ _ h1 => h1.elim⟩ fun ex cls d σ' σd' H' h1 r1 R _ => h1 cls d H' r1 ⟨R.kp0, R.src⟩
  obtain ⟨fs, r, rfl, h2⟩ := h1
  obtain ⟨w, hw, dx', us', ew, hu, hf, _⟩ := R.at (i := 0) (x := .om x C fs) rfl
  cases ew
  exact h2 H' dx' us' hu hf ⟨R.kp0, R.src⟩
/-! ### calls that may raise, at the head of a statement -/
def LCX (K : PySem.W.Frag) (s c : Addr) (H0 : Hp) (t : WX → TE) (p : Sd → (D → Prop) → (Ex → Prop) → Prop) : Prop := ∀ (σ : L2.St) (σd : Sd) (H : Hp) (Q : VK) (W : WX) (P : D → Prop) (X : Ex → Prop), Rel K s c H0 σ H σd → p σd P X →
  (∀ d v H', P d → DR K s H' v d → Stp s c H H' → Q v H') → (∀ x cls d H', X x → ExR K s H' cls d x → Stp s c H H' → W cls d σ H') → t W σ H Q
def pRetX (p : Sd → (D → Prop) → (Ex → Prop) → Prop) : PSXx := fun e xr σd => p σd e.rt fun x => xr x σd
theorem X_ret {t : WX → TE} {p : Sd → (D → Prop) → (Ex → Prop) → Prop} (h : LCX K s c H0 t p) : LSX K s c H0 (fun W => tRet (t W)) (pRetX p) := fun σ σd H E e W xr R hp k kx =>
  h σ σd H _ W _ _ R hp (fun d v H' h1 r1 st => k.rt d v H' h1 r1 st.src (R.kp0.trans st.kp)) fun x cls d H' h1 r1 st => kx x cls d σ σd H' h1 r1 (R.stp st) (st.im R.src)
def pAsgX (p : Sd → (D → Prop) → (Ex → Prop) → Prop) (i : Nat) : PSXx := fun e xr σd => p σd (fun d => e.nx (σd.set i (some (.dat d)))) fun x => xr x σd
theorem X_asg {t : WX → TE} {p : Sd → (D → Prop) → (Ex → Prop) → Prop} (i : Nat) (h : LCX K s c H0 t p) : LSX K s c H0 (fun W => tAsg (t W) (gName i)) (pAsgX p i) := fun σ σd H E e W xr R hp k kx =>
  h σ σd H _ W _ _ R hp (fun d v H' h1 r1 st => k.nx _ _ H' h1 ((R.stp st).setD r1) (st.im R.src)) fun x cls d H' h1 r1 st => kx x cls d σ σd H' h1 r1 (R.stp st) (st.im R.src)
def pDropX (p : Sd → (D → Prop) → (Ex → Prop) → Prop) : PSXx := fun e xr σd => p σd (fun _ => e.nx σd) fun x => xr x σd
theorem X_drop {t : WX → TE} {p : Sd → (D → Prop) → (Ex → Prop) → Prop} (h : LCX K s c H0 t p) : LSX K s c H0 (fun W => tDrop (t W)) (pDropX p) := fun σ σd H E e W xr R hp k kx =>
  h σ σd H _ W _ _ R hp (fun d v H' h1 r1 st => k.nx σ σd H' h1 (R.stp st) (st.im R.src)) fun x cls d H' h1 r1 st => kx x cls d σ σd H' h1 r1 (R.stp st) (st.im R.src)
def pCallX (q : QX) (a : PAx) : Sd → (D → Prop) → (Ex → Prop) → Prop := fun σd P X => a σd fun xs => ∃ ds, datsC xs = some ds ∧ q ds P X
theorem L_callX {q : QX} {t : TA} {a : PAx} (m : MonoX q) (ha : LA K s c H0 t a) : LCX K s c H0 (fun W => tCallS (upX K q) (WE W) t) (pCallX q a) := fun σ σd H Q W P X R h k kx => by
  refine ha σ σd H _ _ R h fun xs vs H1 h1 r1 s1 => ?_
  obtain ⟨ds, e, h⟩ := h1
  exact ⟨s, c, ds, s1.src, datsC_at r1 e, m _ _ _ _ _ (fun d hd v H2 r2 s2 => k d v H2 hd r2 (s1.trans s2)) (fun x hx cls d H2 r2 s2 => kx x cls d H2 hx r2 (s1.trans s2)) h⟩
/-- the same where nothing is let out -/
theorem L_callX0 {q : QX} {t : TA} {a : PAx} (m : MonoX q) (ha : LA K s c H0 t a) : LE K s c H0 (tCall (upX K q) [] E0 t) (fun σd P => pCallX q a σd (fun d => P (.dat d)) fun _ => False) := fun σ σd H Q P R h k => by
  refine ha σ σd H _ _ R h fun xs vs H1 h1 r1 s1 => ?_
  obtain ⟨ds, e, h⟩ := h1
  exact ⟨s, c, ds, s1.src, by rw [List.append_nil]; exact datsC_at r1 e, m _ _ _ _ _ (fun d hd v H2 r2 s2 => k (.dat d) v H2 hd r2 (s1.trans s2)) (fun x hx => hx.elim) h⟩
def tMakeS (C : Addr) (sp : Sp) (E : L2.St → XK) (t : TA) : TE := fun σ H Q => t σ H fun vs H1 => ∀ x dx, H1 x = none → H1 dx = none → dx ≠ x → sp (V.ref x :: vs) (upd (upd H1 dx (.own x)) x (.ins C dx [])) (fun v H2 => v = .non ∧ Q (.ref x) H2) (E σ)
def pMakeX (C : Addr) (q : QIX) (a : PAx) : Sd → (D → Prop) → (Ex → Prop) → Prop := fun σd P X => a σd fun xs => ∃ ds, datsC xs = some ds ∧ q ds (fun fs => P (.ins C fs)) X
theorem L_makeX {C : Addr} {q : QIX} {t : TA} {a : PAx} (mo : MonoIX q) (ha : LA K s c H0 t a) : LCX K s c H0 (fun W => tFrz (tMakeS C (upIX K C q) (WE W) t)) (pMakeX C q a) := fun σ σd H Q W P X R h k kx => by
  refine ha σ σd H _ _ R h fun xs vs H1 h1 r1 s1 => ?_
  obtain ⟨ds, e, h⟩ := h1
  intro x dx hx hdx ne
  refine ⟨s, c, ds, H1, x, dx, vs, rfl, rfl, hx, hdx, ne, s1.src, datsC_at r1 e, mo _ _ _ _ _ (fun fds hfd H' dx' fs hx' hf st => ⟨rfl, x, _, rfl, hx', trivial, fun o => ?_⟩) (fun ex hex cls d H' rx st => kx ex cls d H' hex rx (s1.trans st)) h⟩
  have nn := s1.src.ne hx
  have kl : Kp x H' (upd H' x (.frz o (.ins C dx' fs))) := Kp.self
  have im := kl.im ⟨_, hx', rfl⟩
  exact k _ _ _ hfd (.ins upd_same (hf.im im)) (s1.trans ⟨st.kp.via hx kl, st.src.kp nn.1.symm nn.2.symm kl⟩)
theorem L_makeX0 {C : Addr} {q : QIX} {t : TA} {a : PAx} (mo : MonoIX q) (ha : LA K s c H0 t a) : LE K s c H0 (tFrz (tMake C (upIX K C q) [] E0 t)) (fun σd P => pMakeX C q a σd (fun d => P (.dat d)) fun _ => False) := fun σ σd H Q P R h k => by
  refine ha σ σd H _ _ R h fun xs vs H1 h1 r1 s1 => ?_
  obtain ⟨ds, e, h⟩ := h1
  intro x dx hx hdx ne
  rw [List.append_nil]
  refine ⟨s, c, ds, H1, x, dx, vs, rfl, rfl, hx, hdx, ne, s1.src, datsC_at r1 e, mo _ _ _ _ _ (fun fds hfd H' dx' fs hx' hf st => ⟨rfl, x, _, rfl, hx', trivial, fun o => ?_⟩) (fun ex hex => hex.elim) h⟩
  have nn := s1.src.ne hx
  have kl : Kp x H' (upd H' x (.frz o (.ins C dx' fs))) := Kp.self
  have im := kl.im ⟨_, hx', rfl⟩
  exact k _ _ _ hfd (.ins upd_same (hf.im im)) (s1.trans ⟨st.kp.via hx kl, st.src.kp nn.1.symm nn.2.symm kl⟩)
/-- o.m(..) that may raise: t holds the positional arguments, then the keywords' -/
def tMethS (C : Addr) (m : Str) (sp : Sp) (E : L2.St → XK) (te : TE) (t : TA) : TE := fun σ H Q => te σ H fun y H1 => ∃ a dx fs, y = .ref a ∧ Rd H1 a (.ins C dx fs) ∧ fs.lookup m = none ∧ t σ H1 fun vs H2 => sp (y :: vs) H2 Q (E σ)
def pMethX (C : Addr) (m : Str) (q : QX) (a : PEx) (b : PAx) : Sd → (D → Prop) → (Ex → Prop) → Prop := fun σd P X => a σd fun x => ∃ fs, x = .dat (.ins C fs) ∧ fs.lookup m = none ∧ b σd fun xs => ∃ ds, datsC xs = some ds ∧ q (.ins C fs :: ds) P X
theorem L_methX {C : Addr} {m : Str} {q : QX} {ta : TE} {t : TA} {a : PEx} {b : PAx} (mo : MonoX q) (ha : LE K s c H0 ta a) (hb : LA K s c H0 t b) : LCX K s c H0 (fun W => tMethS C m (upX K q) (WE W) ta t) (pMethX C m q a b) := fun σ σd H Q W P X R h k kx => by
  refine ha σ σd H _ _ R h fun x v H1 h1 r1 s1 => ?_
  obtain ⟨fs, rfl, e, h1⟩ := h1
  cases id r1 with
  | ins hi hf =>
    refine ⟨_, _, _, rfl, .inr ⟨_, hi⟩, hf.look_none e, ?_⟩
    refine hb σ σd H1 _ _ (R.stp s1) h1 fun xs vs H2 h2 r2 s2 => ?_
    obtain ⟨ds, ed, h⟩ := h2
    have st := s1.trans s2
    exact ⟨s, c, .ins C fs :: ds, s2.src, .cons (CellR.stp (x := .dat (.ins C fs)) s1.src s2 r1) (datsC_at r2 ed), mo _ _ _ _ _ (fun d hd v H3 r3 s3 => k d _ H3 hd r3 (st.trans s3)) (fun ex hx cls d H3 r3 s3 => kx ex cls d H3 hx r3 (st.trans s3)) h⟩
/-! ### try .. except c as n -/
def tTry (K : PySem.W.Frag) (c0 : Value) (i : Nat) (tb : WX → TS) (ts : Addr → Value → Option Addr → TS) : TS := fun D σ H => tb (wAs K c0 i ts (fun _ _ _ _ => False) D) D σ H
def pTry (i : Nat) (Cs : List Addr) (pb : PSXx) (ps : Addr → Value → Option Addr → PSx) : PSx := fun e σd => pb e (fun x σd' => x.C ∈ Cs ∧ ∀ a cls d, ps a cls d { nx := fun z => e.nx (z.set i none), rt := e.rt, bk := fun z => e.bk (z.set i none), ct := fun z => e.ct (z.set i none), rn := e.rn } (σd'.set i (some (.ex a cls d x)))) σd
theorem S_try {c0 : Value} {i : Nat} {Cs : List Addr} {tb : WX → TS} {ts : Addr → Value → Option Addr → TS} {pb : PSXx} {ps : Addr → Value → Option Addr → PSx} (hC : ∀ C ∈ Cs, PySem.W.exmOne K (.ref C) c0 = some true) (hb : LSX K s c H0 tb pb) (hs : ∀ a cls d, LS K s c H0 (ts a cls d) (ps a cls d)) :
    LS K s c H0 (tTry K c0 i tb ts) (pTry i Cs pb ps) := fun σ σd H E e R h k => by
  refine hb σ σd H E e _ _ R h k fun x cls d σ' σd' H' hx rx R' im => ?_
  obtain ⟨hm, hp⟩ := hx
  obtain ⟨rfl, hd⟩ := id rx
  refine ⟨true, hC _ hm, fun _ a ha => ?_, fun z => nomatch z⟩
  have R2 : Rel K s c H0 (σ'.set i (some (.ref a))) H' (σd'.set i (some (.ex a (.ref x.C) d x))) := R'.set (x := .ex a (.ref x.C) d x) ⟨rfl, rx⟩ (fun z => nomatch z) (fun z => nomatch z)
  have k2 := k.im im
  exact hs a _ d _ _ H' _ _ R2 (hp a _ d) ⟨fun σ2 σd2 H2 h2 R3 i2 => k2.nx _ _ H2 h2 R3.wipe1 i2, k2.rt, fun σ2 σd2 H2 h2 R3 i2 => k2.bk _ _ H2 h2 R3.wipe1 i2, fun σ2 σd2 H2 h2 R3 i2 => k2.ct _ _ H2 h2 R3.wipe1 i2, k2.rn⟩
/-! ### in the suite -/
def pXf (a : Addr) (cls : Value) (d : Option Addr) (i : Nat) (C : Addr) (f : Str) : PEx := fun σd P => ∃ x dd, σd[i]? = some (some (.ex a cls d x)) ∧ x.C = C ∧ x.fs.lookup f = some dd ∧ P (.dat dd)
theorem L_xf {a C : Addr} {cls : Value} {d : Option Addr} {f : Str} (i : Nat) : LE K s c H0 (tXf a cls d C f (tVar i)) (pXf a cls d i C f) := fun σ σd H Q P R h k => by
  obtain ⟨x, dd, h1, rfl, h2, h⟩ := h
  obtain ⟨v, hv, rfl, hc, hr⟩ := R.at h1
  refine ⟨_, hv, rfl, hc, ?_⟩
  rcases hr with ⟨e, _⟩ | ⟨ad, us, e1, e2, hf⟩
  · rw [e] at h2
    cases h2
  · obtain ⟨u, hu, ru⟩ := hf.look h2
    exact ⟨ad, us, u, e1, e2, hu, k _ _ H h ru (.refl R.src)⟩
/-- isinstance(e, c), e the caught one -/
def rIsX (K : PySem.W.Frag) (a : Addr) (cls : Value) (d : Option Addr) : List V → Hp → VK → Prop := fun xs H Q => ∃ (C : Addr) (v : V) (u : Value) (b : Bool), xs = [.ref a, v] ∧ cls = .ref C ∧ ExcC K C ∧ ClsV v u ∧ (d = none ∨ ∃ dd us, d = some dd ∧ H dd = some (.xd us)) ∧ PySem.W.kitOne K (.ref C) u = some b ∧ Q (.bl b) H
def pIsX (a : Addr) (cls : Value) (d : Option Addr) (i : Nat) (g : Addr → Option Bool) : PEx := fun σd P => ∃ x b, σd[i]? = some (some (.ex a cls d x)) ∧ g x.C = some b ∧ P (cB b)
theorem L_isX {a : Addr} {cls : Value} {d : Option Addr} {g : Addr → Option Bool} {v : V} {u : Value} (i : Nat) (hv : ClsV v u) (hg : ∀ C b, g C = some b → ExcC K C ∧ PySem.W.kitOne K (.ref C) u = some b) : LE K s c H0 (tCB (rIsX K a cls d) (tCons (tVar i) (tCons (tC v) tNil))) (pIsX a cls d i g) := fun σ σd H Q P R h k => by
  obtain ⟨x, b, h1, h2, h⟩ := h
  obtain ⟨w, hw, rfl, hc, hr⟩ := R.at h1
  obtain ⟨h3, h4⟩ := hg _ _ h2
  refine ⟨_, hw, x.C, v, u, b, rfl, hc, h3, hv, ?_, h4, k _ _ H h (.bl b) (.refl R.src)⟩
  rcases hr with ⟨_, e⟩ | ⟨ad, us, e1, e2, _⟩
  · exact .inl e
  · exact .inr ⟨ad, us, e1, e2⟩
end
end My


/-! OwnX: making and methods that may raise (what is let out is told at the slots), keywords, isinstance of a caught exception. -/
namespace My
open PySem PySem.Spec PyProof.Rows L2
section
variable {X : Cx} {CX : CXT} {k : Nat} {f C : Addr} {fd : FuncData} {ps ks : List Str} {sp : Sp} {E : L2.St → XK} {x m : Str} {p pos apos : Pos} {e o : Expr} {es : List Expr} {kws : List Keyword} {to : TE} {t tk : TA}
theorem run_makeS {pins : List (Addr × Obj)} {σ : L2.St} {H : Hp} {s : Shared} {Q : VK} {us : List Value} {vs : List V} (M : Mk X.K C f) (F : FnOk X.prog X.w X.K X.mg X.base CX k f fd ps sp) (hr : Room (k + 1) X.A) (hb : Binds X.K fd ps [])
    (hx : PassesAt CX X σ (E σ)) (I : Inv X pins σ H s) (r : Vals vs us)
    (h : ∀ x dx, H x = none → H dx = none → dx ≠ x → sp (.ref x :: vs) (upd (upd H dx (.own x)) x (.ins C dx [])) (fun v H2 => v = .non ∧ Q (.ref x) H2) (E σ)) : wpAny (model X.prog X.w) X.A (call (.ref C) us) (EP X pins σ Q) X.xe s := by
  have hq := h (s.heap.objs.size + 1) s.heap.objs.size (I.hok.fresh (Nat.le_succ _)) (I.hok.fresh (Nat.le_refl _)) (Nat.ne_of_lt (Nat.lt_succ_self _))
  have J := Inv.made (C := C) I
  have rr : Vals (V.ref (s.heap.objs.size + 1) :: vs) (Value.ref (s.heap.objs.size + 1) :: us) := .cons rfl r
  have hl : ((Value.ref (s.heap.objs.size + 1) :: us) ++ []).length = ps.length := by
    rw [List.append_nil, ← rr.length]
    exact F.len _ _ _ _ hq
  have bt := hb _ (Value.ref (s.heap.objs.size + 1) :: us) J.kIn hl
  rw [List.append_nil] at bt
  refine wpAny_call (make_map (f := f) I.kIn M.makes M.init (beq_iff_eq.mp M.fn) (codeAny_mono (F.run _ X.stack _ _ ⟨Value.ref (s.heap.objs.size + 1) :: us, []⟩ (Value.ref (s.heap.objs.size + 1) :: us) _ _ (E σ) (hr.make C us []) (J.env0.make C us []) bt rr hq) fun z s' hz => ?_))
  cases z with
  | error er => exact hx pins _ _ er s' J hz
  | ok fl =>
    cases fl with
    | ret u =>
      obtain ⟨v, H', I3, rv, ev, q3⟩ := J.after hz
      subst ev
      exact ⟨rv, V.ref (s.heap.objs.size + 1), H', I3, rfl, q3⟩
    | next => exact hz.elim
    | brk => exact hz.elim
    | cont => exact hz.elim
theorem pe_makeS (M : Mk X.K C f) (F : FnOk X.prog X.w X.K X.mg X.base CX k f fd ps sp) (hr : Room (k + 1) X.A) (hg : Gl X x) (hm : X.mg x = some (.ref C)) (hb : Binds X.K fd ps []) (hx : ∀ σ, PassesAt CX X σ (E σ)) (ha : PA X (e :: es) t) (hdb : (x == ("__debug__" : Str)) = false := by decide)
    (he : starEach (e :: es) X.env = (false, eval e X.env) :: starEach es X.env := by rfl) (hpl : (backTo pos (starEach es X.env)).any (·.1) = false := by rfl) : PE X (.Call (.Name x p) (e :: es) [] pos) (tMakeS C sp E t) := by
  refine ⟨fun pins s σ H Q I h => wpAny_Call_Name_kw (ld_glob I hg hm ?_ hdb)⟩
  refine PySem.W.callWith_K (h₀ := X.base) I.ok.mod.kin M.kp (thn (ha.run pos pins s σ H _ I h) fun us s1 ⟨vs, H1, I1, r, q⟩ => ⟨I1.kIn, run_makeS M F hr hb (hx σ) I1 r q⟩) he hpl
/-- keyword-only parameters behind the positional ones, given in their order -/
def KwOnly (K : PySem.W.Frag) (fd : FuncData) (ps ks : List Str) : Prop := ∀ (s : Shared) (us ws : List Value), K.In s.heap → ws.length = ks.length → (us ++ ws).length = ps.length → BindsTo s fd ⟨us, ks.zip ws⟩ (ps.zip (us ++ ws))
theorem run_fnKS {pins : List (Addr × Obj)} {σ : L2.St} {H : Hp} {s : Shared} {Q : VK} {us ws : List Value} {vs zs : List V} (F : FnOk X.prog X.w X.K X.mg X.base CX k f fd ps sp) (hr : Room k X.A) (hb : KwOnly X.K fd ps ks) (hx : PassesAt CX X σ (E σ)) (hk : ws.length = ks.length)
    (I : Inv X pins σ H s) (r : Vals vs us) (rz : Vals zs ws) (h : sp (vs ++ zs) H Q (E σ)) : wpAny (model X.prog X.w) X.A (call (.ref f) us (ks.zip ws)) (EP X pins σ Q) X.xe s := by
  have rr := r.append rz
  have hl : (us ++ ws).length = ps.length := by rw [← rr.length]; exact F.len _ _ _ _ h
  refine wpAny_call (codeAny_mono (F.run X.A X.stack s H ⟨us, ks.zip ws⟩ (us ++ ws) (vs ++ zs) Q (E σ) hr I.env0 (hb s us ws I.kIn hk hl) rr h) fun z s' hz => ?_)
  cases z with
  | error er => exact hx pins H s er s' I hz
  | ok fl =>
    cases fl with
    | ret u => exact I.after hz
    | next => exact hz.elim
    | brk => exact hz.elim
    | cont => exact hz.elim
/-- the value of the one keyword -/
theorem kw_one {n : Str} {te : TE} {kp : Pos} {pins : List (Addr × Obj)} {σ : L2.St} {H : Hp} {s : Shared} {Q : V → Hp → Prop} {R : List Value → Shared → Prop} (he : PE X e te) (I : Inv X pins σ H s) (h : te σ H Q)
    (hr : ∀ u v H' s', Inv X pins σ H' s' → RelV v u → Q v H' → R [u] s') : wpAny (model X.prog X.w) X.A (evalAll ((backToKw pos (keywordEach [⟨some n, e, kp⟩] X.env)).map (·.2))) R X.xe s := by
  show wpAny _ _ (evalAll ((do let v ← eval e X.env; standAt pos; pure v) :: [])) _ _ s
  refine wpAny_evalAll_cons (wpAny_bind (thn (he.run pins s σ H _ I h) fun u s1 ⟨v, H1, I1, r1, q1⟩ => wpAny_bind (wpAny_standAt (wpAny_pure (wpAny_evalAll_nil ?_)))))
  exact hr u v H1 s1 I1 r1 q1
/-- o.m(k = e) -/
theorem pe_methK01 {pl : Sem Bool} {n : Str} {te : TE} {kp : Pos} (ho : PE X o to) (c : Cls X.K C) (hm : Meth X.K C m f) (F : FnOk X.prog X.w X.K X.mg X.base CX k f fd ps sp) (hr : Room k X.A) (hb : KwOnly X.K fd ps [n]) (hx : ∀ σ, PassesAt CX X σ (E σ)) (he : PE X e te)
    (hall : (backToKw pos (keywordEach [⟨some n, e, kp⟩] X.env)).all (·.1.isSome) = true := by rfl) (hks : (backToKw pos (keywordEach [⟨some n, e, kp⟩] X.env)).filterMap (·.1) = [n] := by rfl)
    (hpl : ((backTo pos (starEach [] X.env)).any (·.1) || (backToKw pos (keywordEach [⟨some n, e, kp⟩] X.env)).any (·.1.isNone)) = false := by rfl)
    (ht : eval (.Call (.Attribute o m apos) [] [⟨some n, e, kp⟩] pos) X.env = (eval o X.env >>= fun ov => standAt apos.atName >>= fun _ => holding [ov] (getMethod ov m pl) >>= fun fp => callWith pos fp.1 fp.2 (backTo pos (starEach [] X.env)) (backToKw pos (keywordEach [⟨some n, e, kp⟩] X.env))) := by rfl) :
    PE X (.Call (.Attribute o m apos) [] [⟨some n, e, kp⟩] pos) (tMethS C m sp E to (tCons te tNil)) := by
  refine ⟨fun pins s σ H Q I h => ?_⟩
  refine PySem.W.methodCall_KW (pl := pl) (thn (ho.run pins s σ H _ I h) fun u s1 hh => ?_) ht
  obtain ⟨y, H1, I1, ry, a, dx, fs, rfl, hi, hl, q⟩ := hh
  cases ry
  refine meth_rd I1 hi c hm hl ?_
  have q : te σ H1 fun v H2 => sp ([V.ref a] ++ [v]) H2 Q (E σ) := q
  refine PySem.W.callWith_KW0 (first := [.ref a]) (h₀ := X.base) I.ok.mod.kin hm.kp hall (kw_one he I1 q fun z v H2 s2 I2 rz q2 => ⟨I2.kIn, ?_⟩) hpl
  rw [hks]
  exact run_fnKS (us := [.ref a]) (vs := [.ref a]) (ws := [z]) (zs := [v]) (ks := [n]) F hr hb (hx σ) rfl I2 (.cons rfl .nil) (.cons rz .nil) q2
/-- o.m(d, k = e) -/
theorem pe_methK11 {pl : Sem Bool} {n : Str} {d : Expr} {td te : TE} {kp : Pos} (ho : PE X o to) (c : Cls X.K C) (hm : Meth X.K C m f) (F : FnOk X.prog X.w X.K X.mg X.base CX k f fd ps sp) (hr : Room k X.A) (hb : KwOnly X.K fd ps [n]) (hx : ∀ σ, PassesAt CX X σ (E σ)) (hd : PE X d td) (he : PE X e te)
    (hall : (backToKw pos (keywordEach [⟨some n, e, kp⟩] X.env)).all (·.1.isSome) = true := by rfl) (hks : (backToKw pos (keywordEach [⟨some n, e, kp⟩] X.env)).filterMap (·.1) = [n] := by rfl)
    (hst : starEach [d] X.env = (false, eval d X.env) :: starEach [] X.env := by rfl)
    (hpl : ((backTo pos (starEach [d] X.env)).any (·.1) || (backToKw pos (keywordEach [⟨some n, e, kp⟩] X.env)).any (·.1.isNone)) = false := by rfl)
    (ht : eval (.Call (.Attribute o m apos) [d] [⟨some n, e, kp⟩] pos) X.env = (eval o X.env >>= fun ov => standAt apos.atName >>= fun _ => holding [ov] (getMethod ov m pl) >>= fun fp => callWith pos fp.1 fp.2 (backTo pos (starEach [d] X.env)) (backToKw pos (keywordEach [⟨some n, e, kp⟩] X.env))) := by rfl) :
    PE X (.Call (.Attribute o m apos) [d] [⟨some n, e, kp⟩] pos) (tMethS C m sp E to (tCons td (tCons te tNil))) := by
  refine ⟨fun pins s σ H Q I h => ?_⟩
  refine PySem.W.methodCall_KW (pl := pl) (thn (ho.run pins s σ H _ I h) fun u s1 hh => ?_) ht
  obtain ⟨y, H1, I1, ry, a, dx, fs, rfl, hi, hl, q⟩ := hh
  cases ry
  refine meth_rd I1 hi c hm hl ?_
  have q : tCons td tNil σ H1 fun vs H2 => te σ H2 fun v H3 => sp ((V.ref a :: vs) ++ [v]) H3 Q (E σ) := q
  refine PySem.W.callWith_KW (first := [.ref a]) (h₀ := X.base) I.ok.mod.kin hm.kp hall (thn ((pa_cons hd pa_nil hst).run pos pins s1 σ H1 _ I1 q) fun us s2 hv => ?_) hpl hst
  obtain ⟨vs, H2, I2, rv, q2⟩ := hv
  refine kw_one he I2 q2 fun z v H3 s3 I3 rz q3 => ⟨I3.kIn, ?_⟩
  rw [hks]
  exact run_fnKS (us := .ref a :: us) (vs := .ref a :: vs) (ws := [z]) (zs := [v]) (ks := [n]) F hr hb (hx σ) rfl I3 (.cons rfl rv) (.cons rz .nil) q3
theorem kw_binds {K : PySem.W.Frag} {nm qual : Str} {params : Arguments} {body : List Stmt} {scope : Scope} {kwv : List (Str × V)} (F : FunD K nm qual params body scope [] kwv f fd)
    (h : ∀ (kV doc pm : Value) (an : Option Addr) (cdv ct : Value) (us ws : List Value), ws.length = ks.length → (us ++ ws).length = ps.length → bindArgs (PySem.W.fnOf nm qual params body scope .none kV doc pm an cdv ct) ⟨us, ks.zip ws⟩ = pure (ps.zip (us ++ ws))) : KwOnly K fd ps ks := by
  obtain ⟨oc, od, dV, kV, doc, pm, an, cdv, ct, osl, rfl, lk, hcd, hD, hK⟩ := F.ex
  rcases hD with ⟨_, rfl⟩ | ⟨z, _⟩
  · exact fun s us ws _ h1 h2 => .of_eq (h kV doc pm an cdv ct us ws h1 h2)
  · exact absurd rfl z
end
/-! ### isinstance of a caught exception -/
theorem call_isX {X : Cx} {a : Addr} {oe : Obj} {cls : Value} {d : Option Addr} {pn : List (Addr × Obj)} (hz : Zc cls d oe) (hf : ∃ vs, oe.data = .fields vs) : CallR (X.suite a ((a, oe) :: pn)) (.builtin "isinstance") (rIsX X.K a cls d) := by
  intro pins s σ H xs us Q I r h
  obtain ⟨C, v, u, b, rfl, rfl, T, hv, hd, hk, q⟩ := h
  obtain ⟨u1, u2, rfl, r1, r2⟩ := vals2 r
  cases r1
  have e2 := hv.eq r2
  subst e2
  obtain ⟨ha, _⟩ := I.pin (a, oe) (List.mem_append_left _ List.mem_cons_self)
  obtain ⟨vs, hvs⟩ := hf
  have hcl : (PySem.W.clsIn X.K C).isSome = true := by
    obtain ⟨cd, h1, _⟩ := PySem.W.any_some T.hd
    rw [h1]
    rfl
  rcases hd with rfl | ⟨dd, fs, rfl, hx⟩
  · have J : PySem.W.InstAt s.heap a oe C none := ⟨ha, hz.1, by unfold PySem.W.notCls; rw [hvs] <;> rfl, by rw [hz.2]; trivial⟩
    exact PySem.W.kia_one (PySem.W.handS_kitx_exc T.hg T.hk T.hs T.hd T.ha T.hn T.ht T.hm) I.kIn J hk (fun z => nomatch z) fun tk => ⟨.bl b, H, I.kept (t' := tk) fun _ _ z => z, rfl, q⟩
  · have ok : ObjOk X.prog X.w H s.heap dd (.xd fs) := I.hok dd _ hx
    obtain ⟨mA, hns, hr⟩ := ok
    obtain ⟨od, ho, hl⟩ := lookIn_ns hns
    have J : PySem.W.InstAt s.heap a oe C (some od) := ⟨ha, hz.1, by unfold PySem.W.notCls; rw [hvs] <;> rfl, by rw [hz.2]; exact ho⟩
    exact PySem.W.kia_one (PySem.W.kitx_exc hcl T.hg T.hk T.hs T.ha T.hn T.ht T.hm) I.kIn J hk (fun z => nomatch z) fun tk => ⟨.bl b, H, I.kept (t' := tk) fun _ _ z => z, rfl, q⟩
end My


/-! Q10: two fors in one comprehension; more of lists, tuples, dicts. -/
namespace My
open PySem PySem.Spec PyProof.Rows L2
/-- no slot that may change or is lent holds what stands at L -/
def Off (σ : L2.St) (σd : Sd) (L : Addr) : Prop := ∀ j : Nat, (looseC ((σd[j]?).join) = true ∨ roC ((σd[j]?).join) = true) → σ[j]? ≠ some (some (.ref L))
section
variable {K : PySem.W.Frag} {s c L : Addr} {H0 H F : Hp} {σ σ' : L2.St} {σd σd' : Sd}
theorem Off.stand (h : Off σ σd L) (st : Stand σ σd σ' σd') : Off σ' σd' L := fun j q => by
  obtain ⟨h1, h2⟩ := st j q
  rw [h1]
  rw [h2] at q
  exact h j q
theorem wipe_stand : ∀ vs : List Nat, Stand σ σd (wipe σ vs) (wipeD σd vs)
  | [] => .refl _ _
  | v :: vs => by
    refine (wipe_stand vs).trans fun j h => ?_
    show ((wipe σ vs).set v none)[j]? = _ ∧ ((wipeD σd vs).set v none)[j]? = _
    have h : looseC ((((wipeD σd vs).set v none)[j]?).join) = true ∨ roC ((((wipeD σd vs).set v none)[j]?).join) = true := h
    rw [set_at] at h
    by_cases e : v = j
    · rw [if_pos e] at h
      by_cases q : j < (wipeD σd vs).length
      · rw [if_pos q] at h
        rcases h with h | h <;> cases h
      · rw [if_neg q] at h
        rcases h with h | h <;> cases h
    · rw [set_at, set_at, if_neg e, if_neg e]
      exact ⟨rfl, rfl⟩
theorem off_new (R : Rel K s c H0 σ H σd) (hL : H L = none) : Off σ σd L := fun j q hj => by
  obtain ⟨x, hx, hr⟩ := R.slot j _ hj
  rw [hx] at q
  cases x with
  | none => rcases q with q | q <;> cases q
  | some x =>
    cases x with
    | dat d => rcases q with q | q <;> cases q
    | un => rcases q with q | q <;> cases q
    | ex a cls d x => rcases q with q | q <;> cases q
    | lm ds => obtain ⟨b, us, eb, hb, _⟩ := hr; cases eb; rw [hL] at hb; cases hb
    | dm ds => obtain ⟨b, us, eb, hb, _⟩ := hr; cases eb; rw [hL] at hb; cases hb
    | tm ds => obtain ⟨b, us, eb, hb, _⟩ := hr; cases eb; rw [hL] at hb; cases hb
    | om o C ds => obtain ⟨b, us, eb, hb, _⟩ := hr; cases eb; rw [hL] at hb; cases hb
    | rl ds => obtain ⟨b, us, eb, hb, _⟩ := hr; cases eb; rw [hL] at hb; cases hb
    | rd ds => obtain ⟨b, us, eb, hb, _⟩ := hr; cases eb; rw [hL] at hb; cases hb
    | rt ds => obtain ⟨b, us, eb, hb, _⟩ := hr; cases eb; rw [hL] at hb; cases hb
/-- the list at L, which no slot holds, is written -/
theorem rel_off {us us' : List V} (R : Rel K s c H0 σ F σd) (off : Off σ σd L) (hF : F L = some (.lst us)) (hL0 : H0 L = none) (nL : L ≠ s ∧ L ≠ c) : Rel K s c H0 σ (upd F L (.lst us')) σd := by
  have kl : Kp L F (upd F L (.lst us')) := Kp.self
  have imL := kl.im ⟨_, hF, rfl⟩
  refine ⟨R.src.kp nL.1.symm nL.2.symm kl, R.kp0.via hL0 kl, R.len, fun j u hj => ?_, R.new, R.apart, R.old⟩
  obtain ⟨q, hq, hrq⟩ := R.slot j u hj
  refine ⟨q, hq, ?_⟩
  cases u with
  | none => cases q with
    | none => trivial
    | some q => exact hrq
  | some u => cases q with
    | none => exact hrq
    | some q =>
      have nb : (looseC (some q) = true ∨ roC (some q) = true) → u ≠ .ref L := fun h z => by
        subst z
        exact off j (by rw [hq]; exact h) hj
      cases q with
      | dat d => exact DR.im imL hrq
      | un => trivial
      | ex a cls d x => exact ⟨hrq.1, hrq.2.im imL⟩
      | lm es => obtain ⟨b, ws, rfl, hb, hdd, q1, q2⟩ := hrq; exact ⟨b, ws, rfl, kl _ _ (fun z => nb (.inl rfl) (by rw [z])) hb, hdd.im imL, q1, q2⟩
      | dm es => obtain ⟨b, ws, rfl, hb, hdd, q1, q2⟩ := hrq; exact ⟨b, ws, rfl, kl _ _ (fun z => nb (.inl rfl) (by rw [z])) hb, hdd.im imL, q1, q2⟩
      | tm es => obtain ⟨b, ws, rfl, hb, hdd, q1, q2⟩ := hrq; exact ⟨b, ws, rfl, kl _ _ (fun z => nb (.inl rfl) (by rw [z])) hb, hdd.im imL, q1, q2⟩
      | om b C es => obtain ⟨dx, ws, rfl, hb, hdd, q1, q2⟩ := hrq; exact ⟨dx, ws, rfl, kl _ _ (fun z => nb (.inl rfl) (by rw [z])) hb, hdd.im imL, q1, q2⟩
      | rl es => obtain ⟨b, ws, rfl, hb, hdd, q1, q2⟩ := hrq; exact ⟨b, ws, rfl, kl _ _ (fun z => nb (.inr rfl) (by rw [z])) hb, hdd.im imL, q1, q2⟩
      | rd es => obtain ⟨b, ws, rfl, hb, hdd, q1, q2⟩ := hrq; exact ⟨b, ws, rfl, kl _ _ (fun z => nb (.inr rfl) (by rw [z])) hb, hdd.im imL, q1, q2⟩
      | rt es => obtain ⟨b, ws, rfl, hb, hdd, q1, q2⟩ := hrq; exact ⟨b, ws, rfl, kl _ _ (fun z => nb (.inr rfl) (by rw [z])) hb, hdd.im imL, q1, q2⟩
end
section
variable {K : PySem.W.Frag} {s c : Addr} {H0 : Hp}
/-- [e for g in it if t for g1 in it1 if t1] -/
def pLc2 (it : PNx) (g : PGx) (t : PTx) (it1 : PNx) (g1 : PGx) (t1 : PTx) (el : PEx) (vs vs1 : List Nat) : PNx := fun σd P => it σd fun ds => ∃ inv : Nat → List D → Prop, inv 0 [] ∧
  (∀ i d acc, ds[i]? = some d → inv i acc → g d (wipeD σd vs) fun σd2 => t σd2 fun b => if b = true then it1 σd2 fun es => ∃ inv1 : Nat → List D → Prop, inv1 0 acc ∧
    (∀ j e acc1, es[j]? = some e → inv1 j acc1 → acc1.length ≤ 100000 ∧ g1 e (wipeD σd2 vs1) fun σd3 => t1 σd3 fun b1 => if b1 = true then el σd3 fun x => ∃ y, x = .dat y ∧ inv1 (j + 1) (acc1 ++ [y]) else inv1 (j + 1) acc1) ∧ ∀ acc1, inv1 es.length acc1 → inv (i + 1) acc1 else inv (i + 1) acc) ∧ ∀ acc, inv ds.length acc → P acc
theorem L_lc2 {ti ti1 : TI} {g g1 : TG} {tt tt1 : TT} {te : TE} {it it1 : PNx} {pg pg1 : PGx} {t t1 : PTx} {el : PEx} {vs vs1 ts ts1 : List Nat} (hi : LI K s c H0 ti it) (hg : LG K s c H0 g pg ts) (ht : LT K s c H0 tt t) (hi1 : LI K s c H0 ti1 it1) (hg1 : LG K s c H0 g1 pg1 ts1) (ht1 : LT K s c H0 tt1 t1) (he : LE K s c H0 te el)
    (sub : ∀ x ∈ ts, x ∈ vs := by decide) (sub1 : ∀ x ∈ ts1, x ∈ vs1 := by decide) : LN K s c H0 (tLc2 ti g tt ti1 g1 tt1 te vs vs1) (pLc2 it pg t it1 pg1 t1 el vs vs1) := fun σ σd H Q P R h k => by
  refine hi σ σd H _ _ R h fun ds J G Y H1 h1 s1 w g0 gp hy => ?_
  obtain ⟨inv, i0, turn, fin⟩ := h1
  intro L hL
  have nL := s1.src.ne hL
  have R1 := R.stp s1
  have hL0 : H0 L = none := Kp.none R1.kp0 nL.1 hL
  have hLH : H L = none := Kp.none s1.kp nL.1 hL
  have off : Off σ σd L := off_new R1 hL
  have sm0 := same_new (o := .lst []) hL
  -- what holds between the turns
  let Pv : Nat → Hp → Prop := fun i A => ∃ acc us, inv i acc ∧ A L = some (.lst us) ∧ DRs K s A us acc ∧ Rel K s c H0 σ A σd ∧ Im H1 A ∧ Kp s H A
  refine ⟨fun i m A => m = ds.length - i ∧ i ≤ ds.length ∧ Pv i A, ⟨ds.length, by omega, Nat.zero_le _, [], [], i0, upd_same, .nil, R1.stp (.same s1.src sm0), Same.im sm0, s1.kp.trans (kp_same sm0)⟩, ?_⟩
  rintro i m A ⟨rfl, hile, acc, us, hinv, hA, hdr, RA, im, kpA⟩
  have gA := gp _ _ im g0
  by_cases hlt : i < ds.length
  · refine .inr ⟨w.goes i A hlt gA, Pv (i + 1), fun A' p' => ⟨_, by omega, rfl, hlt, p'⟩, fun x B y => ?_⟩
    obtain ⟨sm, d, hd, hr⟩ := hy i A x B hlt im gA (w.yields i A x B hlt gA y)
    have RB : Rel K s c H0 σ B σd := RA.stp (.same RA.src sm)
    have imB := im.trans (Same.im sm)
    have hB : B L = some (.lst us) := sm _ _ hA
    refine hg (wipe σ vs) (wipeD σd vs) B x d _ _ (RB.wipe vs) hr (turn i d acc hd hinv) fun σ2 σd2 h2 R2 l2 k2 st2 => ⟨wipe_back l2 k2 sub, ?_⟩
    have off2 : Off σ2 σd2 L := (off.stand (wipe_stand vs)).stand st2
    refine ht σ2 σd2 B _ _ R2 h2 fun b C h3 s3 => ?_
    have hC : C L = some (.lst us) := s3.kp _ _ nL.1 hB
    have imC := imB.trans (s3.im R2.src)
    have RC := RB.stp s3
    have R2C := R2.stp s3
    have kpC : Kp s H C := (kpA.trans (kp_same sm)).trans s3.kp
    have hdC := hdr.im ((Same.im sm).trans (s3.im R2.src))
    cases b with
    | false =>
      rw [if_neg Bool.false_ne_true] at h3 ⊢
      exact ⟨acc, us, h3, hC, hdC, RC, imC, kpC⟩
    | true =>
      rw [if_pos rfl] at h3 ⊢
      refine hi1 σ2 σd2 C _ _ R2C h3 fun es J1 G1 Y1 C1 h4 s4 w1 g01 gp1 hy1 => ?_
      obtain ⟨inv1, i01, turn1, fin1⟩ := h4
      have hC1 : C1 L = some (.lst us) := s4.kp _ _ nL.1 hC
      let Pw : Nat → Hp → Prop := fun j A => ∃ acc1 us1, inv1 j acc1 ∧ A L = some (.lst us1) ∧ DRs K s A us1 acc1 ∧ Rel K s c H0 σ A σd ∧ Rel K s c H0 σ2 A σd2 ∧ Im C1 A ∧ Kp s H A
      have im4 := s4.im R2C.src
      refine ⟨fun j m A => m = es.length - j ∧ j ≤ es.length ∧ Pw j A, ⟨es.length, by omega, Nat.zero_le _, acc, us, i01, hC1, hdC.im im4, RC.stp s4, R2C.stp s4, Im.refl _, kpC.trans s4.kp⟩, ?_⟩
      rintro j m A1 ⟨rfl, hjle, acc1, us1, hinv1, hA1, hdr1, RA1, R2A1, im1, kpA1⟩
      have gA1 := gp1 _ _ im1 g01
      by_cases hlt1 : j < es.length
      · refine .inr ⟨w1.goes j A1 hlt1 gA1, Pw (j + 1), fun A' p' => ⟨_, by omega, rfl, hlt1, p'⟩, fun x1 B1 y1 => ?_⟩
        obtain ⟨sm1, e1, he1, hr1⟩ := hy1 j A1 x1 B1 hlt1 im1 gA1 (w1.yields j A1 x1 B1 hlt1 gA1 y1)
        obtain ⟨hlen, turn1⟩ := turn1 j e1 acc1 he1 hinv1
        have RB1 := RA1.stp (.same RA1.src sm1)
        have R2B1 := R2A1.stp (.same R2A1.src sm1)
        have hB1 : B1 L = some (.lst us1) := sm1 _ _ hA1
        refine hg1 (wipe σ2 vs1) (wipeD σd2 vs1) B1 x1 e1 _ _ (R2B1.wipe vs1) hr1 turn1 fun σ3 σd3 h5 R3 l3 k3 st3 => ⟨wipe_back l3 k3 sub1, ?_⟩
        refine ht1 σ3 σd3 B1 _ _ R3 h5 fun b1 C2 h6 s6 => ?_
        have hC2 : C2 L = some (.lst us1) := s6.kp _ _ nL.1 hB1
        have im6 := s6.im R3.src
        have RC2 := RB1.stp s6
        have R2C2 := R2B1.stp s6
        have imC2 := (im1.trans (Same.im sm1)).trans im6
        have kpC2 : Kp s H C2 := (kpA1.trans (kp_same sm1)).trans s6.kp
        have hdC2 := hdr1.im ((Same.im sm1).trans im6)
        cases b1 with
        | false =>
          rw [if_neg Bool.false_ne_true] at h6 ⊢
          exact ⟨acc1, us1, h6, hC2, hdC2, RC2, R2C2, imC2, kpC2⟩
        | true =>
          rw [if_pos rfl] at h6 ⊢
          refine he σ3 σd3 C2 _ _ (R3.stp s6) h6 fun z v F h7 r7 s7 => ?_
          obtain ⟨y2, rfl, h8⟩ := h7
          have hF : F L = some (.lst us1) := s7.kp _ _ nL.1 hC2
          have kl : Kp L F (upd F L (.lst (us1 ++ [v]))) := Kp.self
          have imL := kl.im ⟨_, hF, rfl⟩
          have im7 := s7.im RC2.src
          have hdF := hdC2.im im7
          refine ⟨us1, hF, Nat.lt_of_le_of_lt (show us1.length ≤ 100000 from by rw [hdF.len]; exact hlen) (by decide), acc1 ++ [y2], us1 ++ [v], h8, upd_same, (hdF.im imL).snoc (DR.im imL r7), rel_off (RC2.stp s7) off hF hL0 nL, rel_off (R2C2.stp s7) off2 hF hL0 nL, (imC2.trans im7).trans imL, (kpC2.trans s7.kp).via hLH kl⟩
      · have e : j = es.length := by omega
        subst e
        exact .inl ⟨w1.stops A1 gA1, acc1, us1, fin1 acc1 hinv1, hA1, hdr1, RA1, ((imC.trans im4).trans im1), kpA1⟩
  · have e : i = ds.length := by omega
    subst e
    exact .inl ⟨w.stops A gA, k acc L us A (fin acc hinv) hA hLH hdr ⟨kpA, RA.src⟩⟩
/-! ### more operators -/
def fCatA : P2 := fun x y P => ∃ ds es, x = .dat (.tup ds) ∧ y = .dat (.tup es) ∧ ds.length + es.length ≤ 100000 ∧ P (.dat (.tup (ds ++ es)))
theorem O_catA : LOp K (rCatA K) fCatA := fun s c v w x y H Q P hx hy S h k => by
  obtain ⟨ds, es, rfl, rfl, hl, h⟩ := h
  obtain ⟨a, us, rfl, ha, hd⟩ := tup_at hx
  obtain ⟨b, ws, rfl, hb, he⟩ := tup_at hy
  refine ⟨a, b, us, ws, rfl, rfl, .inl (.inl ha), .inl (.inl hb), by rw [hd.len, he.len]; exact Nat.le_trans hl (by decide), fun z => ?_, fun _ z => ?_, fun _ _ p hp => ?_⟩
  · subst z
    cases hd
    exact k _ _ H h (.tup hb he) (.refl S)
  · subst z
    cases he
    rw [List.append_nil] at h
    exact k _ _ H h (.tup ha hd) (.refl S)
  · have e2 := stp_new (o := .tup (us ++ ws)) S hp
    exact k _ _ _ h (.tup upd_same ((hd.append he).im (e2.im S))) e2
def fRep : Cell → Cell → (List D → Prop) → Prop := fun x y P => ∃ (ds : List D) (n : Nat), x = .lm ds ∧ y = cI n ∧ n ≤ 1000 ∧ ds.length * n ≤ 100000 ∧ P (List.replicate n ds).flatten
theorem DRs.rep {s : Addr} {H : Hp} {vs : List V} {ds : List D} (h : DRs K s H vs ds) : ∀ n : Nat, DRs K s H (List.replicate n vs).flatten (List.replicate n ds).flatten
  | 0 => .nil
  | n + 1 => by
    rw [List.replicate_succ, List.replicate_succ, List.flatten_cons, List.flatten_cons]
    exact h.append (DRs.rep h n)
theorem O_rep : LOpN K rRep fRep := fun s c v w x y H Q P hx hy S h k => by
  obtain ⟨ds, n, rfl, rfl, hn, hl, h⟩ := h
  obtain ⟨a, us, rfl, ha, hd, _⟩ := hx
  refine ⟨a, n, us, rfl, int_eq hy, ha, by omega, by omega, by rw [hd.len, Int.toNat_natCast]; exact Nat.le_trans hl (by decide), fun p hp => ?_⟩
  rw [Int.toNat_natCast]
  have e2 := stp_new (o := .lst (List.replicate n us).flatten) S hp
  exact k _ _ _ _ h upd_same hp ((hd.rep n).im (e2.im S)) e2
/-! ### xs.clear(), xs.extend(t) -/
theorem S_clear (i : Nat) : LS K s c H0 (tDrop (tBM K "list" rClear (tVar i) tNil)) (pClear i) := fun σ σd H E e R h k => by
  obtain ⟨ds, hi, h⟩ := h
  obtain ⟨v, hv, hr⟩ := R.at hi
  obtain ⟨l, vs, rfl, hl, hd, n1, n2⟩ := id hr
  refine ⟨_, hv, .inl ⟨rfl, _, SqL.of hl⟩, l, vs, rfl, rfl, hl, ?_⟩
  have kl : Kp l H (upd H l (.lst [])) := Kp.self
  exact k.nx σ _ _ h (R.write hv hi rfl ⟨l, [], rfl, upd_same, .nil, n1, n2⟩) (kl.im ⟨_, hl, rfl⟩)
def rExtT (K : PySem.W.Frag) : V → List V → Hp → VK → Prop := fun x vs H Q => ∃ l b xs zs, x = .ref l ∧ vs = [.ref b] ∧ H l = some (.lst xs) ∧ SqT K H b zs ∧ xs.length + zs.length ≤ sizeLine ∧ Q .non (upd H l (.lst (xs ++ zs)))
def pExt (i : Nat) (a : PEx) : PSx := fun e σd => ∃ ds, σd[i]? = some (some (.lm ds)) ∧ a σd fun x => ∃ es, x = .dat (.tup es) ∧ ds.length + es.length ≤ 100000 ∧ e.nx (σd.set i (some (.lm (ds ++ es))))
theorem S_ext {t : TE} {a : PEx} (i : Nat) (ha : LE K s c H0 t a) : LS K s c H0 (tDrop (tBM K "list" (rExtT K) (tVar i) (tCons t tNil))) (pExt i a) := fun σ σd H E e R h k => by
  obtain ⟨ds, hi, h⟩ := h
  obtain ⟨v, hv, hr⟩ := R.at hi
  obtain ⟨l, vs, rfl, hl, hd, n1, n2⟩ := id hr
  refine ⟨_, hv, .inl ⟨rfl, _, SqL.of hl⟩, ?_⟩
  refine ha σ σd H _ _ R h fun x w H1 h1 r1 s1 => ?_
  obtain ⟨es, rfl, hz, h2⟩ := h1
  have R1 := R.stp s1
  obtain ⟨l', vs', e', hl1, hd1, _⟩ := hr.stp R.src s1
  cases e'
  obtain ⟨b, ws, rfl, hb, hw⟩ := tup_at r1
  have kl : Kp l H1 (upd H1 l (.lst (vs' ++ ws))) := Kp.self
  have im := kl.im ⟨_, hl1, rfl⟩
  refine ⟨l, b, vs', ws, rfl, rfl, hl1, .inl (.inl hb), by rw [hd1.len, hw.len]; exact Nat.le_trans hz (by decide), ?_⟩
  exact k.nx σ _ _ h2 (R1.write hv hi rfl ⟨l, _, rfl, upd_same, (hd1.im im).append (hw.im im), n1, n2⟩) ((s1.im R.src).trans im)
end
section
variable {X : Cx}
theorem mt_extT : MtM X "list.extend" (rExtT X.K) := by
  intro pins s σ H x vs v us Q I rx rv h
  obtain ⟨l, b, xs, zs, rfl, rfl, hH, hB, hz, q⟩ := h
  cases rx
  obtain ⟨u, rfl, ru⟩ := rv.one
  cases ru
  obtain ⟨z, its, n, r, hl, e⟩ := I.lstM hH
  obtain ⟨its2, r2, p2, hz2⟩ := I.tuple hB
  obtain ⟨o, ho, hc, n2, hd⟩ := id p2
  have hl1 := r.length
  have hl2 := r2.length
  refine GQ.call_here PySem.F.slot_list_extend ⟨_, e, rfl⟩ PySem.F.entry_list_extend (PySem.F.args_list_extend_2 _ _) ?_
  show wpAny _ _ (selfAndOne "list.extend" ⟨[.ref l, .ref b], []⟩ >>= fun p => Builtin.List.listExtendWith p.1 p.2 .none) _ _ _
  refine wpAny_bind (wpAny_of_eq (a := (Value.ref l, Value.ref b)) (by first | rfl | kernel_rfl) ?_)
  dsimp only
  unfold Builtin.List.listExtendWith
  refine wpAny_bind (wpAny_typeOf ⟨o, ho, hc⟩ ?_)
  have h1 : (Builtin.List.listSameRef (.ref l) (.ref b) || Value.type "tuple" == Value.type "list" || Value.type "tuple" == Value.type "tuple") = true := by simp
  simp only [h1, if_true]
  refine wpAny_bind ?_
  unfold Builtin.List.listItems
  refine wpAny_bind (wpAny_seqItems ho hd (wpAny_pure ?_))
  refine wpAny_bind ?_
  refine wpAny_bind (wpAny_seqItems e rfl (wpAny_pure ?_))
  have hsz : its.toArray.size + its2.toArray.size ≤ sizeLine := by rw [List.size_toArray, List.size_toArray]; omega
  have hlong : (!its.toArray.isEmpty && Builtin.List.listTooLong (its.toArray.size + its2.toArray.size)) = false := by rw [notLongL hsz, Bool.and_false]
  simp only [hlong, Bool.false_eq_true, if_false]
  show wpAny _ _ (updateSeq l (· ++ its2.toArray) >>= fun _ => ret .none) _ _ s
  refine wpAny_bind (wpAny_updateSeq e rfl ?_ (by rw [List.size_toArray] at *; omega) (by rw [Array.size_append]; omega))
  refine wpAny_pure ?_
  exact ⟨.non, _, I.lset (its' := its ++ its2) hH e (by simp) (r.append r2) (by rw [List.length_append]; omega), rfl, q⟩
end
end My


/-! OwnZ: zip of a list and a tuple. -/
namespace My
open PySem PySem.Spec PyProof.Rows L2
abbrev mzA (g : Heap) (p : Addr) : Heap := g.push { cls := .type "list_iterator", data := .fields #[.ref p, .int 0 0] }
abbrev mzB (g : Heap) (p q : Addr) : Heap := (mzA g p).push { cls := .type "tuple_iterator", data := .fields #[.ref q, .int 0 0] }
abbrev mzC (g : Heap) (p q : Addr) : Heap := (mzB g p q).push { cls := .type "tuple", data := .seq #[.ref g.objs.size, .ref (mzA g p).objs.size] }
abbrev mzD (g : Heap) (p q : Addr) : Heap := (mzC g p q).push { cls := .type "tuple", data := .seq #[.none, .none] }
abbrev mzE (g : Heap) (p q : Addr) : Heap := (mzD g p q).push { cls := .type "zip", data := .fields #[.none, .bool false, .bool false, .ref (mzB g p q).objs.size, .ref (mzC g p q).objs.size] }
theorem meets_mz (p q : Addr) (us ws : Array Value) :
    Meets (Builtin.«zip.__new__» ⟨[.type "zip", .ref p, .ref q], []⟩) (fun _ R s => s.heap.IsList p us ∧ s.heap.IsTuple q ws ∧ R (.ok (.ret (.ref (mzD s.heap p q).objs.size))) { s with heap := mzE s.heap p q }) :=
  .of_wp fun prog w A R s h => by
    obtain ⟨hp, gg, dd, tk, os⟩ := s
    obtain ⟨a1, a2, h⟩ := h
    have hsub := sub_zip
    have b1 : Heap.IsList (Shared.heap ⟨hp, gg, dd, tk, os⟩) p us := a1
    have b2 : Heap.IsTuple (Shared.heap ⟨hp.push { cls := .type "list_iterator", data := .fields #[.ref p, .int 0 0] }, gg, dd, tk, os⟩) q ws := Heap.IsTuple.push a2 _
    wp_walk using wpAny_pyIter_list b1, wpAny_pyIter_tuple b2
    exact ⟨_, rfl, h⟩
section
variable {prog : Program} {w : World} {A : Around} {E : Value → Shared → Prop} {s : Shared}
theorem call_mz {p q : Addr} {us ws : Array Value} {Q : Value → Shared → Prop} (a1 : s.heap.IsList p us) (a2 : s.heap.IsTuple q ws)
    (h : ∀ h', IsZip h' (s.heap.objs.size + 4) (s.heap.objs.size + 2) (s.heap.objs.size + 3) .none → IsTupOf2 h' (s.heap.objs.size + 2) (.ref s.heap.objs.size) (.ref (s.heap.objs.size + 1)) → IsTupOf2 h' (s.heap.objs.size + 3) .none .none →
      h'.IsListIter s.heap.objs.size p 0 → h'.IsTupleIter (s.heap.objs.size + 1) q 0 → (∀ c o, s.heap.get? c = some o → h'.get? c = some o) → Q (.ref (s.heap.objs.size + 4)) { s with heap := h' }) :
    wpAny (model prog w) A (call (.type "zip") [.ref p, .ref q]) Q E s := by
  refine callType_new F.called_zip (by decide) (F.typeCall_zip_2 _ _) (F.newCall_zip_2 _ _) (fun obj => F.args_object_init_3 obj _ _) F.entry_zip_new (meets_mz p q us ws) ⟨a1, a2, ?_⟩
  have n1 : (mzA s.heap p).objs.size = s.heap.objs.size + 1 := Heap.size_push ..
  have n2 : (mzB s.heap p q).objs.size = s.heap.objs.size + 2 := by rw [Heap.size_push, n1]
  have n3 : (mzC s.heap p q).objs.size = s.heap.objs.size + 3 := by rw [Heap.size_push, n2]
  have n4 : (mzD s.heap p q).objs.size = s.heap.objs.size + 4 := by rw [Heap.size_push, n3]
  have up1 : ∀ {g : Heap} {o : Obj} {c : Addr} {x : Obj}, g.get? c = some x → (g.push o).get? c = some x := fun e => Heap.get?_push_of_some _ e
  have k5 : (mzE s.heap p q).get? (mzD s.heap p q).objs.size = some _ := Heap.get?_push_size _ rfl
  have k4 : (mzE s.heap p q).get? (mzC s.heap p q).objs.size = some _ := up1 (Heap.get?_push_size _ rfl)
  have k3 : (mzE s.heap p q).get? (mzB s.heap p q).objs.size = some _ := up1 (up1 (Heap.get?_push_size _ rfl))
  have k2 : (mzE s.heap p q).get? (mzA s.heap p).objs.size = some _ := up1 (up1 (up1 (Heap.get?_push_size _ rfl)))
  have k1 : (mzE s.heap p q).get? s.heap.objs.size = some _ := up1 (up1 (up1 (up1 (Heap.get?_push_size _ rfl))))
  show _ ∧ _
  rw [n2, n3, n4] at k5
  rw [n1, n2] at k3
  rw [n3] at k4
  rw [n1] at k2
  rw [n4]
  exact ⟨⟨_, k5, rfl⟩, h _ k5 k3 k4 ⟨_, k1, rfl, rfl⟩ ⟨_, k2, rfl, rfl⟩ fun c o x => up1 (up1 (up1 (up1 (up1 x))))⟩
end
/-- the list at a, the tuple at b, the items in new pairs -/
def Itm (K : PySem.W.Frag) (a b : Addr) : It :=
  ⟨fun i H => ∃ (vs us : List V) (x y : V), SqL K H a vs ∧ SqT K H b us ∧ vs[i]? = some x ∧ us[i]? = some y,
    fun i H v H' => ∃ T x y, v = .ref T ∧ H T = none ∧ H' = upd H T (.tup [x, y]) ∧ (∀ vs, SqL K H a vs → vs[i]? = some x) ∧ ∀ us, SqT K H b us → us[i]? = some y,
    fun i H => ∃ vs us : List V, SqL K H a vs ∧ SqT K H b us ∧ i ≤ vs.length ∧ i ≤ us.length ∧ (i = vs.length ∨ i = us.length)⟩
theorem sep_of {z TI TO i1 i2 a b : Addr} (D : ZipApart z TI TO i1 i2 a b) : ZipSep2 z TI TO i1 i2 [i1, a] [i2, b] where
  TIz := D.TIz
  TOz := D.TOz
  TITO := D.TITO
  TIi1 := D.TIi1
  mem1 := by simp
  zf1 := fun h => by
    rcases List.mem_cons.mp h with e | e
    · exact D.i1z e.symm
    · exact D.l1z (List.mem_singleton.mp e).symm
  Tf1 := fun h => by
    rcases List.mem_cons.mp h with e | e
    · exact D.TOi1 e
    · exact D.l1TO (List.mem_singleton.mp e).symm
  TIi2 := D.TIi2
  mem2 := by simp
  zf2 := fun h => by
    rcases List.mem_cons.mp h with e | e
    · exact D.i2z e.symm
    · exact D.l2z (List.mem_singleton.mp e).symm
  Tf2 := fun h => by
    rcases List.mem_cons.mp h with e | e
    · exact D.TOi2 e
    · exact D.l2TO (List.mem_singleton.mp e).symm
  sep1_2 := fun h => by
    rcases List.mem_cons.mp h with e | e
    · exact D.i12 e
    · exact D.l2i1 (List.mem_singleton.mp e).symm
  sep2_1 := fun h => by
    rcases List.mem_cons.mp h with e | e
    · exact D.i12 e.symm
    · exact D.l1i2 (List.mem_singleton.mp e).symm
theorem turn_mz {P : Program} {w : World} {K : PySem.W.Frag} {elts : List Expr} {kk : Nat} {tpos : Pos} {a b z TI TO i1 i2 : Addr} (D : ZipApart z TI TO i1 i2 a b) :
    Turn P w K (.Tuple elts kk tpos) (Itm K a b) [z, TI, TO, i1, i2] z (fun i h => IsZip h z TI TO .none ∧ IsTupOf2 h TI (.ref i1) (.ref i2) ∧ (∃ x y, IsTupOf2 h TO x y) ∧ h.IsListIter i1 a i ∧ h.IsTupleIter i2 b i) where
  mem := by simp
  obj := fun i h st c hc => by
    obtain ⟨zz, zi, ⟨_, _, zo⟩, ⟨o1, f1, _, g1⟩, ⟨o2, f2, _, g2⟩⟩ := st
    have m : c = z ∨ c = TI ∨ c = TO ∨ c = i1 ∨ c = i2 := by simpa using hc
    rcases m with rfl | rfl | rfl | rfl | rfl
    · exact ⟨_, zz, fun v n => nomatch n⟩
    · exact ⟨_, zi, fun v n => nomatch n⟩
    · exact ⟨_, zo, fun v n => nomatch n⟩
    · exact ⟨o1, f1, fun v n => by rw [g1] at n; cases n⟩
    · exact ⟨o2, f2, fun v n => by rw [g2] at n; cases n⟩
  keep := fun i h h' st k => by
    obtain ⟨zz, zi, ⟨x, y, zo⟩, f1, f2⟩ := st
    exact ⟨k z (by simp) _ zz, k TI (by simp) _ zi, ⟨x, y, k TO (by simp) _ zo⟩, f1.at fun o n => k i1 (by simp) o n, f2.at fun o n => k i2 (by simp) o n⟩
  item := by
    intro X hP hw hK hc i pins s σ H E I hf st hg
    subst hP hw hK
    obtain ⟨zz, zi, ⟨_, _, zo⟩, f1, f2⟩ := st
    obtain ⟨vs, us, x, y, qa, qb, gx, gy⟩ := hg
    obtain ⟨is1, r1, p1, _⟩ := I.list qa
    obtain ⟨is2, r2, p2, _⟩ := I.tuple qb
    obtain ⟨u1, hu1, ru1⟩ := r1.get gx
    obtain ⟨u2, hu2, ru2⟩ := r2.get gy
    have zl : z < s.heap.objs.size := Heap.lt_size zz
    have hh : X.A.in1.handled = none := I.ok.hd hc
    have b1 : i < is1.toArray.size := by rw [List.size_toArray]; exact (List.getElem?_eq_some_iff.mp hu1).1
    have b2 : i < is2.toArray.size := by rw [List.size_toArray]; exact (List.getElem?_eq_some_iff.mp hu2).1
    refine wpAny_pyNext_zipD2_item (sep_of D) (Draws.list hh i1 a D.l1i1 is1.toArray) (Draws.tuple hh i2 b D.l2i2 is2.toArray) zz zi zo ⟨f1, p1.isList⟩ ⟨f2, p2⟩ b1 b2 fun w1 w2 h' tk hw1 hw2 z' TO' st1 st2 hT hsz hk => ?_
    have q1 : w1 = u1 := by
      have n : is1.toArray[i]? = some w1 := hw1
      rw [List.getElem?_toArray, hu1] at n
      exact (Option.some.inj n).symm
    have q2 : w2 = u2 := by
      have n : is2.toArray[i]? = some w2 := hw2
      rw [List.getElem?_toArray, hu2] at n
      exact (Option.some.inj n).symm
    subst q1 q2
    refine ⟨_, rfl, wpAny_letOwnedTupleGo_zip (s := { s with heap := h', toks := tk }) z' fun h2 z2 sb => ?_⟩
    have hT2 : h2.get? s.heap.objs.size = some { cls := .type "tuple", data := .seq #[w1, w2] } := (sb.2 _ (Nat.ne_of_gt zl)).trans hT
    have nw : ObjOk X.prog X.w (upd H s.heap.objs.size (.tup [x, y])) h2 s.heap.objs.size (.tup [x, y]) := ⟨by show 2 ≤ sizeLine; decide, [w1, w2], .cons ru1 (.cons ru2 .nil), ⟨_, hT2, rfl, _, rfl⟩⟩
    have J : Inv X pins σ (upd H s.heap.objs.size (.tup [x, y])) { s with heap := h2, toks := tk } :=
      I.turnedNew (t' := tk) (ch := [z, TI, TO, i1, i2]) (fun c o hb n => (sb.2 c (fun m => hb (by simp [m]))).trans (hk c o (fun m => hb (by simp [m])) (fun m => hb (by simp [m])) (fun m => hb (by simp [m])) (fun m => hb (by simp [m])) n)) hf (Nat.le_refl _) nw
    refine ⟨.ref s.heap.objs.size, _, J, rfl, ⟨_, x, y, rfl, I.hok.fresh (Nat.le_refl _), rfl, fun l hl => by rw [I.list_inj hl qa]; exact gx, fun l hl => by rw [I.tuple_inj hl qb]; exact gy⟩, ⟨z2, (sb.2 _ D.TIz).trans (hk _ _ D.TIz D.TITO D.TIi1 D.TIi2 zi), ⟨w1, w2, (sb.2 _ D.TOz).trans TO'⟩, ?_, ?_⟩, fun c hcm => ?_⟩
    · exact st1.1.at fun o n => (sb.2 _ D.i1z).trans n
    · exact st2.1.at fun o n => (sb.2 _ D.i2z).trans n
    · have lt : c < s.heap.objs.size := by
        have m : c = z ∨ c = TI ∨ c = TO ∨ c = i1 ∨ c = i2 := by simpa using hcm
        rcases m with n | n | n | n | n
        · rw [n]; exact zl
        · rw [n]; exact Heap.lt_size zi
        · rw [n]; exact Heap.lt_size zo
        · rw [n]; obtain ⟨_, e, _⟩ := f1; exact Heap.lt_size e
        · rw [n]; obtain ⟨_, e, _⟩ := f2; exact Heap.lt_size e
      rw [upd_ne (Nat.ne_of_lt lt)]
      exact (hf c hcm).1
  done := by
    intro X hP hw hK hc i pins s σ H E I hf st hg
    subst hP hw hK
    obtain ⟨zz, zi, ⟨_, _, zo⟩, f1, f2⟩ := st
    obtain ⟨vs, us, qa, qb, l1, l2, hend⟩ := hg
    obtain ⟨is1, r1, p1, _⟩ := I.list qa
    obtain ⟨is2, r2, p2, _⟩ := I.tuple qb
    have m1 := r1.length
    have m2 := r2.length
    have hh : X.A.in1.handled = none := I.ok.hd hc
    exact wpAny_pyNext_zipD2_end (sep_of D) (Draws.list hh i1 a D.l1i1 is1.toArray) (Draws.tuple hh i2 b D.l2i2 is2.toArray) zz zi zo ⟨f1, p1.isList⟩ ⟨f2, p2⟩ (by rw [List.size_toArray]; omega) (by rw [List.size_toArray]; omega) (by rw [List.size_toArray, List.size_toArray]; omega) fun h' tk hk =>
      ⟨rfl, I.turnedL (t' := tk) (ch := [z, TI, TO, i1, i2]) (fun c o hb n => hk c o (fun m => hb (by simp [m])) (fun m => hb (by simp [m])) (fun m => hb (by simp [m])) (fun m => hb (by simp [m])) n) hf⟩
  self := fun A i s Q E st h => wpAny_pyIter_zip st.1 h
def iZipM (K : PySem.W.Frag) (t : TA) : TI := fun σ H R => t σ H fun vs H1 => ∃ a b us ws, vs = [.ref a, .ref b] ∧ SqL K H1 a us ∧ SqT K H1 b ws ∧ R (Itm K a b) H1
theorem pi_zipM {X : Cx} {e e2 : Expr} {t : TA} {p pos tpos : Pos} {elts : List Expr} {kk : Nat} (hg : Gl X "zip") (hm : X.mg "zip" = none) (ha : PA X [e, e2] t)
    (hs : starEach [e, e2] X.env = (false, eval e X.env) :: starEach [e2] X.env := by rfl) (hpl : (backTo pos (starEach [e2] X.env)).any (·.1) = false := by rfl) : PI X (.Tuple elts kk tpos) (.Call (.Name "zip" p) [e, e2] [] pos) (iZipM X.K t) := by
  refine ⟨fun pins s σ H R I h => ?_⟩
  refine Call_ (ld_blt I hg hm PyProof.Rows.boot_zip (PyProof.Rows.callWith_type1 (thn (ha.run pos pins s σ H _ I h) fun ks s1 hh => ?_) hs hpl))
  obtain ⟨vs, H1, I1, rr, a, b, us, ws, rfl, qa, qb, q⟩ := hh
  cases rr with
  | cons ra rr =>
    cases rr with
    | cons rb rr =>
      cases rr
      cases ra
      cases rb
      have fr : ∀ c, c ∈ [s1.heap.objs.size + 4, s1.heap.objs.size + 2, s1.heap.objs.size + 3, s1.heap.objs.size, s1.heap.objs.size + 1] → FpOk X pins H1 c := fun c hcm => by
        have m : c = s1.heap.objs.size + 4 ∨ c = s1.heap.objs.size + 2 ∨ c = s1.heap.objs.size + 3 ∨ c = s1.heap.objs.size ∨ c = s1.heap.objs.size + 1 := by simpa using hcm
        have le : s1.heap.objs.size ≤ c := by omega
        exact I1.fpOk le (I1.hok.fresh le)
      obtain ⟨is1, r1, p1, _⟩ := I1.list qa
      obtain ⟨is2, r2, p2, _⟩ := I1.tuple qb
      obtain ⟨o2, ho2, _⟩ := id p2
      refine call_mz p1.isList (show s1.heap.IsTuple b is2.toArray from p2) fun h' k1 k2 k3 k4 k5 hk => wpAny_pyIter_zip k1 ?_
      have I2 : Inv X pins σ H1 { s1 with heap := h' } := I1.kept (t' := s1.toks) hk
      exact ⟨s1.heap.objs.size + 4, [s1.heap.objs.size + 4, s1.heap.objs.size + 2, s1.heap.objs.size + 3, s1.heap.objs.size, s1.heap.objs.size + 1], _, _, H1, rfl, I2, turn_mz (PySem.W.ktu_apart s1.heap.objs.size a b p1.lt (Heap.lt_size ho2)), ⟨k1, k2, ⟨_, _, k3⟩, k4, k5⟩, fr, q⟩
theorem walk_mz {K : PySem.W.Frag} {a b : Addr} {us ws : List V} {n : Nat} (hn : n = min us.length ws.length) : Walk (Itm K a b) n (fun H => SqL K H a us ∧ SqT K H b ws) (YPair (fun i => us[i]?) (fun i => ws[i]?)) := by
  subst hn
  refine ⟨fun i _ hi q => ?_, fun _ q => ⟨us, ws, q.1, q.2, by omega, by omega, by omega⟩, fun i H v H' _ q y => ?_⟩
  · have b1 : i < us.length := by omega
    have b2 : i < ws.length := by omega
    exact ⟨us, ws, us[i], ws[i], q.1, q.2, by simp [b1], by simp [b2]⟩
  · obtain ⟨T, x, z, y1, y2, y3, y4, y5⟩ := y
    exact ⟨T, x, z, y1, y2, y3, y4 us q.1, y5 ws q.2⟩
section
variable {K : PySem.W.Frag} {s c : Addr} {H0 : Hp}
def pIZM (a : PAx) : PNx := fun σd P => a σd fun xs => ∃ ds es, xs = [.dat (.lst ds), .dat (.tup es)] ∧ P (zipD ds es)
theorem I_zipM {t : TA} {a : PAx} (ha : LA K s c H0 t a) : LI K s c H0 (iZipM K t) (pIZM a) := fun σ σd H R P Rl h k => by
  refine ha σ σd H _ _ Rl h fun xs vs H1 h1 r1 s1 => ?_
  obtain ⟨ds, es, rfl, h⟩ := h1
  obtain ⟨v, u, rfl, hv, hu⟩ := two_of r1
  cases hv with
  | @lst l o us _ hl hd =>
    cases hu with
    | @tup m ws _ hm he =>
      have hm : SqT K H1 m ws := .inl (.inl hm)
      refine ⟨l, m, us, ws, rfl, .inl (.inr ⟨o, hl⟩), hm, ?_⟩
      have w : Walk (Itm K l m) (zipD ds es).length (fun H => H l = some (.frz o (.lst us)) ∧ SqT K H m ws) (YPair (fun i => us[i]?) (fun i => ws[i]?)) := by
        refine (walk_mz (n := (zipD ds es).length) ?_).mono (fun H h => ⟨.inl (.inr ⟨o, h.1⟩), h.2⟩) fun i H x H' _ _ y => y
        rw [zipD_len, ← hd.len, ← he.len]
      refine k (zipD ds es) _ _ _ H1 h s1 w ⟨hl, hm⟩ (fun A B im h => ⟨frz_im im h.1, sqT_im im h.2⟩) fun i A x B hi im hG y => ?_
      obtain ⟨T, x1, y1, rfl, hT, rfl, e1, e2⟩ := y
      have sm := same_new (o := .tup [x1, y1]) hT
      obtain ⟨d, h3, h4⟩ := (hd.im im).get e1
      obtain ⟨d2, h5, h6⟩ := (he.im im).get e2
      exact ⟨sm, _, zipD_at h3 h5, .tup upd_same (.cons (h4.im (Same.im sm)) (.cons (h6.im (Same.im sm)) .nil))⟩
end
end My


/-! Q11: defs to which lists are lent; list(range(n)); written dicts; locking before a statement that may raise. -/
namespace My
open PySem PySem.Spec PyProof.Rows L2
/-- what a def gets of a cell: lists and dicts are lent -/
def argC : Cell → Option Cell
  | .dat d => some (.dat d)
  | .lm ds => some (.rl ds)
  | .dm ds => some (.rd ds)
  | .tm ds => some (.rt ds)
  | .rl ds => some (.rl ds)
  | .rd ds => some (.rd ds)
  | .rt ds => some (.rt ds)
  | _ => none
def argsC : List Cell → Option (List Cell)
  | [] => some []
  | x :: xs => match argC x, argsC xs with
    | some y, some ys => some (y :: ys)
    | _, _ => none
def isArg : Cell → Bool
  | .dat _ => true
  | .rl _ => true
  | .rd _ => true
  | .rt _ => true
  | _ => false
section
variable {K : PySem.W.Frag} {s c : Addr} {H H' : Hp}
theorem argC_at {v : V} {x y : Cell} (h : CellR K s c H v x) (e : argC x = some y) : CellR K s c H v y ∧ isArg y = true := by
  cases x <;> cases e <;> exact ⟨h, rfl⟩
theorem argsC_at : ∀ {vs : List V} {xs ys : List Cell}, CellsR K s c H vs xs → argsC xs = some ys → CellsR K s c H vs ys ∧ ∀ y ∈ ys, isArg y = true
  | _, _, ys, .nil, e => by cases e; exact ⟨.nil, fun y h => nomatch h⟩
  | _, _, ys, .cons (x := x) (xs := xs) h r, e => by
    unfold argsC at e
    cases h1 : argC x with
    | none => rw [h1] at e; cases e
    | some d =>
      cases h2 : argsC xs with
      | none => rw [h1, h2] at e; cases e
      | some ds =>
        rw [h1, h2] at e
        cases e
        obtain ⟨a1, a2⟩ := argC_at h h1
        obtain ⟨b1, b2⟩ := argsC_at r h2
        refine ⟨.cons a1 b1, fun y hy => ?_⟩
        rcases List.mem_cons.mp hy with rfl | hy
        · exact a2
        · exact b2 y hy
theorem CellsR.len : ∀ {vs : List V} {xs : List Cell}, CellsR K s c H vs xs → vs.length = xs.length
  | _, _, .nil => rfl
  | _, _, .cons _ r => by rw [List.length_cons, List.length_cons, CellsR.len r]
def startC (N : List Str) (xs : List Cell) : Sd := xs.map some ++ List.replicate (N.length - xs.length) none
theorem arg_slot {v : V} {x : Cell} (h : CellR K s c H v x) (e : isArg x = true) : looseC (some x) = false ∧ (roC (some x) = true → ∀ a, v = .ref a → H a ≠ none) := by
  cases x with
  | dat d => exact ⟨rfl, fun z => nomatch z⟩
  | rl ds =>
    obtain ⟨a, vs, rfl, ha, _⟩ := h
    exact ⟨rfl, fun _ b eb => by cases eb; rw [ha]; exact Option.some_ne_none _⟩
  | rd ds =>
    obtain ⟨a, vs, rfl, ha, _⟩ := h
    exact ⟨rfl, fun _ b eb => by cases eb; rw [ha]; exact Option.some_ne_none _⟩
  | rt ds =>
    obtain ⟨a, vs, rfl, ha, _⟩ := h
    exact ⟨rfl, fun _ b eb => by cases eb; rw [ha]; exact Option.some_ne_none _⟩
  | _ => cases e
theorem start_slotC (n : Nat) : ∀ {vs : List V} {xs : List Cell}, CellsR K s c H vs xs → (∀ x ∈ xs, isArg x = true) → ∀ (i : Nat) (v : Option V), (vs.map some ++ List.replicate n none)[i]? = some v →
    ∃ x, (xs.map some ++ List.replicate n none)[i]? = some x ∧ SlotR K s c H v x ∧ looseC x = false ∧ (roC x = true → ∀ a, v = some (.ref a) → H a ≠ none)
  | _, _, .nil, _, i, v, h => by
    have h : (List.replicate n (none : Option V))[i]? = some v := h
    rw [List.getElem?_replicate] at h
    show ∃ x, (List.replicate n (none : Option Cell))[i]? = some x ∧ _
    by_cases q : i < n
    · rw [if_pos q] at h
      cases h
      exact ⟨none, by rw [List.getElem?_replicate, if_pos q], trivial, rfl, fun z => nomatch z⟩
    · rw [if_neg q] at h
      cases h
  | _, _, .cons x r, g, 0, v, h => by
    cases h
    obtain ⟨a1, a2⟩ := arg_slot x (g _ List.mem_cons_self)
    exact ⟨_, rfl, x, a1, fun z a e => a2 z a (Option.some.inj e)⟩
  | _, _, .cons x r, g, i + 1, v, h => start_slotC n r (fun y hy => g y (List.mem_cons_of_mem _ hy)) i v h
theorem rel_startC {vs : List V} {xs : List Cell} {N : List Str} (S : Src H s c) (h : CellsR K s c H vs xs) (g : ∀ x ∈ xs, isArg x = true) : Rel K s c H (L2.start N vs) H (startC N xs) := by
  unfold L2.start startC
  rw [h.len]
  have hs := start_slotC (K := K) (s := s) (c := c) (H := H) (N.length - xs.length) h g
  have nl : ∀ i a, (vs.map some ++ List.replicate (N.length - xs.length) none)[i]? = some (some (V.ref a)) → looseC (((xs.map some ++ List.replicate (N.length - xs.length) none)[i]?).join) = true → False := fun i a e lo => by
    obtain ⟨x, h1, _, h3, _⟩ := hs i _ e
    rw [h1] at lo
    cases x with
    | none => cases lo
    | some x => rw [show (some (some x)).join = some x from rfl, h3] at lo; cases lo
  refine ⟨S, Kp.refl _ _, by simp [h.len], fun i v e => ?_, fun i a e lo => (nl i a e lo).elim, fun i j a n l1 l2 e1 e2 => nl i a e1 l1, fun i a e lo => ?_⟩
  · obtain ⟨x, h1, h2, _⟩ := hs i v e
    exact ⟨x, h1, h2⟩
  · obtain ⟨x, h1, _, _, h3⟩ := hs i _ e
    rw [h1] at lo
    cases x with
    | none => cases lo
    | some x => exact h3 lo a rfl
theorem rel_startIC {C x dx : Addr} {Hb : Hp} {us : List V} {xs : List Cell} {N : List Str} (S : Src Hb s c) (h : CellsR K s c Hb us xs) (g : ∀ x ∈ xs, isArg x = true) (hx : Hb x = none) (hdx : Hb dx = none) (ne : dx ≠ x) :
    Rel K s c Hb (L2.start N (.ref x :: us)) (upd (upd Hb dx (.own x)) x (.ins C dx [])) (some (.om x C []) :: startC (N.drop 1) xs) := by
  have nx := S.ne hx
  have sm : Same Hb (upd (upd Hb dx (.own x)) x (.ins C dx [])) := (same_new hdx).trans (same_new (by rw [upd_ne ne.symm]; exact hx))
  have S' := S.same sm
  have B := rel_startC (K := K) (N := N.drop 1) S h g
  have R0 := B.stp (.same S sm)
  unfold L2.start at R0 B ⊢
  have hN : N.length - (V.ref x :: us).length = (N.drop 1).length - us.length := by
    rw [List.length_cons, List.length_drop]
    omega
  rw [hN]
  have nl : ∀ i : Nat, looseC (((startC (N.drop 1) xs)[i]?).join) = true → False := fun i lo => by
    unfold startC at lo
    have hs := start_slotC (K := K) (s := s) (c := c) (H := Hb) ((N.drop 1).length - xs.length) h g
    have hlen : (us.map some ++ List.replicate ((N.drop 1).length - xs.length) none).length = (xs.map some ++ List.replicate ((N.drop 1).length - xs.length) none).length := by simp [h.len]
    by_cases q : i < (us.map some ++ List.replicate ((N.drop 1).length - xs.length) (none : Option V)).length
    · obtain ⟨y, h1, _, h3, _⟩ := hs i _ (List.getElem?_eq_getElem q)
      rw [h1] at lo
      cases y with
      | none => cases lo
      | some y => rw [show (some (some y)).join = some y from rfl, h3] at lo; cases lo
    · rw [List.getElem?_eq_none (by rw [← hlen]; exact Nat.le_of_not_lt q)] at lo
      cases lo
  refine ⟨S', kp_same sm, ?_, fun i v hi => ?_, fun i a hi lo => ?_, fun i j a nij l1 l2 hi hj => ?_, fun i a hi lo => ?_⟩
  · have := R0.len
    simp only [List.map_cons, List.cons_append, List.length_cons]
    rw [this]
  · cases i with
    | zero =>
      cases hi
      exact ⟨_, rfl, dx, [], rfl, upd_same, .nil, nx⟩
    | succ i => exact R0.slot i v hi
  · cases i with
    | zero => cases hi; exact hx
    | succ i => exact (nl i lo).elim
  · cases i with
    | zero => cases j with
      | zero => exact nij rfl
      | succ j => exact nl j l2
    | succ i => exact nl i l1
  · cases i with
    | zero => cases lo
    | succ i => exact B.old i a hi lo
end
section
variable {K : PySem.W.Frag} {s c : Addr} {H0 : Hp}
abbrev QC := List Cell → (D → Prop) → Prop
def MonoC (q : QC) : Prop := ∀ xs P P', (∀ d, P d → P' d) → q xs P → q xs P'
def upC (K : PySem.W.Frag) (q : QC) : Sp := fun vs H Q _ => ∃ (s c : Addr) (xs : List Cell), Src H s c ∧ CellsR K s c H vs xs ∧ (∀ x ∈ xs, isArg x = true) ∧ q xs fun d => ∀ v H', DR K s H' v d → Stp s c H H' → Q v H'
theorem len_upC {q : QC} {n : Nat} {vs : List V} {H : Hp} {Q : VK} {E : XK} (hq : ∀ xs P, q xs P → xs.length = n) (h : upC K q vs H Q E) : vs.length = n := by
  obtain ⟨s, c, xs, S, hd, _, h⟩ := h
  rw [hd.len]
  exact hq _ _ h
theorem run_upC {t : TS} {p : PSx} {N : List Str} {q : QC} {vs : List V} {H : Hp} {Q : VK} {E : XK} (hl : ∀ s c H0, LS K s c H0 t p) (hq : ∀ xs P, q xs P → p { nx := fun _ => P .non, rt := P } (startC N xs)) (h : upC K q vs H Q E) :
    t { nx := fun _ H' => Q .non H', rt := Q } (L2.start N vs) H := by
  obtain ⟨s, c, xs, S, hd, g, h⟩ := h
  refine hl s c H (L2.start N vs) (startC N xs) H _ _ (rel_startC S hd g) (hq xs _ h) ⟨fun σ σd H' h1 R _ => ?_, fun d v H' h1 r1 S1 k1 => ?_, fun _ _ _ h1 => h1.elim, fun _ _ _ h1 => h1.elim, fun _ _ _ h1 => h1.elim⟩
  · exact h1 .non H' .non ⟨R.kp0, R.src⟩
  · exact h1 v H' r1 ⟨k1, S1⟩
def pCallC (q : QC) (a : PAx) : PEx := fun σd P => a σd fun xs => ∃ ys, argsC xs = some ys ∧ q ys fun d => P (.dat d)
theorem L_callC {q : QC} {t : TA} {a : PAx} {E : XK} (m : MonoC q) (ha : LA K s c H0 t a) : LE K s c H0 (tCall (upC K q) [] E t) (pCallC q a) := fun σ σd H Q P R h k => by
  refine ha σ σd H _ _ R h fun xs vs H1 h1 r1 s1 => ?_
  obtain ⟨ys, e, h⟩ := h1
  obtain ⟨r2, g⟩ := argsC_at r1 e
  exact ⟨s, c, ys, s1.src, by rw [List.append_nil]; exact r2, g, m _ _ _ (fun d hd v H2 r2 s2 => k (.dat d) _ H2 hd r2 (s1.trans s2)) h⟩
/-- __init__ that may raise, to which lists are lent -/
abbrev QIC := List Cell → (List (Str × D) → Prop) → (Ex → Prop) → Prop
def MonoIC (q : QIC) : Prop := ∀ xs P P' X X', (∀ fs, P fs → P' fs) → (∀ x, X x → X' x) → q xs P X → q xs P' X'
def upIC (K : PySem.W.Frag) (C : Addr) (q : QIC) : Sp := fun vs H Q E => ∃ (s c : Addr) (xs : List Cell) (Hb : Hp) (x dx : Addr) (us : List V), vs = .ref x :: us ∧ H = upd (upd Hb dx (.own x)) x (.ins C dx []) ∧ Hb x = none ∧ Hb dx = none ∧ dx ≠ x ∧ Src Hb s c ∧ CellsR K s c Hb us xs ∧ (∀ x ∈ xs, isArg x = true) ∧
  q xs (fun fds => ∀ H' dx' fs, H' x = some (.ins C dx' fs) → DRf K s H' fs fds → Stp s c Hb H' → Q .non H') fun ex => ∀ cls d H', ExR K s H' cls d ex → Stp s c Hb H' → E cls d H'
theorem len_upIC {C : Addr} {q : QIC} {n : Nat} {vs : List V} {H : Hp} {Q : VK} {E : XK} (hq : ∀ xs P X, q xs P X → xs.length = n) (h : upIC K C q vs H Q E) : vs.length = n + 1 := by
  obtain ⟨s, c, xs, Hb, x, dx, us, rfl, _, _, _, _, _, hd, _, h⟩ := h
  rw [List.length_cons, hd.len, hq _ _ _ h]
theorem run_upIC {t : WX → TS} {p : PSXx} {N : List Str} {C : Addr} {q : QIC} {vs : List V} {H : Hp} {Q : VK} {E : XK} (hl : ∀ s c H0, LSX K s c H0 t p) (hq : ∀ x xs P X, q xs P X → p { nx := fun σd => ∃ fs r, σd = some (.om x C fs) :: r ∧ P fs, rt := fun _ => False } (fun ex _ => X ex) (some (.om x C []) :: startC (N.drop 1) xs)) (h : upIC K C q vs H Q E) :
    t (fun cls d _ H' => E cls d H') { nx := fun _ H' => Q .non H', rt := Q } (L2.start N vs) H := by
  obtain ⟨s, c, xs, Hb, x, dx, us, rfl, rfl, hx, hdx, ne, S, hd, g, h⟩ := h
  refine hl s c Hb _ _ _ _ _ _ _ (rel_startIC (N := N) S hd g hx hdx ne) (hq x xs _ _ h) ⟨fun σ σd H' h1 R _ => ?_, fun d v H' h1 => h1.elim, fun _ _ _ h1 => h1.elim, fun _ _ _ h1 => h1.elim, fun _ _ _ h1 => h1.elim⟩ fun ex cls d σ' σd' H' h1 r1 R _ => h1 cls d H' r1 ⟨R.kp0, R.src⟩
  obtain ⟨fs, r, rfl, h2⟩ := h1
  obtain ⟨w, hw, dx', us', ew, hu, hf, _⟩ := R.at (i := 0) (x := .om x C fs) rfl
  cases ew
  exact h2 H' dx' us' hu hf ⟨R.kp0, R.src⟩
def pMakeC (C : Addr) (q : QIC) (a : PAx) : Sd → (D → Prop) → (Ex → Prop) → Prop := fun σd P X => a σd fun xs => ∃ ys, argsC xs = some ys ∧ q ys (fun fs => P (.ins C fs)) X
theorem L_makeC {C : Addr} {q : QIC} {t : TA} {a : PAx} (mo : MonoIC q) (ha : LA K s c H0 t a) : LCX K s c H0 (fun W => tFrz (tMakeS C (upIC K C q) (WE W) t)) (pMakeC C q a) := fun σ σd H Q W P X R h k kx => by
  refine ha σ σd H _ _ R h fun xs vs H1 h1 r1 s1 => ?_
  obtain ⟨ys, e, h⟩ := h1
  obtain ⟨r2, g⟩ := argsC_at r1 e
  intro x dx hx hdx ne
  refine ⟨s, c, ys, H1, x, dx, vs, rfl, rfl, hx, hdx, ne, s1.src, r2, g, mo _ _ _ _ _ (fun fds hfd H' dx' fs hx' hf st => ⟨rfl, x, _, rfl, hx', trivial, fun o => ?_⟩) (fun ex hex cls d H' rx st => kx ex cls d H' hex rx (s1.trans st)) h⟩
  have nn := s1.src.ne hx
  have kl : Kp x H' (upd H' x (.frz o (.ins C dx' fs))) := Kp.self
  have im := kl.im ⟨_, hx', rfl⟩
  exact k _ _ _ hfd (.ins upd_same (hf.im im)) (s1.trans ⟨st.kp.via hx kl, st.src.kp nn.1.symm nn.2.symm kl⟩)
/-! ### locking before a statement that may raise -/
theorem X_frz {t : WX → TS} {p : PSXx} (i : Nat) (hp : LSX K s c H0 t p) : LSX K s c H0 (fun W => tFrzS i (t W)) (pFrzX i p) := fun σ σd H E e W xr R h k kx => by
  obtain ⟨x, d, hi, hx, h⟩ := h
  obtain ⟨v, hv, hr⟩ := R.at hi
  cases x with
  | lm ds =>
    cases hx
    obtain ⟨l, vs, rfl, hl, hd, n1, n2⟩ := id hr
    refine ⟨l, _, hv, hl, trivial, fun o => ?_⟩
    have kl : Kp l H (upd H l (.frz o (.lst vs))) := Kp.self
    have im := kl.im ⟨_, hl, rfl⟩
    exact hp σ _ _ E e W xr (R.write (x' := .dat (.lst ds)) (o := .frz o (.lst vs)) hv hi rfl (.lst upd_same (hd.im im))) h (k.im im) fun x cls d σ2 σd2 H2 a1 a2 a3 a4 => kx x cls d σ2 σd2 H2 a1 a2 a3 (im.trans a4)
  | dm ds =>
    cases hx
    obtain ⟨l, vs, rfl, hl, hd, n1, n2⟩ := id hr
    refine ⟨l, _, hv, hl, trivial, fun o => ?_⟩
    have kl : Kp l H (upd H l (.frz o (.dK vs))) := Kp.self
    have im := kl.im ⟨_, hl, rfl⟩
    exact hp σ _ _ E e W xr (R.write (x' := .dat (.dic ds)) (o := .frz o (.dK vs)) hv hi rfl (.dic upd_same (hd.im im))) h (k.im im) fun x cls d σ2 σd2 H2 a1 a2 a3 a4 => kx x cls d σ2 σd2 H2 a1 a2 a3 (im.trans a4)
  | tm ds =>
    cases hx
    obtain ⟨l, vs, rfl, hl, hd, n1, n2⟩ := id hr
    refine ⟨l, _, hv, hl, trivial, fun o => ?_⟩
    have kl : Kp l H (upd H l (.frz o (.dT vs))) := Kp.self
    have im := kl.im ⟨_, hl, rfl⟩
    exact hp σ _ _ E e W xr (R.write (x' := .dat (.dit ds)) (o := .frz o (.dT vs)) hv hi rfl (.dit upd_same (hd.im im))) h (k.im im) fun x cls d σ2 σd2 H2 a1 a2 a3 a4 => kx x cls d σ2 σd2 H2 a1 a2 a3 (im.trans a4)
  | dat d => cases hx
  | om x C ds => cases hx
  | un => cases hx
  | ex a cls d x => cases hx
  | rl ds => cases hx
  | rd ds => cases hx
  | rt ds => cases hx
/-! ### list(range(n)), written dicts -/
def pLstRg (a : PEx) : PNx := fun σd P => a σd fun x => ∃ n : Nat, x = cI n ∧ n ≤ 100000 ∧ P (rangeD n)
theorem rgV_dr {s : Addr} {H : Hp} (n : Nat) : DRs K s H (rgV 0 (n : Int)) (rangeD n) := by
  unfold rgV rangeD
  rw [show ((n : Int) - 0).toNat = n from by omega, show ((n : Int)).toNat = n from by omega]
  have go : ∀ l : List Nat, DRs K s H (l.map fun i => V.int (0 + (i : Nat))) (l.map fun (i : Nat) => D.int (i : Int)) := fun l => by
    induction l with
    | nil => exact .nil
    | cons a l ih => exact .cons (by show DR K s H (V.int (0 + (a : Int))) _; rw [Int.zero_add]; exact .int _) ih
  exact go _
theorem L_lstRg {t : TE} {a : PEx} (ha : LE K s c H0 t a) : LN K s c H0 (tLstRg (tRg1 t)) (pLstRg a) := fun σ σd H Q P R h k => by
  refine ha σ σd H _ _ R h fun x v H1 h1 r1 s1 => ?_
  obtain ⟨n, rfl, hn, h⟩ := h1
  refine ⟨n, int_eq r1, RgOk.of_le (by omega) (by omega) (by omega) (by omega), fun q hq => ?_⟩
  have e2 := stp_new (o := .lst (rgV 0 (n : Int))) s1.src hq
  exact k _ _ _ _ h upd_same (Kp.none s1.kp (s1.src.ne hq).1 hq) (rgV_dr n) (s1.trans e2)
/-- {'a': 1, ..} -/
def pDisp (kvs : List (Str × Int)) : PDx := fun σd P => P (kvs.map fun p => (.inr p.1, .int p.2))
theorem pairs_const {σ : L2.St} : ∀ (kvs : List (Str × Int)) {H : Hp} {Q : List (V × V) → Hp → Prop}, Q (kvs.map fun p => (V.str p.1, V.int p.2)) H → tPairs (kvs.map fun p => (tC (.str p.1), tC (.int p.2))) σ H Q
  | [], H, Q, h => h
  | p :: r, H, Q, h => pairs_const r h
theorem disp_dr {s : Addr} {H : Hp} : ∀ kvs : List (Str × Int), DRk K s H (kvs.map fun p => (.inr p.1, V.int p.2)) (kvs.map fun p => (.inr p.1, D.int p.2))
  | [] => .nil
  | p :: r => .cons (.int _) (disp_dr r)
theorem L_disp (kvs : List (Str × Int)) (hl : kvs.length ≤ 15) (hm : mergeK [] (kvs.map fun p => (.inr p.1, V.int p.2)) = kvs.map fun p => (.inr p.1, V.int p.2)) : LD K s c H0 (tDisp (kvs.map fun p => (tC (.str p.1), tC (.int p.2)))) (pDisp kvs) := fun σ σd H Q P R h k => by
  intro p hp
  refine pairs_const kvs ⟨upd_same, kvs.map fun p => (.inr p.1, V.int p.2), by rw [List.map_map]; rfl, by rw [List.length_map]; exact hl, ?_⟩
  rw [hm]
  have e2 : Stp s c H (upd (upd H p (.dK [])) p (.dK (kvs.map fun p => (.inr p.1, V.int p.2)))) := .same R.src fun b u e => by
    have q : b ≠ p := fun z => by subst z; rw [hp] at e; cases e
    rw [upd_ne q, upd_ne q]
    exact e
  exact k _ _ _ _ h upd_same hp (disp_dr kvs) e2
end
end My


/-! Q12: own classes and exceptions by their defs' promises; comprehensions over lists that may change; isinstance of an instance. -/
namespace My
open PySem PySem.Spec PyProof.Rows L2
def pLiftX (p : PSx) : PSXx := fun e _ => p e
section
variable (P : Program) (w : World) (K : PySem.W.Frag) (mg : Str → Option Value) (base : Heap) (C : Addr)
/-- __init__ of an exception class -/
def OkE (k : Nat) (ps : List Str) (sp : Sp) : Prop := ∃ f fd, OexC K C ∧ PySem.W.findIn K (.ref C) "__init__" = some (some (.ref f)) ∧ PySem.W.typeIn K (.ref f) = some (.type "function") ∧ Binds K fd ps [] ∧ FnOk P w K mg base CX0 k f fd ps sp
/-- __init__ that may raise -/
def OkIX (k : Nat) (ps : List Str) (sp : Sp) : Prop := ∃ f fd, Mk K C f ∧ Binds K fd ps [] ∧ FnOk P w K mg base (L2.CX P w) k f fd ps sp
/-- a method with keyword-only parameters that may raise -/
def OkMK (m : Str) (k : Nat) (ps ks : List Str) (sp : Sp) : Prop := ∃ f fd, Meth K C m f ∧ KwOnly K fd ps ks ∧ FnOk P w K mg base (L2.CX P w) k f fd ps sp
end
section
variable {X : Cx} {C : Addr} {m x n : Str} {k : Nat} {ps : List Str} {sp : Sp} {a b o e d : Expr} {es : List Expr} {td te to : TE} {t : TA} {p pos apos kp : Pos} {E : L2.St → XK}
theorem pmk_E (G : OkE X.prog X.w X.K X.mg X.base C k ps sp) (hr : Room (k + 1) X.A) (hg : Gl X x) (hm : X.mg x = some (.ref C)) (ha : PA X (e :: es) t)
    (hdb : (x == ("__debug__" : Str)) = false := by decide) (he : starEach (e :: es) X.env = (false, eval e X.env) :: starEach es X.env := by rfl) (hpl : (backTo pos (starEach es X.env)).any (·.1) = false := by rfl) : PMk X (.Call (.Name x p) (e :: es) [] pos) (tMkO C sp [] t) := by
  obtain ⟨f, fd, T, h1, h2, B, F⟩ := G
  exact pmk_oex T h1 h2 F hr B .nil pass0 hg hm ha hdb he hpl
theorem pe_mkX (G : OkIX X.prog X.w X.K X.mg X.base C k ps sp) (hr : Room (k + 1) X.A) (hg : Gl X x) (hm : X.mg x = some (.ref C)) (hx : ∀ σ, PassesAt (L2.CX X.prog X.w) X σ (E σ)) (ha : PA X (e :: es) t) (hdb : (x == ("__debug__" : Str)) = false := by decide)
    (he : starEach (e :: es) X.env = (false, eval e X.env) :: starEach es X.env := by rfl) (hpl : (backTo pos (starEach es X.env)).any (·.1) = false := by rfl) : PE X (.Call (.Name x p) (e :: es) [] pos) (tMakeS C sp E t) := by
  obtain ⟨f, fd, M, B, F⟩ := G
  exact pe_makeS M F hr hg hm B hx ha hdb he hpl
theorem pe_mK01 {pl : Sem Bool} (ho : PE X o to) (G : OkMK X.prog X.w X.K X.mg X.base C m k ps [n] sp) (hr : Room k X.A) (Z : ClsK X.K C) (hx : ∀ σ, PassesAt (L2.CX X.prog X.w) X σ (E σ)) (he : PE X e te)
    (hall : (backToKw pos (keywordEach [⟨some n, e, kp⟩] X.env)).all (·.1.isSome) = true := by rfl) (hks : (backToKw pos (keywordEach [⟨some n, e, kp⟩] X.env)).filterMap (·.1) = [n] := by rfl)
    (hpl : ((backTo pos (starEach [] X.env)).any (·.1) || (backToKw pos (keywordEach [⟨some n, e, kp⟩] X.env)).any (·.1.isNone)) = false := by rfl)
    (ht : eval (.Call (.Attribute o m apos) [] [⟨some n, e, kp⟩] pos) X.env = (eval o X.env >>= fun ov => standAt apos.atName >>= fun _ => holding [ov] (getMethod ov m pl) >>= fun fp => callWith pos fp.1 fp.2 (backTo pos (starEach [] X.env)) (backToKw pos (keywordEach [⟨some n, e, kp⟩] X.env))) := by rfl) :
    PE X (.Call (.Attribute o m apos) [] [⟨some n, e, kp⟩] pos) (tMethS C m sp E to (tCons te tNil)) := by
  obtain ⟨f, fd, M, B, F⟩ := G
  exact pe_methK01 (pl := pl) ho Z.cls M F hr B hx he hall hks hpl ht
theorem pe_mK11 {pl : Sem Bool} (ho : PE X o to) (G : OkMK X.prog X.w X.K X.mg X.base C m k ps [n] sp) (hr : Room k X.A) (Z : ClsK X.K C) (hx : ∀ σ, PassesAt (L2.CX X.prog X.w) X σ (E σ)) (hd : PE X d td) (he : PE X e te)
    (hall : (backToKw pos (keywordEach [⟨some n, e, kp⟩] X.env)).all (·.1.isSome) = true := by rfl) (hks : (backToKw pos (keywordEach [⟨some n, e, kp⟩] X.env)).filterMap (·.1) = [n] := by rfl)
    (hst : starEach [d] X.env = (false, eval d X.env) :: starEach [] X.env := by rfl)
    (hpl : ((backTo pos (starEach [d] X.env)).any (·.1) || (backToKw pos (keywordEach [⟨some n, e, kp⟩] X.env)).any (·.1.isNone)) = false := by rfl)
    (ht : eval (.Call (.Attribute o m apos) [d] [⟨some n, e, kp⟩] pos) X.env = (eval o X.env >>= fun ov => standAt apos.atName >>= fun _ => holding [ov] (getMethod ov m pl) >>= fun fp => callWith pos fp.1 fp.2 (backTo pos (starEach [d] X.env)) (backToKw pos (keywordEach [⟨some n, e, kp⟩] X.env))) := by rfl) :
    PE X (.Call (.Attribute o m apos) [d] [⟨some n, e, kp⟩] pos) (tMethS C m sp E to (tCons td (tCons te tNil))) := by
  obtain ⟨f, fd, M, B, F⟩ := G
  exact pe_methK11 (pl := pl) ho Z.cls M F hr B hx hd he hall hks hst hpl ht
theorem pe_methM0 {pl : Sem Bool} (ho : PE X o to) (G : OkM X.prog X.w X.K X.mg X.base C m k ps sp) (hr : Room k X.A) (Z : ClsK X.K C)
    (ht : eval (.Call (.Attribute o m apos) [] [] pos) X.env = (eval o X.env >>= fun ov => standAt apos.atName >>= fun _ => holding [ov] (getMethod ov m pl) >>= fun fp => callWith pos fp.1 fp.2 (backTo pos (starEach [] X.env)) (backToKw pos (keywordEach [] X.env))) := by rfl) :
    PE X (.Call (.Attribute o m apos) [] [] pos) (tMethR C m sp to tNil) := by
  obtain ⟨f, fd, M, _, B, F⟩ := G
  exact pe_meth0R (pl := pl) ho Z.cls M F hr B ht
end
/-- try .. except c as n, all is caught -/
theorem ps_tryT {X : Cx} {x n : Str} {c : Value} {i : Nat} {body suite : List Stmt} {b0 : Stmt} {np pos pos2 : Pos} {tb : WX → TS} {ts : Addr → Value → Option Addr → TS} (hs : X.stack = X.env :: X.outer) (hf : X.env.frame = some X.env.locals) (hN : X.N.Nodup) (hi : X.N[i]? = some n) (hln : X.env.kindOf n = some .local) (hc : Names X x c)
    (hb : ∀ (W : WX) (pn : List (Addr × Obj)) (xe : Value → Shared → Prop), Takes (X.tr pn xe) W → PassesOwn (model X.prog X.w) X.A X.env xe → PSs (X.tr pn xe) body (tb W))
    (hsu : ∀ (a : Addr) (oe : Obj) (cls : Value) (d : Option Addr) (pn : List (Addr × Obj)), Zc cls d oe → (∃ vs, oe.data = .fields vs) → PSs (X.suite a ((a, oe) :: pn)) (b0 :: suite) (ts a cls d)) :
    PS X (.Try body [.ExceptHandler (some (.Name x np)) (some n) (b0 :: suite) pos2] [] [] pos) (tTry X.K c i tb ts) := ps_try_as hs hf hN hi hln hc takes0 hb hsu
section
variable {K : PySem.W.Frag} {s c : Addr} {H0 : Hp}
/-! ### comprehensions over a list that may change, but not here -/
def LIk (K : PySem.W.Frag) (s c : Addr) (H0 : Hp) (ti : TI) (p : PNx) : Prop := ∀ (σ : L2.St) (σd : Sd) (H : Hp) (R : It → Hp → Prop) (P : List D → Prop), Rel K s c H0 σ H σd → p σd P →
  (∀ (ds : List D) (J : It) (G : Hp → Prop) (Y : Nat → Hp → V → Hp → Prop) (H' : Hp), P ds → Stp s c H H' → Walk J ds.length G Y → (∀ H1, Kp s H' H1 → Im H' H1 → G H1) →
    (∀ i H1 x H2, i < ds.length → Kp s H' H1 → Im H' H1 → Y i H1 x H2 → Same H1 H2 ∧ ∃ d, ds[i]? = some d ∧ DR K s H2 x d) → R J H') → ti σ H R
def pILk (a : PEx) : PNx := fun σd P => a σd fun x => ∃ ds, seqL x = some ds ∧ P ds
theorem seqL_kp {x : Cell} {v : V} {ds : List D} {H : Hp} (S : Src H s c) (h : CellR K s c H v x) (e : seqL x = some ds) : ∃ a vs, v = .ref a ∧ DRs K s H vs ds ∧ ∀ H1, Kp s H H1 → Im H H1 → SqL K H1 a vs := by
  cases x with
  | dat d =>
    cases d <;> first
      | (cases e; cases h with | lst h r => exact ⟨_, _, rfl, r, fun H1 _ im => .inl (.inr ⟨_, frz_im im h⟩)⟩)
      | cases e
  | lm ds =>
    cases e
    obtain ⟨a, vs, rfl, ha, hd, n1, _⟩ := h
    exact ⟨a, vs, rfl, hd, fun H1 kp _ => .inl (.inl (kp _ _ n1 ha))⟩
  | rl ds =>
    cases e
    obtain ⟨a, vs, rfl, ha, hd, n1, _⟩ := h
    exact ⟨a, vs, rfl, hd, fun H1 kp _ => .inl (.inl (kp _ _ n1 ha))⟩
  | _ => cases e
theorem I_listK {t : TE} {a : PEx} (ha : LE K s c H0 t a) : LIk K s c H0 (iList K t) (pILk a) := fun σ σd H R P Rl h k => by
  refine ha σ σd H _ _ Rl h fun x v H1 h1 r1 s1 => ?_
  obtain ⟨ds, e, h⟩ := h1
  obtain ⟨l, vs, rfl, hd, hs⟩ := seqL_kp s1.src r1 e
  refine ⟨l, rfl, ⟨vs, hs H1 (Kp.refl _ _) (Im.refl _)⟩, ?_⟩
  have w : Walk (Itl K l) ds.length (fun H => SqL K H l vs) (YAt vs) := by
    rw [← hd.len]
    exact walk_list
  refine k ds _ _ _ H1 h s1 w hs fun i A x B hi kp im y => ?_
  obtain ⟨eB, hx⟩ := y
  subst eB
  obtain ⟨d, h1, h2⟩ := (hd.im im).get hx
  exact ⟨Same.refl _, d, h1, h2⟩
theorem L_lcK {ti : TI} {g : TG} {tt : TT} {te : TE} {it : PNx} {pg : PGx} {t : PTx} {el : PEx} {vs ts : List Nat} (hi : LIk K s c H0 ti it) (hg : LG K s c H0 g pg ts) (ht : LT K s c H0 tt t) (he : LE K s c H0 te el) (sub : ∀ x ∈ ts, x ∈ vs := by decide) :
    LN K s c H0 (tLc ti g tt te vs) (pLc it pg t el vs) := fun σ σd H Q P R h k => by
  refine hi σ σd H _ _ R h fun ds J G Y H1 h1 s1 w gp hy => ?_
  obtain ⟨hlen, inv, i0, turn, fin⟩ := h1
  intro L hL
  have nL := s1.src.ne hL
  have R1 := R.stp s1
  have hL0 : H0 L = none := Kp.none R1.kp0 nL.1 hL
  have hLH : H L = none := Kp.none s1.kp nL.1 hL
  have off := off_new R1 hL
  have sm0 := same_new (o := .lst []) hL
  refine lc_it w (fun i A => ∃ acc us, inv i acc ∧ acc.length ≤ i ∧ A L = some (.lst us) ∧ DRs K s A us acc ∧ Rel K s c H0 σ A σd ∧ Im H1 A ∧ Kp s H1 A) ⟨[], [], i0, Nat.le_refl _, upd_same, .nil, R1.stp (.same s1.src sm0), Same.im sm0, kp_same sm0⟩
    (fun i A _ ⟨_, _, _, _, _, _, _, im, kp⟩ => gp _ kp im) ?_ ?_
  · rintro i x A B hlt ⟨acc, us, hinv, hal, hA, hdr, RA, im, kpA⟩ y
    obtain ⟨sm, d, hd, hr⟩ := hy i A x B hlt kpA im y
    have RB : Rel K s c H0 σ B σd := RA.stp (.same RA.src sm)
    have imB := im.trans (Same.im sm)
    have hB : B L = some (.lst us) := sm _ _ hA
    refine hg (wipe σ vs) (wipeD σd vs) B x d _ _ (RB.wipe vs) hr (turn i d acc hd hinv) fun σ2 σd2 h2 R2 l2 k2 _ => ⟨wipe_back l2 k2 sub, ?_⟩
    refine ht σ2 σd2 B _ _ R2 h2 fun b C h3 s3 => ?_
    have hC : C L = some (.lst us) := s3.kp _ _ nL.1 hB
    have imC := imB.trans (s3.im R2.src)
    have RC := RB.stp s3
    have kpC : Kp s H1 C := (kpA.trans (kp_same sm)).trans s3.kp
    have hdC := hdr.im ((Same.im sm).trans (s3.im R2.src))
    cases b with
    | false =>
      rw [if_neg Bool.false_ne_true] at h3
      exact ⟨acc, us, h3, Nat.le_succ_of_le hal, hC, hdC, RC, imC, kpC⟩
    | true =>
      rw [if_pos rfl] at h3
      refine he σ2 σd2 C _ _ (R2.stp s3) h3 fun z v F h4 r4 s4 => ?_
      obtain ⟨e, rfl, h5⟩ := h4
      have hF : F L = some (.lst us) := s4.kp _ _ nL.1 hC
      have kl : Kp L F (upd F L (.lst (us ++ [v]))) := Kp.self
      have imL := kl.im ⟨_, hF, rfl⟩
      have RF := RC.stp s4
      have hdF := hdC.im (s4.im RC.src)
      exact ⟨us, hF, Nat.lt_of_le_of_lt (show us.length ≤ 100000 from by rw [hdF.len]; omega) (by decide), acc ++ [e], us ++ [v], h5, by rw [List.length_append, List.length_singleton]; omega, upd_same, (hdF.im imL).snoc (DR.im imL r4), rel_off RF off hF hL0 nL, (imC.trans (s4.im RC.src)).trans imL, (kpC.trans s4.kp).via hL kl⟩
  · rintro A ⟨acc, us, hinv, hal, hA, hdr, RA, im, kpA⟩
    exact k acc L us A (fin acc hinv) hA hLH hdr ⟨s1.kp.trans kpA, RA.src⟩
/-! ### isinstance(x, T) where x may be an instance of C -/
def isTI (C : Addr) (T : String) : D → Option Bool
  | .ins C' _ => if C' = C then some false else none
  | d => (tyN d).bind fun S => kitB S T
def pIsTI (C : Addr) (T : String) (a : PEx) : PEx := fun σd P => a σd fun x => ∃ d b, x = .dat d ∧ isTI C T d = some b ∧ P (cB b)
theorem isTI_not {C : Addr} {T : String} {d : D} {b : Bool} (h : isTI C T d = some b) : (∃ fs, d = .ins C fs ∧ b = false) ∨ ∃ S, tyN d = some S ∧ kitB S T = some b := by
  by_cases hi : ∃ C' gs, d = .ins C' gs
  · obtain ⟨C', gs, rfl⟩ := hi
    have h : (if C' = C then some false else none) = some b := h
    by_cases e : C' = C
    · rw [if_pos e] at h
      cases h
      subst e
      exact .inl ⟨_, rfl, rfl⟩
    · rw [if_neg e] at h
      cases h
  · have g : ((tyN d).bind fun S => kitB S T) = some b := by
      cases d <;> first
        | exact h
        | (exfalso; exact hi ⟨_, _, rfl⟩)
    obtain ⟨S, h1, h2⟩ := Option.bind_eq_some_iff.mp g
    exact .inr ⟨S, h1, h2⟩
theorem L_isTI {C : Addr} {T : String} {t : TE} {a : PEx} (ic : C8.InsC K C) (hk : PySem.W.kitOne K (.ref C) (.type T) = some false) (ha : LE K s c H0 t a) : LE K s c H0 (tCB (rIsiD K) (tCons t (tCons (tC (.ty T)) tNil))) (pIsTI C T a) := fun σ σd H Q P R h k => by
  refine ha σ σd H _ _ R h fun x v H1 h1 r1 s1 => ?_
  obtain ⟨d, b, rfl, e, h⟩ := h1
  rcases isTI_not e with ⟨fs, rfl, rfl⟩ | ⟨S, eS, eb⟩
  · cases id r1 with
    | ins hi hf => exact ⟨_, .ty T, .ref C, .type T, false, rfl, .ty T, .ins (.inr ⟨_, hi⟩) ic, hk, k _ _ H1 h (.bl _) s1⟩
  · exact ⟨v, .ty T, .type S, .type T, b, rfl, .ty T, .x (tyN_at r1 eS), kit_ty eb, k _ _ H1 h (.bl _) s1⟩
end
end My


/-! Dat: ==, in, < over data of any depth (None, whole numbers, texts, tuples, lists). -/
namespace My
open PySem PySem.Spec PyProof.Rows L2
/-! ### which data -/
/-- None, whole numbers, texts, and tuples and lists of such, at most n deep -/
def okN : Nat → D → Bool
  | _, .non => true
  | _, .int _ => true
  | _, .str _ => true
  | n + 1, .tup ds => ds.all (okN n)
  | n + 1, .lst ds => ds.all (okN n)
  | _, _ => false
theorem okN_succ : ∀ {n : Nat} {d : D}, okN n d = true → okN (n + 1) d = true
  | 0, .non, _ => rfl
  | 0, .int _, _ => rfl
  | 0, .str _, _ => rfl
  | n + 1, .non, _ => rfl
  | n + 1, .int _, _ => rfl
  | n + 1, .str _, _ => rfl
  | n + 1, .tup ds, h => List.all_eq_true.mpr fun d hd => okN_succ (List.all_eq_true.mp h d hd)
  | n + 1, .lst ds, h => List.all_eq_true.mpr fun d hd => okN_succ (List.all_eq_true.mp h d hd)
theorem okN_mono {n m : Nat} {d : D} (h : okN n d = true) (hn : n ≤ m) : okN m d = true := by
  induction m with
  | zero =>
    have e : n = 0 := Nat.le_zero.mp hn
    rw [e] at h
    exact h
  | succ m ih =>
    by_cases e : n = m + 1
    · rw [e] at h
      exact h
    · exact okN_succ (ih (by omega))
/-- as the library's data -/
structure Pyd (n : Nat) (d : D) (p : PyData) : Prop where
  to : toPy d = some p
  pl : p.plain = true
  dp : p.depth ≤ n
structure Pyds (n : Nat) (ds : List D) (ps : List PyData) : Prop where
  to : toPys ds = some ps
  pl : PyData.plainAll ps = true
  dp : PyData.depthAll ps ≤ n
theorem pyds_of {n : Nat} : ∀ {ds : List D}, (∀ d ∈ ds, ∃ p, Pyd n d p) → ∃ ps, Pyds n ds ps
  | [], _ => ⟨[], rfl, rfl, Nat.zero_le _⟩
  | d :: ds, h => by
    obtain ⟨p, hp⟩ := h d (List.mem_cons_self ..)
    obtain ⟨ps, hps⟩ := pyds_of (ds := ds) fun e he => h e (List.mem_cons_of_mem _ he)
    refine ⟨p :: ps, ?_, ?_, ?_⟩
    · unfold toPys
      rw [hp.to, hps.to]
    · show (p.plain && PyData.plainAll ps) = true
      rw [hp.pl, hps.pl]
      rfl
    · show max p.depth (PyData.depthAll ps) ≤ n
      exact Nat.max_le.mpr ⟨hp.dp, hps.dp⟩
theorem pyd_of : ∀ {n : Nat} {d : D}, okN n d = true → ∃ p, Pyd n d p
  | n, .non, _ => ⟨.none, by unfold toPy; rfl, rfl, Nat.zero_le _⟩
  | n, .int i, _ => ⟨.int i, by unfold toPy; rfl, rfl, Nat.zero_le _⟩
  | n, .str z, _ => ⟨.str z, by unfold toPy; rfl, rfl, Nat.zero_le _⟩
  | n + 1, .tup ds, h => by
    obtain ⟨ps, hps⟩ := pyds_of (n := n) (ds := ds) fun d hd => pyd_of (List.all_eq_true.mp h d hd)
    exact ⟨.tuple ps, by unfold toPy; rw [hps.to]; rfl, hps.pl, Nat.succ_le_succ hps.dp⟩
  | n + 1, .lst ds, h => by
    obtain ⟨ps, hps⟩ := pyds_of (n := n) (ds := ds) fun d hd => pyd_of (List.all_eq_true.mp h d hd)
    exact ⟨.list ps, by unfold toPy; rw [hps.to]; rfl, hps.pl, Nat.succ_le_succ hps.dp⟩
  | 0, .tup _, h | 0, .lst _, h => nomatch h
  | 0, .bl _, h | 0, .dic _, h | 0, .dit _, h | 0, .ins _ _, h | 0, .src, h => nomatch h
  | _ + 1, .bl _, h | _ + 1, .dic _, h | _ + 1, .dit _, h | _ + 1, .ins _ _, h | _ + 1, .src, h => nomatch h
theorem pys_cons {d : D} {ds : List D} {ps : List PyData} (h : toPys (d :: ds) = some ps) : ∃ q qs, toPy d = some q ∧ toPys ds = some qs ∧ ps = q :: qs := by
  unfold toPys at h
  cases h1 : toPy d with
  | none => rw [h1] at h; cases h
  | some q =>
    cases h2 : toPys ds with
    | none => rw [h1, h2] at h; cases h
    | some qs =>
      rw [h1, h2] at h
      cases h
      exact ⟨q, qs, rfl, rfl, rfl⟩
theorem eqvs_iff {n : Nat} (ih : ∀ {d e : D} {p q : PyData}, okN n d = true → okN n e = true → toPy d = some p → toPy e = some q → (PyData.eqv p q = true ↔ d = e)) :
    ∀ {ds es : List D} {ps qs : List PyData}, ds.all (okN n) = true → es.all (okN n) = true → toPys ds = some ps → toPys es = some qs → (PyData.eqvAll ps qs = true ↔ ds = es)
  | [], [], ps, qs, _, _, h1, h2 => by
    cases h1
    cases h2
    exact ⟨fun _ => rfl, fun _ => rfl⟩
  | [], e :: es, ps, qs, _, _, h1, h2 => by
    cases h1
    obtain ⟨a, b, _, _, rfl⟩ := pys_cons h2
    exact ⟨fun z => (by simp [PyData.eqvAll] at z), fun z => (nomatch z)⟩
  | d :: ds, [], ps, qs, _, _, h1, h2 => by
    cases h2
    obtain ⟨a, b, _, _, rfl⟩ := pys_cons h1
    exact ⟨fun z => (by simp [PyData.eqvAll] at z), fun z => (nomatch z)⟩
  | d :: ds, e :: es, ps, qs, o1, o2, h1, h2 => by
    obtain ⟨p, ps', p1, p2, rfl⟩ := pys_cons h1
    obtain ⟨q, qs', q1, q2, rfl⟩ := pys_cons h2
    rw [List.all_cons, Bool.and_eq_true] at o1 o2
    have a := ih o1.1 o2.1 p1 q1
    have b := eqvs_iff ih o1.2 o2.2 p2 q2
    rw [show PyData.eqvAll (p :: ps') (q :: qs') = (PyData.eqv p q && PyData.eqvAll ps' qs') from by rw [PyData.eqvAll], Bool.and_eq_true, a, b]
    exact ⟨fun z => by rw [z.1, z.2], fun z => by cases z; exact ⟨rfl, rfl⟩⟩
theorem eqv_iff : ∀ {n : Nat} {d e : D} {p q : PyData}, okN n d = true → okN n e = true → toPy d = some p → toPy e = some q → (PyData.eqv p q = true ↔ d = e) := by
  intro n
  induction n with
  | zero =>
    intro d e p q o1 o2 h1 h2
    cases d <;> first | (cases o1; done) | skip
    all_goals (cases e <;> first | (cases o2; done) | skip)
    all_goals (unfold toPy at h1 h2; cases h1; cases h2; simp [PyData.eqv])
  | succ n ih =>
    intro d e p q o1 o2 h1 h2
    cases d <;> first | (cases o1; done) | skip
    all_goals (cases e <;> first | (cases o2; done) | skip)
    all_goals unfold toPy at h1 h2
    all_goals first
      | (cases h1; cases h2; simp [PyData.eqv]; done)
      | (cases h1; obtain ⟨qs, _, rfl⟩ := Option.map_eq_some_iff.mp h2; simp [PyData.eqv]; done)
      | (cases h2; obtain ⟨qs, _, rfl⟩ := Option.map_eq_some_iff.mp h1; simp [PyData.eqv]; done)
      | skip
    all_goals (obtain ⟨ps, e1, rfl⟩ := Option.map_eq_some_iff.mp h1; obtain ⟨qs, e2, rfl⟩ := Option.map_eq_some_iff.mp h2)
    all_goals first
      | (simp [PyData.eqv]; done)
      | (have w := eqvs_iff ih (show _ = true from o1) (show _ = true from o2) e1 e2
         rw [PyData.eqv, w]
         exact ⟨fun z => by rw [z], fun z => by cases z; rfl⟩)
theorem any_iff {n : Nat} {e : D} {q : PyData} (oe : okN n e = true) (he : toPy e = some q) : ∀ {ds : List D} {ps : List PyData}, ds.all (okN n) = true → toPys ds = some ps → (ps.any (fun y => PyData.eqv y q) = true ↔ e ∈ ds)
  | [], ps, _, h => by
    cases h
    exact ⟨fun z => (nomatch z), fun z => (nomatch z)⟩
  | d :: ds, ps, o, h => by
    obtain ⟨p, ps', p1, p2, rfl⟩ := pys_cons h
    rw [List.all_cons, Bool.and_eq_true] at o
    have a := eqv_iff o.1 oe p1 he
    have b := any_iff oe he o.2 p2
    rw [List.any_cons, Bool.or_eq_true, a, b, List.mem_cons]
    exact ⟨fun z => z.imp Eq.symm id, fun z => z.imp Eq.symm id⟩
/-! ### the rules over the heap -/
def rEqP (K : PySem.W.Frag) (g : Bool → Bool) : R2 := fun x y H Q => ∃ d e, Dp K H x d ∧ Dp K H y e ∧ d.plain = true ∧ e.plain = true ∧ d.depth ≤ 40 ∧ Q (.bl (g (PyData.eqv d e))) H
def rInP (K : PySem.W.Frag) (g : Bool → Bool) : R2 := fun x y H Q => ∃ d es, Dp K H x d ∧ (Dp K H y (.list es) ∨ Dp K H y (.tuple es)) ∧ d.plain = true ∧ PyData.plainAll es = true ∧ d.depth ≤ 40 ∧ Q (.bl (g (es.any fun e => PyData.eqv e d))) H
section
variable {X : Cx}
theorem op_eqP (hu : X.A.units + 64 < cLine) : OpR X (compareOp .Eq) (rEqP X.K id) := by
  intro pins s σ H x y v u Q I rx ry h
  obtain ⟨d, e, hd, he, sd, se, dd, q⟩ := h
  obtain ⟨as, r1⟩ := Dp.reads I d x v hd rx
  obtain ⟨bs, r2⟩ := Dp.reads I e y u he ry
  exact SeqAt.eq_plain r1 r2 sd se (by have := Nat.min_le_left d.depth e.depth; omega) ⟨.bl _, H, I, rfl, q⟩
theorem op_neP (hu : X.A.units + 64 < cLine) : OpR X (compareOp .NotEq) (rEqP X.K not) := by
  intro pins s σ H x y v u Q I rx ry h
  obtain ⟨d, e, hd, he, sd, se, dd, q⟩ := h
  obtain ⟨as, r1⟩ := Dp.reads I d x v hd rx
  obtain ⟨bs, r2⟩ := Dp.reads I e y u he ry
  exact SeqAt.ne_plain r1 r2 sd se (by have := Nat.min_le_left d.depth e.depth; omega) ⟨.bl _, H, I, rfl, q⟩
theorem op_inP (hu : X.A.units + 64 < cLine) : OpR X (compareOp .In) (rInP X.K id) := by
  intro pins s σ H x y v u Q I rx ry h
  obtain ⟨d, es, hd, he, sd, se, dd, q⟩ := h
  obtain ⟨as, r1⟩ := Dp.reads I d x v hd rx
  have hm := Nat.min_le_right (PyData.depthAll es) d.depth
  rcases he with he | he
  · obtain ⟨bs, r2⟩ := Dp.reads I _ y u he ry
    exact SeqAt.in_list_data r2 r1 se sd (by omega) ⟨.bl _, H, I, rfl, q⟩
  · obtain ⟨bs, r2⟩ := Dp.reads I _ y u he ry
    exact SeqAt.in_tuple_data r2 r1 se sd (by omega) ⟨.bl _, H, I, rfl, q⟩
theorem op_notInP (hu : X.A.units + 64 < cLine) : OpR X (compareOp .NotIn) (rInP X.K not) := by
  intro pins s σ H x y v u Q I rx ry h
  obtain ⟨d, es, hd, he, sd, se, dd, q⟩ := h
  obtain ⟨as, r1⟩ := Dp.reads I d x v hd rx
  have hm := Nat.min_le_right (PyData.depthAll es) d.depth
  rcases he with he | he
  · obtain ⟨bs, r2⟩ := Dp.reads I _ y u he ry
    exact SeqAt.notIn_list_data r2 r1 se sd (by omega) ⟨.bl _, H, I, rfl, q⟩
  · obtain ⟨bs, r2⟩ := Dp.reads I _ y u he ry
    exact SeqAt.notIn_tuple_data r2 r1 se sd (by omega) ⟨.bl _, H, I, rfl, q⟩
end
/-! ### over plain values -/
open Classical in
noncomputable def dec (p : Prop) : Bool := decide p
theorem dec_true {p : Prop} (h : p) : dec p = true := by unfold dec; simp [h]
theorem dec_false {p : Prop} (h : ¬p) : dec p = false := by unfold dec; simp [h]
theorem dec_iff {p : Prop} {b : Bool} (h : b = true ↔ p) : b = dec p := by
  by_cases q : p
  · rw [dec_true q]
    exact h.mpr q
  · rw [dec_false q]
    cases b with
    | false => rfl
    | true => exact absurd (h.mp rfl) q
theorem dec_decide {p : Prop} [Decidable p] : dec p = decide p := (dec_iff (by simp)).symm
theorem dec_congr {p q : Prop} (h : p ↔ q) : dec p = dec q := by
  by_cases c : p
  · rw [dec_true c, dec_true (h.mp c)]
  · rw [dec_false c, dec_false fun z => c (h.mpr z)]
/-- data, or a list that may still change, as data -/
def asD : Cell → Option D
  | .dat d => some d
  | .lm ds => some (.lst ds)
  | .rl ds => some (.lst ds)
  | _ => none
section
variable {K : PySem.W.Frag} {s c : Addr} {H0 : Hp}
theorem asD_dp {s c : Addr} {H : Hp} {v : V} {x : Cell} {d : D} {p : PyData} (h : CellR K s c H v x) (e : asD x = some d) (hp : toPy d = some p) : Dp K H v p := by
  refine toPyC_at h ?_
  cases x with
  | dat d' => cases e; exact hp
  | lm ds => cases e; unfold toPy at hp; exact hp
  | rl ds => cases e; unfold toPy at hp; exact hp
  | dm ds => cases e
  | tm ds => cases e
  | om x C ds => cases e
  | un => cases e
  | ex a cls d x => cases e
  | rd ds => cases e
  | rt ds => cases e
noncomputable def fEqO (g : Bool → Bool) : P2 := fun x y P => ∃ d e, asD x = some d ∧ asD y = some e ∧ okN 30 d = true ∧ okN 30 e = true ∧ P (cB (g (dec (d = e))))
theorem O_eqP {g : Bool → Bool} : LOp K (rEqP K g) (fEqO g) := fun s c v w x y H Q P hx hy S h k => by
  obtain ⟨d, e, e1, e2, o1, o2, h⟩ := h
  obtain ⟨p, hp⟩ := pyd_of o1
  obtain ⟨q, hq⟩ := pyd_of o2
  refine ⟨p, q, asD_dp hx e1 hp.to, asD_dp hy e2 hq.to, hp.pl, hq.pl, Nat.le_trans hp.dp (by decide), ?_⟩
  rw [dec_iff (eqv_iff o1 o2 hp.to hq.to)]
  exact k _ _ H h (.bl _) (.refl S)
noncomputable def fInO (g : Bool → Bool) : P2 := fun x y P => ∃ d es, x = .dat d ∧ seqC y = some es ∧ okN 30 d = true ∧ es.all (okN 30) = true ∧ P (cB (g (dec (d ∈ es))))
theorem seqC_dp {s c : Addr} {H : Hp} {v : V} {x : Cell} {ds : List D} {ps : List PyData} (h : CellR K s c H v x) (e : seqC x = some ds) (hp : toPys ds = some ps) : Dp K H v (.list ps) ∨ Dp K H v (.tuple ps) := by
  cases x with
  | dat d =>
    cases d <;> first
      | (cases e; exact .inl (DR.dp h (by unfold toPy; rw [hp]; rfl)))
      | (cases e; exact .inr (DR.dp h (by unfold toPy; rw [hp]; rfl)))
      | cases e
  | lm ds => cases e; exact .inl (toPyC_at h (by show (toPys _).map _ = _; rw [hp]; rfl))
  | rl ds => cases e; exact .inl (toPyC_at h (by show (toPys _).map _ = _; rw [hp]; rfl))
  | dm ds => cases e
  | tm ds => cases e
  | om x C ds => cases e
  | un => cases e
  | ex a cls d x => cases e
  | rd ds => cases e
  | rt ds => cases e
theorem O_inP {g : Bool → Bool} : LOp K (rInP K g) (fInO g) := fun s c v w x y H Q P hx hy S h k => by
  obtain ⟨d, es, rfl, e2, o1, o2, h⟩ := h
  obtain ⟨p, hp⟩ := pyd_of o1
  obtain ⟨qs, hq⟩ := pyds_of (n := 30) (ds := es) fun d hd => pyd_of (List.all_eq_true.mp o2 d hd)
  refine ⟨p, qs, asD_dp hx rfl hp.to, seqC_dp hy e2 hq.to, hp.pl, hq.pl, Nat.le_trans hp.dp (by decide), ?_⟩
  rw [dec_iff (any_iff o1 hp.to o2 hq.to)]
  exact k _ _ H h (.bl _) (.refl S)
end
end My


/-! Lt: a < b of nested tuples: what stands behind the first difference does not matter. -/
namespace My
open PySem PySem.Spec PyProof.Rows L2
section
open PySem.SeqAt
open AutoSeq1 (wpAny_loadPart')
open MeetsSeq MeetsSeq2 MeetsSeq3 SeqRoads2
/-- k: the first place that differs, or the end of one of the two -/
def LtSpec (xs ys : Array Value) (k : Nat) (A : Around) (s : Shared) (out : Bool) : Prop :=
  k ≤ min xs.size ys.size ∧ (∀ j (h1 : j < xs.size) (h2 : j < ys.size), j < k → EqAt A s xs[j] ys[j] true) ∧
    ((k = min xs.size ys.size ∧ out = decide (xs.size < ys.size)) ∨ ∃ (h1 : k < xs.size) (h2 : k < ys.size), EqAt A s xs[k] ys[k] false ∧ RcLt A s xs[k] ys[k] out)
theorem meets_tupLt (p q : Addr) (xs ys : Array Value) (m m2 : Nat) (e1 e2 : Option Addr) (f1 f2 : Array (Option Value)) (k : Nat) (out : Bool) :
    Meets (Builtin.«tuple.__lt__» ⟨[.ref p, .ref q], []⟩)
      (fun A R s => (s.heap.get? p = some { cls := .type "tuple", dict := e1, data := .seq xs m, slots := f1 } ∧ s.heap.get? q = some { cls := .type "tuple", dict := e2, data := .seq ys m2, slots := f2 }) ∧
        LtSpec xs ys k A.in1 s out ∧ R (.ok (.ret (.bool out))) s) :=
  .of_wp fun prog w A R s h => by
    obtain ⟨t1, t2, t3, t4, t5⟩ := s
    obtain ⟨⟨g1, g2⟩, ⟨kl, ke, kd⟩, hR⟩ := h
    have st := AutoSeq1.sub_tuple_tuple
    have zl : (xs.toList.zip ys.toList).length = min xs.size ys.size := by simp
    wp_walk using wpAny_loadPart' g1, wpAny_loadPart' g2, wpAny_forIn_list _ (fun left z s' => z.1 = none ∧ s' = ⟨t1, t2, t3, t4, t5⟩ ∧ ∃ i, i ≤ k ∧ left = (xs.toList.zip ys.toList).drop i) _
    case turn =>
      rintro ⟨a, b⟩ left z s' ⟨z1, rfl, i, hi, hz⟩
      have il : i < (xs.toList.zip ys.toList).length := by
        by_cases c : i < (xs.toList.zip ys.toList).length
        · exact c
        · rw [List.drop_of_length_le (by omega)] at hz
          cases hz
      have b1 : i < xs.size := by omega
      have b2 : i < ys.size := by omega
      rw [List.drop_eq_getElem_cons il] at hz
      injection hz with hab hl
      have ha : a = xs[i] := by have := congrArg Prod.fst hab; simpa using this
      have hb : b = ys[i] := by have := congrArg Prod.snd hab; simpa using this
      subst ha hb
      by_cases c : i < k
      · refine wpAny_bind (ke i b1 b2 c prog w _ _ ?_)
        wp_walk
        exact ⟨rfl, rfl, i + 1, c, hl⟩
      · have ik : i = k := by omega
        subst ik
        rcases kd with ⟨kk, _⟩ | ⟨c1, c2, d1, d2⟩
        · omega
        · refine wpAny_bind (d1 prog w _ _ ?_)
          unfold RcLt at d2
          generalize richCompare CmpOp.Lt xs[i] ys[i] = rc at d2 ⊢
          wp_walk
          refine d2 prog w _ _ ?_
          wp_walk
          exact ⟨_, rfl, hR⟩
    case fin =>
      rintro ⟨z1, z2⟩ s' ⟨hz1, rfl, i, hi, hz⟩
      simp only at hz1
      subst hz1
      have il : min xs.size ys.size ≤ i := by
        by_cases c : i < (xs.toList.zip ys.toList).length
        · rw [List.drop_eq_getElem_cons c] at hz
          cases hz
        · omega
      rcases kd with ⟨kk, ho⟩ | ⟨c1, c2, _, _⟩
      · subst ho
        wp_walk
        exact ⟨_, rfl, by simpa [Builtin.Tuple.tupleCompareSizes] using hR⟩
      · omega
    case h => exact ⟨rfl, rfl, 0, Nat.zero_le _, rfl⟩
theorem rcLt_tup {A : Around} {s : Shared} {p q : Addr} {xs ys : Array Value} {k : Nat} {out : Bool} (hp : s.heap.IsTuple p xs) (hq : s.heap.IsTuple q ys) (hu : A.units < cLine) (h : LtSpec xs ys k A.in1 s out) : RcLt A s (.ref p) (.ref q) out := fun prog w E Q hQ => by
  obtain ⟨⟨c1, d1, a1, l1⟩, o1, u1, m1, v1⟩ := id hp
  obtain ⟨⟨c2, d2, a2, l2⟩, o2, u2, m2, v2⟩ := id hq
  simp only at u1 v1 u2 v2
  subst u1 v1 u2 v2
  refine richCompare_meets_room (op := .Lt) ⟨_, o1, rfl⟩ ⟨_, o2, rfl⟩ F.slot_tuple_lt F.entry_tuple_lt (F.args_tuple_lt_2 _ _) (meets_tupLt p q xs ys m1 m2 d1 d2 l1 l2 k out) ⟨⟨o1, o2⟩, h, ?_⟩ hu
  exact (show Value.bool out ≠ Value.notImplemented ∧ Q (.bool out) s from ⟨(fun z => nomatch z), hQ⟩)
end
/-! ### of data -/
open Classical in
/-- the first difference decides -/
noncomputable def lexO (f : D → D → Option Bool) : List D → List D → Option Bool
  | [], [] => some false
  | [], _ :: _ => some true
  | _ :: _, [] => some false
  | d :: ds, e :: es => if d = e then lexO f ds es else f d e
theorem lexO_eq {f : D → D → Option Bool} {d : D} {ds es : List D} : lexO f (d :: ds) (d :: es) = lexO f ds es := by
  rw [lexO]
  exact if_pos rfl
theorem lexO_ne {f : D → D → Option Bool} {d e : D} {ds es : List D} (h : d ≠ e) : lexO f (d :: ds) (e :: es) = f d e := by
  rw [lexO]
  exact if_neg h
/-- d < e; none where it is not told -/
noncomputable def ltN : Nat → D → D → Option Bool
  | _, .int a, .int b => some (decide (a < b))
  | _, .str a, .str b => some (decide (a.cps.toList < b.cps.toList))
  | n + 1, .tup ds, .tup es => lexO (ltN n) ds es
  | _, _, _ => none
/-- v stands for d in the run -/
structure RdD (h : Heap) (n : Nat) (v : Value) (d : D) : Prop where
  ex : ∃ p as, Reads h v p as ∧ Pyd n d p
theorem reads_all {h : Heap} {n : Nat} : ∀ {ds : List D} {ps : List PyData} {vs : List Value} {as : List Addr}, ReadsAll h vs ps as → toPys ds = some ps → (∀ d ∈ ds, okN n d = true) →
    vs.length = ds.length ∧ ∀ (i : Nat) (v : Value) (d : D), vs[i]? = some v → ds[i]? = some d → RdD h n v d
  | [], ps, vs, as, r, e, _ => by
    cases e
    cases r
    exact ⟨rfl, fun i v d h1 => by simp at h1⟩
  | d :: ds, ps, vs, as, r, e, o => by
    obtain ⟨q, qs, q1, q2, rfl⟩ := pys_cons e
    cases r with
    | cons r1 r2 =>
      obtain ⟨a, b⟩ := reads_all r2 q2 fun d hd => o d (List.mem_cons_of_mem _ hd)
      refine ⟨by rw [List.length_cons, List.length_cons, a], fun i v d' h1 h2 => ?_⟩
      cases i with
      | zero =>
        cases h1
        cases h2
        obtain ⟨p, hp⟩ := pyd_of (o d (List.mem_cons_self ..))
        have : p = q := Option.some.inj (hp.to.symm.trans q1)
        subst this
        exact ⟨_, _, r1, hp⟩
      | succ i => exact b i v d' (by simpa using h1) (by simpa using h2)
/-- where two lists first differ -/
theorem lexO_at {f : D → D → Option Bool} : ∀ {ds es : List D} {out : Bool}, lexO f ds es = some out → ∃ k, k ≤ min ds.length es.length ∧ (∀ j d e, j < k → ds[j]? = some d → es[j]? = some e → d = e) ∧
    ((k = min ds.length es.length ∧ out = decide (ds.length < es.length)) ∨ ∃ d e, ds[k]? = some d ∧ es[k]? = some e ∧ d ≠ e ∧ f d e = some out)
  | [], [], out, h => ⟨0, Nat.zero_le _, fun j _ _ hj => by omega, .inl ⟨rfl, by cases h; rfl⟩⟩
  | [], e :: es, out, h => ⟨0, Nat.zero_le _, fun j _ _ hj => by omega, .inl ⟨by simp, by cases h; simp⟩⟩
  | d :: ds, [], out, h => ⟨0, Nat.zero_le _, fun j _ _ hj => by omega, .inl ⟨by simp, by cases h; simp⟩⟩
  | d :: ds, e :: es, out, h => by
    by_cases c : d = e
    · subst c
      rw [lexO_eq] at h
      obtain ⟨k, h1, h2, h3⟩ := lexO_at h
      refine ⟨k + 1, by simp only [List.length_cons]; omega, fun j a b hj ha hb => ?_, ?_⟩
      · cases j with
        | zero => cases ha; cases hb; rfl
        | succ j => exact h2 j a b (by omega) (by simpa using ha) (by simpa using hb)
      · rcases h3 with ⟨h4, h5⟩ | ⟨a, b, h4, h5, h6⟩
        · exact .inl ⟨by simp only [List.length_cons]; omega, by rw [h5]; simp⟩
        · exact .inr ⟨a, b, by simpa using h4, by simpa using h5, h6⟩
    · rw [lexO_ne c] at h
      exact ⟨0, Nat.zero_le _, fun j _ _ hj => by omega, .inr ⟨d, e, rfl, rfl, c, h⟩⟩
theorem eqAt_of {A : Around} {s : Shared} {n : Nat} {v u : Value} {d e : D} (hv : RdD s.heap n v d) (hu : RdD s.heap n u e) (od : okN n d = true) (oe : okN n e = true) (hn : A.units + n < cLine) {b : Bool} (hb : b = true ↔ d = e) : SeqAt.EqAt A s v u b := by
  obtain ⟨p, as, r1, p1⟩ := hv
  obtain ⟨q, bs, r2, p2⟩ := hu
  have e1 := SeqAt.eqAt_plain p q A s v u as bs r1 r2 p1.pl p2.pl (by have := Nat.min_le_left p.depth q.depth; have := p1.dp; omega)
  have e2 : b = PyData.eqv p q := by
    have w := eqv_iff od oe p1.to p2.to
    cases b with
    | true => exact (w.mpr (hb.mp rfl)).symm
    | false =>
      cases z : PyData.eqv p q with
      | false => rfl
      | true => exact absurd (hb.mpr (w.mp z)) Bool.false_ne_true
  rw [e2]
  exact e1
theorem rcLt_of : ∀ {n : Nat} {A : Around} {s : Shared} {v u : Value} {d e : D} {out : Bool}, RdD s.heap n v d → RdD s.heap n u e → okN n d = true → okN n e = true → A.units + n < cLine → ltN n d e = some out → SeqAt.RcLt A s v u out := by
  intro n
  induction n with
  | zero =>
    intro A s v u d e out hv hu od oe hn h
    obtain ⟨p, as, r1, p1⟩ := hv
    obtain ⟨q, bs, r2, p2⟩ := hu
    cases d <;> first | (cases od; done) | skip
    all_goals (cases e <;> first | (cases oe; done) | skip)
    all_goals (unfold ltN at h; first | (cases h; done) | skip)
    all_goals (have z1 := p1.to; have z2 := p2.to; unfold toPy at z1 z2; cases z1; cases z2; cases r1; cases r2; cases h)
    · exact fun prog w E Q hQ => lt_int hQ
    · exact fun prog w E Q hQ => lt_str hQ
  | succ n ih =>
    intro A s v u d e out hv hu od oe hn h
    obtain ⟨p, as, r1, p1⟩ := hv
    obtain ⟨q, bs, r2, p2⟩ := hu
    cases d <;> first | (cases od; done) | skip
    all_goals (cases e <;> first | (cases oe; done) | skip)
    all_goals (unfold ltN at h; first | (cases h; done) | skip)
    all_goals (have z1 := p1.to; have z2 := p2.to; unfold toPy at z1 z2)
    · cases z1; cases z2; cases r1; cases r2; cases h
      exact fun prog w E Q hQ => lt_int hQ
    · cases z1; cases z2; cases r1; cases r2; cases h
      exact fun prog w E Q hQ => lt_str hQ
    · rename_i ds es
      obtain ⟨ps, y1, rfl⟩ := Option.map_eq_some_iff.mp z1
      obtain ⟨qs, y2, rfl⟩ := Option.map_eq_some_iff.mp z2
      have o1 : ∀ d ∈ ds, okN n d = true := fun d hd => List.all_eq_true.mp od d hd
      have o2 : ∀ d ∈ es, okN n d = true := fun d hd => List.all_eq_true.mp oe d hd
      cases r1 with
      | @tuple a ob vs m xx yy h1 h2 h3 h4 =>
        cases r2 with
        | @tuple b ob2 us m2 xx2 yy2 k1 k2 k3 k4 =>
          obtain ⟨l1, g1⟩ := reads_all h4 y1 o1
          obtain ⟨l2, g2⟩ := reads_all k4 y2 o2
          obtain ⟨k, w1, w2, w3⟩ := lexO_at h
          have lv : vs.size = ds.length := by rw [← l1]; simp
          have lu : us.size = es.length := by rw [← l2]; simp
          have rv : ∀ j (hj : j < vs.size) (hj2 : j < ds.length), RdD s.heap n vs[j] ds[j] := fun j hj hj2 => g1 j _ _ (by simp [hj]) (by simp [hj2])
          have ru : ∀ j (hj : j < us.size) (hj2 : j < es.length), RdD s.heap n us[j] es[j] := fun j hj hj2 => g2 j _ _ (by simp [hj]) (by simp [hj2])
          have hn1 : A.in1.units + n < cLine := by show A.units + 1 + n < cLine; omega
          refine rcLt_tup (k := k) ⟨_, h1, h2, _, h3⟩ ⟨_, k1, k2, _, k3⟩ (by omega) ⟨by omega, fun j c1 c2 hj => ?_, ?_⟩
          · have i1 : j < ds.length := by omega
            have i2 : j < es.length := by omega
            exact eqAt_of (rv j c1 i1) (ru j c2 i2) (o1 _ (List.getElem_mem i1)) (o2 _ (List.getElem_mem i2)) hn1 ⟨fun _ => w2 j _ _ hj (by simp [i1]) (by simp [i2]), fun _ => rfl⟩
          · rcases w3 with ⟨w4, w5⟩ | ⟨d, e, w4, w5, w6, w7⟩
            · exact .inl ⟨by omega, by rw [w5, lv, lu]⟩
            · obtain ⟨i1, f1⟩ := List.getElem?_eq_some_iff.mp w4
              obtain ⟨i2, f2⟩ := List.getElem?_eq_some_iff.mp w5
              subst f1 f2
              refine .inr ⟨by omega, by omega, ?_, ?_⟩
              · exact eqAt_of (rv k (by omega) i1) (ru k (by omega) i2) (o1 _ (List.getElem_mem i1)) (o2 _ (List.getElem_mem i2)) hn1 ⟨fun z => (nomatch z), fun z => absurd z w6⟩
              · exact ih (rv k (by omega) i1) (ru k (by omega) i2) (o1 _ (List.getElem_mem i1)) (o2 _ (List.getElem_mem i2)) hn1 w7
/-! ### as a rule -/
def rLtD (K : PySem.W.Frag) : R2 := fun x y H Q => ∃ d e p q out, Dp K H x p ∧ Dp K H y q ∧ Pyd 30 d p ∧ Pyd 30 e q ∧ okN 30 d = true ∧ okN 30 e = true ∧ ltN 30 d e = some out ∧ Q (.bl out) H
theorem op_ltD {X : Cx} (hu : X.A.units + 64 < cLine) : OpR X (compareOp .Lt) (rLtD X.K) := by
  intro pins s σ H x y v u Q I rx ry h
  obtain ⟨d, e, p, q, out, hd, he, pd, pe, od, oe, hl, hq⟩ := h
  obtain ⟨as, r1⟩ := Dp.reads I p x v hd rx
  obtain ⟨bs, r2⟩ := Dp.reads I q y u he ry
  exact rcLt_of ⟨p, as, r1, pd⟩ ⟨q, bs, r2, pe⟩ od oe (by omega) hl X.prog X.w _ _ ⟨.bl out, H, I, rfl, hq⟩
noncomputable def fLtO : P2 := fun x y P => ∃ d e out, x = .dat d ∧ y = .dat e ∧ okN 30 d = true ∧ okN 30 e = true ∧ ltN 30 d e = some out ∧ P (cB out)
theorem O_ltD {K : PySem.W.Frag} : LOp K (rLtD K) fLtO := fun s c v w x y H Q P hx hy S h k => by
  obtain ⟨d, e, out, rfl, rfl, o1, o2, hl, h⟩ := h
  obtain ⟨p, hp⟩ := pyd_of o1
  obtain ⟨q, hq⟩ := pyd_of o2
  exact ⟨d, e, p, q, out, asD_dp hx rfl hp.to, asD_dp hy rfl hq.to, hp, hq, o1, o2, hl, k _ _ H h (.bl _) (.refl S)⟩
end My


/-! Q13: walks over lent lists and tuples, stores into lists, + of any lists, is of bools, max, own len, list, <=. -/
namespace My
open PySem PySem.Spec PyProof.Rows L2
/-! ### for x in xs, xs a list or a tuple that stands still -/
def iSq (K : PySem.W.Frag) (te : TE) : TI := fun σ H R => iList K te σ H R ∨ iTup K te σ H R
theorem pi_sq {X : Cx} {tg e : Expr} {te : TE} (he : PE X e te) : PI X tg e (iSq X.K te) := ⟨fun pins s σ H R I h => by
  rcases h with h | h
  · exact (pi_list he).run pins s σ H R I h
  · exact (pi_tup he).run pins s σ H R I h⟩
section
variable {K : PySem.W.Frag} {s c : Addr} {H0 : Hp}
def LIo (K : PySem.W.Frag) (s c : Addr) (H0 : Hp) (ti : TI) (p : PNx) : Prop := ∀ (σ : L2.St) (σd : Sd) (H : Hp) (R : It → Hp → Prop) (P : List D → Prop), Rel K s c H0 σ H σd → p σd P →
  (∀ (ds : List D) (J : It) (G : Hp → Prop) (Y : Nat → Hp → V → Hp → Prop) (H' : Hp), P ds → Stp s c H H' → Walk J ds.length G Y → (∀ H1, Kp s H0 H1 → Im H' H1 → G H1) →
    (∀ i H1 x H2, i < ds.length → Kp s H0 H1 → Im H' H1 → Y i H1 x H2 → Same H1 H2 ∧ ∃ d, ds[i]? = some d ∧ DR K s H2 x d) → R J H') → ti σ H R
theorem LI.o {ti : TI} {p : PNx} (h : LI K s c H0 ti p) : LIo K s c H0 ti p := fun σ σd H R P Rl hp k =>
  h σ σd H R P Rl hp fun ds J G Y H' h1 s1 w g0 gp hy => k ds J G Y H' h1 s1 w (fun H1 _ im => gp _ _ im g0) fun i H1 x H2 hi _ im y => hy i H1 x H2 hi im (gp _ _ im g0) y
theorem S_forO {ti : TI} {g : TG} {tb : TS} {it : PNx} {pg : PGx} {b : PSx} {ts : List Nat} (hi : LIo K s c H0 ti it) (hg : LG K s c H0 g pg ts) (hb : LS K s c H0 tb b) : LS K s c H0 (tFor ti g tb) (pFor it pg b) := fun σ σd H E e R h k => by
  refine hi σ σd H _ _ R h fun ds J G Y H1 h1 s1 w gp hy => ?_
  obtain ⟨inv, i0, turn, fin⟩ := h1
  refine for_it w (fun i σ' H' => ∃ σd', inv i σd' ∧ Rel K s c H0 σ' H' σd' ∧ Im H1 H') ⟨σd, i0, R.stp s1, Im.refl _⟩ (fun i σ' H' _ ⟨_, _, R', im⟩ => gp _ R'.kp0 im) ?_ ?_
  · rintro i x σ' A B hlt ⟨σd', hinv, R', im⟩ y
    obtain ⟨sm, d, hd, hr⟩ := hy i A x B hlt R'.kp0 im y
    have R2 : Rel K s c H0 σ' B σd' := R'.stp (.same R'.src sm)
    refine hg σ' σd' B x d _ _ R2 hr (turn i d σd' hd hinv) fun σ2 σd2 h2 R3 _ _ _ => ?_
    refine hb σ2 σd2 B _ _ R3 h2 ⟨fun σ3 σd3 C h3 R4 im2 => ⟨σd3, h3, R4, (im.trans (Same.im sm)).trans im2⟩, k.rt, fun σ3 σd3 C h3 R4 im2 => k.nx σ3 σd3 C h3 R4 ((s1.im R.src).trans ((im.trans (Same.im sm)).trans im2)), fun σ3 σd3 C h3 R4 im2 => ⟨σd3, h3, R4, (im.trans (Same.im sm)).trans im2⟩, k.rn⟩
  · rintro σ' A ⟨σd', hinv, R', im⟩
    exact k.nx σ' σd' A (fin σd' hinv) R' ((s1.im R.src).trans im)
theorem X_forO {ti : TI} {g : TG} {tb : WX → TS} {it : PNx} {pg : PGx} {b : PSXx} {ts : List Nat} (hi : LIo K s c H0 ti it) (hg : LG K s c H0 g pg ts) (hb : LSX K s c H0 tb b) : LSX K s c H0 (fun W => tFor ti g (tb W)) (pForX it pg b) := fun σ σd H E e W xr R h k kx => by
  refine hi σ σd H _ _ R h fun ds J G Y H1 h1 s1 w gp hy => ?_
  obtain ⟨inv, i0, turn, fin⟩ := h1
  have im1 := s1.im R.src
  refine for_it w (fun i σ' H' => ∃ σd', inv i σd' ∧ Rel K s c H0 σ' H' σd' ∧ Im H1 H') ⟨σd, i0, R.stp s1, Im.refl _⟩ (fun i σ' H' _ ⟨_, _, R', im⟩ => gp _ R'.kp0 im) ?_ ?_
  · rintro i x σ' A B hlt ⟨σd', hinv, R', im⟩ y
    obtain ⟨sm, d, hd, hr⟩ := hy i A x B hlt R'.kp0 im y
    have R2 : Rel K s c H0 σ' B σd' := R'.stp (.same R'.src sm)
    have imB := im.trans (Same.im sm)
    refine hg σ' σd' B x d _ _ R2 hr (turn i d σd' hd hinv) fun σ2 σd2 h2 R3 _ _ _ => ?_
    exact hb σ2 σd2 B _ _ W xr R3 h2 ⟨fun σ3 σd3 C h3 R4 im2 => ⟨σd3, h3, R4, imB.trans im2⟩, k.rt, fun σ3 σd3 C h3 R4 im2 => k.nx σ3 σd3 C h3 R4 (im1.trans (imB.trans im2)), fun σ3 σd3 C h3 R4 im2 => ⟨σd3, h3, R4, imB.trans im2⟩, k.rn⟩
      fun x cls d σ4 σd4 H4 a1 a2 a3 a4 => kx x cls d σ4 σd4 H4 a1 a2 a3 (im1.trans (imB.trans a4))
  · rintro σ' A ⟨σd', hinv, R', im⟩
    exact k.nx σ' σd' A (fin σd' hinv) R' (im1.trans im)
/-- the items of a list or a tuple that this def does not change -/
def seqV : Cell → Option (List D)
  | .dat (.lst ds) => some ds
  | .dat (.tup ds) => some ds
  | .rl ds => some ds
  | _ => none
def pISV (i : Nat) : PNx := fun σd P => ∃ x ds, σd[i]? = some (some x) ∧ seqV x = some ds ∧ P ds
theorem I_sqV (i : Nat) : LIo K s c H0 (iSq K (tVar i)) (pISV i) := fun σ σd H R P Rl h k => by
  obtain ⟨x, ds, hx, e, hP⟩ := h
  obtain ⟨v, hv, hc⟩ := Rl.at hx
  cases x with
  | dat d =>
    cases d <;> first | (cases e; done) | skip
    · rename_i es
      cases e
      refine .inr ((I_tup (L_var i)) σ σd H R _ Rl ⟨_, hx, _, rfl, hP⟩ fun ds J G Y H' h1 s1 w g0 gp hy => k ds J G Y H' h1 s1 w (fun H1 _ im => gp _ _ im g0) fun i H1 x H2 hi _ im y => hy i H1 x H2 hi im (gp _ _ im g0) y)
    · rename_i es
      cases e
      refine .inl ((I_list (L_var i)) σ σd H R _ Rl ⟨_, hx, _, rfl, hP⟩ fun ds J G Y H' h1 s1 w g0 gp hy => k ds J G Y H' h1 s1 w (fun H1 _ im => gp _ _ im g0) fun i H1 x H2 hi _ im y => hy i H1 x H2 hi im (gp _ _ im g0) y)
  | rl es =>
    cases e
    obtain ⟨a, vs, rfl, ha, hd, n1, n2⟩ := hc
    have ho := Rl.old i a hv (by rw [hx]; rfl)
    obtain ⟨o, h0⟩ := Option.ne_none_iff_exists'.mp ho
    have e0 := Rl.kp0 a o n1 h0
    rw [ha] at e0
    cases e0
    refine .inl ⟨_, hv, a, rfl, ⟨vs, .inl (.inl ha)⟩, ?_⟩
    have w : Walk (Itl K a) ds.length (fun H => SqL K H a vs) (YAt vs) := by
      rw [← hd.len]
      exact walk_list
    refine k ds _ _ _ H hP (.refl Rl.src) w (fun H1 kp _ => .inl (.inl (kp a _ n1 h0))) fun i A x B hi kp im y => ?_
    obtain ⟨eB, hxi⟩ := y
    subst eB
    obtain ⟨d, h1, h2⟩ := (hd.im im).get hxi
    exact ⟨Same.refl _, d, h1, h2⟩
  | lm ds => cases e
  | dm ds => cases e
  | tm ds => cases e
  | om x C ds => cases e
  | un => cases e
  | ex a cls d x => cases e
  | rd ds => cases e
  | rt ds => cases e
/-! ### xs[i] = e, the list in slot i -/
def pSetL (i : Nat) (b v : PEx) : PSx := fun e σd => v σd fun z => ∃ ds, σd[i]? = some (some (.lm ds)) ∧ b σd fun y => ∃ d k j, z = .dat d ∧ y = cI k ∧ ixN ds.length k = some j ∧ e.nx (σd.set i (some (.lm (ds.set j d))))
theorem DRs.set {s : Addr} {H : Hp} {v : V} {d : D} (x : DR K s H v d) : ∀ {vs : List V} {ds : List D} (j : Nat), DRs K s H vs ds → DRs K s H (vs.set j v) (ds.set j d)
  | _, _, _, .nil => .nil
  | _, _, 0, .cons _ r => .cons x r
  | _, _, j + 1, .cons h r => .cons h (DRs.set x j r)
theorem S_setL {tb tv : TE} {b v : PEx} (i : Nat) (hb : LE K s c H0 tb b) (hv : LE K s c H0 tv v) : LS K s c H0 (tAsg tv (gSub (tVar i) tb rSetL)) (pSetL i b v) := fun σ σd H E e R h k => by
  refine hv σ σd H _ _ R h fun z vz H1 h1 r1 s1 => ?_
  obtain ⟨ds, hi, h1⟩ := h1
  have R1 := R.stp s1
  obtain ⟨va, hva, hc⟩ := R1.at hi
  refine ⟨va, hva, ?_⟩
  refine hb σ σd H1 _ _ R1 h1 fun y vy H2 h2 r2 s2 => ?_
  obtain ⟨d, n, j, rfl, rfl, hj, h3⟩ := h2
  have R2 := R1.stp s2
  have hc2 := hc.stp s1.src s2
  obtain ⟨a, vs, rfl, ha, hd, n1, n2⟩ := hc2
  have r1' := r1.stp s1.src s2
  have hl := hd.len
  refine ⟨a, vs, n, j, rfl, int_eq r2, ha, by rw [hl]; exact hj, ?_⟩
  have im : Im H2 (upd H2 a (.lst (vs.set j vz))) := (Kp.self : Kp a H2 (upd H2 a (.lst (vs.set j vz)))).im ⟨_, ha, rfl⟩
  have W := R2.write (x' := .lm (ds.set j d)) (o := .lst (vs.set j vz)) hva hi rfl ⟨a, vs.set j vz, rfl, upd_same, (hd.im im).set (DR.im im r1') j, n1, n2⟩ rfl
  exact k.nx σ _ _ h3 W (((s1.trans s2).im R.src).trans im)
/-! ### list + list, of any kind -/
def rCatL (K : PySem.W.Frag) : R2 := fun x y H Q => ∃ l b xs zs, x = .ref l ∧ y = .ref b ∧ SqL K H l xs ∧ SqL K H b zs ∧ xs.length + zs.length ≤ sizeLine ∧ ∀ p, H p = none → Q (.ref p) (upd H p (.lst (xs ++ zs)))
theorem op_catL {X : Cx} : OpR X (binaryOp .Add) (rCatL X.K) := by
  intro pins s σ H x y v u Q I rx ry h
  obtain ⟨l, b, xs, zs, rfl, rfl, hH, hB, hz, q⟩ := h
  cases rx
  cases ry
  obtain ⟨its, r, ⟨⟨c1, d1, a1, l1⟩, n, e, hc, hd, hdt⟩, _⟩ := I.list hH
  obtain ⟨its2, r2, ⟨⟨c2, d2, a2, l2⟩, n2, e2, hc2, hd2, hdt2⟩, _⟩ := I.list hB
  simp only at hc hd hdt hc2 hd2 hdt2
  subst hc hdt hc2 hdt2
  have m1 := r.length
  have m2 := r2.length
  refine concat_meets ⟨_, e, rfl⟩ ⟨_, e2, rfl⟩ noFill_list_add seq_list_add PySem.F.slot_list_add PySem.F.entry_list_add (PySem.F.args_list_add_2 _ _) (list_addW l b its.toArray its2.toArray n n2 d1 d2 l1 l2 (by simp only [List.size_toArray]; omega)) ⟨e, e2, ?_⟩
  have ea : its.toArray ++ its2.toArray = (its ++ its2).toArray := by simp
  rw [ea]
  exact ⟨.ref _, _, I.lnew (t' := s.toks) (r.append r2) (by rw [List.length_append]; omega), rfl, q _ I.fresh⟩
def fCatL : Cell → Cell → (List D → Prop) → Prop := fun x y P => ∃ ds es, seqL x = some ds ∧ seqL y = some es ∧ ds.length + es.length ≤ 100000 ∧ P (ds ++ es)
theorem O_catL : LOpN K (rCatL K) fCatL := fun s c v w x y H Q P hx hy S h k => by
  obtain ⟨ds, es, e1, e2, hl, h⟩ := h
  obtain ⟨a, vs, rfl, ha, hd⟩ := seqL_at hx e1
  obtain ⟨b, ws, rfl, hb, he⟩ := seqL_at hy e2
  refine ⟨a, b, vs, ws, rfl, rfl, ha, hb, by rw [hd.len, he.len]; exact Nat.le_trans hl (by decide), fun p hp => ?_⟩
  have st := stp_new (o := .lst (vs ++ ws)) S hp
  exact k _ _ _ _ h upd_same hp ((hd.append he).im (st.im S)) st
/-! ### a, b, c = x, y, z -/
def pPar3 (i j l : Nat) (a : PAx) : PSx := fun e σd => a σd fun xs => ∃ d d2 d3, datsC xs = some [d, d2, d3] ∧ e.nx (((σd.set i (some (.dat d))).set j (some (.dat d2))).set l (some (.dat d3)))
theorem S_par3 {t : TA} {a : PAx} (i j l : Nat) (ha : LA K s c H0 t a) : LS K s c H0 (tPar3 i j l t) (pPar3 i j l a) := fun σ σd H E e R h k => by
  refine ha σ σd H _ _ R h fun xs vs H1 h1 r1 s1 => ?_
  obtain ⟨d, d2, d3, ex, h⟩ := h1
  have hd := datsC_at r1 ex
  cases hd with
  | cons x1 r =>
    cases r with
    | cons x2 r =>
      cases r with
      | cons x3 r =>
        cases r
        exact ⟨_, _, _, rfl, k.nx _ _ H1 h ((((R.stp s1).setD x1).setD x2).setD x3) (s1.im R.src)⟩
/-! ### is, max -/
theorem O_isB : LOp K rIsB (fIsB id) := fun s c v w x y H Q P hx hy S h k => by
  obtain ⟨a, b, rfl, rfl, h⟩ := h
  exact ⟨a, b, bl_eq hx, bl_eq hy, k _ _ H h (.bl _) (.refl S)⟩
def rMax2 : List V → Hp → VK → Prop := fun xs H Q => ∃ i j, xs = [.int i, .int j] ∧ Q (.int (if j > i then j else i)) H
def gMax2 : List Cell → (Cell → Prop) → Prop := fun xs P => ∃ i j, xs = [cI i, cI j] ∧ P (cI (if j > i then j else i))
theorem C_max2 : LC K rMax2 gMax2 := fun s c vs xs H Q P hx S h k => by
  obtain ⟨i, j, rfl, h⟩ := h
  obtain ⟨v, w, rfl, hv, hw⟩ := two_of hx
  exact ⟨i, j, by rw [int_eq hv, int_eq hw], k _ _ H h (.int _) (.refl S)⟩
end
/-! ### own __len__ that is len(self.f) -/
def spLnF (K : PySem.W.Frag) (C : Addr) (f : Str) : Sp := fun vs H Q _ => ∃ (a dx l : Addr) (fs : List (Str × V)) (xs : List V), vs = [.ref a] ∧ Rd H a (.ins C dx fs) ∧ fs.lookup f = some (.ref l) ∧ SqL K H l xs ∧ Q (.int xs.length) H
theorem len_lnF {K : PySem.W.Frag} {C : Addr} {f : Str} {vs : List V} {H : Hp} {Q : VK} {E : XK} (h : spLnF K C f vs H Q E) : vs.length = 1 := by
  obtain ⟨_, _, _, _, _, rfl, _⟩ := h
  rfl
def OkLn (P : Program) (w : World) (K : PySem.W.Frag) (mg : Str → Option Value) (base : Heap) (C : Addr) (fld : Str) (k : Nat) (ps : List Str) : Prop := ∃ f fd, Meth K C "__len__" f ∧ Binds K fd ps [] ∧ FnOk P w K mg base CX0 k f fd ps (spLnF K C fld)
def rLenF (K : PySem.W.Frag) (C : Addr) (fld : Str) : List V → Hp → VK → Prop := fun vs H Q => ∃ (a dx l : Addr) (fs : List (Str × V)) (xs : List V), vs = [.ref a] ∧ Rd H a (.ins C dx fs) ∧ fs.lookup fld = some (.ref l) ∧ SqL K H l xs ∧ Q (.int xs.length) H
section
variable {X : Cx} {C : Addr} {fld : Str} {k : Nat} {ps : List Str}
/-- a def that returns, called where A stands -/
theorem run_fnA {f : Addr} {fd : FuncData} {sp : Sp} {pins : List (Addr × Obj)} {σ : L2.St} {H : Hp} {s : Shared} {Q : VK} {us : List Value} {vs : List V} {E' : Value → Shared → Prop} {A : Around} (hA : A.frames = X.A.frames) (F : FnOk X.prog X.w X.K X.mg X.base CX0 k f fd ps sp) (hr : Room k A) (hb : Binds X.K fd ps [])
    (I : Inv X pins σ H s) (r : Vals vs us) (h : sp vs H Q E0) : wpAny (model X.prog X.w) A (call (.ref f) us) (EP X pins σ Q) E' s := by
  have hl : (us ++ []).length = ps.length := by
    rw [List.append_nil, ← r.length]
    exact F.len _ _ _ _ h
  have bt := hb s us I.kIn hl
  rw [List.append_nil] at bt
  have e0 : Env0 X.prog X.w X.K X.mg X.base A X.stack s H := by
    have e := I.env0
    exact ⟨by rw [hA]; exact e.frames, e.mod, e.bs, e.bsz, e.funs, e.frf, e.hok, e.bare⟩
  refine wpAny_call (codeAny_mono (F.run A X.stack s H ⟨us, []⟩ us vs Q E0 hr e0 bt r h) fun r s' hq => ?_)
  cases r with
  | error e => exact False.elim hq
  | ok fl =>
    cases fl with
    | ret u => exact I.after hq
    | next => exact False.elim hq
    | brk => exact False.elim hq
    | cont => exact False.elim hq
theorem own_len {pins : List (Addr × Obj)} {σ : L2.St} {H : Hp} {s : Shared} {a dx l : Addr} {fs : List (Str × V)} {xs : List V} {E' : Value → Shared → Prop} {Q : Value → Shared → Prop} {A : Around} (hA : A.in1.frames = X.A.frames) (G : OkLn X.prog X.w X.K X.mg X.base C fld k ps) (hr : Room k A.in1)
    (I : Inv X pins σ H s) (ha : Rd H a (.ins C dx fs)) (hl : fs.lookup fld = some (.ref l)) (hx : SqL X.K H l xs)
    (hq : ∀ t s', Inv X pins σ H s' → Q (.int xs.length t) s') : wpAny (model X.prog X.w) A (call (.builtin "len") [.ref a]) Q E' s := by
  obtain ⟨f, fd, M, B, F⟩ := G
  obtain ⟨mA, J, _⟩ := ins_rd I.hok ha
  obtain ⟨od, J, _⟩ := J.look
  obtain ⟨m, hF⟩ := I.fr
  have hz : xs.length ≤ sizeLine := let ⟨_, _, _, z⟩ := I.list hx; z
  refine PySem.W.len_K hF I.ok.mod.kin J M.at_ M.fn (thn (run_fnA (Q := fun v H' => v = V.int xs.length ∧ H' = H) (vs := [.ref a]) hA F hr B I (.cons rfl .nil) ⟨a, dx, l, fs, xs, rfl, ha, hl, hx, rfl, rfl⟩) fun u s' ⟨v, H', I', rv, e1, e2⟩ => ?_)
  subst e1 e2
  obtain ⟨t, rfl⟩ := rv
  rw [sizeLine_eq] at hz
  exact ⟨⟨by omega, by omega⟩, hq _ _ (I'.tok _)⟩
theorem call_lenF (G : OkLn X.prog X.w X.K X.mg X.base C fld k ps) (hr : Room (k + 1) X.A) : CallR X (.builtin "len") (rLenF X.K C fld) := by
  intro pins s σ H xs us Q I rv h
  obtain ⟨a, dx, l, fs, ys, rfl, ha, hl, hx, q⟩ := h
  obtain ⟨u, rfl, ru⟩ := rv.one
  cases ru
  exact own_len rfl G hr.in1 I ha hl hx fun t s' I' => ⟨.int ys.length, H, I', ⟨t, rfl⟩, q⟩
end
section
variable {K : PySem.W.Frag} {C : Addr}
def gLenF (C : Addr) (fld : Str) : List Cell → (Cell → Prop) → Prop := fun xs P => ∃ fs ds, xs = [.dat (.ins C fs)] ∧ fs.lookup fld = some (.lst ds) ∧ P (cI ds.length)
theorem C_lenF {fld : Str} : LC K (rLenF K C fld) (gLenF C fld) := fun s c vs xs H Q P hx S h k => by
  obtain ⟨fs, ds, rfl, e, h⟩ := h
  obtain ⟨v, rfl, hv⟩ := one_of hx
  obtain ⟨a, dx, us, l, o, ws, rfl, ha, hl, ho, hd⟩ := fld_lst hv e
  refine ⟨a, dx, l, us, ws, rfl, ha, hl, .inl (.inr ⟨o, ho⟩), ?_⟩
  rw [hd.len]
  exact k _ _ H h (.int _) (.refl S)
end
end My


/-! Q14: list(o) where o has an own __len__; o <= p; [o] == [None]; a written table; making that does not raise here. -/
namespace My
open PySem PySem.Spec PyProof.Rows L2
section
variable {X : Cx} {k k2 : Nat} {fi C : Addr} {fd : FuncData} {ps ps2 : List Str} {fld : Str} {pins : List (Addr × Obj)} {σ : L2.St}
theorem hint_own {A : Around} {E : Value → Shared → Prop} {s : Shared} {H : Hp} {a dx l : Addr} {fs : List (Str × V)} {xs : List V} {Q : Bool → Shared → Prop} (hA : A.in1.frames = X.A.frames) (G : OkLn X.prog X.w X.K X.mg X.base C fld k ps) (hr : Room k A.in1)
    (I : Inv X pins σ H s) (ha : Rd H a (.ins C dx fs)) (hl : fs.lookup fld = some (.ref l)) (hx : SqL X.K H l xs) (h : ∀ b s', Inv X pins σ H s' → Q b s') :
    wpAny (model X.prog X.w) A (Builtin.List.listLengthHint (.ref a)) Q E s := by
  obtain ⟨f, fd, M, B, F⟩ := id G
  obtain ⟨mA, J, _⟩ := ins_rd I.hok ha
  obtain ⟨od, J, _⟩ := J.look
  unfold Builtin.List.listLengthHint
  refine wpAny_bind (wpAny_bind (J.type.here ((PySem.W.looks_findIn I.kIn M.at_).here ?_)))
  dsimp only
  refine PySem.W.KFB.if_not rfl ?_
  rw [if_pos (show (some (Value.ref f)).isSome = true from rfl)]
  refine wpAny_bind (wpAny_rule ?_)
  refine wpAny_bind (wpAny_attempt (own_len hA G hr I ha hl hx fun t s' I' => ?_))
  dsimp only
  refine wpAny_bind (wpAny_pure ?_)
  dsimp only
  have hz : xs.length ≤ sizeLine := let ⟨_, _, _, z⟩ := I.list hx; z
  have ht : Builtin.List.listTooLong ((xs.length : Nat) : Int).toNat = false := by
    unfold Builtin.List.listTooLong
    simp only [Int.toNat_natCast]
    exact decide_eq_false (by omega)
  rw [if_neg (by rw [ht]; exact Bool.false_ne_true)]
  exact wpAny_pure (h _ _ I')
/-- list(o), o with own __iter__ and own __len__ -/
theorem call_listLn (hcalm : X.calm = true) (G : OkIt X.prog X.w X.K X.mg X.base C fld k ps) (GL : OkLn X.prog X.w X.K X.mg X.base C fld k2 ps2) (hr : Room (k + 2) X.A) (hr2 : Room (k2 + 3) X.A) : CallR X (.type "list") (rListOwn X.K C fld) := by
  obtain ⟨fi, fd, M, hb, F⟩ := G
  have hs := M.at_
  have hf := M.fn
  intro pins s σ H xs us Q I rv h
  obtain ⟨a, dx, l, fs, ys, rfl, ha, hl, hx, hq⟩ := h
  obtain ⟨u, rfl, ru⟩ := rv.one
  cases ru
  have hz : ys.length ≤ sizeLine := let ⟨_, _, _, z⟩ := I.list hx; z
  refine callType_codes (Q₁ := fun obj s₁ => obj = .ref s.heap.objs.size ∧ s₁ = { s with heap := s.heap.push { cls := .type "list", data := .seq #[] } }) PySem.F.called_list (PySem.F.typeCall_list_1 _) PySem.F.entry_list_init
    (code_list_new _ ⟨rfl, rfl⟩) fun obj s₁ h₁ => ?_
  obtain ⟨rfl, rfl⟩ := h₁
  have hS : (s.heap.push { cls := .type "list", data := .seq #[] }).get? s.heap.objs.size = some { cls := .type "list", data := .seq #[] } := Heap.get?_push_size _ rfl
  refine ⟨⟨_, hS, rfl⟩, PySem.F.args_list_init_2 _ _, ?_⟩
  have fr : H s.heap.objs.size = none := I.hok.fresh (Nat.le_refl _)
  have I1 : Inv X pins σ (upd H s.heap.objs.size (.lst [])) { s with heap := s.heap.push { cls := .type "list", data := .seq #[] } } := I.lnew (its := []) (t' := s.toks) .nil (Nat.zero_le _)
  show wpAny _ _ (do let old ← Builtin.List.listItems (.ref s.heap.objs.size); Builtin.List.listUpdate (.ref s.heap.objs.size) (fun _ => #[]); letGo old.toList.reverse; Builtin.List.listExtendWith (.ref s.heap.objs.size) (.ref a) .none) _ _ _
  refine wpAny_bind ?_
  unfold Builtin.List.listItems
  refine wpAny_bind (wpAny_seqItems hS rfl (wpAny_pure ?_))
  show wpAny _ _ (updateSeq s.heap.objs.size (fun _ => #[]) >>= fun _ => letGo (#[] : Array Value).toList.reverse >>= fun _ => Builtin.List.listExtendWith (.ref s.heap.objs.size) (.ref a) .none) _ _ _
  refine wpAny_bind (wpAny_updateSeq hS rfl ?_)
  have I2 := I1.lset (f := fun _ => #[]) (its := []) (its' := []) (ys := []) (t' := s.toks) upd_same hS rfl .nil (Nat.zero_le _)
  rw [upd_upd] at I2
  refine wpAny_bind (wpAny_letGo ?_)
  have ha2 : Rd (upd H s.heap.objs.size (.lst [])) a (.ins C dx fs) := rd_upd ha fr
  have hx2 : SqL X.K (upd H s.heap.objs.size (.lst [])) l ys := sql_upd hx fr
  have hne := rd_ne ha fr
  revert I2
  generalize (Shared.mk _ _ _ _ _ : Shared) = s2
  intro I2
  obtain ⟨mA, J, _⟩ := ins_rd I2.hok ha2
  obtain ⟨od, J, _⟩ := J.look
  unfold Builtin.List.listExtendWith
  refine wpAny_bind (J.type.here ?_)
  have e1 : Builtin.List.listSameRef (.ref s.heap.objs.size) (.ref a) = false := by simp [Builtin.List.listSameRef, hne]
  have e2 : (Value.ref C == Value.type "list") = false := rfl
  have e3 : (Value.ref C == Value.type "tuple") = false := rfl
  simp only [e1, e2, e3, Bool.or_false, Bool.false_eq_true, if_false]
  refine wpAny_bind (own_pyIter (A := X.A.in1.in1) rfl F hr.in1.in1 hb hs hf I2 ha2 hl hx2 fun it s3 n1 n2 I3 => ?_)
  refine wpAny_bind (wpAny_holding (hint_own (A := X.A.in1.in1) rfl GL hr2.in1.in1.in1 I3 (rd_upd ha2 n1) hl (sql_upd hx2 n1) fun b s4 I3' => ?_))
  have hi : upd (upd H s.heap.objs.size (.lst [])) it (ItO l it 0) it = some (ItO l it 0) := upd_same
  have eo := itO_get I3' hi
  have st : s4.heap.IsListIter it l 0 := ⟨_, eo, rfl, rfl⟩
  have hi' := hi
  unfold ItO at hi'
  have fp := ItX.inv_fp I3' hi (Nat.le_trans I2.sz n2)
  have I4 := ItX.inv_drop I3' hi'
  have ed : ItX.dropH (upd (upd H s.heap.objs.size (.lst [])) it (ItO l it 0)) it = upd H s.heap.objs.size (.lst []) := ItX.dropH_upd n1
  rw [ed] at I4
  rw [ed] at fp
  have hne2 : it ≠ s.heap.objs.size := by
    rintro rfl
    rw [upd_same] at n1
    cases n1
  have fp0 : FpOk X pins H it := ⟨by rw [upd_ne hne2] at n1; exact n1, fp.2⟩
  have fin : ∀ s', Inv X pins σ (upd H s.heap.objs.size (.lst ys)) s' → wants (fun r s₂ => r = .none ∧ EP X pins σ Q (.ref s.heap.objs.size) s₂) X.xe (.ok (.ret .none)) s' := fun s' I' => ⟨rfl, .ref s.heap.objs.size, _, I', rfl, hq _ fr⟩
  obtain ⟨z, its, kk, r3, hl3, e3⟩ := I4.lstM upd_same
  cases r3
  have hd : X.A.in1.in1.handled = none := I.ok.hd hcalm
  refine wpAny_ite_split (fun _ => ?_) (fun _ => wpAny_pure ⟨plainId_quiet PySem.F.plain_extend_loop _, ownL_loop (A1 := X.A.in1) hd fr hx hz fp0 hne2 fin _ 0 s4 rfl (Nat.zero_le _) I4 st⟩)
  refine wpAny_bind (wpAny_rule ?_)
  refine wpAny_bind ?_
  show wpAny _ _ (updateSeq s.heap.objs.size (·.push .none) >>= fun _ => updateSeq s.heap.objs.size (·.pop)) _ _ _
  refine wpAny_bind (wpAny_updateSeq e3 rfl ?_)
  have I5 := I4.lset (f := (·.push Value.none)) (its' := [Value.none]) (ys := [.non]) (t' := s4.toks) upd_same e3 (by simp) (.cons rfl .nil) (by rw [List.length_singleton, sizeLine_eq]; decide)
  obtain ⟨z4, its4, k4, r4, hl4, e4⟩ := I5.lstM upd_same
  obtain ⟨u4, rfl, ru4⟩ := r4.one
  refine wpAny_updateSeq e4 rfl ?_ (by show 1 ≤ sizeLine; rw [sizeLine_eq]; decide) (by show 0 ≤ sizeLine + 1; exact Nat.zero_le _)
  have I6 := I5.lset (f := (·.pop)) (its := [u4]) (its' := []) (ys := []) (t' := s4.toks) upd_same e4 (by rfl) .nil (Nat.zero_le _)
  rw [upd_upd, upd_upd] at I6
  refine wpAny_pure ⟨plainId_quiet PySem.F.plain_extend_loop _, ownL_loop (A1 := X.A.in1) hd fr hx hz fp0 hne2 fin _ 0 _ rfl (Nat.zero_le _) I6 ?_⟩
  exact (st.at fun o e => (Heap.get?_update_other _ _ (fun z => hne2 z.symm)).trans e).at fun o e => (Heap.get?_update_other _ _ (fun z => hne2 z.symm)).trans e
/-- o <= p, both of C -/
theorem opM_le {sp : Sp} (G : OkM X.prog X.w X.K X.mg X.base C "__le__" k ps sp) (hr : Room k X.A) (Z : ClsK X.K C) : OpR X (compareOp .LtE) (rOwn C sp) := by
  obtain ⟨f, fd, M, _, hb, F⟩ := G
  intro pins s σ H x y v u Q I rx ry h
  obtain ⟨⟨a, dx, fs, rfl, ha⟩, ⟨b, dy, gs, rfl, hb'⟩, h⟩ := h
  cases rx
  cases ry
  obtain ⟨mA, J, _⟩ := ins_rd I.hok ha
  obtain ⟨mB, J', _⟩ := ins_rd I.hok hb'
  obtain ⟨od, J, _⟩ := J.look
  obtain ⟨od', J', _⟩ := J'.look
  obtain ⟨m, hF⟩ := I.fr
  have nf : PySem.W.notFirst X.K C (.ref C) = true := (Bool.and_eq_true_iff.mp Z.fn).1
  show wpAny (model X.prog X.w) X.A (richCompare .LtE (.ref a) (.ref b)) (EP X pins σ Q) X.xe s
  refine PySem.W.cmp_K (op := .LtE) (tb := .ref C) hr.units0 hF I.ok.mod.kin J J'.type nf M.at_ M.fn (wpAny_mono (run_fn (us := [.ref a, .ref b]) (vs := [.ref a, .ref b]) F hr hb .nil pass0 I (.cons rfl (.cons rfl .nil)) ?_) (fun w s' hw => back_of hw) fun _ _ z => z)
  rw [List.append_nil]
  exact h
theorem pass00 {σ : L2.St} : PassesAt (L2.CX X.prog X.w) X σ E0 := fun pins H s e s' I c => by
  obtain ⟨_, _, _, _, _, _, _, _, _, _, _, _, z⟩ := c
  exact z.elim
end
end My


/-! Q15: [o] == [None], o an instance with own __eq__. -/
namespace My
open PySem PySem.Spec PyProof.Rows L2
section
open PySem.SeqAt
open AutoSeq1 (wpAny_loadPart')
open MeetsSeq MeetsSeq2 MeetsSeq3 SeqRoads2
variable {prog : Program} {w : World}
abbrev arrObj (vs : Array Value) (n : Nat) (dd : Option Addr) (sl : Array (Option Value)) : Obj := { cls := .type "list", dict := dd, data := .seq vs n, slots := sl }
theorem meets_one (l b o : Addr) (vs ws : Array Value) (n n2 : Nat) (dd dd2 : Option Addr) (sl sl2 : Array (Option Value)) (hz : vs.size = ws.size) (i1 : vs[Int.toNat 0]? = some (.ref o)) (i2 : ws[Int.toNat 0]? = some .none) :
    MeetsIn prog w (Builtin.«list.__eq__» ⟨[.ref l, .ref b], []⟩) (fun A R s =>
    s.heap.get? l = some (arrObj vs n dd sl) ∧ s.heap.get? b = some (arrObj ws n2 dd2 sl2) ∧
    wpAny (model prog w) A.in1 (eqBool (.ref o) .none) (fun c s1 => c = false ∧ (∃ m, s1.heap.get? l = some (arrObj vs m dd sl)) ∧ (∃ m, s1.heap.get? b = some (arrObj ws m dd2 sl2)) ∧ R (.ok (.ret (.bool false))) s1) (fun e s1 => R (.error e) s1) s) := by
  intro A R s h
  obtain ⟨hp, g, d, tk, os⟩ := s
  obtain ⟨hl, hb, he⟩ := h
  have f3 := AutoSeq1.sub_list_list
  have hne : ¬ (vs.size != ws.size) = true := by simp [hz]
  wp_walk using wpAny_loadPart' hl, wpAny_loadPart' hb
  refine ⟨plainId_quiet plain_eq_loop _, codeAny_builtin entry_eq_loop ?_⟩
  rw [Around.under_plainId plain_eq_loop _]
  wp_walk using wpAny_loadPart' hl, wpAny_loadPart' hb
  rw [i1, i2]
  refine wpAny_bind (wpAny_mono he (fun c s1 hc => ?_) fun _ _ z => z)
  obtain ⟨rfl, ⟨m1, hl1⟩, ⟨m2, hb1⟩, hR⟩ := hc
  obtain ⟨hp1, g1, d1, tk1, os1⟩ := s1
  wp_walk using wpAny_loadPart' hl1, wpAny_loadPart' hb1
  rw [i1, i2]
  wp_walk using wpAny_loadPart' hl1, wpAny_loadPart' hb1
  exact hR
end
/-- [o] == [None]: o's own __eq__ is asked and says no -/
def rOneNo (K : PySem.W.Frag) (C : Addr) (sp : Sp) : R2 := fun x y H Q => ∃ l b a dx fs, x = .ref l ∧ y = .ref b ∧ H l = some (.lst [.ref a]) ∧ H b = some (.lst [.non]) ∧ Rd H a (.ins C dx fs) ∧
  sp [.ref a, .non] H (fun r H' => r = .bl false ∧ H' l = some (.lst [.ref a]) ∧ H' b = some (.lst [.non]) ∧ Q (.bl false) H') E0
section
variable {X : Cx} {C : Addr} {k : Nat} {ps : List Str}
theorem op_oneNo {sp : Sp} (G : OkM X.prog X.w X.K X.mg X.base C "__eq__" k ps sp) (hr : Room (k + 1) X.A) (Z : ClsK X.K C) (hu : X.A.units + 64 < cLine) : OpR X (compareOp .Eq) (rOneNo X.K C sp) := by
  obtain ⟨f, fd, M, _, hb, F⟩ := G
  intro pins s σ H x y v u Q I rx ry h
  obtain ⟨l, b, a, dx, fs, rfl, rfl, h1, h2, ha, h⟩ := h
  cases rx
  cases ry
  obtain ⟨z, its, n, r, hl, e⟩ := I.lstM h1
  obtain ⟨z2, its2, n2, r2, hl2, e2⟩ := I.lstM h2
  obtain ⟨v1, rfl, rv1⟩ := r.one
  obtain ⟨v2, rfl, rv2⟩ := r2.one
  cases rv1
  cases rv2
  have fin : wpAny (model X.prog X.w) X.A (call (.builtin "list.__eq__") [.ref l, .ref b]) (fun v s' => v ≠ .notImplemented ∧ EP X pins σ Q v s') X.xe s := by
    refine call_meetsIn PySem.F.slot_list_eq ⟨_, e, rfl⟩ PySem.F.entry_list_eq (PySem.F.args_list_eq_2 _ _) (meets_one l b a #[.ref a] #[.none] n n2 none none #[] #[] rfl rfl rfl) ⟨e, e2, ?_⟩
    obtain ⟨mA, J, _⟩ := ins_rd I.hok ha
    obtain ⟨od, J, _⟩ := J.look
    obtain ⟨m, hF⟩ := I.fr
    have nf : PySem.W.notFirst X.K C (.type "NoneType") = true := List.all_eq_true.mp (Bool.and_eq_true_iff.mp Z.fn).2 "NoneType" (by decide)
    unfold eqBool
    refine wpAny_holding ?_
    rw [if_neg (by simp)]
    refine wpAny_bind ?_
    refine PySem.W.cmp_K (op := .Eq) (tb := .type "NoneType") (by show X.A.units + 1 < cLine; omega) hF I.ok.mod.kin J (PySem.W.Looks.now) nf M.at_ M.fn (wpAny_mono (run_fnA (A := X.A.in1) (us := [.ref a, .none]) (vs := [.ref a, .non]) rfl F hr.in1 hb I (.cons rfl (.cons rfl .nil)) h) (fun w s' hw => ?_) fun _ _ z => z)
    obtain ⟨w', H', I', rw', rfl, q1, q2, q3⟩ := hw
    cases rw'
    show wpAny _ _ (truthOfDropped (.bool false)) _ _ _
    refine wpAny_truthy_bool ?_
    obtain ⟨_, its', m1, r', _, e'⟩ := I'.lstM q1
    obtain ⟨_, its2', m2, r2', _, e2'⟩ := I'.lstM q2
    obtain ⟨w1, rfl, rw1⟩ := r'.one
    obtain ⟨w2, rfl, rw2⟩ := r2'.one
    cases rw1
    cases rw2
    exact ⟨rfl, ⟨_, e'⟩, ⟨_, e2'⟩, (fun z => nomatch z), .bl false, H', I', rfl, q3⟩
  exact wpAny_richCompare_same_room (op := .Eq) ⟨_, e, rfl⟩ ⟨_, e2, rfl⟩ PySem.F.slot_list_eq fin (by omega)
end
section
variable {K : PySem.W.Frag}
def fOneNo (C : Addr) (q : QP) : P2 := fun x y P => ∃ fs, x = .lm [.ins C fs] ∧ y = .lm [.non] ∧ q [.ins C fs, .non] fun d => d = .bl false ∧ P (cB false)
theorem O_oneNo {C : Addr} {q : QP} (mo : Mono q) : LOp K (rOneNo K C (up K q)) (fOneNo C q) := fun s c v w x y H Q P hx hy S h k => by
  obtain ⟨fs, rfl, rfl, h⟩ := h
  obtain ⟨l, vs, rfl, hl, hd, n1, n2⟩ := hx
  obtain ⟨b, ws, rfl, hb, he, m1, m2⟩ := hy
  cases hd with
  | cons x1 r =>
    cases r
    cases he with
    | cons x2 r =>
      cases r
      cases x2
      obtain ⟨a, dx, us, rfl, ha⟩ := ins_rd' x1
      refine ⟨l, b, a, dx, us, rfl, rfl, hl, hb, ha, ?_⟩
      refine up_of mo S (.cons x1 (.cons .non .nil)) h fun d v H' hP hv st => ?_
      obtain ⟨rfl, hP⟩ := hP
      cases hv
      exact ⟨rfl, st.kp _ _ n1 hl, st.kp _ _ m1 hb, k _ _ H' hP (.bl _) st⟩
end
end My


/-! Q16: T.get(k, x) of a written table of numbers; making where nothing is raised. -/
namespace My
open PySem PySem.Spec PyProof.Rows L2
/-- the dict at d is the written table -/
structure TabI (K : PySem.W.Frag) (w : World) (d : Addr) (tb : List (Str × Int)) : Prop where
  kd : IsKD K w d
  at_ : ∀ k : Str, ∃ o, PySem.W.nsIn K d k = some o ∧ ((tb.lookup k = none ∧ o = none) ∨ ∃ i t, tb.lookup k = some i ∧ o = some (.int i t))
/-- what its values say, without the world -/
def TabV (K : PySem.W.Frag) (d : Addr) (tb : List (Str × Int)) : Prop := ∀ k : Str, ∃ o, PySem.W.nsIn K d k = some o ∧ ((tb.lookup k = none ∧ o = none) ∨ ∃ i t, tb.lookup k = some i ∧ o = some (.int i t))
section
variable {K : PySem.W.Frag} {s c : Addr} {H0 : Hp}
def pGetKd (tb : List (Str × Int)) (b f : PEx) : PEx := fun σd P => b σd fun y => f σd fun z => ∃ (k : Str) (i : Int), y = cS k ∧ z = cI i ∧ P (cI ((tb.lookup k).getD i))
theorem L_getKd {d : Addr} {tb : List (Str × Int)} {ty tx : TE} {b f : PEx} (T : TabV K d tb) (hb : LE K s c H0 ty b) (hf : LE K s c H0 tx f) : LE K s c H0 (tGetKd K d (tC (.ref d)) ty tx) (pGetKd tb b f) := fun σ σd H Q P R h k => by
  refine ⟨rfl, hb σ σd H _ _ R h fun y v H1 h1 r1 s1 => ?_⟩
  refine hf σ σd H1 _ _ (R.stp s1) h1 fun z u H2 h2 r2 s2 => ?_
  obtain ⟨n, i, rfl, rfl, h⟩ := h2
  obtain ⟨o, e, ho⟩ := T n
  refine ⟨n, o, str_eq r1, e, ?_⟩
  rcases ho with ⟨h3, rfl⟩ | ⟨j, t, h3, rfl⟩
  · rw [h3] at h
    exact .inl ⟨rfl, k _ _ H2 h r2 (s1.trans s2)⟩
  · rw [h3] at h
    exact .inr ⟨.int j, .int j t, rfl, ⟨t, rfl⟩, k _ _ H2 h (.int j) (s1.trans s2)⟩
theorem L_makeC0 {C : Addr} {q : QIC} {t : TA} {a : PAx} (mo : MonoIC q) (ha : LA K s c H0 t a) : LE K s c H0 (tFrz (tMakeS C (upIC K C q) (fun _ => E0) t)) (fun σd P => pMakeC C q a σd (fun d => P (.dat d)) fun _ => False) := fun σ σd H Q P R h k =>
  L_makeC mo ha σ σd H Q (fun _ _ _ _ => False) (fun d => P (.dat d)) (fun _ => False) R h (fun d v H' hd hr st => k _ v H' hd hr st) (fun x cls d H' z => z.elim)
end
/-! ### the head's side of a table -/
theorem find_keys {P : Params} : ∀ {l : List DictEntry} {ks : List Str} {k : Str}, l.map He.keyOf = He.keysIn P ks → k ∉ ks → l.find? (·.key.isStr k) = none ∧ l.any (·.refKey) = false
  | [], ks, k, h, _ => ⟨rfl, rfl⟩
  | e :: l, [], k, h, _ => by cases h
  | e :: l, q :: ks, k, h, hk => by
    have h1 : He.keyOf e :: l.map He.keyOf = some (q, PyData.keyHash P q) :: He.keysIn P ks := h
    injection h1 with h2 h3
    obtain ⟨a, b⟩ := find_keys h3 fun z => hk (List.mem_cons_of_mem _ z)
    unfold He.keyOf at h2
    split at h2
    · rename_i x t w
      have h4 := Option.some.inj h2
      obtain ⟨h5, h6⟩ := Prod.mk.inj h4
      subst h5
      have n1 : e.key.isStr k = false := by
        rw [w]
        cases z : (Value.str x t).isStr k with
        | false => rfl
        | true =>
          have : x = k := by simpa [Value.isStr] using z
          exact absurd (this ▸ List.mem_cons_self ..) hk
      have n2 : e.refKey = false := by
        unfold DictEntry.refKey
        rw [w]
      exact ⟨by rw [List.find?_cons, n1]; exact a, by rw [List.any_cons, n2, b]; rfl⟩
    · cases h2
theorem lookup_none {α : Type} : ∀ {tb : List (Str × α)} {k : Str}, k ∉ tb.map (·.1) → tb.lookup k = none
  | [], _, _ => rfl
  | (q, v) :: r, k, h => by
    have n : (k == q) = false := beq_eq_false_iff_ne.mpr fun e => h (e ▸ List.mem_cons_self ..)
    rw [List.lookup, n]
    exact lookup_none fun z => h (List.mem_cons_of_mem _ z)
theorem lookup_some {α : Type} : ∀ {tb : List (Str × α)} {k : Str}, k ∈ tb.map (·.1) → ∃ v, tb.lookup k = some v ∧ (k, v) ∈ tb
  | [], _, h => by cases h
  | (q, v) :: r, k, h => by
    by_cases e : k = q
    · subst e
      exact ⟨v, by simp [List.lookup], List.mem_cons_self ..⟩
    · have n : (k == q) = false := beq_eq_false_iff_ne.mpr e
      rcases List.mem_cons.mp h with z | z
      · exact absurd z e
      · obtain ⟨u, h1, h2⟩ := lookup_some z
        exact ⟨u, by rw [List.lookup, n]; exact h1, List.mem_cons_of_mem _ h2⟩
theorem tabV_ok {w : World} {K : PySem.W.Frag} {d : Addr} {tb : List (Str × Int)} (h : He.dicW K d = some (He.keysIn w.params (tb.map (·.1)))) (hv : He.valsB K d (tb.map fun p => (p.1, He.Dv.int p.2)) = true) : TabV K d tb := fun k => by
  by_cases m : k ∈ tb.map (·.1)
  · obtain ⟨i, h1, h2⟩ := lookup_some m
    obtain ⟨u, e, r⟩ := He.valsB_ok hv (q := (k, He.Dv.int i)) (List.mem_map.mpr ⟨(k, i), h2, rfl⟩)
    obtain ⟨t, rfl⟩ := (show ∃ t, u = Value.int i t from r)
    exact ⟨_, e, .inr ⟨i, t, h1, rfl⟩⟩
  · refine ⟨none, ?_, .inl ⟨lookup_none m, rfl⟩⟩
    unfold He.dicW at h
    unfold PySem.W.nsIn
    cases q : K.lookup d with
    | none => rw [q] at h; cases h
    | some o =>
      obtain ⟨oc, od, dt, osl⟩ := o
      rw [q] at h
      cases oc with
      | type c =>
        cases od with
        | none =>
          cases dt with
          | dict es n =>
            have h1 : (match decide (c = "dict") && (osl.isEmpty && !(d == sysModules)) with
              | true => some (es.toList.map He.keyOf)
              | false => none) = some (He.keysIn w.params (tb.map (·.1))) := h
            cases z : decide (c = "dict") && (osl.isEmpty && !(d == sysModules)) with
            | false => rw [z] at h1; cases h1
            | true =>
              rw [z] at h1
              obtain ⟨f1, f2⟩ := find_keys (Option.some.inj h1) m
              dsimp only
              rw [f1]
              dsimp only
              rw [if_neg (by rw [f2]; exact Bool.false_ne_true)]
          | _ => cases h
        | some b => cases dt <;> cases h
      | _ => cases od <;> cases dt <;> cases h
end My


/-! K25a: limits as plain data; what the defs of k25 promise. -/
namespace My
open PySem PySem.Spec PyProof.Rows L2 TL
structure AD where
  Sheet : Addr
  OfficeError : Addr
  BadLimit : Addr
  BadChange : Addr
  DoesNotGo : Addr
  ITEM_COUNTS : Addr
def xcs (C : AD) : List Addr := [C.BadLimit, C.BadChange, C.DoesNotGo]
def tb_ITEM_COUNTS : List (Str × Int) := [("room", 5), ("reach", 4)]
def kx (C : AD) (T : Addr) : Addr → Option Bool := fun E => if E ∈ xcs C then some (decide (E = T)) else none
abbrev kx_BadLimit (C : AD) := kx C C.BadLimit
abbrev kx_BadChange (C : AD) := kx C C.BadChange
abbrev kx_DoesNotGo (C : AD) := kx C C.DoesNotGo
def kx_ValueError (C : AD) : Addr → Option Bool := fun E => if E ∈ xcs C then some true else none
structure Fl (K : PySem.W.Frag) (C : AD) : Prop where
  z_Sheet : ClsK K C.Sheet
  n_Sheet_limits : NoAttr K C.Sheet "_limits"
  tv_ITEM_COUNTS : TabV K C.ITEM_COUNTS tb_ITEM_COUNTS
  exm : ∀ E ∈ xcs C, PySem.W.exmOne K (.ref E) (.ref C.OfficeError) = some true
  exc : ∀ E ∈ xcs C, ExcC K E
  kit : ∀ E ∈ xcs C, ∀ T ∈ xcs C, PySem.W.kitOne K (.ref E) (.ref T) = some (decide (E = T))
  kve : ∀ E ∈ xcs C, PySem.W.kitOne K (.ref E) (.type "ValueError") = some true
  nd : (xcs C).Nodup
  xf_BadLimit : XfC K C.BadLimit
  xf_BadChange : XfC K C.BadChange
  xf_DoesNotGo : XfC K C.DoesNotGo
  no_BadLimit_limit : PySem.W.findIn K (.ref C.BadLimit) "limit" = some none
  no_BadChange_limit : PySem.W.findIn K (.ref C.BadChange) "limit" = some none
  no_DoesNotGo_limit : PySem.W.findIn K (.ref C.DoesNotGo) "limit" = some none
section
variable {K : PySem.W.Frag} {C : AD}
theorem Fl.kx (B : Fl K C) {T : Addr} (hT : T ∈ xcs C) : ∀ E b, My.kx C T E = some b → ExcC K E ∧ PySem.W.kitOne K (.ref E) (.ref T) = some b := fun E b h => by
  unfold My.kx at h
  by_cases m : E ∈ xcs C
  · rw [if_pos m] at h
    cases h
    exact ⟨B.exc E m, B.kit E m T hT⟩
  · rw [if_neg m] at h
    cases h
theorem Fl.kx_BadLimit (B : Fl K C) : ∀ E b, My.kx_BadLimit C E = some b → ExcC K E ∧ PySem.W.kitOne K (.ref E) (.ref C.BadLimit) = some b := B.kx (by simp [xcs])
theorem Fl.kx_BadChange (B : Fl K C) : ∀ E b, My.kx_BadChange C E = some b → ExcC K E ∧ PySem.W.kitOne K (.ref E) (.ref C.BadChange) = some b := B.kx (by simp [xcs])
theorem Fl.kx_DoesNotGo (B : Fl K C) : ∀ E b, My.kx_DoesNotGo C E = some b → ExcC K E ∧ PySem.W.kitOne K (.ref E) (.ref C.DoesNotGo) = some b := B.kx (by simp [xcs])
theorem Fl.kx_ValueError (B : Fl K C) : ∀ E b, My.kx_ValueError C E = some b → ExcC K E ∧ PySem.W.kitOne K (.ref E) (.type "ValueError") = some b := fun E b h => by
  unfold My.kx_ValueError at h
  by_cases m : E ∈ xcs C
  · rw [if_pos m] at h
    cases h
    exact ⟨B.exc E m, B.kve E m⟩
  · rw [if_neg m] at h
    cases h
theorem X_liftX {s c : Addr} {H0 : Hp} {t : TS} {p : PSx} (h : LS K s c H0 t p) : LSX K s c H0 (fun _ => t) (pLiftX p) := X_lift h
def pMake0 (C : Addr) (q : QIC) (a : PAx) : PEx := fun σd P => pMakeC C q a σd (fun d => P (.dat d)) fun _ => False
def rGtS : R2 := fun x y H Q => ∃ i j, x = .str i ∧ y = .str j ∧ Q (.bl (decide (j.cps.toList < i.cps.toList))) H
theorem O_gtS : LOp K rGtS (fSB fun i j => decide (j.cps.toList < i.cps.toList)) := fun s c v w x y H Q P hx hy S h k => by
  obtain ⟨i, j, rfl, rfl, h⟩ := h
  exact ⟨i, j, str_eq hx, str_eq hy, k _ _ H h (.bl _) (.refl S)⟩
end
/-! ### limits -/
structure Lim where
  up : Str
  lo : Str
  st : Option Str
  c : Int
  ts : List (Str × Int)
  deriving DecidableEq
def termD (p : Str × Int) : D := .tup [.str p.1, .int p.2]
def encT (ts : List (Str × Int)) : D := .tup (ts.map termD)
def encS (c : Int) (ts : List (Str × Int)) : D := .tup [.int c, encT ts]
def enc (l : Lim) : D := match l.st with
  | none => .tup [.str "reach", .str l.up, .str l.lo, encS l.c l.ts]
  | some z => .tup [.str "room", .str l.up, .str l.lo, .str z, encS l.c l.ts]
def limsD (ls : List Lim) : D := .lst (ls.map enc)
/-! ### names -/
def letters : List Nat := ("abcdefghijklmnopqrstuvwxyz" : Str).cps.toList
def digits : List Nat := ("0123456789" : Str).cps.toList
def charsS : Str := "!\"#$&'()*+,-./0123456789:;<=>?@ABCDEFGHIJKLMNOPQRSTUVWXYZ[\\]^_`abcdefghijklmnopqrstuvwxyz{|}~"
def charsL : List Nat := charsS.cps.toList
def isNm (z : Str) : Bool := match z.cps.toList with
  | [] => false
  | c :: cs => decide (z.length ≤ 12) && (decide (c ∈ letters) && (c :: cs).all fun x => decide (x ∈ letters) || decide (x ∈ digits))
def isSt (z : Str) : Bool := isNm z && !decide (z = "frame")
def isTx (z : Str) : Bool := z.cps.toList.all fun c => decide (c ∈ charsL)
def ltS (a b : Str) : Bool := decide (a.cps.toList < b.cps.toList)
def sumB (before : Str) : List (Str × Int) → Bool
  | [] => true
  | (n, t) :: r => isSt n && (ltS before n && (!decide (t = 0) && sumB n r))
def Lim.ok (l : Lim) : Bool := isNm l.up && (isNm l.lo && (!decide (l.up = l.lo) && ((match l.st with
  | none => true
  | some z => isTx z) && sumB "" l.ts)))
def Lim.len (l : Lim) : Nat := match l.st with
  | none => 0
  | some z => z.length
/-- in order, of sizes that suit -/
structure Fit (n : Nat) (l : Lim) : Prop where
  ok : l.ok = true
  st : l.len ≤ n
  few : l.ts.length ≤ 10
structure Siz (l : Lim) : Prop where
  up : l.up.length ≤ 1000
  lo : l.lo.length ≤ 1000
  st : l.len ≤ 1000
  ts : ∀ p ∈ l.ts, p.1.length ≤ 1000
/-! ### their order -/
abbrev Tk := Int ⊕ List Nat
def tkT : List (Str × Int) → List Tk
  | [] => [.inl 0]
  | (n, t) :: r => .inl 1 :: .inr n.cps.toList :: .inl t :: tkT r
def tkR (c : Int) (ts : List (Str × Int)) : List Tk := .inl c :: tkT ts
def Lim.kind (l : Lim) : Str := match l.st with
  | none => "reach"
  | some _ => "room"
def tkQ (l : Lim) : List Tk := match l.st with
  | none => tkR l.c l.ts
  | some z => .inr z.cps.toList :: tkR l.c l.ts
def tk (l : Lim) : List Tk := .inr l.kind.cps.toList :: .inr l.up.cps.toList :: .inr l.lo.cps.toList :: tkQ l
def lt (a b : Lim) : Bool := PyProof.Rows.lexLt PyProof.Rows.itemOrd (tk a) (tk b)
def Srt (ls : List Lim) : Prop := ls.Pairwise fun a b => lt b a = false
def SSrt (ls : List Lim) : Prop := ls.Pairwise fun a b => lt a b = true
def insF (x : Lim) : List Lim → List Lim
  | [] => [x]
  | y :: r => if x = y then y :: r else if lt x y = true then x :: y :: r else y :: insF x r
def cn (ls : List Lim) : List Lim := ls.foldl (fun acc x => insF x acc) []
/-! ### what is handed to is_limit -/
inductive Val where
  | lim (l : Lim)
  | odd (ds : List D)
def Val.d : Val → D
  | .lim l => enc l
  | .odd ds => .tup ds
def Val.ok : Val → Bool
  | .lim l => l.ok
  | .odd _ => false
def Odd (ds : List D) : Prop := ds.all (okN 20) = true ∧ ds.length ≤ 100 ∧ (ds = [] ∨ ∃ k r, ds = .str k :: r ∧ (tb_ITEM_COUNTS.lookup k).getD 0 ≠ (ds.length : Int))
def Val.Sz : Val → Prop
  | .lim l => Siz l
  | .odd ds => Odd ds
section
variable (C : AD)
def sheet (ls : List Lim) : D := .ins C.Sheet [("_limits", limsD ls)]
def badL (v : Val) : Ex := ⟨C.BadLimit, [("limit", v.d)]⟩
/-! ### promises -/
def q_is_nameR : QP := fun ds P => ∃ z, ds = [.str z] ∧ z.length ≤ 1000 ∧ P (.bl (isNm z))
def q_is_step_nameR : QP := fun ds P => ∃ z, ds = [.str z] ∧ z.length ≤ 1000 ∧ P (.bl (isSt z))
def q_is_textR : QP := fun ds P => ∃ z, ds = [.str z] ∧ z.length ≤ 1000 ∧ P (.bl (isTx z))
def q_joined_rows : QP := fun ds P => ∃ as bs, ds = [limsD as, limsD bs] ∧ as.length + bs.length ≤ 1000 ∧ Srt as ∧ Srt bs ∧ ∀ rs, rs.Perm (as ++ bs) → Srt rs → P (limsD rs)
def q_in_order : Nat → QP
  | 0 => fun _ _ => False
  | n + 1 => fun ds P => ∃ ls, ds = [limsD ls] ∧ ls.length ≤ 2 ^ n ∧ ls.length ≤ 1000 ∧ ∀ rs, rs.Perm ls → Srt rs → P (limsD rs)
def q_distinct : QP := fun ds P => ∃ ls, ds = [limsD ls] ∧ ls.length ≤ 128 ∧ P (limsD (cn ls))
def q_is_sum : QP := fun ds P => ∃ c ts, ds = [encS c ts] ∧ (∀ p ∈ ts, p.1.length ≤ 1000) ∧ P (.bl (sumB "" ts))
def q_is_limit : QP := fun ds P => ∃ v : Val, ds = [v.d] ∧ v.Sz ∧ P (.bl v.ok)
def q_Sheet_init : QIC := fun xs P X => ∃ x, xs = [x] ∧ ((∃ ls : List Lim, seqV x = some (ls.map enc) ∧ (∀ l ∈ ls, Siz l ∧ l.ok = true) ∧ ls.length ≤ 100 ∧ P [("_limits", limsD (cn ls))]) ∨
  ∃ (ls : List Lim) (v : Val) (rest : List D), seqV x = some (ls.map enc ++ v.d :: rest) ∧ (∀ l ∈ ls, Siz l ∧ l.ok = true) ∧ v.Sz ∧ v.ok = false ∧ X (badL C v))
def q_Sheet_listed : QL := fun ds P => ∃ ls, ds = [sheet C ls] ∧ P (.lm (ls.map enc))
def q_Sheet_contains : QP := fun ds P => ∃ ls l, ds = [sheet C ls, enc l] ∧ P (.bl (decide (l ∈ ls)))
structure Shs (ls : List Lim) : Prop where
  s : SSrt ls
  z : ∀ l ∈ ls, Siz l ∧ l.ok = true
  n : ls.length ≤ 100
def q_Sheet_or : QP := fun ds P => ∃ as bs, ds = [sheet C as, sheet C bs] ∧ Shs as ∧ Shs bs ∧ (as ++ bs).length ≤ 100 ∧ P (sheet C (cn (as ++ bs)))
def q_Sheet_and : QP := fun ds P => ∃ as bs, ds = [sheet C as, sheet C bs] ∧ Shs as ∧ Shs bs ∧ P (sheet C (as.filter fun l => decide (l ∈ bs)))
def q_Sheet_sub : QP := fun ds P => ∃ as bs, ds = [sheet C as, sheet C bs] ∧ Shs as ∧ Shs bs ∧ P (sheet C (as.filter fun l => !decide (l ∈ bs)))
def q_Sheet_le : QP := fun ds P => ∃ as bs, ds = [sheet C as, sheet C bs] ∧ Shs as ∧ Shs bs ∧ P (.bl (as.all fun l => decide (l ∈ bs)))
def q_Sheet_eq : QP := fun ds P => ∃ as d, ds = [sheet C as, d] ∧ ((∃ bs, d = sheet C bs ∧ P (.bl (decide (as = bs)))) ∨ (isC C.Sheet d = some false ∧ P (.bl false)))
def q_law_size : QP := fun ds P => ∃ a b : Nat, ds = [.src, .int a, .int b] ∧ 0 < a ∧ a < b ∧ b ≤ 1000 ∧ ∀ n : Nat, 1 ≤ n → n ≤ b → P (.int n)
def q_law_word : QP := fun ds P => ds = [.src] ∧ ∀ z, isNm z = true → P (.str z)
def q_law_names : QP := fun ds P => ∃ m : Nat, ds = [.src, .int m] ∧ m ≤ 10 ∧ ∀ ns : List Str, ns.length = m → (∀ z ∈ ns, isSt z = true) → ns.Nodup → P (.lst (ns.map .str))
def q_law_number : QP := fun ds P => ds = [.src] ∧ ∀ i : Int, P (.int i)
def q_law_times : QP := fun ds P => ds = [.src] ∧ ∀ i : Int, i ≠ 0 → P (.int i)
def q_law_stack : QP := fun ds P => ds = [.src] ∧ ∀ z, isTx z = true → z.length ≤ 40 → P (.str z)
/-- names of parts; names of measures, ascending -/
structure Prts (ps : List Str) : Prop where
  nm : ∀ z ∈ ps, isNm z = true
  nd : ps.Nodup
  two : 2 ≤ ps.length
  few : ps.length ≤ 10
structure Meas (ms : List Str) : Prop where
  nm : ∀ z ∈ ms, isSt z = true
  so : ms.Pairwise fun a b => ltS a b = true
  two : 2 ≤ ms.length
  few : ms.length ≤ 10
def strsD (zs : List Str) : D := .lst (zs.map .str)
def q_law_fresh : QP := fun ds P => ∃ ps ms, ds = [.src, strsD ps, strsD ms] ∧ Prts ps ∧ Meas ms ∧ ∀ l, Fit 40 l → P (enc l)
def q_law_built : QP := fun ds P => ∃ k u w z c ts, ds = [.str k, .str u, .str w, .str z, encS c ts] ∧ P (enc ⟨u, w, if k = "reach" then none else some z, c, ts⟩)
def q_law_near : QP := fun ds P => ∃ n a b, ds = [.src, enc a, enc b] ∧ Fit n a ∧ Fit n b ∧ n ≤ 500 ∧ ∀ l, Fit (n + 1) l → P (enc l)
def q_law_ordered : QP := fun ds P => ∃ ls, ds = [limsD ls] ∧ ls.length ≤ 100 ∧ P (limsD (cn ls))
/-- the pool -/
structure Pool (ls : List Lim) : Prop where
  s : SSrt ls
  f : ∀ l ∈ ls, Fit 100 l
  n : ls ≠ []
  few : ls.length ≤ 40
def q_law_pool : QP := fun ds P => ∃ ps ms, ∃ m : Nat, ds = [.src, strsD ps, strsD ms, .int m] ∧ Prts ps ∧ Meas ms ∧ 1 ≤ m ∧ m ≤ 40 ∧ ∀ ls, Pool ls → P (limsD ls)
def q_law_bad_name : QP := fun ds P => ∃ z, ds = [.src, .str z] ∧ isNm z = true ∧ ∀ w, isNm w = false → w.length ≤ 30 → P (.str w)
def q_law_bad_terms : QP := fun ds P => ∃ ts ms, ds = [.src, encT ts, strsD ms] ∧ sumB "" ts = true ∧ ts.length ≤ 1000 ∧ Meas ms ∧ ∀ ts', sumB "" ts' = false → (∀ p ∈ ts', p.1.length ≤ 30) → P (encT ts')
def q_law_spoilt : QP := fun ds P => ∃ l ms, ds = [.src, enc l, strsD ms] ∧ Fit 100 l ∧ Meas ms ∧ ∀ v : Val, v.Sz → v.ok = false → P v.d
def q_law_truth : QP := fun ds P => ∃ a b : Bool, ds = [.bl a, .bl b] ∧ P (.bl (decide (a = b)))
def q_law_shows : QP := fun ds P => ∃ ls pool, ds = [sheet C ls, limsD ls, limsD pool] ∧ ls.length ≤ 1000 ∧ pool.length ≤ 1000 ∧ P (.bl true)
def q_law_drawn_rows : QP := fun ds P => ∃ pool, ds = [.src, limsD pool] ∧ Pool pool ∧ ∀ ls, (∀ l ∈ ls, l ∈ pool) → ls.length ≤ 42 → P (limsD ls)
def q_law_apart : QP := fun ds P => ∃ ls, ds = [sheet C ls, limsD ls] ∧ P (.bl true)
def q_law_operators : QP := fun ds P => ∃ as bs pool, ds = [sheet C as, sheet C bs, limsD as, limsD bs, limsD pool] ∧ Shs as ∧ Shs bs ∧ (as ++ bs).length ≤ 100 ∧ pool.length ≤ 1000 ∧ P (.bl true)
def q_law_sheets_agree : QP := fun ds P => ∃ pool, ds = [.src, limsD pool] ∧ Pool pool ∧ P (.bl true)
def q_law_refused : QC := fun xs P => ∃ (x : Cell) (ls : List Lim) (v : Val) (rest : List D), xs = [x, .dat v.d] ∧ seqV x = some (ls.map enc ++ v.d :: rest) ∧ (∀ l ∈ ls, Siz l ∧ l.ok = true) ∧ v.Sz ∧ v.ok = false ∧ P (.bl true)
def q_law_refusals : QP := fun ds P => ∃ pool ms, ds = [.src, limsD pool, strsD ms] ∧ Pool pool ∧ Meas ms ∧ P (.bl true)
end
section
variable {C : AD}
theorem m_in_order : ∀ {n : Nat}, Mono (q_in_order n)
  | 0 => fun _ _ _ _ h => h
  | n + 1 => fun _ _ _ m ⟨a, h1, h2, h3, h⟩ => ⟨a, h1, h2, h3, fun r h4 h5 => m _ (h r h4 h5)⟩
theorem ql_in_order : ∀ {n : Nat} {ds : List D} {P : D → Prop}, q_in_order n ds P → ds.length = 1
  | 0, _, _, h => h.elim
  | n + 1, _, _, ⟨_, e, _⟩ => by rw [e]; rfl
theorem no_in_order {K : PySem.W.Frag} {vs : List V} {H : Hp} {Q : VK} {E : XK} (h : up K (q_in_order 0) vs H Q E) : False := by
  obtain ⟨_, _, _, _, _, z⟩ := h
  exact z
theorem m_Sheet_init : MonoIC (q_Sheet_init C) := fun _ _ _ _ _ m mx ⟨x, h1, h⟩ => ⟨x, h1, h.imp (fun ⟨ls, a, b, c, d⟩ => ⟨ls, a, b, c, m _ d⟩) fun ⟨ls, v, r, a, b, c, d, e⟩ => ⟨ls, v, r, a, b, c, d, mx _ e⟩⟩
theorem ql_Sheet_init {xs : List Cell} {P : List (Str × D) → Prop} {X : Ex → Prop} (h : q_Sheet_init C xs P X) : xs.length = 1 := by
  obtain ⟨_, rfl, _⟩ := h
  rfl
theorem m_Sheet_eq : Mono (q_Sheet_eq C) := fun _ _ _ m ⟨a, d, h1, h⟩ => ⟨a, d, h1, h.imp (fun ⟨b, h2, h3⟩ => ⟨b, h2, m _ h3⟩) fun ⟨h2, h3⟩ => ⟨h2, m _ h3⟩⟩
theorem ql_Sheet_eq {ds : List D} {P : D → Prop} (h : q_Sheet_eq C ds P) : ds.length = 2 := by
  obtain ⟨_, _, rfl, _⟩ := h
  rfl
theorem m_is_nameR : Mono (q_is_nameR) := fun _ _ _ m ⟨a0, h0, h1, h⟩ => ⟨a0, h0, h1, m _ h⟩
theorem ql_is_nameR {ds : List D} {P : D → Prop} (h : q_is_nameR ds P) : ds.length = 1 := by
  obtain ⟨_, rfl, _⟩ := h
  rfl
theorem m_is_step_nameR : Mono (q_is_step_nameR) := fun _ _ _ m ⟨a0, h0, h1, h⟩ => ⟨a0, h0, h1, m _ h⟩
theorem ql_is_step_nameR {ds : List D} {P : D → Prop} (h : q_is_step_nameR ds P) : ds.length = 1 := by
  obtain ⟨_, rfl, _⟩ := h
  rfl
theorem m_is_textR : Mono (q_is_textR) := fun _ _ _ m ⟨a0, h0, h1, h⟩ => ⟨a0, h0, h1, m _ h⟩
theorem ql_is_textR {ds : List D} {P : D → Prop} (h : q_is_textR ds P) : ds.length = 1 := by
  obtain ⟨_, rfl, _⟩ := h
  rfl
theorem m_joined_rows : Mono (q_joined_rows) := fun _ _ _ m ⟨a0, a1, h0, h1, h2, h3, h⟩ => ⟨a0, a1, h0, h1, h2, h3, fun b0 b1 b2 => m _ (h b0 b1 b2)⟩
theorem ql_joined_rows {ds : List D} {P : D → Prop} (h : q_joined_rows ds P) : ds.length = 2 := by
  obtain ⟨_, _, rfl, _⟩ := h
  rfl
theorem m_distinct : Mono (q_distinct) := fun _ _ _ m ⟨a0, h0, h1, h⟩ => ⟨a0, h0, h1, m _ h⟩
theorem ql_distinct {ds : List D} {P : D → Prop} (h : q_distinct ds P) : ds.length = 1 := by
  obtain ⟨_, rfl, _⟩ := h
  rfl
theorem m_is_sum : Mono (q_is_sum) := fun _ _ _ m ⟨a0, a1, h0, h1, h⟩ => ⟨a0, a1, h0, h1, m _ h⟩
theorem ql_is_sum {ds : List D} {P : D → Prop} (h : q_is_sum ds P) : ds.length = 1 := by
  obtain ⟨_, _, rfl, _⟩ := h
  rfl
theorem m_is_limit : Mono (q_is_limit) := fun _ _ _ m ⟨a0, h0, h1, h⟩ => ⟨a0, h0, h1, m _ h⟩
theorem ql_is_limit {ds : List D} {P : D → Prop} (h : q_is_limit ds P) : ds.length = 1 := by
  obtain ⟨_, rfl, _⟩ := h
  rfl
theorem m_Sheet_listed : MonoL (q_Sheet_listed C) := fun _ _ _ m ⟨a0, h0, h⟩ => ⟨a0, h0, m _ h⟩
theorem ql_Sheet_listed {ds : List D} {P : Cell → Prop} (h : q_Sheet_listed C ds P) : ds.length = 1 := by
  obtain ⟨_, rfl, _⟩ := h
  rfl
theorem m_Sheet_contains : Mono (q_Sheet_contains C) := fun _ _ _ m ⟨a0, a1, h0, h⟩ => ⟨a0, a1, h0, m _ h⟩
theorem ql_Sheet_contains {ds : List D} {P : D → Prop} (h : q_Sheet_contains C ds P) : ds.length = 2 := by
  obtain ⟨_, _, rfl, _⟩ := h
  rfl
theorem m_Sheet_or : Mono (q_Sheet_or C) := fun _ _ _ m ⟨a0, a1, h0, h1, h2, h3, h⟩ => ⟨a0, a1, h0, h1, h2, h3, m _ h⟩
theorem ql_Sheet_or {ds : List D} {P : D → Prop} (h : q_Sheet_or C ds P) : ds.length = 2 := by
  obtain ⟨_, _, rfl, _⟩ := h
  rfl
theorem m_Sheet_and : Mono (q_Sheet_and C) := fun _ _ _ m ⟨a0, a1, h0, h1, h2, h⟩ => ⟨a0, a1, h0, h1, h2, m _ h⟩
theorem ql_Sheet_and {ds : List D} {P : D → Prop} (h : q_Sheet_and C ds P) : ds.length = 2 := by
  obtain ⟨_, _, rfl, _⟩ := h
  rfl
theorem m_Sheet_sub : Mono (q_Sheet_sub C) := fun _ _ _ m ⟨a0, a1, h0, h1, h2, h⟩ => ⟨a0, a1, h0, h1, h2, m _ h⟩
theorem ql_Sheet_sub {ds : List D} {P : D → Prop} (h : q_Sheet_sub C ds P) : ds.length = 2 := by
  obtain ⟨_, _, rfl, _⟩ := h
  rfl
theorem m_Sheet_le : Mono (q_Sheet_le C) := fun _ _ _ m ⟨a0, a1, h0, h1, h2, h⟩ => ⟨a0, a1, h0, h1, h2, m _ h⟩
theorem ql_Sheet_le {ds : List D} {P : D → Prop} (h : q_Sheet_le C ds P) : ds.length = 2 := by
  obtain ⟨_, _, rfl, _⟩ := h
  rfl
theorem m_law_size : Mono (q_law_size) := fun _ _ _ m ⟨a0, a1, h0, h1, h2, h3, h⟩ => ⟨a0, a1, h0, h1, h2, h3, fun b0 b1 b2 => m _ (h b0 b1 b2)⟩
theorem ql_law_size {ds : List D} {P : D → Prop} (h : q_law_size ds P) : ds.length = 3 := by
  obtain ⟨_, _, rfl, _⟩ := h
  rfl
theorem m_law_word : Mono (q_law_word) := fun _ _ _ m ⟨h0, h⟩ => ⟨h0, fun b0 b1 => m _ (h b0 b1)⟩
theorem ql_law_word {ds : List D} {P : D → Prop} (h : q_law_word ds P) : ds.length = 1 := by
  obtain ⟨rfl, _⟩ := h
  rfl
theorem m_law_names : Mono (q_law_names) := fun _ _ _ m ⟨a0, h0, h1, h⟩ => ⟨a0, h0, h1, fun b0 b1 b2 b3 => m _ (h b0 b1 b2 b3)⟩
theorem ql_law_names {ds : List D} {P : D → Prop} (h : q_law_names ds P) : ds.length = 2 := by
  obtain ⟨_, rfl, _⟩ := h
  rfl
theorem m_law_number : Mono (q_law_number) := fun _ _ _ m ⟨h0, h⟩ => ⟨h0, fun b0 => m _ (h b0)⟩
theorem ql_law_number {ds : List D} {P : D → Prop} (h : q_law_number ds P) : ds.length = 1 := by
  obtain ⟨rfl, _⟩ := h
  rfl
theorem m_law_times : Mono (q_law_times) := fun _ _ _ m ⟨h0, h⟩ => ⟨h0, fun b0 b1 => m _ (h b0 b1)⟩
theorem ql_law_times {ds : List D} {P : D → Prop} (h : q_law_times ds P) : ds.length = 1 := by
  obtain ⟨rfl, _⟩ := h
  rfl
theorem m_law_stack : Mono (q_law_stack) := fun _ _ _ m ⟨h0, h⟩ => ⟨h0, fun b0 b1 b2 => m _ (h b0 b1 b2)⟩
theorem ql_law_stack {ds : List D} {P : D → Prop} (h : q_law_stack ds P) : ds.length = 1 := by
  obtain ⟨rfl, _⟩ := h
  rfl
theorem m_law_fresh : Mono (q_law_fresh) := fun _ _ _ m ⟨a0, a1, h0, h1, h2, h⟩ => ⟨a0, a1, h0, h1, h2, fun b0 b1 => m _ (h b0 b1)⟩
theorem ql_law_fresh {ds : List D} {P : D → Prop} (h : q_law_fresh ds P) : ds.length = 3 := by
  obtain ⟨_, _, rfl, _⟩ := h
  rfl
theorem m_law_built : Mono (q_law_built) := fun _ _ _ m ⟨a0, a1, a2, a3, a4, a5, h0, h⟩ => ⟨a0, a1, a2, a3, a4, a5, h0, m _ h⟩
theorem ql_law_built {ds : List D} {P : D → Prop} (h : q_law_built ds P) : ds.length = 5 := by
  obtain ⟨_, _, _, _, _, _, rfl, _⟩ := h
  rfl
theorem m_law_near : Mono (q_law_near) := fun _ _ _ m ⟨a0, a1, a2, h0, h1, h2, h3, h⟩ => ⟨a0, a1, a2, h0, h1, h2, h3, fun b0 b1 => m _ (h b0 b1)⟩
theorem ql_law_near {ds : List D} {P : D → Prop} (h : q_law_near ds P) : ds.length = 3 := by
  obtain ⟨_, _, _, rfl, _⟩ := h
  rfl
theorem m_law_ordered : Mono (q_law_ordered) := fun _ _ _ m ⟨a0, h0, h1, h⟩ => ⟨a0, h0, h1, m _ h⟩
theorem ql_law_ordered {ds : List D} {P : D → Prop} (h : q_law_ordered ds P) : ds.length = 1 := by
  obtain ⟨_, rfl, _⟩ := h
  rfl
theorem m_law_pool : Mono (q_law_pool) := fun _ _ _ m ⟨a0, a1, a2, h0, h1, h2, h3, h4, h⟩ => ⟨a0, a1, a2, h0, h1, h2, h3, h4, fun b0 b1 => m _ (h b0 b1)⟩
theorem ql_law_pool {ds : List D} {P : D → Prop} (h : q_law_pool ds P) : ds.length = 4 := by
  obtain ⟨_, _, _, rfl, _⟩ := h
  rfl
theorem m_law_bad_name : Mono (q_law_bad_name) := fun _ _ _ m ⟨a0, h0, h1, h⟩ => ⟨a0, h0, h1, fun b0 b1 b2 => m _ (h b0 b1 b2)⟩
theorem ql_law_bad_name {ds : List D} {P : D → Prop} (h : q_law_bad_name ds P) : ds.length = 2 := by
  obtain ⟨_, rfl, _⟩ := h
  rfl
theorem m_law_bad_terms : Mono (q_law_bad_terms) := fun _ _ _ m ⟨a0, a1, h0, h1, h2, h3, h⟩ => ⟨a0, a1, h0, h1, h2, h3, fun b0 b1 b2 => m _ (h b0 b1 b2)⟩
theorem ql_law_bad_terms {ds : List D} {P : D → Prop} (h : q_law_bad_terms ds P) : ds.length = 3 := by
  obtain ⟨_, _, rfl, _⟩ := h
  rfl
theorem m_law_spoilt : Mono (q_law_spoilt) := fun _ _ _ m ⟨a0, a1, h0, h1, h2, h⟩ => ⟨a0, a1, h0, h1, h2, fun b0 b1 b2 => m _ (h b0 b1 b2)⟩
theorem ql_law_spoilt {ds : List D} {P : D → Prop} (h : q_law_spoilt ds P) : ds.length = 3 := by
  obtain ⟨_, _, rfl, _⟩ := h
  rfl
theorem m_law_truth : Mono (q_law_truth) := fun _ _ _ m ⟨a0, a1, h0, h⟩ => ⟨a0, a1, h0, m _ h⟩
theorem ql_law_truth {ds : List D} {P : D → Prop} (h : q_law_truth ds P) : ds.length = 2 := by
  obtain ⟨_, _, rfl, _⟩ := h
  rfl
theorem m_law_shows : Mono (q_law_shows C) := fun _ _ _ m ⟨a0, a1, h0, h1, h2, h⟩ => ⟨a0, a1, h0, h1, h2, m _ h⟩
theorem ql_law_shows {ds : List D} {P : D → Prop} (h : q_law_shows C ds P) : ds.length = 3 := by
  obtain ⟨_, _, rfl, _⟩ := h
  rfl
theorem m_law_drawn_rows : Mono (q_law_drawn_rows) := fun _ _ _ m ⟨a0, h0, h1, h⟩ => ⟨a0, h0, h1, fun b0 b1 b2 => m _ (h b0 b1 b2)⟩
theorem ql_law_drawn_rows {ds : List D} {P : D → Prop} (h : q_law_drawn_rows ds P) : ds.length = 2 := by
  obtain ⟨_, rfl, _⟩ := h
  rfl
theorem m_law_apart : Mono (q_law_apart C) := fun _ _ _ m ⟨a0, h0, h⟩ => ⟨a0, h0, m _ h⟩
theorem ql_law_apart {ds : List D} {P : D → Prop} (h : q_law_apart C ds P) : ds.length = 2 := by
  obtain ⟨_, rfl, _⟩ := h
  rfl
theorem m_law_operators : Mono (q_law_operators C) := fun _ _ _ m ⟨a0, a1, a2, h0, h1, h2, h3, h4, h⟩ => ⟨a0, a1, a2, h0, h1, h2, h3, h4, m _ h⟩
theorem ql_law_operators {ds : List D} {P : D → Prop} (h : q_law_operators C ds P) : ds.length = 5 := by
  obtain ⟨_, _, _, rfl, _⟩ := h
  rfl
theorem m_law_sheets_agree : Mono (q_law_sheets_agree) := fun _ _ _ m ⟨a0, h0, h1, h⟩ => ⟨a0, h0, h1, m _ h⟩
theorem ql_law_sheets_agree {ds : List D} {P : D → Prop} (h : q_law_sheets_agree ds P) : ds.length = 2 := by
  obtain ⟨_, rfl, _⟩ := h
  rfl
theorem m_law_refused : MonoC (q_law_refused) := fun _ _ _ m ⟨a0, a1, a2, a3, h0, h1, h2, h3, h4, h⟩ => ⟨a0, a1, a2, a3, h0, h1, h2, h3, h4, m _ h⟩
theorem ql_law_refused {ds : List Cell} {P : D → Prop} (h : q_law_refused ds P) : ds.length = 2 := by
  obtain ⟨_, _, _, _, rfl, _⟩ := h
  rfl
theorem m_law_refusals : Mono (q_law_refusals) := fun _ _ _ m ⟨a0, a1, h0, h1, h2, h⟩ => ⟨a0, a1, h0, h1, h2, m _ h⟩
theorem ql_law_refusals {ds : List D} {P : D → Prop} (h : q_law_refusals ds P) : ds.length = 3 := by
  obtain ⟨_, _, rfl, _⟩ := h
  rfl
end
end My


/-! ExB: what the written part says of own exception classes, as one test. -/
namespace My
open PySem PySem.Spec PyProof.Rows L2
def oexL (K : PySem.W.Frag) (C : Addr) : Bool := match K.lookup C with
  | some ⟨.type "type", _, .cls cd, sl⟩ => (match cd.mro, sl.toList with
    | .ref a :: r, [_, _, _, _, some (.builtin n), _] => decide (a = C) && (decide (n = "ValueError.__new__") && (!cd.hasDel && (cd.hasDict && PySem.HandSPX.refsVE r)))
    | _, _ => false)
  | _ => false
theorem oexL_ok {K : PySem.W.Frag} {C : Addr} (q : oexL K C = true) : ∃ nm qn N bs bm sn sub ab col dd k0 k1 k2 k3 k5, K.lookup C = some (excClassObj nm qn C N bs bm true sn sub ab col dd k0 k1 k2 k3 k5 "ValueError.__new__") ∧ PySem.HandSPX.refsVE bm = true := by
  unfold oexL at q
  split at q
  · rename_i dd cd sl ho
    split at q
    · rename_i a r e0 e1 e2 e3 n e5 hm hs
      obtain ⟨h1, q⟩ := Bool.and_eq_true_iff.mp q
      obtain ⟨h2, q⟩ := Bool.and_eq_true_iff.mp q
      obtain ⟨h3, q⟩ := Bool.and_eq_true_iff.mp q
      obtain ⟨h4, h5⟩ := Bool.and_eq_true_iff.mp q
      have h1 := of_decide_eq_true h1
      have h2 := of_decide_eq_true h2
      subst h1 h2
      obtain ⟨nm, bs, mro, N, qn, hd, sn, sub, ab, col, del⟩ := cd
      dsimp only at hm h3 h4
      subst hm
      cases hd with
      | false => cases h4
      | true =>
        cases del with
        | true => cases h3
        | false =>
          have hsl : sl = #[e0, e1, e2, e3, some (.builtin "ValueError.__new__"), e5] := by
            obtain ⟨l⟩ := sl
            simp only at hs
            rw [hs]
          subst hsl
          exact ⟨nm, qn, N, bs, r, sn, sub, ab, col, dd, e0, e1, e2, e3, e5, ho, h5⟩
    · cases q
  · cases q
def bV (a b : Option Value) : Bool := decide (a = b)
def bOv (a b : Option (Option Value)) : Bool := decide (a = b)
def bOb (a b : Option Bool) : Bool := decide (a = b)
/-- all of it, of one class -/
def excB (K : PySem.W.Frag) (C : Addr) : Bool := [oexL K C, bOv (PySem.W.findIn K (.ref C) "__setattr__") (some (some (.builtin "object.__setattr__"))), bOb (PySem.W.subIn K (.ref C) (.type "BaseException")) (some true), bV (PySem.W.typeIn K (.ref C)) (some (.type "type")), PySem.W.keepIn K (.ref C),
  bOv (PySem.W.findIn K (.ref C) "__getattribute__") (some (some (.builtin "BaseException.__getattribute__"))), bOv (PySem.W.findIn K (.ref C) "__getattr__") (some none), PySem.W.hasDictIn K C, bOv (PySem.W.findIn K (.ref C) "__class__") (some (some (.builtin "object.__class__"))),
  bOv (PySem.W.specialIn K (.builtin "object.__class__") "__get__") (some (some (.builtin "getset_descriptor.__get__"))), bOb (PySem.W.takesIn K (.builtin "object.__class__")) (some true), bOb (PySem.W.mroIn K C (.type "object")) (some true), bOb (PySem.W.kitOne K (.ref C) (.type "ValueError")) (some true)].all id
structure ExcAll (K : PySem.W.Frag) (C : Addr) : Prop where
  oex : OexC K C
  xf : XfC K C
  exc : ExcC K C
  ve : PySem.W.kitOne K (.ref C) (.type "ValueError") = some true
theorem excB_ok {K : PySem.W.Frag} {C : Addr} (h : excB K C = true) : ExcAll K C := by
  have g : ∀ b ∈ _, id b = true := List.all_eq_true.mp h
  have g0 := oexL_ok (g _ (List.mem_of_getElem? (i := 0) rfl))
  exact ⟨⟨g0, of_decide_eq_true (g _ (List.mem_of_getElem? (i := 1) rfl)), of_decide_eq_true (g _ (List.mem_of_getElem? (i := 2) rfl)), of_decide_eq_true (g _ (List.mem_of_getElem? (i := 3) rfl)), g _ (List.mem_of_getElem? (i := 4) rfl)⟩, ⟨of_decide_eq_true (g _ (List.mem_of_getElem? (i := 5) rfl)), of_decide_eq_true (g _ (List.mem_of_getElem? (i := 6) rfl)), of_decide_eq_true (g _ (List.mem_of_getElem? (i := 2) rfl)), g _ (List.mem_of_getElem? (i := 7) rfl)⟩, ⟨of_decide_eq_true (g _ (List.mem_of_getElem? (i := 5) rfl)), of_decide_eq_true (g _ (List.mem_of_getElem? (i := 6) rfl)), of_decide_eq_true (g _ (List.mem_of_getElem? (i := 2) rfl)), g _ (List.mem_of_getElem? (i := 7) rfl), of_decide_eq_true (g _ (List.mem_of_getElem? (i := 8) rfl)), of_decide_eq_true (g _ (List.mem_of_getElem? (i := 9) rfl)), of_decide_eq_true (g _ (List.mem_of_getElem? (i := 10) rfl)), of_decide_eq_true (g _ (List.mem_of_getElem? (i := 11) rfl))⟩, of_decide_eq_true (g _ (List.mem_of_getElem? (i := 12) rfl))⟩
/-- no exception of one class is of another -/
def kitB2 (K : PySem.W.Frag) (Cs : List Addr) : Bool := Cs.all fun E => Cs.all fun T => bOb (PySem.W.kitOne K (.ref E) (.ref T)) (some (decide (E = T)))
theorem kitB2_ok {K : PySem.W.Frag} {Cs : List Addr} (h : kitB2 K Cs = true) : ∀ E ∈ Cs, ∀ T ∈ Cs, PySem.W.kitOne K (.ref E) (.ref T) = some (decide (E = T)) := fun E hE T hT => of_decide_eq_true (List.all_eq_true.mp (List.all_eq_true.mp h E hE) T hT)
def exmB (K : PySem.W.Frag) (Cs : List Addr) (T : Addr) : Bool := Cs.all fun E => bOb (PySem.W.exmOne K (.ref E) (.ref T)) (some true)
theorem exmB_ok {K : PySem.W.Frag} {Cs : List Addr} {T : Addr} (h : exmB K Cs T = true) : ∀ E ∈ Cs, PySem.W.exmOne K (.ref E) (.ref T) = some true := fun E hE => of_decide_eq_true (List.all_eq_true.mp h E hE)
end My


namespace My
open PySem PySem.Spec PyProof.Rows L2 TL
def top (i : Nat) : Stmt := PySem.Challenge.pw_drawingoffice_k25_limits_and_sheets.main.body.getD i (.Pass ⟨0, 0, 0, 0⟩)
abbrev s_law_mixed : Stmt := top 24
abbrev s_law_source : Stmt := top 25
abbrev s_law_take : Stmt := top 26
abbrev s_is_nameR : Stmt := top 11
abbrev s_is_step_nameR : Stmt := top 12
abbrev s_is_textR : Stmt := top 13
abbrev s_joined_rows : Stmt := top 14
abbrev s_in_order : Stmt := top 15
abbrev s_distinct : Stmt := top 16
abbrev s_is_sum : Stmt := top 19
abbrev s_is_limit : Stmt := top 20
abbrev s_Sheet_init : Stmt := inClass (top 22) 0
abbrev s_Sheet_listed : Stmt := inClass (top 22) 1
abbrev s_Sheet_contains : Stmt := inClass (top 22) 4
abbrev s_Sheet_or : Stmt := inClass (top 22) 5
abbrev s_Sheet_and : Stmt := inClass (top 22) 6
abbrev s_Sheet_sub : Stmt := inClass (top 22) 7
abbrev s_Sheet_le : Stmt := inClass (top 22) 8
abbrev s_Sheet_eq : Stmt := inClass (top 22) 9
abbrev s_law_size : Stmt := top 27
abbrev s_law_word : Stmt := top 28
abbrev s_law_names : Stmt := top 29
abbrev s_law_number : Stmt := top 30
abbrev s_law_times : Stmt := top 31
abbrev s_law_stack : Stmt := top 32
abbrev s_law_fresh : Stmt := top 33
abbrev s_law_built : Stmt := top 34
abbrev s_law_near : Stmt := top 35
abbrev s_law_ordered : Stmt := top 36
abbrev s_law_pool : Stmt := top 37
abbrev s_law_bad_name : Stmt := top 38
abbrev s_law_bad_terms : Stmt := top 39
abbrev s_law_spoilt : Stmt := top 40
abbrev s_law_truth : Stmt := top 41
abbrev s_law_shows : Stmt := top 42
abbrev s_law_drawn_rows : Stmt := top 43
abbrev s_law_apart : Stmt := top 44
abbrev s_law_operators : Stmt := top 45
abbrev s_law_sheets_agree : Stmt := top 46
abbrev s_law_refused : Stmt := top 47
abbrev s_law_refusals : Stmt := top 48
abbrev s_law : Stmt := top 49
abbrev s_BadLimit_init : Stmt := inClass (top 2) 0
abbrev s_BadChange_init : Stmt := inClass (top 3) 0
abbrev s_DoesNotGo_init : Stmt := inClass (top 4) 0
abbrev s_Sheet_iter : Stmt := inClass (top 22) 2
abbrev s_Sheet_len : Stmt := inClass (top 22) 3
end My


namespace My
open PySem PySem.Spec PyProof.Rows L2
/-! ### the own class -/
def bO (a b : Option (Option Value)) : Bool := decide (a = b)
def bB (a b : Option Bool) : Bool := decide (a = b)
def clsB (K : PySem.W.Frag) (C : Addr) : Bool := [bO (PySem.W.findIn K (.ref C) "__class__") (some (some (.builtin "object.__class__"))), bO (PySem.W.specialIn K (.builtin "object.__class__") "__get__") (some (some (.builtin "getset_descriptor.__get__"))), bB (PySem.W.takesIn K (.builtin "object.__class__")) (some true), bB (PySem.W.mroIn K C (.type "object")) (some true), bB (PySem.W.kitOne K (.ref C) (.ref C)) (some true),
  notBs K C, firstNo K C, PySem.W.selfFirst K C, bB (PySem.W.subIn K (.type "int") (.ref C)) (some false), bB (PySem.W.subIn K (.ref C) (.type "int")) (some false), subsNo K C].all id
theorem clsB_ok {K : PySem.W.Frag} {C : Addr} (c : Cls K C) (h : clsB K C = true) : ClsK K C := by
  have g : ∀ b ∈ _, id b = true := List.all_eq_true.mp h
  exact ⟨c, ⟨c, of_decide_eq_true (g _ (List.mem_of_getElem? (i := 0) rfl)), of_decide_eq_true (g _ (List.mem_of_getElem? (i := 1) rfl)), of_decide_eq_true (g _ (List.mem_of_getElem? (i := 2) rfl)), of_decide_eq_true (g _ (List.mem_of_getElem? (i := 3) rfl)), of_decide_eq_true (g _ (List.mem_of_getElem? (i := 4) rfl))⟩,
    g _ (List.mem_of_getElem? (i := 5) rfl), g _ (List.mem_of_getElem? (i := 6) rfl), g _ (List.mem_of_getElem? (i := 7) rfl), of_decide_eq_true (g _ (List.mem_of_getElem? (i := 8) rfl)), of_decide_eq_true (g _ (List.mem_of_getElem? (i := 9) rfl)), g _ (List.mem_of_getElem? (i := 10) rfl)⟩
/-! ### the head's facts -/
abbrev AlX : Type := He.AlT × Bool
section
variable (n : Nat) (fa : List He.Fa) (fn : List He.DefD) (ts : List He.Tab) (xt : PySem.W.Frag → Bool)
def obsX (K : PySem.W.Frag) : AlX := (He.obsT fa fn ts K, xt K)
def valX (w : World) : AlX := (He.valT fn ts w, true)
def obsXG (g : Addr → Option Obj) : AlX := obsX fa fn ts xt (He.frG g (He.asD g n))
def hookX : PySem.W.Hook where
  α := AlX
  obs := fun s => obsXG n fa fn ts xt s.heap.get?
  val := fun w => valX fn ts w
  says := fun w h => ∃ K : PySem.W.Frag, K.In h ∧ obsX fa fn ts xt K = valX fn ts w
  of := fun _ _ e => ⟨_, He.frG_in, e⟩
  keeps := fun _ _ _ ⟨K, hK, c⟩ k => ⟨K, PySem.W.Frag.In.keeps hK k, c⟩
theorem obsXG_eq {g : Addr → Option Obj} {s : Shared} (h : ∀ a, g a = s.heap.get? a) : obsXG n fa fn ts xt g = (hookX n fa fn ts xt).obs s := by
  obtain rfl : g = s.heap.get? := funext h
  rfl
variable {fa fn ts xt} {K : PySem.W.Frag} {w : World}
theorem sx_t (c : obsX fa fn ts xt K = valX fn ts w) : He.SaysT fa fn ts w K := congrArg (fun z : AlX => z.1) c
theorem sx_d (c : obsX fa fn ts xt K = valX fn ts w) : He.SaysD fa fn K := He.SaysT.d (sx_t c)
theorem sx_x (c : obsX fa fn ts xt K = valX fn ts w) : xt K = true := congrArg (fun z : AlX => z.2) c
theorem sx_k (c : obsX fa fn ts xt K = valX fn ts w) (i : Nat) {t : He.Tab} (h : ts[i]? = some t) : He.dicW K (t.1 K) = some (He.keysIn w.params t.2) := by
  have e : ts.map (fun t => He.dicW K (t.1 K)) = ts.map fun t => some (He.keysIn w.params t.2) := congrArg (fun z : He.AlT => z.2) (sx_t c)
  have e2 : (ts.map fun t => He.dicW K (t.1 K))[i]? = (ts.map fun t => some (He.keysIn w.params t.2))[i]? := by rw [e]
  rw [List.getElem?_map, List.getElem?_map, h] at e2
  exact Option.some.inj e2
end
def d_law_mixed : He.DefD := ⟨("_law_mixed", none), "_law_mixed", "_law_mixed", defArgs s_law_mixed, defBody s_law_mixed, defScope s_law_mixed, [], []⟩
def d_law_source : He.DefD := ⟨("_law_source", none), "_law_source", "_law_source", defArgs s_law_source, defBody s_law_source, defScope s_law_source, [], []⟩
def d_law_take : He.DefD := ⟨("_law_take", none), "_law_take", "_law_take", defArgs s_law_take, defBody s_law_take, defScope s_law_take, [], []⟩
def d_BadLimit_init : He.DefD := ⟨("BadLimit", some "__init__"), "__init__", "BadLimit.__init__", defArgs s_BadLimit_init, defBody s_BadLimit_init, defScope s_BadLimit_init, [], []⟩
def d_BadChange_init : He.DefD := ⟨("BadChange", some "__init__"), "__init__", "BadChange.__init__", defArgs s_BadChange_init, defBody s_BadChange_init, defScope s_BadChange_init, [], []⟩
def d_DoesNotGo_init : He.DefD := ⟨("DoesNotGo", some "__init__"), "__init__", "DoesNotGo.__init__", defArgs s_DoesNotGo_init, defBody s_DoesNotGo_init, defScope s_DoesNotGo_init, [], []⟩
def d_Sheet_iter : He.DefD := ⟨("Sheet", some "__iter__"), "__iter__", "Sheet.__iter__", defArgs s_Sheet_iter, defBody s_Sheet_iter, defScope s_Sheet_iter, [], []⟩
def d_Sheet_len : He.DefD := ⟨("Sheet", some "__len__"), "__len__", "Sheet.__len__", defArgs s_Sheet_len, defBody s_Sheet_len, defScope s_Sheet_len, [], []⟩
def d_is_nameR : He.DefD := ⟨("is_name", none), "is_name", "is_name", defArgs s_is_nameR, defBody s_is_nameR, defScope s_is_nameR, [], []⟩
def d_is_step_nameR : He.DefD := ⟨("is_step_name", none), "is_step_name", "is_step_name", defArgs s_is_step_nameR, defBody s_is_step_nameR, defScope s_is_step_nameR, [], []⟩
def d_is_textR : He.DefD := ⟨("is_text", none), "is_text", "is_text", defArgs s_is_textR, defBody s_is_textR, defScope s_is_textR, [], []⟩
def d_joined_rows : He.DefD := ⟨("joined_rows", none), "joined_rows", "joined_rows", defArgs s_joined_rows, defBody s_joined_rows, defScope s_joined_rows, [], []⟩
def d_in_order : He.DefD := ⟨("in_order", none), "in_order", "in_order", defArgs s_in_order, defBody s_in_order, defScope s_in_order, [], []⟩
def d_distinct : He.DefD := ⟨("distinct", none), "distinct", "distinct", defArgs s_distinct, defBody s_distinct, defScope s_distinct, [], []⟩
def d_is_sum : He.DefD := ⟨("is_sum", none), "is_sum", "is_sum", defArgs s_is_sum, defBody s_is_sum, defScope s_is_sum, [], []⟩
def d_is_limit : He.DefD := ⟨("is_limit", none), "is_limit", "is_limit", defArgs s_is_limit, defBody s_is_limit, defScope s_is_limit, [], []⟩
def d_Sheet_init : He.DefD := ⟨("Sheet", some "__init__"), "__init__", "Sheet.__init__", defArgs s_Sheet_init, defBody s_Sheet_init, defScope s_Sheet_init, [], []⟩
def d_Sheet_listed : He.DefD := ⟨("Sheet", some "listed"), "listed", "Sheet.listed", defArgs s_Sheet_listed, defBody s_Sheet_listed, defScope s_Sheet_listed, [], []⟩
def d_Sheet_contains : He.DefD := ⟨("Sheet", some "__contains__"), "__contains__", "Sheet.__contains__", defArgs s_Sheet_contains, defBody s_Sheet_contains, defScope s_Sheet_contains, [], []⟩
def d_Sheet_or : He.DefD := ⟨("Sheet", some "__or__"), "__or__", "Sheet.__or__", defArgs s_Sheet_or, defBody s_Sheet_or, defScope s_Sheet_or, [], []⟩
def d_Sheet_and : He.DefD := ⟨("Sheet", some "__and__"), "__and__", "Sheet.__and__", defArgs s_Sheet_and, defBody s_Sheet_and, defScope s_Sheet_and, [], []⟩
def d_Sheet_sub : He.DefD := ⟨("Sheet", some "__sub__"), "__sub__", "Sheet.__sub__", defArgs s_Sheet_sub, defBody s_Sheet_sub, defScope s_Sheet_sub, [], []⟩
def d_Sheet_le : He.DefD := ⟨("Sheet", some "__le__"), "__le__", "Sheet.__le__", defArgs s_Sheet_le, defBody s_Sheet_le, defScope s_Sheet_le, [], []⟩
def d_Sheet_eq : He.DefD := ⟨("Sheet", some "__eq__"), "__eq__", "Sheet.__eq__", defArgs s_Sheet_eq, defBody s_Sheet_eq, defScope s_Sheet_eq, [], []⟩
def d_law_size : He.DefD := ⟨("_law_size", none), "_law_size", "_law_size", defArgs s_law_size, defBody s_law_size, defScope s_law_size, [], []⟩
def d_law_word : He.DefD := ⟨("_law_word", none), "_law_word", "_law_word", defArgs s_law_word, defBody s_law_word, defScope s_law_word, [], []⟩
def d_law_names : He.DefD := ⟨("_law_names", none), "_law_names", "_law_names", defArgs s_law_names, defBody s_law_names, defScope s_law_names, [], []⟩
def d_law_number : He.DefD := ⟨("_law_number", none), "_law_number", "_law_number", defArgs s_law_number, defBody s_law_number, defScope s_law_number, [], []⟩
def d_law_times : He.DefD := ⟨("_law_times", none), "_law_times", "_law_times", defArgs s_law_times, defBody s_law_times, defScope s_law_times, [], []⟩
def d_law_stack : He.DefD := ⟨("_law_stack", none), "_law_stack", "_law_stack", defArgs s_law_stack, defBody s_law_stack, defScope s_law_stack, [], []⟩
def d_law_fresh : He.DefD := ⟨("_law_fresh", none), "_law_fresh", "_law_fresh", defArgs s_law_fresh, defBody s_law_fresh, defScope s_law_fresh, [], []⟩
def d_law_built : He.DefD := ⟨("_law_built", none), "_law_built", "_law_built", defArgs s_law_built, defBody s_law_built, defScope s_law_built, [], []⟩
def d_law_near : He.DefD := ⟨("_law_near", none), "_law_near", "_law_near", defArgs s_law_near, defBody s_law_near, defScope s_law_near, [], []⟩
def d_law_ordered : He.DefD := ⟨("_law_ordered", none), "_law_ordered", "_law_ordered", defArgs s_law_ordered, defBody s_law_ordered, defScope s_law_ordered, [], []⟩
def d_law_pool : He.DefD := ⟨("_law_pool", none), "_law_pool", "_law_pool", defArgs s_law_pool, defBody s_law_pool, defScope s_law_pool, [], []⟩
def d_law_bad_name : He.DefD := ⟨("_law_bad_name", none), "_law_bad_name", "_law_bad_name", defArgs s_law_bad_name, defBody s_law_bad_name, defScope s_law_bad_name, [], []⟩
def d_law_bad_terms : He.DefD := ⟨("_law_bad_terms", none), "_law_bad_terms", "_law_bad_terms", defArgs s_law_bad_terms, defBody s_law_bad_terms, defScope s_law_bad_terms, [], []⟩
def d_law_spoilt : He.DefD := ⟨("_law_spoilt", none), "_law_spoilt", "_law_spoilt", defArgs s_law_spoilt, defBody s_law_spoilt, defScope s_law_spoilt, [], []⟩
def d_law_truth : He.DefD := ⟨("_law_truth", none), "_law_truth", "_law_truth", defArgs s_law_truth, defBody s_law_truth, defScope s_law_truth, [], []⟩
def d_law_shows : He.DefD := ⟨("_law_shows", none), "_law_shows", "_law_shows", defArgs s_law_shows, defBody s_law_shows, defScope s_law_shows, [], []⟩
def d_law_drawn_rows : He.DefD := ⟨("_law_drawn_rows", none), "_law_drawn_rows", "_law_drawn_rows", defArgs s_law_drawn_rows, defBody s_law_drawn_rows, defScope s_law_drawn_rows, [], []⟩
def d_law_apart : He.DefD := ⟨("_law_apart", none), "_law_apart", "_law_apart", defArgs s_law_apart, defBody s_law_apart, defScope s_law_apart, [], []⟩
def d_law_operators : He.DefD := ⟨("_law_operators", none), "_law_operators", "_law_operators", defArgs s_law_operators, defBody s_law_operators, defScope s_law_operators, [], []⟩
def d_law_sheets_agree : He.DefD := ⟨("_law_sheets_agree", none), "_law_sheets_agree", "_law_sheets_agree", defArgs s_law_sheets_agree, defBody s_law_sheets_agree, defScope s_law_sheets_agree, [], []⟩
def d_law_refused : He.DefD := ⟨("_law_refused", none), "_law_refused", "_law_refused", defArgs s_law_refused, defBody s_law_refused, defScope s_law_refused, [], []⟩
def d_law_refusals : He.DefD := ⟨("_law_refusals", none), "_law_refusals", "_law_refusals", defArgs s_law_refusals, defBody s_law_refusals, defScope s_law_refusals, [], []⟩
def d_law : He.DefD := ⟨("law", none), "law", "law", defArgs s_law, defBody s_law, defScope s_law, [], []⟩
def fns : List He.DefD := [d_law_mixed, d_law_source, d_law_take, d_BadLimit_init, d_BadChange_init, d_DoesNotGo_init, d_Sheet_iter, d_Sheet_len, d_is_nameR, d_is_step_nameR, d_is_textR, d_joined_rows, d_in_order, d_distinct, d_is_sum, d_is_limit, d_Sheet_init, d_Sheet_listed, d_Sheet_contains, d_Sheet_or, d_Sheet_and, d_Sheet_sub, d_Sheet_le, d_Sheet_eq, d_law_size, d_law_word, d_law_names, d_law_number, d_law_times, d_law_stack, d_law_fresh, d_law_built, d_law_near, d_law_ordered, d_law_pool, d_law_bad_name, d_law_bad_terms, d_law_spoilt, d_law_truth, d_law_shows, d_law_drawn_rows, d_law_apart, d_law_operators, d_law_sheets_agree, d_law_refused, d_law_refusals, d_law]
def tt_ITEM_COUNTS : He.Tab := (fun K => He.ga K "ITEM_COUNTS", tb_ITEM_COUNTS.map (·.1))
def tabs : List He.Tab := [tt_ITEM_COUNTS]
def adr (K : PySem.W.Frag) : AD := ⟨He.ga K "Sheet", He.ga K "OfficeError", He.ga K "BadLimit", He.ga K "BadChange", He.ga K "DoesNotGo", He.ga K "ITEM_COUNTS"⟩
def facs : List He.Fa := [.free "ValueError",
  .free "abs",
  .free "all",
  .free "enumerate",
  .free "int",
  .free "isinstance",
  .free "iter",
  .free "len",
  .free "list",
  .free "max",
  .free "range",
  .free "sorted",
  .free "str",
  .free "tuple",
  .glo "Sheet",
  .glo "OfficeError",
  .glo "BadLimit",
  .glo "BadChange",
  .glo "DoesNotGo",
  .str "LETTERS" "abcdefghijklmnopqrstuvwxyz",
  .str "DIGITS" "0123456789",
  .int "LONGEST_NAME" 12,
  .str "FRAME" "frame",
  .str "CHARACTERS" "!\"#$&'()*+,-./0123456789:;<=>?@ABCDEFGHIJKLMNOPQRSTUVWXYZ[\\]^_`abcdefghijklmnopqrstuvwxyz{|}~",
  .glo "ITEM_COUNTS",
  .cls "Sheet",
  .mkr "Sheet",
  .noat "Sheet" "_limits",
  .noat "BadLimit" "limit",
  .noat "BadChange" "limit",
  .noat "DoesNotGo" "limit",
  .meth "BadLimit" "__init__",
  .meth "BadChange" "__init__",
  .meth "DoesNotGo" "__init__",
  .meth "Sheet" "__iter__",
  .meth "Sheet" "__len__",
  .meth "Sheet" "listed",
  .meth "Sheet" "__contains__",
  .meth "Sheet" "__or__",
  .meth "Sheet" "__and__",
  .meth "Sheet" "__sub__",
  .meth "Sheet" "__le__",
  .meth "Sheet" "__eq__",
  .glo "_law_mixed",
  .glo "_law_source",
  .glo "_law_take",
  .glo "is_name",
  .glo "is_step_name",
  .glo "is_text",
  .glo "joined_rows",
  .glo "in_order",
  .glo "distinct",
  .glo "is_sum",
  .glo "is_limit",
  .glo "_law_size",
  .glo "_law_word",
  .glo "_law_names",
  .glo "_law_number",
  .glo "_law_times",
  .glo "_law_stack",
  .glo "_law_fresh",
  .glo "_law_built",
  .glo "_law_near",
  .glo "_law_ordered",
  .glo "_law_pool",
  .glo "_law_bad_name",
  .glo "_law_bad_terms",
  .glo "_law_spoilt",
  .glo "_law_truth",
  .glo "_law_shows",
  .glo "_law_drawn_rows",
  .glo "_law_apart",
  .glo "_law_operators",
  .glo "_law_sheets_agree",
  .glo "_law_refused",
  .glo "_law_refusals",
  .glo "law"]
def mths : List (Str × Str) := [("Sheet", "listed"), ("Sheet", "__contains__"), ("Sheet", "__or__"), ("Sheet", "__and__"), ("Sheet", "__sub__"), ("Sheet", "__le__"), ("Sheet", "__eq__")]
def xt (K : PySem.W.Frag) : Bool := ((xcs (adr K)).all fun E => excB K E) && (kitB2 K (xcs (adr K)) && (exmB K (xcs (adr K)) (adr K).OfficeError && (decide (xcs (adr K)).Nodup && ((["Sheet"] : List Str).all (fun c => clsB K (He.ga K c)) && (mths.all (fun q => PySem.W.fnIn K (He.ma K (He.ga K q.1) q.2)) && (true && He.valsB K (He.ga K "ITEM_COUNTS") (tb_ITEM_COUNTS.map fun p => (p.1, He.Dv.int p.2))))))))
abbrev R : PySem.W.OpenRow := PySem.W.OpenLaw.row PySem.Challenge.rw_drawingoffice_k25_limits_and_sheets
abbrev qv : Program := PySem.W.view R.prog [49]
def names : List PySem.Str := (["OfficeError", "BadLimit", "BadChange", "DoesNotGo", "LETTERS", "DIGITS", "LONGEST_NAME", "FRAME", "CHARACTERS", "is_name", "is_step_name", "is_text", "joined_rows", "in_order", "distinct", "ITEM_COUNTS", "is_sum", "is_limit", "Sheet", "_law_mixed", "_law_source", "_law_take", "_law_size", "_law_word", "_law_names", "_law_number", "_law_times", "_law_stack", "_law_fresh", "_law_built"] : List PySem.Str) ++ (["_law_near", "_law_ordered", "_law_pool", "_law_bad_name", "_law_bad_terms", "_law_spoilt", "_law_truth", "_law_shows", "_law_drawn_rows", "_law_apart", "_law_operators", "_law_sheets_agree", "_law_refused", "_law_refusals"] : List PySem.Str)
abbrev hk : PySem.W.Hook := hookX 7 facs fns tabs xt
def ob (s : PySem.W.SharedT) : AlX := obsXG 7 facs fns tabs xt (HandSHeadRun.getT s)
theorem ob_eq (s : PySem.W.SharedT) : ob s = hk.obs s.abs := obsXG_eq _ _ _ _ _ (HandSHeadRun.getT_eq s)
theorem runs (w : World) : HandSHeadRun.RunEq R qv hk ob 4000 names w :=
  PySem.W.byRow2 "special-get-raises" (P := fun w => HandSHeadRun.RunEq R qv hk ob 4000 names w) (fun w => by
    intro os
    kernel_rfl) (fun w => by
    intro os
    kernel_rfl) w
end My


namespace My
open PySem PySem.Spec PyProof.Rows L2
def FactsT : Prop := ∀ (P : Program) (w : World) (K : PySem.W.Frag) (h : Heap) (mg : Str → Option Value) (f : Addr), K.In h → h.Ns mainGlobals mg → mg ("law" : Str) = some (.ref f) → obsX facs fns tabs xt K = valX fns tabs w →
    ∃ fd : FuncData, (∀ (s : Shared) (v : Value), BindsTo s fd ⟨[v], []⟩ [("_law_script", v)]) ∧ ∀ base : Heap, K.In base → base.Ns mainGlobals mg → GOk P w K mg base 17 f fd ["_law_script"] (sp_top K)
end My
section
open PySem PySem.W PySem.Calls PyProof.Rows
theorem My.early (F : My.FactsT) : PySem.Challenge.rw_drawingoffice_k25_limits_and_sheets.Holds := by
  w_on; o_law
  refine HandSHeadRun.head_any (r := My.R) (q := My.qv) (H := My.hk) (ob := My.ob) (M := 4000) (loose := My.names) (d := HandSHeadRun.topDef My.R.prog 49) (kwd := []) My.ob_eq
    (by kernel_rfl) (fun s => by kernel_rfl) My.runs (by kernel_rfl) (by kernel_rfl) (by kernel_rfl) (by rfl) (by first | assumption | decide +kernel) (by decide +kernel) ⟨rfl, rfl, rfl, rfl, rfl, by decide +kernel⟩ ?hw ?hc
  case hw => w_witness2
  case hc =>
    refine My.walk_G (l := PySem.Challenge.rw_drawingoffice_k25_limits_and_sheets) (n := 63) (k := 17) (x := "_law_script") rfl (by decide) (by kernel_rfl) ⟨rfl, by decide, by decide⟩ ?F
    intro w mg fa h Y G hm0
    obtain ⟨K, KX, c⟩ := Y
    have hm : mg ("law" : PySem.Str) = some (.ref fa) := by
      have e : (HandSHeadRun.topDef My.R.prog 49).name = ("law" : PySem.Str) := by kernel_rfl
      rw [← e]
      exact hm0
    obtain ⟨fd, hb, hF⟩ := F _ w K _ mg fa KX G hm c
    exact ⟨K, fd, My.sp_top K, KX, hb, fun H a ns hl hbits hS => ⟨a, ns, rfl, hS, fun _ => rfl⟩, hF⟩
end


/-! readings, printed by gen4.py. -/
namespace My
open PySem PySem.Spec PyProof.Rows L2 TL
section
variable {K : PySem.W.Frag} {C : AD}
/-- is_name -/
abbrev n_is_nameR : List Str := ["text", "char"]
def t_is_nameR (K : PySem.W.Frag) (C : AD) : TS :=
    (tSeq (tIfS (tOr (tNot (tTest (tChain rLeI rLeI (tC (.int 1)) (tCB cLenS (tCons (tVar 0) tNil)) (tC (.int 12))))) (tTest (tOp rNotInSign (tOp rIxS (tVar 0) (tC (.int 0))) (tC (.str "abcdefghijklmnopqrstuvwxyz"))))) (tRet (tC (.bl false))) tNext)
    (tRet (tCB (rAll K) (tCons (tLc (iStr (tVar 0)) (gName 1) tYes (tOrV (tOp rInSign (tVar 1) (tC (.str "abcdefghijklmnopqrstuvwxyz"))) (tOp rInSign (tVar 1) (tC (.str "0123456789")))) [1]) tNil))))
def p_is_nameR (C : AD) : PSx :=
    (pSeq (pIfS (pOr (pNot (pTest (pChain (fIB fun i j => decide (i ≤ j)) (fIB fun i j => decide (i ≤ j)) (pC (cI 1)) (pCB gLenS (pCons (pVar 0) pNil)) (pC (cI 12))))) (pTest (pOp (fInSign not) (pOp fIxS (pVar 0) (pC (cI 0))) (pC (cS "abcdefghijklmnopqrstuvwxyz"))))) (pRet (pC (cB false))) pNext)
    (pRet (pCB gAll (pCons (pNewL (pLc (pIS (pVar 0)) (pgName 1) pYes (pOrV (pOp (fInSign id) (pVar 1) (pC (cS "abcdefghijklmnopqrstuvwxyz"))) (pOp (fInSign id) (pVar 1) (pC (cS "0123456789")))) [1])) pNil))))
theorem l_is_nameR (B : Fl K C) {s c : Addr} {H0 : Hp} : LS K s c H0 (t_is_nameR K C) (p_is_nameR C) :=
    (S_seq (S_if (L_or (L_not (L_test (L_chain (O_IB fun i j => decide (i ≤ j)) (O_IB fun i j => decide (i ≤ j)) (L_int 1) (L_cb C_lenS (L_cons (L_var 0) L_nil)) (L_int 12)))) (L_test (L_op O_notInSign (L_op O_ixS (L_var 0) (L_int 0)) (L_str "abcdefghijklmnopqrstuvwxyz")))) (S_ret (L_bl false)) S_next)
    (S_ret (L_cb C_all (L_cons (LN.le (L_lc (I_str (L_var 0)) (G_name 1) L_yes (L_orV (L_op O_inSign (L_var 1) (L_str "abcdefghijklmnopqrstuvwxyz")) (L_op O_inSign (L_var 1) (L_str "0123456789"))))) L_nil))))
theorem st_is_nameR (d0 : D) : startD n_is_nameR [d0] = [some (.dat d0), none] := rfl
/-- is_step_name -/
abbrev n_is_step_nameR : List Str := ["text"]
def t_is_step_nameR (K : PySem.W.Frag) (C : AD) : TS :=
    (tRet (tAndV (tCall (up K (q_is_nameR)) [] E0 (tCons (tVar 0) tNil)) (tOp rNe (tVar 0) (tC (.str "frame")))))
def p_is_step_nameR (C : AD) : PSx :=
    (pRet (pAndV (pCall (q_is_nameR) (pCons (pVar 0) pNil)) (pOp (fEq not) (pVar 0) (pC (cS "frame")))))
theorem l_is_step_nameR (B : Fl K C) {s c : Addr} {H0 : Hp} : LS K s c H0 (t_is_step_nameR K C) (p_is_step_nameR C) :=
    (S_ret (L_andV (L_call m_is_nameR (L_cons (L_var 0) L_nil)) (L_op O_ne (L_var 0) (L_str "frame"))))
theorem st_is_step_nameR (d0 : D) : startD n_is_step_nameR [d0] = [some (.dat d0)] := rfl
/-- is_text -/
abbrev n_is_textR : List Str := ["text", "char"]
def t_is_textR (K : PySem.W.Frag) (C : AD) : TS :=
    (tRet (tCB (rAll K) (tCons (tLc (iStr (tVar 0)) (gName 1) tYes (tOp rInSign (tVar 1) (tC (.str "!\"#$&'()*+,-./0123456789:;<=>?@ABCDEFGHIJKLMNOPQRSTUVWXYZ[\\]^_`abcdefghijklmnopqrstuvwxyz{|}~"))) [1]) tNil)))
def p_is_textR (C : AD) : PSx :=
    (pRet (pCB gAll (pCons (pNewL (pLc (pIS (pVar 0)) (pgName 1) pYes (pOp (fInSign id) (pVar 1) (pC (cS "!\"#$&'()*+,-./0123456789:;<=>?@ABCDEFGHIJKLMNOPQRSTUVWXYZ[\\]^_`abcdefghijklmnopqrstuvwxyz{|}~"))) [1])) pNil)))
theorem l_is_textR (B : Fl K C) {s c : Addr} {H0 : Hp} : LS K s c H0 (t_is_textR K C) (p_is_textR C) :=
    (S_ret (L_cb C_all (L_cons (LN.le (L_lc (I_str (L_var 0)) (G_name 1) L_yes (L_op O_inSign (L_var 1) (L_str "!\"#$&'()*+,-./0123456789:;<=>?@ABCDEFGHIJKLMNOPQRSTUVWXYZ[\\]^_`abcdefghijklmnopqrstuvwxyz{|}~")))) L_nil)))
theorem st_is_textR (d0 : D) : startD n_is_textR [d0] = [some (.dat d0), none] := rfl
/-- joined_rows -/
abbrev n_joined_rows : List Str := ["first", "second", "rows", "at", "row"]
def t_joined_rows (K : PySem.W.Frag) (C : AD) : TS :=
    (tSeq (tAsg (tLst tNil) (gName 2))
    (tSeq (tAsg (tC (.int 0)) (gName 3))
    (tSeq (tFor (iList K (tVar 0)) (gName 4) (tSeq (tWhile (tAnd (tTest (tOp rLtI (tVar 3) (tCB (cLenQ K) (tCons (tVar 1) tNil)))) (tTest (tOp (rLtD K) (tOp (rIxL K) (tVar 1) (tVar 3)) (tVar 4)))) (tSeq (tDrop (tBM K "list" rAppend (tVar 2) (tCons (tOp (rIxL K) (tVar 1) (tVar 3)) tNil)))
    (tAsg (tOp rAddI (tVar 3) (tC (.int 1))) (gName 3))))
    (tDrop (tBM K "list" rAppend (tVar 2) (tCons (tVar 4) tNil)))))
    (tRet (tFrz (tOp (rCatL K) (tVar 2) (tSl (rSlL K) (tVar 1) (tPart (tVar 3)) tNoPart)))))))
def p_joined_rows (C : AD) : PSx :=
    (pSeq (pNew (pLst pNil) 2)
    (pSeq (pAsg (pC (cI 0)) (pgName 3))
    (pSeq (pFor (pIL (pVar 0)) (pgName 4) (pSeq (pWhile (pAnd (pTest (pOp (fIB fun i j => decide (i < j)) (pVar 3) (pCB gLenQ (pCons (pVar 1) pNil)))) (pTest (pOp fLtO (pOp fIxL (pVar 1) (pVar 3)) (pVar 4)))) (pSeq (pApp 2 (pOp fIxL (pVar 1) (pVar 3)))
    (pAsg (pOp (fI fun i j => i + j) (pVar 3) (pC (cI 1))) (pgName 3))))
    (pApp 2 (pVar 4))))
    (pRet (pFrz (pOpN fCatL (pVar 2) (pNewL (pSlL (pVar 1) (pPart (pVar 3)) pNoPart))))))))
theorem l_joined_rows (B : Fl K C) {s c : Addr} {H0 : Hp} : LS K s c H0 (t_joined_rows K C) (p_joined_rows C) :=
    (S_seq (S_new 2 (L_lst L_nil))
    (S_seq (S_asg (L_int 0) (G_name 3))
    (S_seq (S_for (I_list (L_var 0)) (G_name 4) (S_seq (S_while (L_and (L_test (L_op (O_IB fun i j => decide (i < j)) (L_var 3) (L_cb C_lenQ (L_cons (L_var 1) L_nil)))) (L_test (L_op O_ltD (L_op O_ixL (L_var 1) (L_var 3)) (L_var 4)))) (S_seq (S_app 2 (L_op O_ixL (L_var 1) (L_var 3)))
    (S_asg (L_op (O_I fun i j => i + j) (L_var 3) (L_int 1)) (G_name 3))))
    (S_app 2 (L_var 4))))
    (S_ret (LN.frz (L_opN O_catL (L_var 2) (LN.le (L_slL (L_var 1) (L_part (L_var 3)) L_noPart))))))))
theorem st_joined_rows (d0 d1 : D) : startD n_joined_rows [d0, d1] = [some (.dat d0), some (.dat d1), none, none, none] := rfl
/-- in_order -/
abbrev n_in_order : List Str := ["rows", "middle"]
def t_in_order (K : PySem.W.Frag) (C : AD) (n : Nat) : TS :=
    (tSeq (tIfS (tTest (tOp rLtI (tCB (cLenQ K) (tCons (tVar 0) tNil)) (tC (.int 2)))) (tRet (tFrz (tCB (cList K) (tCons (tVar 0) tNil)))) tNext)
    (tSeq (tAsg (tOp rDivI (tCB (cLenQ K) (tCons (tVar 0) tNil)) (tC (.int 2))) (gName 1))
    (tRet (tCall (up K (q_joined_rows)) [] E0 (tCons (tCall (up K (q_in_order n)) [] E0 (tCons (tFrz (tSl (rSlL K) (tVar 0) tNoPart (tPart (tVar 1)))) tNil)) (tCons (tCall (up K (q_in_order n)) [] E0 (tCons (tFrz (tSl (rSlL K) (tVar 0) (tPart (tVar 1)) tNoPart)) tNil)) tNil))))))
def p_in_order (C : AD) (n : Nat) : PSx :=
    (pSeq (pIfS (pTest (pOp (fIB fun i j => decide (i < j)) (pCB gLenQ (pCons (pVar 0) pNil)) (pC (cI 2)))) (pRet (pFrz (pCBN gList (pCons (pVar 0) pNil)))) pNext)
    (pSeq (pAsg (pOp (fIC CDivW fun i j => i / j) (pCB gLenQ (pCons (pVar 0) pNil)) (pC (cI 2))) (pgName 1))
    (pRet (pCall (q_joined_rows) (pCons (pCall (q_in_order n) (pCons (pFrz (pSlL (pVar 0) pNoPart (pPart (pVar 1)))) pNil)) (pCons (pCall (q_in_order n) (pCons (pFrz (pSlL (pVar 0) (pPart (pVar 1)) pNoPart)) pNil)) pNil))))))
theorem l_in_order (B : Fl K C) {s c : Addr} {H0 : Hp} {n : Nat} : LS K s c H0 (t_in_order K C n) (p_in_order C n) :=
    (S_seq (S_if (L_test (L_op (O_IB fun i j => decide (i < j)) (L_cb C_lenQ (L_cons (L_var 0) L_nil)) (L_int 2))) (S_ret (LN.frz (L_cbn C_list (L_cons (L_var 0) L_nil)))) S_next)
    (S_seq (S_asg (L_op (O_IC CDivW fun i j => i / j) (L_cb C_lenQ (L_cons (L_var 0) L_nil)) (L_int 2)) (G_name 1))
    (S_ret (L_call m_joined_rows (L_cons (L_call m_in_order (L_cons (LN.frz (L_slL (L_var 0) L_noPart (L_part (L_var 1)))) L_nil)) (L_cons (L_call m_in_order (L_cons (LN.frz (L_slL (L_var 0) (L_part (L_var 1)) L_noPart)) L_nil)) L_nil))))))
theorem st_in_order (d0 : D) : startD n_in_order [d0] = [some (.dat d0), none] := rfl
/-- distinct -/
abbrev n_distinct : List Str := ["rows", "ordered", "at", "row"]
def t_distinct (K : PySem.W.Frag) (C : AD) : TS :=
    (tSeq (tAsg (tCall (up K (q_in_order 8)) [] E0 (tCons (tVar 0) tNil)) (gName 1))
    (tRet (tFrz (tLc (iEnum K (tCons (tVar 1) tNil)) (gTup K 2 (gCons (gName 2) (gCons (gName 3) gNil))) (tOr (tTest (tOp rEq (tVar 2) (tC (.int 0)))) (tTest (tOp (rEqP K not) (tOp (rIxL K) (tVar 1) (tOp rSubI (tVar 2) (tC (.int 1)))) (tVar 3)))) (tVar 3) [2, 3]))))
def p_distinct (C : AD) : PSx :=
    (pSeq (pAsg (pCall (q_in_order 8) (pCons (pVar 0) pNil)) (pgName 1))
    (pRet (pFrz (pLc (pIE (pCons (pVar 1) pNil)) (pgTup (pgCons (pgName 2) (pgCons (pgName 3) pgNil))) (pOr (pTest (pOp (fEq id) (pVar 2) (pC (cI 0)))) (pTest (pOp (fEqO not) (pOp fIxL (pVar 1) (pOp (fI fun i j => i - j) (pVar 2) (pC (cI 1)))) (pVar 3)))) (pVar 3) [2, 3]))))
theorem l_distinct (B : Fl K C) {s c : Addr} {H0 : Hp} : LS K s c H0 (t_distinct K C) (p_distinct C) :=
    (S_seq (S_asg (L_call m_in_order (L_cons (L_var 0) L_nil)) (G_name 1))
    (S_ret (LN.frz (L_lc (I_enum (L_cons (L_var 1) L_nil)) (G_tup (G_cons (G_name 2) (G_cons (G_name 3) G_nil)) (fun _ _ _ h => glen_cons (fun _ _ _ h => glen_cons (fun _ _ _ h => glen_nil h) (name_some 3) h) (name_some 2) h)) (L_or (L_test (L_op O_eq (L_var 2) (L_int 0))) (L_test (L_op O_eqP (L_op O_ixL (L_var 1) (L_op (O_I fun i j => i - j) (L_var 2) (L_int 1))) (L_var 3)))) (L_var 3)))))
theorem st_distinct (d0 : D) : startD n_distinct [d0] = [some (.dat d0), none, none, none] := rfl
/-- is_sum -/
abbrev n_is_sum : List Str := ["value", "before", "name", "times"]
def t_is_sum (K : PySem.W.Frag) (C : AD) : TS :=
    (tSeq (tAsg (tC (.str "")) (gName 1))
    (tSeq (tFor (iTup K (tOp (rIxT K) (tVar 0) (tC (.int 1)))) (gTup K 2 (gCons (gName 2) (gCons (gName 3) gNil))) (tSeq (tIfS (tOr (tNot (tB (tCall (up K (q_is_step_nameR)) [] E0 (tCons (tVar 2) tNil)))) (tOr (tTest (tOp rLeS (tVar 2) (tVar 1))) (tTest (tOp rEq (tVar 3) (tC (.int 0)))))) (tRet (tC (.bl false))) tNext)
    (tAsg (tVar 2) (gName 1))))
    (tRet (tC (.bl true)))))
def p_is_sum (C : AD) : PSx :=
    (pSeq (pAsg (pC (cS "")) (pgName 1))
    (pSeq (pFor (pIT (pOp fIxT (pVar 0) (pC (cI 1)))) (pgTup (pgCons (pgName 2) (pgCons (pgName 3) pgNil))) (pSeq (pIfS (pOr (pNot (pTest (pCall (q_is_step_nameR) (pCons (pVar 2) pNil)))) (pOr (pTest (pOp (fSB fun i j => !decide (j.cps.toList < i.cps.toList)) (pVar 2) (pVar 1))) (pTest (pOp (fEq id) (pVar 3) (pC (cI 0)))))) (pRet (pC (cB false))) pNext)
    (pAsg (pVar 2) (pgName 1))))
    (pRet (pC (cB true)))))
theorem l_is_sum (B : Fl K C) {s c : Addr} {H0 : Hp} : LS K s c H0 (t_is_sum K C) (p_is_sum C) :=
    (S_seq (S_asg (L_str "") (G_name 1))
    (S_seq (S_for (I_tup (L_op O_ixT (L_var 0) (L_int 1))) (G_tup (G_cons (G_name 2) (G_cons (G_name 3) G_nil)) (fun _ _ _ h => glen_cons (fun _ _ _ h => glen_cons (fun _ _ _ h => glen_nil h) (name_some 3) h) (name_some 2) h)) (S_seq (S_if (L_or (L_not (L_b (L_call m_is_step_nameR (L_cons (L_var 2) L_nil)))) (L_or (L_test (L_op O_leS (L_var 2) (L_var 1))) (L_test (L_op O_eq (L_var 3) (L_int 0))))) (S_ret (L_bl false)) S_next)
    (S_asg (L_var 2) (G_name 1))))
    (S_ret (L_bl true))))
theorem st_is_sum (d0 : D) : startD n_is_sum [d0] = [some (.dat d0), none, none, none] := rfl
/-- is_limit -/
abbrev n_is_limit : List Str := ["value", "upper", "lower"]
def t_is_limit (K : PySem.W.Frag) (C : AD) : TS :=
    (tSeq (tIfS (tOr (tTest (tOp rEq (tCB (cLenQ K) (tCons (tVar 0) tNil)) (tC (.int 0)))) (tTest (tOp rNe (tGetKd K C.ITEM_COUNTS (tC (.ref C.ITEM_COUNTS)) (tOp (rIxT K) (tVar 0) (tC (.int 0))) (tC (.int 0))) (tCB (cLenQ K) (tCons (tVar 0) tNil))))) (tRet (tC (.bl false))) tNext)
    (tSeq (tPar 1 2 (tCons (tOp (rIxT K) (tVar 0) (tC (.int 1))) (tCons (tOp (rIxT K) (tVar 0) (tC (.int 2))) tNil)))
    (tSeq (tIfS (tOr (tNot (tB (tCall (up K (q_is_nameR)) [] E0 (tCons (tVar 1) tNil)))) (tOr (tNot (tB (tCall (up K (q_is_nameR)) [] E0 (tCons (tVar 2) tNil)))) (tTest (tOp rEq (tVar 1) (tVar 2))))) (tRet (tC (.bl false))) tNext)
    (tSeq (tIfS (tAnd (tTest (tOp rEq (tOp (rIxT K) (tVar 0) (tC (.int 0))) (tC (.str "room")))) (tNot (tB (tCall (up K (q_is_textR)) [] E0 (tCons (tOp (rIxT K) (tVar 0) (tC (.int 3))) tNil))))) (tRet (tC (.bl false))) tNext)
    (tRet (tCall (up K (q_is_sum)) [] E0 (tCons (tOp (rIxT K) (tVar 0) (tUn (rU fun i => .int (-i)) (tC (.int 1)))) tNil)))))))
def p_is_limit (C : AD) : PSx :=
    (pSeq (pIfS (pOr (pTest (pOp (fEq id) (pCB gLenQ (pCons (pVar 0) pNil)) (pC (cI 0)))) (pTest (pOp (fEq not) (pGetKd tb_ITEM_COUNTS (pOp fIxT (pVar 0) (pC (cI 0))) (pC (cI 0))) (pCB gLenQ (pCons (pVar 0) pNil))))) (pRet (pC (cB false))) pNext)
    (pSeq (pPar 1 2 (pCons (pOp fIxT (pVar 0) (pC (cI 1))) (pCons (pOp fIxT (pVar 0) (pC (cI 2))) pNil)))
    (pSeq (pIfS (pOr (pNot (pTest (pCall (q_is_nameR) (pCons (pVar 1) pNil)))) (pOr (pNot (pTest (pCall (q_is_nameR) (pCons (pVar 2) pNil)))) (pTest (pOp (fEq id) (pVar 1) (pVar 2))))) (pRet (pC (cB false))) pNext)
    (pSeq (pIfS (pAnd (pTest (pOp (fEq id) (pOp fIxT (pVar 0) (pC (cI 0))) (pC (cS "room")))) (pNot (pTest (pCall (q_is_textR) (pCons (pOp fIxT (pVar 0) (pC (cI 3))) pNil))))) (pRet (pC (cB false))) pNext)
    (pRet (pCall (q_is_sum) (pCons (pOp fIxT (pVar 0) (pUn fNeg (pC (cI 1)))) pNil)))))))
theorem l_is_limit (B : Fl K C) {s c : Addr} {H0 : Hp} : LS K s c H0 (t_is_limit K C) (p_is_limit C) :=
    (S_seq (S_if (L_or (L_test (L_op O_eq (L_cb C_lenQ (L_cons (L_var 0) L_nil)) (L_int 0))) (L_test (L_op O_ne (L_getKd B.tv_ITEM_COUNTS (L_op O_ixT (L_var 0) (L_int 0)) (L_int 0)) (L_cb C_lenQ (L_cons (L_var 0) L_nil))))) (S_ret (L_bl false)) S_next)
    (S_seq (S_par 1 2 (L_cons (L_op O_ixT (L_var 0) (L_int 1)) (L_cons (L_op O_ixT (L_var 0) (L_int 2)) L_nil)))
    (S_seq (S_if (L_or (L_not (L_b (L_call m_is_nameR (L_cons (L_var 1) L_nil)))) (L_or (L_not (L_b (L_call m_is_nameR (L_cons (L_var 2) L_nil)))) (L_test (L_op O_eq (L_var 1) (L_var 2))))) (S_ret (L_bl false)) S_next)
    (S_seq (S_if (L_and (L_test (L_op O_eq (L_op O_ixT (L_var 0) (L_int 0)) (L_str "room"))) (L_not (L_b (L_call m_is_textR (L_cons (L_op O_ixT (L_var 0) (L_int 3)) L_nil))))) (S_ret (L_bl false)) S_next)
    (S_ret (L_call m_is_sum (L_cons (L_op O_ixT (L_var 0) (L_un U_neg (L_int 1))) L_nil)))))))
theorem st_is_limit (d0 : D) : startD n_is_limit [d0] = [some (.dat d0), none, none] := rfl
/-- Sheet.__init__ -/
abbrev n_Sheet_init : List Str := ["self", "limits", "limit"]
def t_Sheet_init (K : PySem.W.Frag) (C : AD) (W : WX) : TS :=
    (tSeq (tFor (iSq K (tVar 1)) (gName 2) (tIfS (tNot (tB (tCall (up K (q_is_limit)) [] E0 (tCons (tVar 2) tNil)))) (tRaise (tMkO C.BadLimit (sp_exc1 C.BadLimit "limit") [] (tCons (tVar 2) tNil)) W) tNext))
    (sFld K (tVar 0) (tCall (up K (q_distinct)) [] E0 (tCons (tFrz (tCB (cList K) (tCons (tVar 1) tNil))) tNil)) "_limits"))
def p_Sheet_init (C : AD) : PSXx :=
    (pSeqX (pForX (pISV 1) (pgName 2) (pIfX (pNot (pTest (pCall (q_is_limit) (pCons (pVar 2) pNil)))) (pRaise (pMkE1 C.BadLimit "limit" (pVar 2))) (pLiftX pNext)))
    (pLiftX (pSelf C.Sheet 0 "_limits" (pCall (q_distinct) (pCons (pFrz (pCBN gList (pCons (pVar 1) pNil))) pNil)))))
theorem l_Sheet_init (B : Fl K C) {s c : Addr} {H0 : Hp} : LSX K s c H0 (t_Sheet_init K C) (p_Sheet_init C) :=
    (X_seq (X_forO (I_sqV 1) (G_name 2) (X_if (L_not (L_b (L_call m_is_limit (L_cons (L_var 2) L_nil)))) (X_raise (L_mkE1 (L_var 2))) (X_liftX S_next)))
    (X_liftX (S_self 0 B.z_Sheet.cls B.n_Sheet_limits (L_call m_distinct (L_cons (LN.frz (L_cbn C_list (L_cons (L_var 1) L_nil))) L_nil)))))
theorem st_Sheet_init (d0 : Cell) : startC (n_Sheet_init.drop 1) [d0] = [some d0, none] := rfl
/-- Sheet.listed -/
abbrev n_Sheet_listed : List Str := ["self"]
def t_Sheet_listed (K : PySem.W.Frag) (C : AD) : TS :=
    (tRet (tCB (cList K) (tCons (tFldR K (tVar 0) "_limits") tNil)))
def p_Sheet_listed (C : AD) : PSx :=
    (pRetNw (pCBN gList (pCons (pFld C.Sheet "_limits" (pVar 0)) pNil)))
theorem l_Sheet_listed (B : Fl K C) {s c : Addr} {H0 : Hp} : LS K s c H0 (t_Sheet_listed K C) (p_Sheet_listed C) :=
    (S_retNw (L_cbn C_list (L_cons (L_fld B.z_Sheet.cls B.n_Sheet_limits (L_var 0)) L_nil)))
theorem st_Sheet_listed (d0 : D) : startD n_Sheet_listed [d0] = [some (.dat d0)] := rfl
/-- Sheet.__contains__ -/
abbrev n_Sheet_contains : List Str := ["self", "limit"]
def t_Sheet_contains (K : PySem.W.Frag) (C : AD) : TS :=
    (tRet (tOp (rInP K id) (tVar 1) (tFldR K (tVar 0) "_limits")))
def p_Sheet_contains (C : AD) : PSx :=
    (pRet (pOp (fInO id) (pVar 1) (pFld C.Sheet "_limits" (pVar 0))))
theorem l_Sheet_contains (B : Fl K C) {s c : Addr} {H0 : Hp} : LS K s c H0 (t_Sheet_contains K C) (p_Sheet_contains C) :=
    (S_ret (L_op O_inP (L_var 1) (L_fld B.z_Sheet.cls B.n_Sheet_limits (L_var 0))))
theorem st_Sheet_contains (d0 d1 : D) : startD n_Sheet_contains [d0, d1] = [some (.dat d0), some (.dat d1)] := rfl
/-- Sheet.__or__ -/
abbrev n_Sheet_or : List Str := ["self", "other"]
def t_Sheet_or (K : PySem.W.Frag) (C : AD) : TS :=
    (tRet (tFrz (tMakeS C.Sheet (upIC K C.Sheet (q_Sheet_init C)) (fun _ => E0) (tCons (tOp (rCatL K) (tMethR C.Sheet "listed" (upL K (q_Sheet_listed C)) (tVar 0) tNil) (tMethR C.Sheet "listed" (upL K (q_Sheet_listed C)) (tVar 1) tNil)) tNil))))
def p_Sheet_or (C : AD) : PSx :=
    (pRet (pMake0 C.Sheet (q_Sheet_init C) (pCons (pNewL (pOpN fCatL (pNewL (pMethL C.Sheet "listed" (q_Sheet_listed C) (pVar 0) pNil)) (pNewL (pMethL C.Sheet "listed" (q_Sheet_listed C) (pVar 1) pNil)))) pNil)))
theorem l_Sheet_or (B : Fl K C) {s c : Addr} {H0 : Hp} : LS K s c H0 (t_Sheet_or K C) (p_Sheet_or C) :=
    (S_ret (L_makeC0 m_Sheet_init (L_cons (LN.le (L_opN O_catL (LN.le (L_methL m_Sheet_listed (L_var 0) L_nil)) (LN.le (L_methL m_Sheet_listed (L_var 1) L_nil)))) L_nil)))
theorem st_Sheet_or (d0 d1 : D) : startD n_Sheet_or [d0, d1] = [some (.dat d0), some (.dat d1)] := rfl
/-- Sheet.__and__ -/
abbrev n_Sheet_and : List Str := ["self", "other", "theirs", "limit"]
def t_Sheet_and (K : PySem.W.Frag) (C : AD) : TS :=
    (tSeq (tAsg (tFrz (tMethR C.Sheet "listed" (upL K (q_Sheet_listed C)) (tVar 1) tNil)) (gName 2))
    (tRet (tFrz (tMakeS C.Sheet (upIC K C.Sheet (q_Sheet_init C)) (fun _ => E0) (tCons (tLc (iList K (tFldR K (tVar 0) "_limits")) (gName 3) (tTest (tOp (rInP K id) (tVar 3) (tVar 2))) (tVar 3) [3]) tNil)))))
def p_Sheet_and (C : AD) : PSx :=
    (pSeq (pAsg (pFrz (pMethL C.Sheet "listed" (q_Sheet_listed C) (pVar 1) pNil)) (pgName 2))
    (pRet (pMake0 C.Sheet (q_Sheet_init C) (pCons (pNewL (pLc (pIL (pFld C.Sheet "_limits" (pVar 0))) (pgName 3) (pTest (pOp (fInO id) (pVar 3) (pVar 2))) (pVar 3) [3])) pNil))))
theorem l_Sheet_and (B : Fl K C) {s c : Addr} {H0 : Hp} : LS K s c H0 (t_Sheet_and K C) (p_Sheet_and C) :=
    (S_seq (S_asg (LN.frz (L_methL m_Sheet_listed (L_var 1) L_nil)) (G_name 2))
    (S_ret (L_makeC0 m_Sheet_init (L_cons (LN.le (L_lc (I_list (L_fld B.z_Sheet.cls B.n_Sheet_limits (L_var 0))) (G_name 3) (L_test (L_op O_inP (L_var 3) (L_var 2))) (L_var 3))) L_nil))))
theorem st_Sheet_and (d0 d1 : D) : startD n_Sheet_and [d0, d1] = [some (.dat d0), some (.dat d1), none, none] := rfl
/-- Sheet.__sub__ -/
abbrev n_Sheet_sub : List Str := ["self", "other", "theirs", "limit"]
def t_Sheet_sub (K : PySem.W.Frag) (C : AD) : TS :=
    (tSeq (tAsg (tFrz (tMethR C.Sheet "listed" (upL K (q_Sheet_listed C)) (tVar 1) tNil)) (gName 2))
    (tRet (tFrz (tMakeS C.Sheet (upIC K C.Sheet (q_Sheet_init C)) (fun _ => E0) (tCons (tLc (iList K (tFldR K (tVar 0) "_limits")) (gName 3) (tTest (tOp (rInP K not) (tVar 3) (tVar 2))) (tVar 3) [3]) tNil)))))
def p_Sheet_sub (C : AD) : PSx :=
    (pSeq (pAsg (pFrz (pMethL C.Sheet "listed" (q_Sheet_listed C) (pVar 1) pNil)) (pgName 2))
    (pRet (pMake0 C.Sheet (q_Sheet_init C) (pCons (pNewL (pLc (pIL (pFld C.Sheet "_limits" (pVar 0))) (pgName 3) (pTest (pOp (fInO not) (pVar 3) (pVar 2))) (pVar 3) [3])) pNil))))
theorem l_Sheet_sub (B : Fl K C) {s c : Addr} {H0 : Hp} : LS K s c H0 (t_Sheet_sub K C) (p_Sheet_sub C) :=
    (S_seq (S_asg (LN.frz (L_methL m_Sheet_listed (L_var 1) L_nil)) (G_name 2))
    (S_ret (L_makeC0 m_Sheet_init (L_cons (LN.le (L_lc (I_list (L_fld B.z_Sheet.cls B.n_Sheet_limits (L_var 0))) (G_name 3) (L_test (L_op O_inP (L_var 3) (L_var 2))) (L_var 3))) L_nil))))
theorem st_Sheet_sub (d0 d1 : D) : startD n_Sheet_sub [d0, d1] = [some (.dat d0), some (.dat d1), none, none] := rfl
/-- Sheet.__le__ -/
abbrev n_Sheet_le : List Str := ["self", "other", "theirs", "limit"]
def t_Sheet_le (K : PySem.W.Frag) (C : AD) : TS :=
    (tSeq (tAsg (tFrz (tMethR C.Sheet "listed" (upL K (q_Sheet_listed C)) (tVar 1) tNil)) (gName 2))
    (tRet (tCB (rAll K) (tCons (tLc (iList K (tFldR K (tVar 0) "_limits")) (gName 3) tYes (tOp (rInP K id) (tVar 3) (tVar 2)) [3]) tNil))))
def p_Sheet_le (C : AD) : PSx :=
    (pSeq (pAsg (pFrz (pMethL C.Sheet "listed" (q_Sheet_listed C) (pVar 1) pNil)) (pgName 2))
    (pRet (pCB gAll (pCons (pNewL (pLc (pIL (pFld C.Sheet "_limits" (pVar 0))) (pgName 3) pYes (pOp (fInO id) (pVar 3) (pVar 2)) [3])) pNil))))
theorem l_Sheet_le (B : Fl K C) {s c : Addr} {H0 : Hp} : LS K s c H0 (t_Sheet_le K C) (p_Sheet_le C) :=
    (S_seq (S_asg (LN.frz (L_methL m_Sheet_listed (L_var 1) L_nil)) (G_name 2))
    (S_ret (L_cb C_all (L_cons (LN.le (L_lc (I_list (L_fld B.z_Sheet.cls B.n_Sheet_limits (L_var 0))) (G_name 3) L_yes (L_op O_inP (L_var 3) (L_var 2)))) L_nil))))
theorem st_Sheet_le (d0 d1 : D) : startD n_Sheet_le [d0, d1] = [some (.dat d0), some (.dat d1), none, none] := rfl
/-- Sheet.__eq__ -/
abbrev n_Sheet_eq : List Str := ["self", "other"]
def t_Sheet_eq (K : PySem.W.Frag) (C : AD) : TS :=
    (tRet (tAndV (tCB (rIsiD K) (tCons (tVar 1) (tCons (tC (.ref C.Sheet)) tNil))) (tOp (rEqP K id) (tFldR K (tVar 0) "_limits") (tFldR K (tVar 1) "_limits"))))
def p_Sheet_eq (C : AD) : PSx :=
    (pRet (pAndV (pIsC C.Sheet (pVar 1)) (pOp (fEqO id) (pFld C.Sheet "_limits" (pVar 0)) (pFld C.Sheet "_limits" (pVar 1)))))
theorem l_Sheet_eq (B : Fl K C) {s c : Addr} {H0 : Hp} : LS K s c H0 (t_Sheet_eq K C) (p_Sheet_eq C) :=
    (S_ret (L_andV (L_isC B.z_Sheet.ins B.z_Sheet.nb (L_var 1)) (L_op O_eqP (L_fld B.z_Sheet.cls B.n_Sheet_limits (L_var 0)) (L_fld B.z_Sheet.cls B.n_Sheet_limits (L_var 1)))))
theorem st_Sheet_eq (d0 d1 : D) : startD n_Sheet_eq [d0, d1] = [some (.dat d0), some (.dat d1)] := rfl
/-- _law_size -/
abbrev n_law_size : List Str := ["_law_source_here", "_law_small", "_law_large"]
def t_law_size (K : PySem.W.Frag) (C : AD) : TS :=
    (tSeq (tIfS (tTest (tOp rEq (tCall (up K (q_law_take)) [] E0 (tCons (tVar 0) (tCons (tC (.int 8)) tNil))) (tC (.int 7)))) (tRet (tOp rAddI (tOp rAddI (tVar 1) (tC (.int 1))) (tCall (up K (q_law_take)) [] E0 (tCons (tVar 0) (tCons (tOp rSubI (tVar 2) (tVar 1)) tNil))))) tNext)
    (tRet (tOp rAddI (tC (.int 1)) (tCall (up K (q_law_take)) [] E0 (tCons (tVar 0) (tCons (tVar 1) tNil))))))
def p_law_size (C : AD) : PSx :=
    (pSeq (pIfS (pTest (pOp (fEq id) (pCall (q_law_take) (pCons (pVar 0) (pCons (pC (cI 8)) pNil))) (pC (cI 7)))) (pRet (pOp (fI fun i j => i + j) (pOp (fI fun i j => i + j) (pVar 1) (pC (cI 1))) (pCall (q_law_take) (pCons (pVar 0) (pCons (pOp (fI fun i j => i - j) (pVar 2) (pVar 1)) pNil))))) pNext)
    (pRet (pOp (fI fun i j => i + j) (pC (cI 1)) (pCall (q_law_take) (pCons (pVar 0) (pCons (pVar 1) pNil))))))
theorem l_law_size (B : Fl K C) {s c : Addr} {H0 : Hp} : LS K s c H0 (t_law_size K C) (p_law_size C) :=
    (S_seq (S_if (L_test (L_op O_eq (L_call m_law_take (L_cons (L_var 0) (L_cons (L_int 8) L_nil))) (L_int 7))) (S_ret (L_op (O_I fun i j => i + j) (L_op (O_I fun i j => i + j) (L_var 1) (L_int 1)) (L_call m_law_take (L_cons (L_var 0) (L_cons (L_op (O_I fun i j => i - j) (L_var 2) (L_var 1)) L_nil))))) S_next)
    (S_ret (L_op (O_I fun i j => i + j) (L_int 1) (L_call m_law_take (L_cons (L_var 0) (L_cons (L_var 1) L_nil))))))
theorem st_law_size (d0 d1 d2 : D) : startD n_law_size [d0, d1, d2] = [some (.dat d0), some (.dat d1), some (.dat d2)] := rfl
/-- _law_word -/
abbrev n_law_word : List Str := ["_law_source_here", "_law_small", "_law_word_here", "_law_size_here", "_law_k"]
def t_law_word (K : PySem.W.Frag) (C : AD) : TS :=
    (tSeq (tAsg (tC (.str "abcdefghijklmnopqrstuvwxyz")) (gName 1))
    (tSeq (tAsg (tOp rIxS (tVar 1) (tCall (up K (q_law_take)) [] E0 (tCons (tVar 0) (tCons (tC (.int 26)) tNil)))) (gName 2))
    (tSeq (tAsg (tCall (up K (q_law_take)) [] E0 (tCons (tVar 0) (tCons (tC (.int 8)) tNil))) (gName 3))
    (tSeq (tIfS (tTest (tOp rEq (tVar 3) (tC (.int 7)))) (tAsg (tCall (up K (q_law_take)) [] E0 (tCons (tVar 0) (tCons (tC (.int 12)) tNil))) (gName 3)) (tAsg (tCB rMax2 (tCons (tC (.int 0)) (tCons (tOp rSubI (tVar 3) (tC (.int 3))) tNil))) (gName 3)))
    (tSeq (tFor (iRng1 (tCons (tVar 3) tNil)) (gName 4) (tAsg (tOp rCatS (tVar 2) (tOp rIxS (tOp rCatS (tVar 1) (tC (.str "0123456789"))) (tCall (up K (q_law_take)) [] E0 (tCons (tVar 0) (tCons (tC (.int 36)) tNil))))) (gName 2)))
    (tRet (tVar 2)))))))
def p_law_word (C : AD) : PSx :=
    (pSeq (pAsg (pC (cS "abcdefghijklmnopqrstuvwxyz")) (pgName 1))
    (pSeq (pAsg (pOp fIxS (pVar 1) (pCall (q_law_take) (pCons (pVar 0) (pCons (pC (cI 26)) pNil)))) (pgName 2))
    (pSeq (pAsg (pCall (q_law_take) (pCons (pVar 0) (pCons (pC (cI 8)) pNil))) (pgName 3))
    (pSeq (pIfS (pTest (pOp (fEq id) (pVar 3) (pC (cI 7)))) (pAsg (pCall (q_law_take) (pCons (pVar 0) (pCons (pC (cI 12)) pNil))) (pgName 3)) (pAsg (pCB gMax2 (pCons (pC (cI 0)) (pCons (pOp (fI fun i j => i - j) (pVar 3) (pC (cI 3))) pNil))) (pgName 3)))
    (pSeq (pFor (pIR (pCons (pVar 3) pNil)) (pgName 4) (pAsg (pOp fCatS (pVar 2) (pOp fIxS (pOp fCatS (pVar 1) (pC (cS "0123456789"))) (pCall (q_law_take) (pCons (pVar 0) (pCons (pC (cI 36)) pNil))))) (pgName 2)))
    (pRet (pVar 2)))))))
theorem l_law_word (B : Fl K C) {s c : Addr} {H0 : Hp} : LS K s c H0 (t_law_word K C) (p_law_word C) :=
    (S_seq (S_asg (L_str "abcdefghijklmnopqrstuvwxyz") (G_name 1))
    (S_seq (S_asg (L_op O_ixS (L_var 1) (L_call m_law_take (L_cons (L_var 0) (L_cons (L_int 26) L_nil)))) (G_name 2))
    (S_seq (S_asg (L_call m_law_take (L_cons (L_var 0) (L_cons (L_int 8) L_nil))) (G_name 3))
    (S_seq (S_if (L_test (L_op O_eq (L_var 3) (L_int 7))) (S_asg (L_call m_law_take (L_cons (L_var 0) (L_cons (L_int 12) L_nil))) (G_name 3)) (S_asg (L_cb C_max2 (L_cons (L_int 0) (L_cons (L_op (O_I fun i j => i - j) (L_var 3) (L_int 3)) L_nil))) (G_name 3)))
    (S_seq (S_for (I_rng1 (L_cons (L_var 3) L_nil)) (G_name 4) (S_asg (L_op O_catS (L_var 2) (L_op O_ixS (L_op O_catS (L_var 1) (L_str "0123456789")) (L_call m_law_take (L_cons (L_var 0) (L_cons (L_int 36) L_nil))))) (G_name 2)))
    (S_ret (L_var 2)))))))
theorem st_law_word (d0 : D) : startD n_law_word [d0] = [some (.dat d0), none, none, none, none] := rfl
/-- _law_names -/
abbrev n_law_names : List Str := ["_law_source_here", "_law_many", "_law_names_here", "_law_k", "_law_word_here", "_law_others", "_law_fresh_here", "_law_one", "_law_digit"]
def t_law_names (K : PySem.W.Frag) (C : AD) : TS :=
    (tSeq (tAsg (tLst tNil) (gName 2))
    (tSeq (tFor (iRng1 (tCons (tVar 1) tNil)) (gName 3) (tSeq (tAsg (tCall (up K (q_law_word)) [] E0 (tCons (tVar 0) tNil)) (gName 4))
    (tSeq (tIfS (tAnd (tTest (tOp rGtI (tVar 3) (tC (.int 0)))) (tTest (tOp rEq (tCall (up K (q_law_take)) [] E0 (tCons (tVar 0) (tCons (tC (.int 2)) tNil))) (tC (.int 0))))) (tAsg (tOp rCatS (tSl rSlS (tOp (rIxL K) (tVar 2) (tCall (up K (q_law_take)) [] E0 (tCons (tVar 0) (tCons (tVar 3) tNil)))) tNoPart (tPart (tC (.int 11)))) (tOp rIxS (tVar 4) (tOp rSubI (tCB cLenS (tCons (tVar 4) tNil)) (tC (.int 1))))) (gName 4)) tNext)
    (tSeq (tAsg (tFrz (tOp (rCatL K) (tLst (tCons (tVar 4) tNil)) (tLc (iStr (tC (.str "0123456789"))) (gName 8) tYes (tOp rCatS (tSl rSlS (tVar 4) tNoPart (tPart (tC (.int 11)))) (tVar 8)) [8]))) (gName 5))
    (tSeq (tAsg (tLc (iList K (tVar 5)) (gName 7) (tAnd (tTest (tOp (rIn K true) (tVar 7) (tVar 2))) (tTest (tOp rNe (tVar 7) (tC (.str "frame"))))) (tVar 7) [7]) (gName 6))
    (tDrop (tBM K "list" rAppend (tVar 2) (tCons (tOp (rIxL K) (tVar 6) (tC (.int 0))) tNil))))))))
    (tFrzS 2 (tRet (tVar 2)))))
def p_law_names (C : AD) : PSx :=
    (pSeq (pNew (pLst pNil) 2)
    (pSeq (pFor (pIR (pCons (pVar 1) pNil)) (pgName 3) (pSeq (pAsg (pCall (q_law_word) (pCons (pVar 0) pNil)) (pgName 4))
    (pSeq (pIfS (pAnd (pTest (pOp (fIB fun i j => decide (j < i)) (pVar 3) (pC (cI 0)))) (pTest (pOp (fEq id) (pCall (q_law_take) (pCons (pVar 0) (pCons (pC (cI 2)) pNil))) (pC (cI 0))))) (pAsg (pOp fCatS (pSlS (pOp fIxL (pVar 2) (pCall (q_law_take) (pCons (pVar 0) (pCons (pVar 3) pNil)))) pNoPart (pPart (pC (cI 11)))) (pOp fIxS (pVar 4) (pOp (fI fun i j => i - j) (pCB gLenS (pCons (pVar 4) pNil)) (pC (cI 1))))) (pgName 4)) pNext)
    (pSeq (pAsg (pFrz (pOpN fCatL (pNewL (pLst (pCons (pVar 4) pNil))) (pNewL (pLc (pIS (pC (cS "0123456789"))) (pgName 8) pYes (pOp fCatS (pSlS (pVar 4) pNoPart (pPart (pC (cI 11)))) (pVar 8)) [8])))) (pgName 5))
    (pSeq (pNew (pLc (pIL (pVar 5)) (pgName 7) (pAnd (pTest (pOp (fInS not) (pVar 7) (pVar 2))) (pTest (pOp (fEq not) (pVar 7) (pC (cS "frame"))))) (pVar 7) [7]) 6)
    (pApp 2 (pOp fIxL (pVar 6) (pC (cI 0)))))))))
    (pFrzC 2 (pRet (pVar 2)))))
theorem l_law_names (B : Fl K C) {s c : Addr} {H0 : Hp} : LS K s c H0 (t_law_names K C) (p_law_names C) :=
    (S_seq (S_new 2 (L_lst L_nil))
    (S_seq (S_for (I_rng1 (L_cons (L_var 1) L_nil)) (G_name 3) (S_seq (S_asg (L_call m_law_word (L_cons (L_var 0) L_nil)) (G_name 4))
    (S_seq (S_if (L_and (L_test (L_op (O_IB fun i j => decide (j < i)) (L_var 3) (L_int 0))) (L_test (L_op O_eq (L_call m_law_take (L_cons (L_var 0) (L_cons (L_int 2) L_nil))) (L_int 0)))) (S_asg (L_op O_catS (L_slS (L_op O_ixL (L_var 2) (L_call m_law_take (L_cons (L_var 0) (L_cons (L_var 3) L_nil)))) L_noPart (L_part (L_int 11))) (L_op O_ixS (L_var 4) (L_op (O_I fun i j => i - j) (L_cb C_lenS (L_cons (L_var 4) L_nil)) (L_int 1)))) (G_name 4)) S_next)
    (S_seq (S_asg (LN.frz (L_opN O_catL (LN.le (L_lst (L_cons (L_var 4) L_nil))) (LN.le (L_lc (I_str (L_str "0123456789")) (G_name 8) L_yes (L_op O_catS (L_slS (L_var 4) L_noPart (L_part (L_int 11))) (L_var 8)))))) (G_name 5))
    (S_seq (S_new 6 (L_lc (I_list (L_var 5)) (G_name 7) (L_and (L_test (L_op O_notInS (L_var 7) (L_var 2))) (L_test (L_op O_ne (L_var 7) (L_str "frame")))) (L_var 7)))
    (S_app 2 (L_op O_ixL (L_var 6) (L_int 0))))))))
    (S_frzC 2 (S_ret (L_var 2)))))
theorem st_law_names (d0 d1 : D) : startD n_law_names [d0, d1] = [some (.dat d0), some (.dat d1), none, none, none, none, none, none, none] := rfl
/-- _law_number -/
abbrev n_law_number : List Str := ["_law_source_here", "_law_kind", "_law_number_here", "_law_k"]
def t_law_number (K : PySem.W.Frag) (C : AD) : TS :=
    (tSeq (tAsg (tCall (up K (q_law_take)) [] E0 (tCons (tVar 0) (tCons (tC (.int 8)) tNil))) (gName 1))
    (tSeq (tIfS (tTest (tOp rLtI (tVar 1) (tC (.int 6)))) (tRet (tOp rSubI (tCall (up K (q_law_take)) [] E0 (tCons (tVar 0) (tCons (tC (.int 16)) tNil))) (tC (.int 4)))) tNext)
    (tSeq (tAsg (tC (.int 0)) (gName 2))
    (tSeq (tFor (iRng1 (tCons (tOp rAddI (tC (.int 1)) (tOp (rI CMulW fun i j => .int (i * j)) (tC (.int 5)) (tOp rSubI (tVar 1) (tC (.int 6))))) tNil)) (gName 3) (tAsg (tOp rAddI (tOp (rI CMulW fun i j => .int (i * j)) (tVar 2) (tC (.int 10000000000))) (tCall (up K (q_law_take)) [] E0 (tCons (tVar 0) (tCons (tC (.int 10000000000)) tNil)))) (gName 2)))
    (tRet (tOp rSubI (tVar 2) (tOp (rI CMulW fun i j => .int (i * j)) (tOp (rI CMulW fun i j => .int (i * j)) (tC (.int 2)) (tVar 2)) (tCall (up K (q_law_take)) [] E0 (tCons (tVar 0) (tCons (tC (.int 2)) tNil))))))))))
def p_law_number (C : AD) : PSx :=
    (pSeq (pAsg (pCall (q_law_take) (pCons (pVar 0) (pCons (pC (cI 8)) pNil))) (pgName 1))
    (pSeq (pIfS (pTest (pOp (fIB fun i j => decide (i < j)) (pVar 1) (pC (cI 6)))) (pRet (pOp (fI fun i j => i - j) (pCall (q_law_take) (pCons (pVar 0) (pCons (pC (cI 16)) pNil))) (pC (cI 4)))) pNext)
    (pSeq (pAsg (pC (cI 0)) (pgName 2))
    (pSeq (pFor (pIR (pCons (pOp (fI fun i j => i + j) (pC (cI 1)) (pOp (fIC CMulW fun i j => i * j) (pC (cI 5)) (pOp (fI fun i j => i - j) (pVar 1) (pC (cI 6))))) pNil)) (pgName 3) (pAsg (pOp (fI fun i j => i + j) (pOp (fIC CMulW fun i j => i * j) (pVar 2) (pC (cI 10000000000))) (pCall (q_law_take) (pCons (pVar 0) (pCons (pC (cI 10000000000)) pNil)))) (pgName 2)))
    (pRet (pOp (fI fun i j => i - j) (pVar 2) (pOp (fIC CMulW fun i j => i * j) (pOp (fIC CMulW fun i j => i * j) (pC (cI 2)) (pVar 2)) (pCall (q_law_take) (pCons (pVar 0) (pCons (pC (cI 2)) pNil))))))))))
theorem l_law_number (B : Fl K C) {s c : Addr} {H0 : Hp} : LS K s c H0 (t_law_number K C) (p_law_number C) :=
    (S_seq (S_asg (L_call m_law_take (L_cons (L_var 0) (L_cons (L_int 8) L_nil))) (G_name 1))
    (S_seq (S_if (L_test (L_op (O_IB fun i j => decide (i < j)) (L_var 1) (L_int 6))) (S_ret (L_op (O_I fun i j => i - j) (L_call m_law_take (L_cons (L_var 0) (L_cons (L_int 16) L_nil))) (L_int 4))) S_next)
    (S_seq (S_asg (L_int 0) (G_name 2))
    (S_seq (S_for (I_rng1 (L_cons (L_op (O_I fun i j => i + j) (L_int 1) (L_op (O_IC CMulW fun i j => i * j) (L_int 5) (L_op (O_I fun i j => i - j) (L_var 1) (L_int 6)))) L_nil)) (G_name 3) (S_asg (L_op (O_I fun i j => i + j) (L_op (O_IC CMulW fun i j => i * j) (L_var 2) (L_int 10000000000)) (L_call m_law_take (L_cons (L_var 0) (L_cons (L_int 10000000000) L_nil)))) (G_name 2)))
    (S_ret (L_op (O_I fun i j => i - j) (L_var 2) (L_op (O_IC CMulW fun i j => i * j) (L_op (O_IC CMulW fun i j => i * j) (L_int 2) (L_var 2)) (L_call m_law_take (L_cons (L_var 0) (L_cons (L_int 2) L_nil))))))))))
theorem st_law_number (d0 : D) : startD n_law_number [d0] = [some (.dat d0), none, none, none] := rfl
/-- _law_times -/
abbrev n_law_times : List Str := ["_law_source_here", "_law_number_here"]
def t_law_times (K : PySem.W.Frag) (C : AD) : TS :=
    (tSeq (tAsg (tCall (up K (q_law_number)) [] E0 (tCons (tVar 0) tNil)) (gName 1))
    (tSeq (tIfS (tTest (tOp rEq (tVar 1) (tC (.int 0)))) (tRet (tC (.int 1))) tNext)
    (tRet (tVar 1))))
def p_law_times (C : AD) : PSx :=
    (pSeq (pAsg (pCall (q_law_number) (pCons (pVar 0) pNil)) (pgName 1))
    (pSeq (pIfS (pTest (pOp (fEq id) (pVar 1) (pC (cI 0)))) (pRet (pC (cI 1))) pNext)
    (pRet (pVar 1))))
theorem l_law_times (B : Fl K C) {s c : Addr} {H0 : Hp} : LS K s c H0 (t_law_times K C) (p_law_times C) :=
    (S_seq (S_asg (L_call m_law_number (L_cons (L_var 0) L_nil)) (G_name 1))
    (S_seq (S_if (L_test (L_op O_eq (L_var 1) (L_int 0))) (S_ret (L_int 1)) S_next)
    (S_ret (L_var 1))))
theorem st_law_times (d0 : D) : startD n_law_times [d0] = [some (.dat d0), none] := rfl
/-- _law_stack -/
abbrev n_law_stack : List Str := ["_law_source_here", "_law_signs", "_law_size_here", "_law_stack_here", "_law_k"]
def t_law_stack (K : PySem.W.Frag) (C : AD) : TS :=
    (tSeq (tAsg (tC (.str "!\"#$&'()*+,-./0123456789:;<=>?@ABCDEFGHIJKLMNOPQRSTUVWXYZ[\\]^_`abcdefghijklmnopqrstuvwxyz{|}~")) (gName 1))
    (tSeq (tAsg (tCall (up K (q_law_take)) [] E0 (tCons (tVar 0) (tCons (tC (.int 8)) tNil))) (gName 2))
    (tSeq (tIfS (tTest (tOp rEq (tVar 2) (tC (.int 7)))) (tAsg (tCall (up K (q_law_take)) [] E0 (tCons (tVar 0) (tCons (tC (.int 41)) tNil))) (gName 2)) (tAsg (tCB rMax2 (tCons (tC (.int 0)) (tCons (tOp rSubI (tVar 2) (tC (.int 2))) tNil))) (gName 2)))
    (tSeq (tAsg (tC (.str "")) (gName 3))
    (tSeq (tFor (iRng1 (tCons (tVar 2) tNil)) (gName 4) (tAsg (tOp rCatS (tVar 3) (tOp rIxS (tVar 1) (tCall (up K (q_law_take)) [] E0 (tCons (tVar 0) (tCons (tCB cLenS (tCons (tVar 1) tNil)) tNil))))) (gName 3)))
    (tRet (tVar 3)))))))
def p_law_stack (C : AD) : PSx :=
    (pSeq (pAsg (pC (cS "!\"#$&'()*+,-./0123456789:;<=>?@ABCDEFGHIJKLMNOPQRSTUVWXYZ[\\]^_`abcdefghijklmnopqrstuvwxyz{|}~")) (pgName 1))
    (pSeq (pAsg (pCall (q_law_take) (pCons (pVar 0) (pCons (pC (cI 8)) pNil))) (pgName 2))
    (pSeq (pIfS (pTest (pOp (fEq id) (pVar 2) (pC (cI 7)))) (pAsg (pCall (q_law_take) (pCons (pVar 0) (pCons (pC (cI 41)) pNil))) (pgName 2)) (pAsg (pCB gMax2 (pCons (pC (cI 0)) (pCons (pOp (fI fun i j => i - j) (pVar 2) (pC (cI 2))) pNil))) (pgName 2)))
    (pSeq (pAsg (pC (cS "")) (pgName 3))
    (pSeq (pFor (pIR (pCons (pVar 2) pNil)) (pgName 4) (pAsg (pOp fCatS (pVar 3) (pOp fIxS (pVar 1) (pCall (q_law_take) (pCons (pVar 0) (pCons (pCB gLenS (pCons (pVar 1) pNil)) pNil))))) (pgName 3)))
    (pRet (pVar 3)))))))
theorem l_law_stack (B : Fl K C) {s c : Addr} {H0 : Hp} : LS K s c H0 (t_law_stack K C) (p_law_stack C) :=
    (S_seq (S_asg (L_str "!\"#$&'()*+,-./0123456789:;<=>?@ABCDEFGHIJKLMNOPQRSTUVWXYZ[\\]^_`abcdefghijklmnopqrstuvwxyz{|}~") (G_name 1))
    (S_seq (S_asg (L_call m_law_take (L_cons (L_var 0) (L_cons (L_int 8) L_nil))) (G_name 2))
    (S_seq (S_if (L_test (L_op O_eq (L_var 2) (L_int 7))) (S_asg (L_call m_law_take (L_cons (L_var 0) (L_cons (L_int 41) L_nil))) (G_name 2)) (S_asg (L_cb C_max2 (L_cons (L_int 0) (L_cons (L_op (O_I fun i j => i - j) (L_var 2) (L_int 2)) L_nil))) (G_name 2)))
    (S_seq (S_asg (L_str "") (G_name 3))
    (S_seq (S_for (I_rng1 (L_cons (L_var 2) L_nil)) (G_name 4) (S_asg (L_op O_catS (L_var 3) (L_op O_ixS (L_var 1) (L_call m_law_take (L_cons (L_var 0) (L_cons (L_cb C_lenS (L_cons (L_var 1) L_nil)) L_nil))))) (G_name 3)))
    (S_ret (L_var 3)))))))
theorem st_law_stack (d0 : D) : startD n_law_stack [d0] = [some (.dat d0), none, none, none, none] := rfl
/-- _law_fresh -/
abbrev n_law_fresh : List Str := ["_law_source_here", "_law_parts", "_law_measures", "_law_upper", "_law_others", "_law_lower", "_law_share", "_law_terms", "_law_name", "_law_whole"]
def t_law_fresh (K : PySem.W.Frag) (C : AD) : TS :=
    (tSeq (tAsg (tOp (rIxL K) (tVar 1) (tCall (up K (q_law_take)) [] E0 (tCons (tVar 0) (tCons (tCB (cLenQ K) (tCons (tVar 1) tNil)) tNil)))) (gName 3))
    (tSeq (tAsg (tLc (iList K (tVar 1)) (gName 8) (tTest (tOp rNe (tVar 8) (tVar 3))) (tVar 8) [8]) (gName 4))
    (tSeq (tAsg (tOp (rIxL K) (tVar 4) (tCall (up K (q_law_take)) [] E0 (tCons (tVar 0) (tCons (tCB (cLenQ K) (tCons (tVar 4) tNil)) tNil)))) (gName 5))
    (tSeq (tAsg (tOp rAddI (tC (.int 2)) (tCall (up K (q_law_take)) [] E0 (tCons (tVar 0) (tCons (tC (.int 3)) tNil)))) (gName 6))
    (tSeq (tAsg (tLst tNil) (gName 7))
    (tSeq (tFor (iList K (tVar 2)) (gName 8) (tIfS (tTest (tOp rEq (tCall (up K (q_law_take)) [] E0 (tCons (tVar 0) (tCons (tVar 6) tNil))) (tC (.int 0)))) (tDrop (tBM K "list" rAppend (tVar 7) (tCons (tTup (tCons (tVar 8) (tCons (tCall (up K (q_law_times)) [] E0 (tCons (tVar 0) tNil)) tNil))) tNil))) tNext))
    (tSeq (tAsg (tTup (tCons (tCall (up K (q_law_number)) [] E0 (tCons (tVar 0) tNil)) (tCons (tCB (cTuple K) (tCons (tVar 7) tNil)) tNil))) (gName 9))
    (tSeq (tIfS (tTest (tOp rEq (tCall (up K (q_law_take)) [] E0 (tCons (tVar 0) (tCons (tC (.int 2)) tNil))) (tC (.int 0)))) (tRet (tTup (tCons (tC (.str "reach")) (tCons (tVar 3) (tCons (tVar 5) (tCons (tVar 9) tNil)))))) tNext)
    (tRet (tTup (tCons (tC (.str "room")) (tCons (tVar 3) (tCons (tVar 5) (tCons (tCall (up K (q_law_stack)) [] E0 (tCons (tVar 0) tNil)) (tCons (tVar 9) tNil)))))))))))))))
def p_law_fresh (C : AD) : PSx :=
    (pSeq (pAsg (pOp fIxL (pVar 1) (pCall (q_law_take) (pCons (pVar 0) (pCons (pCB gLenQ (pCons (pVar 1) pNil)) pNil)))) (pgName 3))
    (pSeq (pNew (pLc (pIL (pVar 1)) (pgName 8) (pTest (pOp (fEq not) (pVar 8) (pVar 3))) (pVar 8) [8]) 4)
    (pSeq (pAsg (pOp fIxL (pVar 4) (pCall (q_law_take) (pCons (pVar 0) (pCons (pCB gLenQ (pCons (pVar 4) pNil)) pNil)))) (pgName 5))
    (pSeq (pAsg (pOp (fI fun i j => i + j) (pC (cI 2)) (pCall (q_law_take) (pCons (pVar 0) (pCons (pC (cI 3)) pNil)))) (pgName 6))
    (pSeq (pNew (pLst pNil) 7)
    (pSeq (pFor (pIL (pVar 2)) (pgName 8) (pIfS (pTest (pOp (fEq id) (pCall (q_law_take) (pCons (pVar 0) (pCons (pVar 6) pNil))) (pC (cI 0)))) (pApp 7 (pTup (pCons (pVar 8) (pCons (pCall (q_law_times) (pCons (pVar 0) pNil)) pNil)))) pNext))
    (pSeq (pAsg (pTup (pCons (pCall (q_law_number) (pCons (pVar 0) pNil)) (pCons (pCB gTuple (pCons (pVar 7) pNil)) pNil))) (pgName 9))
    (pSeq (pIfS (pTest (pOp (fEq id) (pCall (q_law_take) (pCons (pVar 0) (pCons (pC (cI 2)) pNil))) (pC (cI 0)))) (pRet (pTup (pCons (pC (cS "reach")) (pCons (pVar 3) (pCons (pVar 5) (pCons (pVar 9) pNil)))))) pNext)
    (pRet (pTup (pCons (pC (cS "room")) (pCons (pVar 3) (pCons (pVar 5) (pCons (pCall (q_law_stack) (pCons (pVar 0) pNil)) (pCons (pVar 9) pNil)))))))))))))))
theorem l_law_fresh (B : Fl K C) {s c : Addr} {H0 : Hp} : LS K s c H0 (t_law_fresh K C) (p_law_fresh C) :=
    (S_seq (S_asg (L_op O_ixL (L_var 1) (L_call m_law_take (L_cons (L_var 0) (L_cons (L_cb C_lenQ (L_cons (L_var 1) L_nil)) L_nil)))) (G_name 3))
    (S_seq (S_new 4 (L_lc (I_list (L_var 1)) (G_name 8) (L_test (L_op O_ne (L_var 8) (L_var 3))) (L_var 8)))
    (S_seq (S_asg (L_op O_ixL (L_var 4) (L_call m_law_take (L_cons (L_var 0) (L_cons (L_cb C_lenQ (L_cons (L_var 4) L_nil)) L_nil)))) (G_name 5))
    (S_seq (S_asg (L_op (O_I fun i j => i + j) (L_int 2) (L_call m_law_take (L_cons (L_var 0) (L_cons (L_int 3) L_nil)))) (G_name 6))
    (S_seq (S_new 7 (L_lst L_nil))
    (S_seq (S_for (I_list (L_var 2)) (G_name 8) (S_if (L_test (L_op O_eq (L_call m_law_take (L_cons (L_var 0) (L_cons (L_var 6) L_nil))) (L_int 0))) (S_app 7 (L_tup (L_cons (L_var 8) (L_cons (L_call m_law_times (L_cons (L_var 0) L_nil)) L_nil)))) S_next))
    (S_seq (S_asg (L_tup (L_cons (L_call m_law_number (L_cons (L_var 0) L_nil)) (L_cons (L_cb C_tuple (L_cons (L_var 7) L_nil)) L_nil))) (G_name 9))
    (S_seq (S_if (L_test (L_op O_eq (L_call m_law_take (L_cons (L_var 0) (L_cons (L_int 2) L_nil))) (L_int 0))) (S_ret (L_tup (L_cons (L_str "reach") (L_cons (L_var 3) (L_cons (L_var 5) (L_cons (L_var 9) L_nil)))))) S_next)
    (S_ret (L_tup (L_cons (L_str "room") (L_cons (L_var 3) (L_cons (L_var 5) (L_cons (L_call m_law_stack (L_cons (L_var 0) L_nil)) (L_cons (L_var 9) L_nil)))))))))))))))
theorem st_law_fresh (d0 d1 d2 : D) : startD n_law_fresh [d0, d1, d2] = [some (.dat d0), some (.dat d1), some (.dat d2), none, none, none, none, none, none, none] := rfl
/-- _law_built -/
abbrev n_law_built : List Str := ["_law_kind", "_law_upper", "_law_lower", "_law_stack_here", "_law_whole"]
def t_law_built (K : PySem.W.Frag) (C : AD) : TS :=
    (tSeq (tIfS (tTest (tOp rEq (tVar 0) (tC (.str "reach")))) (tRet (tTup (tCons (tC (.str "reach")) (tCons (tVar 1) (tCons (tVar 2) (tCons (tVar 4) tNil)))))) tNext)
    (tRet (tTup (tCons (tC (.str "room")) (tCons (tVar 1) (tCons (tVar 2) (tCons (tVar 3) (tCons (tVar 4) tNil))))))))
def p_law_built (C : AD) : PSx :=
    (pSeq (pIfS (pTest (pOp (fEq id) (pVar 0) (pC (cS "reach")))) (pRet (pTup (pCons (pC (cS "reach")) (pCons (pVar 1) (pCons (pVar 2) (pCons (pVar 4) pNil)))))) pNext)
    (pRet (pTup (pCons (pC (cS "room")) (pCons (pVar 1) (pCons (pVar 2) (pCons (pVar 3) (pCons (pVar 4) pNil))))))))
theorem l_law_built (B : Fl K C) {s c : Addr} {H0 : Hp} : LS K s c H0 (t_law_built K C) (p_law_built C) :=
    (S_seq (S_if (L_test (L_op O_eq (L_var 0) (L_str "reach"))) (S_ret (L_tup (L_cons (L_str "reach") (L_cons (L_var 1) (L_cons (L_var 2) (L_cons (L_var 4) L_nil)))))) S_next)
    (S_ret (L_tup (L_cons (L_str "room") (L_cons (L_var 1) (L_cons (L_var 2) (L_cons (L_var 3) (L_cons (L_var 4) L_nil))))))))
theorem st_law_built (d0 d1 d2 d3 d4 : D) : startD n_law_built [d0, d1, d2, d3, d4] = [some (.dat d0), some (.dat d1), some (.dat d2), some (.dat d3), some (.dat d4)] := rfl
/-- _law_near -/
abbrev n_law_near : List Str := ["_law_source_here", "_law_old", "_law_other", "_law_stack_here", "_law_way", "_law_kind", "_law_upper", "_law_lower", "_law_constant", "_law_terms", "_law_name", "_law_times_here"]
def t_law_near (K : PySem.W.Frag) (C : AD) : TS :=
    (tSeq (tPar3 5 6 7 (tCons (tOp (rIxT K) (tVar 1) (tC (.int 0))) (tCons (tOp (rIxT K) (tVar 1) (tC (.int 1))) (tCons (tOp (rIxT K) (tVar 1) (tC (.int 2))) tNil))))
    (tSeq (tAsg (tIf (tTest (tOp rEq (tVar 5) (tC (.str "room")))) (tOp (rIxT K) (tVar 1) (tC (.int 3))) (tC (.str ""))) (gName 3))
    (tSeq (tAsg (tOp (rIxT K) (tVar 1) (tOp rSubI (tCB (cLenQ K) (tCons (tVar 1) tNil)) (tC (.int 1)))) (gTup K 2 (gCons (gName 8) (gCons (gName 9) gNil))))
    (tSeq (tAsg (tCall (up K (q_law_take)) [] E0 (tCons (tVar 0) (tCons (tC (.int 8)) tNil))) (gName 4))
    (tSeq (tIfS (tTest (tOp rEq (tVar 4) (tC (.int 0)))) (tAsg (tOp (rIxT K) (tVar 2) (tC (.int 0))) (gName 5)) tNext)
    (tSeq (tIfS (tTest (tOp rEq (tVar 4) (tC (.int 1)))) (tPar 6 7 (tCons (tVar 7) (tCons (tVar 6) tNil))) tNext)
    (tSeq (tIfS (tTest (tOp rEq (tVar 4) (tC (.int 2)))) (tPar 6 7 (tCons (tOp (rIxT K) (tVar 2) (tC (.int 1))) (tCons (tOp (rIxT K) (tVar 2) (tC (.int 2))) tNil))) tNext)
    (tSeq (tIfS (tTest (tOp rEq (tVar 4) (tC (.int 3)))) (tPar 5 3 (tCons (tC (.str "room")) (tCons (tIf (tTest (tOp rEq (tOp (rIxT K) (tVar 2) (tC (.int 0))) (tC (.str "room")))) (tOp (rIxT K) (tVar 2) (tC (.int 3))) (tOp rCatS (tVar 3) (tC (.str "!")))) tNil))) tNext)
    (tSeq (tIfS (tTest (tOp rEq (tVar 4) (tC (.int 4)))) (tAsg (tIf (tTest (tOp rGtI (tVar 8) (tC (.int 0)))) (tOp rSubI (tVar 8) (tC (.int 1))) (tOp rAddI (tVar 8) (tC (.int 1)))) (gName 8)) tNext)
    (tSeq (tIfS (tTest (tOp rEq (tVar 4) (tC (.int 5)))) (tAsg (tOp (rIxT K) (tOp (rIxT K) (tVar 2) (tOp rSubI (tCB (cLenQ K) (tCons (tVar 2) tNil)) (tC (.int 1)))) (tC (.int 0))) (gName 8)) tNext)
    (tSeq (tIfS (tTest (tOp rEq (tVar 4) (tC (.int 6)))) (tAsg (tOp (rIxT K) (tOp (rIxT K) (tVar 2) (tOp rSubI (tCB (cLenQ K) (tCons (tVar 2) tNil)) (tC (.int 1)))) (tC (.int 1))) (gName 9)) tNext)
    (tSeq (tIfS (tAnd (tTest (tOp rEq (tVar 4) (tC (.int 7)))) (tTest (tOp rGtI (tCB (cLenQ K) (tCons (tVar 9) tNil)) (tC (.int 0))))) (tSeq (tAsg (tOp (rIxT K) (tVar 9) (tOp rSubI (tCB (cLenQ K) (tCons (tVar 9) tNil)) (tC (.int 1)))) (gTup K 2 (gCons (gName 10) (gCons (gName 11) gNil))))
    (tAsg (tOp (rCatA K) (tSl (rSlA K) (tVar 9) tNoPart (tPart (tOp rSubI (tCB (cLenQ K) (tCons (tVar 9) tNil)) (tC (.int 1))))) (tTup (tCons (tTup (tCons (tVar 10) (tCons (tUn (rU fun i => .int (-i)) (tVar 11)) tNil))) tNil))) (gName 9))) tNext)
    (tRet (tCall (up K (q_law_built)) [] E0 (tCons (tVar 5) (tCons (tVar 6) (tCons (tVar 7) (tCons (tVar 3) (tCons (tTup (tCons (tVar 8) (tCons (tVar 9) tNil))) tNil)))))))))))))))))))
def p_law_near (C : AD) : PSx :=
    (pSeq (pPar3 5 6 7 (pCons (pOp fIxT (pVar 1) (pC (cI 0))) (pCons (pOp fIxT (pVar 1) (pC (cI 1))) (pCons (pOp fIxT (pVar 1) (pC (cI 2))) pNil))))
    (pSeq (pAsg (pIf (pTest (pOp (fEq id) (pVar 5) (pC (cS "room")))) (pOp fIxT (pVar 1) (pC (cI 3))) (pC (cS ""))) (pgName 3))
    (pSeq (pAsg (pOp fIxT (pVar 1) (pOp (fI fun i j => i - j) (pCB gLenQ (pCons (pVar 1) pNil)) (pC (cI 1)))) (pgTup (pgCons (pgName 8) (pgCons (pgName 9) pgNil))))
    (pSeq (pAsg (pCall (q_law_take) (pCons (pVar 0) (pCons (pC (cI 8)) pNil))) (pgName 4))
    (pSeq (pIfS (pTest (pOp (fEq id) (pVar 4) (pC (cI 0)))) (pAsg (pOp fIxT (pVar 2) (pC (cI 0))) (pgName 5)) pNext)
    (pSeq (pIfS (pTest (pOp (fEq id) (pVar 4) (pC (cI 1)))) (pPar 6 7 (pCons (pVar 7) (pCons (pVar 6) pNil))) pNext)
    (pSeq (pIfS (pTest (pOp (fEq id) (pVar 4) (pC (cI 2)))) (pPar 6 7 (pCons (pOp fIxT (pVar 2) (pC (cI 1))) (pCons (pOp fIxT (pVar 2) (pC (cI 2))) pNil))) pNext)
    (pSeq (pIfS (pTest (pOp (fEq id) (pVar 4) (pC (cI 3)))) (pPar 5 3 (pCons (pC (cS "room")) (pCons (pIf (pTest (pOp (fEq id) (pOp fIxT (pVar 2) (pC (cI 0))) (pC (cS "room")))) (pOp fIxT (pVar 2) (pC (cI 3))) (pOp fCatS (pVar 3) (pC (cS "!")))) pNil))) pNext)
    (pSeq (pIfS (pTest (pOp (fEq id) (pVar 4) (pC (cI 4)))) (pAsg (pIf (pTest (pOp (fIB fun i j => decide (j < i)) (pVar 8) (pC (cI 0)))) (pOp (fI fun i j => i - j) (pVar 8) (pC (cI 1))) (pOp (fI fun i j => i + j) (pVar 8) (pC (cI 1)))) (pgName 8)) pNext)
    (pSeq (pIfS (pTest (pOp (fEq id) (pVar 4) (pC (cI 5)))) (pAsg (pOp fIxT (pOp fIxT (pVar 2) (pOp (fI fun i j => i - j) (pCB gLenQ (pCons (pVar 2) pNil)) (pC (cI 1)))) (pC (cI 0))) (pgName 8)) pNext)
    (pSeq (pIfS (pTest (pOp (fEq id) (pVar 4) (pC (cI 6)))) (pAsg (pOp fIxT (pOp fIxT (pVar 2) (pOp (fI fun i j => i - j) (pCB gLenQ (pCons (pVar 2) pNil)) (pC (cI 1)))) (pC (cI 1))) (pgName 9)) pNext)
    (pSeq (pIfS (pAnd (pTest (pOp (fEq id) (pVar 4) (pC (cI 7)))) (pTest (pOp (fIB fun i j => decide (j < i)) (pCB gLenQ (pCons (pVar 9) pNil)) (pC (cI 0))))) (pSeq (pAsg (pOp fIxT (pVar 9) (pOp (fI fun i j => i - j) (pCB gLenQ (pCons (pVar 9) pNil)) (pC (cI 1)))) (pgTup (pgCons (pgName 10) (pgCons (pgName 11) pgNil))))
    (pAsg (pOp fCatA (pSlA (pVar 9) pNoPart (pPart (pOp (fI fun i j => i - j) (pCB gLenQ (pCons (pVar 9) pNil)) (pC (cI 1))))) (pTup (pCons (pTup (pCons (pVar 10) (pCons (pUn fNeg (pVar 11)) pNil))) pNil))) (pgName 9))) pNext)
    (pRet (pCall (q_law_built) (pCons (pVar 5) (pCons (pVar 6) (pCons (pVar 7) (pCons (pVar 3) (pCons (pTup (pCons (pVar 8) (pCons (pVar 9) pNil))) pNil)))))))))))))))))))
theorem l_law_near (B : Fl K C) {s c : Addr} {H0 : Hp} : LS K s c H0 (t_law_near K C) (p_law_near C) :=
    (S_seq (S_par3 5 6 7 (L_cons (L_op O_ixT (L_var 1) (L_int 0)) (L_cons (L_op O_ixT (L_var 1) (L_int 1)) (L_cons (L_op O_ixT (L_var 1) (L_int 2)) L_nil))))
    (S_seq (S_asg (L_if (L_test (L_op O_eq (L_var 5) (L_str "room"))) (L_op O_ixT (L_var 1) (L_int 3)) (L_str "")) (G_name 3))
    (S_seq (S_asg (L_op O_ixT (L_var 1) (L_op (O_I fun i j => i - j) (L_cb C_lenQ (L_cons (L_var 1) L_nil)) (L_int 1))) (G_tup (G_cons (G_name 8) (G_cons (G_name 9) G_nil)) (fun _ _ _ h => glen_cons (fun _ _ _ h => glen_cons (fun _ _ _ h => glen_nil h) (name_some 9) h) (name_some 8) h)))
    (S_seq (S_asg (L_call m_law_take (L_cons (L_var 0) (L_cons (L_int 8) L_nil))) (G_name 4))
    (S_seq (S_if (L_test (L_op O_eq (L_var 4) (L_int 0))) (S_asg (L_op O_ixT (L_var 2) (L_int 0)) (G_name 5)) S_next)
    (S_seq (S_if (L_test (L_op O_eq (L_var 4) (L_int 1))) (S_par 6 7 (L_cons (L_var 7) (L_cons (L_var 6) L_nil))) S_next)
    (S_seq (S_if (L_test (L_op O_eq (L_var 4) (L_int 2))) (S_par 6 7 (L_cons (L_op O_ixT (L_var 2) (L_int 1)) (L_cons (L_op O_ixT (L_var 2) (L_int 2)) L_nil))) S_next)
    (S_seq (S_if (L_test (L_op O_eq (L_var 4) (L_int 3))) (S_par 5 3 (L_cons (L_str "room") (L_cons (L_if (L_test (L_op O_eq (L_op O_ixT (L_var 2) (L_int 0)) (L_str "room"))) (L_op O_ixT (L_var 2) (L_int 3)) (L_op O_catS (L_var 3) (L_str "!"))) L_nil))) S_next)
    (S_seq (S_if (L_test (L_op O_eq (L_var 4) (L_int 4))) (S_asg (L_if (L_test (L_op (O_IB fun i j => decide (j < i)) (L_var 8) (L_int 0))) (L_op (O_I fun i j => i - j) (L_var 8) (L_int 1)) (L_op (O_I fun i j => i + j) (L_var 8) (L_int 1))) (G_name 8)) S_next)
    (S_seq (S_if (L_test (L_op O_eq (L_var 4) (L_int 5))) (S_asg (L_op O_ixT (L_op O_ixT (L_var 2) (L_op (O_I fun i j => i - j) (L_cb C_lenQ (L_cons (L_var 2) L_nil)) (L_int 1))) (L_int 0)) (G_name 8)) S_next)
    (S_seq (S_if (L_test (L_op O_eq (L_var 4) (L_int 6))) (S_asg (L_op O_ixT (L_op O_ixT (L_var 2) (L_op (O_I fun i j => i - j) (L_cb C_lenQ (L_cons (L_var 2) L_nil)) (L_int 1))) (L_int 1)) (G_name 9)) S_next)
    (S_seq (S_if (L_and (L_test (L_op O_eq (L_var 4) (L_int 7))) (L_test (L_op (O_IB fun i j => decide (j < i)) (L_cb C_lenQ (L_cons (L_var 9) L_nil)) (L_int 0)))) (S_seq (S_asg (L_op O_ixT (L_var 9) (L_op (O_I fun i j => i - j) (L_cb C_lenQ (L_cons (L_var 9) L_nil)) (L_int 1))) (G_tup (G_cons (G_name 10) (G_cons (G_name 11) G_nil)) (fun _ _ _ h => glen_cons (fun _ _ _ h => glen_cons (fun _ _ _ h => glen_nil h) (name_some 11) h) (name_some 10) h)))
    (S_asg (L_op O_catA (L_slA (L_var 9) L_noPart (L_part (L_op (O_I fun i j => i - j) (L_cb C_lenQ (L_cons (L_var 9) L_nil)) (L_int 1)))) (L_tup (L_cons (L_tup (L_cons (L_var 10) (L_cons (L_un U_neg (L_var 11)) L_nil))) L_nil))) (G_name 9))) S_next)
    (S_ret (L_call m_law_built (L_cons (L_var 5) (L_cons (L_var 6) (L_cons (L_var 7) (L_cons (L_var 3) (L_cons (L_tup (L_cons (L_var 8) (L_cons (L_var 9) L_nil))) L_nil)))))))))))))))))))
theorem st_law_near (d0 d1 d2 : D) : startD n_law_near [d0, d1, d2] = [some (.dat d0), some (.dat d1), some (.dat d2), none, none, none, none, none, none, none, none, none] := rfl
/-- _law_ordered -/
abbrev n_law_ordered : List Str := ["_law_rows", "_law_done", "_law_row", "_law_at", "_law_k"]
def t_law_ordered (K : PySem.W.Frag) (C : AD) : TS :=
    (tSeq (tAsg (tFrz (tLst tNil)) (gName 1))
    (tSeq (tFor (iList K (tVar 0)) (gName 2) (tSeq (tAsg (tC (.int 0)) (gName 3))
    (tSeq (tFor (iRng1 (tCons (tCB (cLenQ K) (tCons (tVar 1) tNil)) tNil)) (gName 4) (tIfS (tTest (tOp (rLtD K) (tOp (rIxL K) (tVar 1) (tVar 4)) (tVar 2))) (tAsg (tOp rAddI (tVar 4) (tC (.int 1))) (gName 3)) tNext))
    (tIfS (tTest (tOp (rInP K not) (tVar 2) (tVar 1))) (tAsg (tFrz (tOp (rCatL K) (tOp (rCatL K) (tSl (rSlL K) (tVar 1) tNoPart (tPart (tVar 3))) (tLst (tCons (tVar 2) tNil))) (tSl (rSlL K) (tVar 1) (tPart (tVar 3)) tNoPart))) (gName 1)) tNext))))
    (tRet (tVar 1))))
def p_law_ordered (C : AD) : PSx :=
    (pSeq (pAsg (pFrz (pLst pNil)) (pgName 1))
    (pSeq (pFor (pIL (pVar 0)) (pgName 2) (pSeq (pAsg (pC (cI 0)) (pgName 3))
    (pSeq (pFor (pIR (pCons (pCB gLenQ (pCons (pVar 1) pNil)) pNil)) (pgName 4) (pIfS (pTest (pOp fLtO (pOp fIxL (pVar 1) (pVar 4)) (pVar 2))) (pAsg (pOp (fI fun i j => i + j) (pVar 4) (pC (cI 1))) (pgName 3)) pNext))
    (pIfS (pTest (pOp (fInO not) (pVar 2) (pVar 1))) (pAsg (pFrz (pOpN fCatL (pNewL (pOpN fCatL (pNewL (pSlL (pVar 1) pNoPart (pPart (pVar 3)))) (pNewL (pLst (pCons (pVar 2) pNil))))) (pNewL (pSlL (pVar 1) (pPart (pVar 3)) pNoPart)))) (pgName 1)) pNext))))
    (pRet (pVar 1))))
theorem l_law_ordered (B : Fl K C) {s c : Addr} {H0 : Hp} : LS K s c H0 (t_law_ordered K C) (p_law_ordered C) :=
    (S_seq (S_asg (LN.frz (L_lst L_nil)) (G_name 1))
    (S_seq (S_for (I_list (L_var 0)) (G_name 2) (S_seq (S_asg (L_int 0) (G_name 3))
    (S_seq (S_for (I_rng1 (L_cons (L_cb C_lenQ (L_cons (L_var 1) L_nil)) L_nil)) (G_name 4) (S_if (L_test (L_op O_ltD (L_op O_ixL (L_var 1) (L_var 4)) (L_var 2))) (S_asg (L_op (O_I fun i j => i + j) (L_var 4) (L_int 1)) (G_name 3)) S_next))
    (S_if (L_test (L_op O_inP (L_var 2) (L_var 1))) (S_asg (LN.frz (L_opN O_catL (LN.le (L_opN O_catL (LN.le (L_slL (L_var 1) L_noPart (L_part (L_var 3)))) (LN.le (L_lst (L_cons (L_var 2) L_nil))))) (LN.le (L_slL (L_var 1) (L_part (L_var 3)) L_noPart)))) (G_name 1)) S_next))))
    (S_ret (L_var 1))))
theorem st_law_ordered (d0 : D) : startD n_law_ordered [d0] = [some (.dat d0), none, none, none, none] := rfl
/-- _law_pool -/
abbrev n_law_pool : List Str := ["_law_source_here", "_law_parts", "_law_measures", "_law_many", "_law_pool_here", "_law_k", "_law_row"]
def t_law_pool (K : PySem.W.Frag) (C : AD) : TS :=
    (tSeq (tAsg (tLst tNil) (gName 4))
    (tSeq (tFor (iRng1 (tCons (tVar 3) tNil)) (gName 5) (tSeq (tAsg (tCall (up K (q_law_fresh)) [] E0 (tCons (tVar 0) (tCons (tVar 1) (tCons (tVar 2) tNil)))) (gName 6))
    (tSeq (tIfS (tAnd (tTest (tOp rGtI (tCB (cLenQ K) (tCons (tVar 4) tNil)) (tC (.int 0)))) (tTest (tOp rGtI (tCall (up K (q_law_take)) [] E0 (tCons (tVar 0) (tCons (tC (.int 3)) tNil))) (tC (.int 0))))) (tAsg (tCall (up K (q_law_near)) [] E0 (tCons (tVar 0) (tCons (tOp (rIxL K) (tVar 4) (tCall (up K (q_law_take)) [] E0 (tCons (tVar 0) (tCons (tCB (cLenQ K) (tCons (tVar 4) tNil)) tNil)))) (tCons (tVar 6) tNil)))) (gName 6)) tNext)
    (tIfS (tTest (tOp (rInP K not) (tVar 6) (tVar 4))) (tDrop (tBM K "list" rAppend (tVar 4) (tCons (tVar 6) tNil))) tNext))))
    (tFrzS 4 (tRet (tCall (up K (q_law_ordered)) [] E0 (tCons (tVar 4) tNil))))))
def p_law_pool (C : AD) : PSx :=
    (pSeq (pNew (pLst pNil) 4)
    (pSeq (pFor (pIR (pCons (pVar 3) pNil)) (pgName 5) (pSeq (pAsg (pCall (q_law_fresh) (pCons (pVar 0) (pCons (pVar 1) (pCons (pVar 2) pNil)))) (pgName 6))
    (pSeq (pIfS (pAnd (pTest (pOp (fIB fun i j => decide (j < i)) (pCB gLenQ (pCons (pVar 4) pNil)) (pC (cI 0)))) (pTest (pOp (fIB fun i j => decide (j < i)) (pCall (q_law_take) (pCons (pVar 0) (pCons (pC (cI 3)) pNil))) (pC (cI 0))))) (pAsg (pCall (q_law_near) (pCons (pVar 0) (pCons (pOp fIxL (pVar 4) (pCall (q_law_take) (pCons (pVar 0) (pCons (pCB gLenQ (pCons (pVar 4) pNil)) pNil)))) (pCons (pVar 6) pNil)))) (pgName 6)) pNext)
    (pIfS (pTest (pOp (fInO not) (pVar 6) (pVar 4))) (pApp 4 (pVar 6)) pNext))))
    (pFrzC 4 (pRet (pCall (q_law_ordered) (pCons (pVar 4) pNil))))))
theorem l_law_pool (B : Fl K C) {s c : Addr} {H0 : Hp} : LS K s c H0 (t_law_pool K C) (p_law_pool C) :=
    (S_seq (S_new 4 (L_lst L_nil))
    (S_seq (S_for (I_rng1 (L_cons (L_var 3) L_nil)) (G_name 5) (S_seq (S_asg (L_call m_law_fresh (L_cons (L_var 0) (L_cons (L_var 1) (L_cons (L_var 2) L_nil)))) (G_name 6))
    (S_seq (S_if (L_and (L_test (L_op (O_IB fun i j => decide (j < i)) (L_cb C_lenQ (L_cons (L_var 4) L_nil)) (L_int 0))) (L_test (L_op (O_IB fun i j => decide (j < i)) (L_call m_law_take (L_cons (L_var 0) (L_cons (L_int 3) L_nil))) (L_int 0)))) (S_asg (L_call m_law_near (L_cons (L_var 0) (L_cons (L_op O_ixL (L_var 4) (L_call m_law_take (L_cons (L_var 0) (L_cons (L_cb C_lenQ (L_cons (L_var 4) L_nil)) L_nil)))) (L_cons (L_var 6) L_nil)))) (G_name 6)) S_next)
    (S_if (L_test (L_op O_inP (L_var 6) (L_var 4))) (S_app 4 (L_var 6)) S_next))))
    (S_frzC 4 (S_ret (L_call m_law_ordered (L_cons (L_var 4) L_nil))))))
theorem st_law_pool (d0 d1 d2 d3 : D) : startD n_law_pool [d0, d1, d2, d3] = [some (.dat d0), some (.dat d1), some (.dat d2), some (.dat d3), none, none, none] := rfl
/-- _law_bad_name -/
abbrev n_law_bad_name : List Str := ["_law_source_here", "_law_word_here", "_law_way", "_law_at", "_law_signs", "_law_sign"]
def t_law_bad_name (K : PySem.W.Frag) (C : AD) : TS :=
    (tSeq (tAsg (tCall (up K (q_law_take)) [] E0 (tCons (tVar 0) (tCons (tC (.int 5)) tNil))) (gName 2))
    (tSeq (tAsg (tCall (up K (q_law_take)) [] E0 (tCons (tVar 0) (tCons (tCB cLenS (tCons (tVar 1) tNil)) tNil))) (gName 3))
    (tSeq (tAsg (tC (.str " !\"#$&'()*+,-./:;<=>?@ABCDEFGHIJKLMNOPQRSTUVWXYZ[\\]^_`{|}~\n	")) (gName 4))
    (tSeq (tAsg (tOp rIxS (tVar 4) (tCall (up K (q_law_take)) [] E0 (tCons (tVar 0) (tCons (tCB cLenS (tCons (tVar 4) tNil)) tNil)))) (gName 5))
    (tSeq (tIfS (tTest (tOp rEq (tVar 2) (tC (.int 0)))) (tRet (tC (.str ""))) tNext)
    (tSeq (tIfS (tTest (tOp rEq (tVar 2) (tC (.int 1)))) (tRet (tSl rSlS (tOp rCatS (tVar 1) (tC (.str "abcdefghijkl"))) tNoPart (tPart (tC (.int 13))))) tNext)
    (tSeq (tIfS (tTest (tOp rEq (tVar 2) (tC (.int 2)))) (tRet (tOp rCatS (tOp rIxS (tC (.str "0123456789")) (tCall (up K (q_law_take)) [] E0 (tCons (tVar 0) (tCons (tC (.int 10)) tNil)))) (tSl rSlS (tVar 1) (tPart (tC (.int 1))) tNoPart))) tNext)
    (tSeq (tIfS (tTest (tOp rEq (tVar 2) (tC (.int 3)))) (tRet (tOp rCatS (tOp rCatS (tSl rSlS (tVar 1) tNoPart (tPart (tVar 3))) (tVar 5)) (tSl rSlS (tVar 1) (tPart (tOp rAddI (tVar 3) (tC (.int 1)))) tNoPart))) tNext)
    (tRet (tOp rCatS (tSl rSlS (tVar 1) tNoPart (tPart (tC (.int 11)))) (tVar 5)))))))))))
def p_law_bad_name (C : AD) : PSx :=
    (pSeq (pAsg (pCall (q_law_take) (pCons (pVar 0) (pCons (pC (cI 5)) pNil))) (pgName 2))
    (pSeq (pAsg (pCall (q_law_take) (pCons (pVar 0) (pCons (pCB gLenS (pCons (pVar 1) pNil)) pNil))) (pgName 3))
    (pSeq (pAsg (pC (cS " !\"#$&'()*+,-./:;<=>?@ABCDEFGHIJKLMNOPQRSTUVWXYZ[\\]^_`{|}~\n	")) (pgName 4))
    (pSeq (pAsg (pOp fIxS (pVar 4) (pCall (q_law_take) (pCons (pVar 0) (pCons (pCB gLenS (pCons (pVar 4) pNil)) pNil)))) (pgName 5))
    (pSeq (pIfS (pTest (pOp (fEq id) (pVar 2) (pC (cI 0)))) (pRet (pC (cS ""))) pNext)
    (pSeq (pIfS (pTest (pOp (fEq id) (pVar 2) (pC (cI 1)))) (pRet (pSlS (pOp fCatS (pVar 1) (pC (cS "abcdefghijkl"))) pNoPart (pPart (pC (cI 13))))) pNext)
    (pSeq (pIfS (pTest (pOp (fEq id) (pVar 2) (pC (cI 2)))) (pRet (pOp fCatS (pOp fIxS (pC (cS "0123456789")) (pCall (q_law_take) (pCons (pVar 0) (pCons (pC (cI 10)) pNil)))) (pSlS (pVar 1) (pPart (pC (cI 1))) pNoPart))) pNext)
    (pSeq (pIfS (pTest (pOp (fEq id) (pVar 2) (pC (cI 3)))) (pRet (pOp fCatS (pOp fCatS (pSlS (pVar 1) pNoPart (pPart (pVar 3))) (pVar 5)) (pSlS (pVar 1) (pPart (pOp (fI fun i j => i + j) (pVar 3) (pC (cI 1)))) pNoPart))) pNext)
    (pRet (pOp fCatS (pSlS (pVar 1) pNoPart (pPart (pC (cI 11)))) (pVar 5)))))))))))
theorem l_law_bad_name (B : Fl K C) {s c : Addr} {H0 : Hp} : LS K s c H0 (t_law_bad_name K C) (p_law_bad_name C) :=
    (S_seq (S_asg (L_call m_law_take (L_cons (L_var 0) (L_cons (L_int 5) L_nil))) (G_name 2))
    (S_seq (S_asg (L_call m_law_take (L_cons (L_var 0) (L_cons (L_cb C_lenS (L_cons (L_var 1) L_nil)) L_nil))) (G_name 3))
    (S_seq (S_asg (L_str " !\"#$&'()*+,-./:;<=>?@ABCDEFGHIJKLMNOPQRSTUVWXYZ[\\]^_`{|}~\n	") (G_name 4))
    (S_seq (S_asg (L_op O_ixS (L_var 4) (L_call m_law_take (L_cons (L_var 0) (L_cons (L_cb C_lenS (L_cons (L_var 4) L_nil)) L_nil)))) (G_name 5))
    (S_seq (S_if (L_test (L_op O_eq (L_var 2) (L_int 0))) (S_ret (L_str "")) S_next)
    (S_seq (S_if (L_test (L_op O_eq (L_var 2) (L_int 1))) (S_ret (L_slS (L_op O_catS (L_var 1) (L_str "abcdefghijkl")) L_noPart (L_part (L_int 13)))) S_next)
    (S_seq (S_if (L_test (L_op O_eq (L_var 2) (L_int 2))) (S_ret (L_op O_catS (L_op O_ixS (L_str "0123456789") (L_call m_law_take (L_cons (L_var 0) (L_cons (L_int 10) L_nil)))) (L_slS (L_var 1) (L_part (L_int 1)) L_noPart))) S_next)
    (S_seq (S_if (L_test (L_op O_eq (L_var 2) (L_int 3))) (S_ret (L_op O_catS (L_op O_catS (L_slS (L_var 1) L_noPart (L_part (L_var 3))) (L_var 5)) (L_slS (L_var 1) (L_part (L_op (O_I fun i j => i + j) (L_var 3) (L_int 1))) L_noPart))) S_next)
    (S_ret (L_op O_catS (L_slS (L_var 1) L_noPart (L_part (L_int 11))) (L_var 5)))))))))))
theorem st_law_bad_name (d0 d1 : D) : startD n_law_bad_name [d0, d1] = [some (.dat d0), some (.dat d1), none, none, none, none] := rfl
/-- _law_bad_terms -/
abbrev n_law_bad_terms : List Str := ["_law_source_here", "_law_terms", "_law_measures", "_law_rows", "_law_at", "_law_way", "_law_name", "_law_times_here", "_law_before", "_law_row"]
def t_law_bad_terms (K : PySem.W.Frag) (C : AD) : TS :=
    (tSeq (tAsg (tCB (cList K) (tCons (tVar 1) tNil)) (gName 3))
    (tSeq (tIfS (tTest (tOp rLtI (tCB (cLenQ K) (tCons (tVar 3) tNil)) (tC (.int 2)))) (tAsg (tLst (tCons (tTup (tCons (tOp (rIxL K) (tVar 2) (tC (.int 0))) (tCons (tCall (up K (q_law_times)) [] E0 (tCons (tVar 0) tNil)) tNil))) (tCons (tTup (tCons (tOp (rIxL K) (tVar 2) (tC (.int 1))) (tCons (tCall (up K (q_law_times)) [] E0 (tCons (tVar 0) tNil)) tNil))) tNil))) (gName 3)) tNext)
    (tSeq (tAsg (tCall (up K (q_law_take)) [] E0 (tCons (tVar 0) (tCons (tCB (cLenQ K) (tCons (tVar 3) tNil)) tNil))) (gName 4))
    (tSeq (tAsg (tOp (rIxL K) (tVar 3) (tVar 4)) (gTup K 2 (gCons (gName 6) (gCons (gName 7) gNil))))
    (tSeq (tAsg (tCall (up K (q_law_take)) [] E0 (tCons (tVar 0) (tCons (tC (.int 7)) tNil))) (gName 5))
    (tSeq (tIfS (tTest (tOp rEq (tVar 5) (tC (.int 0)))) (tAsg (tTup (tCons (tVar 6) (tCons (tC (.int 0)) tNil))) (gSub (tVar 3) (tVar 4) rSetL)) tNext)
    (tSeq (tIfS (tTest (tOp rEq (tVar 5) (tC (.int 1)))) (tAsg (tTup (tCons (tCall (up K (q_law_bad_name)) [] E0 (tCons (tVar 0) (tCons (tVar 6) tNil))) (tCons (tVar 7) tNil))) (gSub (tVar 3) (tVar 4) rSetL)) tNext)
    (tSeq (tIfS (tTest (tOp rEq (tVar 5) (tC (.int 2)))) (tAsg (tOp (rCatL K) (tOp (rCatL K) (tSl (rSlL K) (tVar 3) tNoPart (tPart (tVar 4))) (tLst (tCons (tTup (tCons (tVar 6) (tCons (tCall (up K (q_law_times)) [] E0 (tCons (tVar 0) tNil)) tNil))) tNil))) (tSl (rSlL K) (tVar 3) (tPart (tVar 4)) tNoPart)) (gName 3)) tNext)
    (tSeq (tIfS (tTest (tOp rEq (tVar 5) (tC (.int 3)))) (tSeq (tAsg (tCall (up K (q_law_take)) [] E0 (tCons (tVar 0) (tCons (tOp rSubI (tCB (cLenQ K) (tCons (tVar 3) tNil)) (tC (.int 1))) tNil))) (gName 4))
    (tAsg (tOp (rCatL K) (tOp (rCatL K) (tSl (rSlL K) (tVar 3) tNoPart (tPart (tVar 4))) (tLst (tCons (tOp (rIxL K) (tVar 3) (tOp rAddI (tVar 4) (tC (.int 1)))) (tCons (tOp (rIxL K) (tVar 3) (tVar 4)) tNil)))) (tSl (rSlL K) (tVar 3) (tPart (tOp rAddI (tVar 4) (tC (.int 2)))) tNoPart)) (gName 3))) tNext)
    (tSeq (tIfS (tTest (tOp rEq (tVar 5) (tC (.int 4)))) (tSeq (tAsg (tLc (iList K (tVar 3)) (gName 9) (tTest (tOp rLtS (tOp (rIxT K) (tVar 9) (tC (.int 0))) (tC (.str "frame")))) (tVar 9) [9]) (gName 8))
    (tAsg (tOp (rCatL K) (tOp (rCatL K) (tVar 8) (tLst (tCons (tTup (tCons (tC (.str "frame")) (tCons (tVar 7) tNil))) tNil))) (tLc (iList K (tVar 3)) (gName 9) (tTest (tOp rGtS (tOp (rIxT K) (tVar 9) (tC (.int 0))) (tC (.str "frame")))) (tVar 9) [9])) (gName 3))) tNext)
    (tSeq (tIfS (tTest (tOp rEq (tVar 5) (tC (.int 5)))) (tAsg (tOp (rCatL K) (tLst (tCons (tTup (tCons (tOp (rIxL K) (tLst (tCons (tC (.str "")) (tCons (tC (.str "0")) (tCons (tC (.str "7a")) (tCons (tC (.str "A")) (tCons (tC (.str "Za")) tNil)))))) (tCall (up K (q_law_take)) [] E0 (tCons (tVar 0) (tCons (tC (.int 5)) tNil)))) (tCons (tVar 7) tNil))) tNil)) (tVar 3)) (gName 3)) tNext)
    (tSeq (tIfS (tTest (tOp rEq (tVar 5) (tC (.int 6)))) (tAsg (tOp (rCatL K) (tVar 3) (tLst (tCons (tTup (tCons (tOp (rIxL K) (tLst (tCons (tC (.str "z~")) (tCons (tC (.str "{")) (tCons (tC (.str "~")) (tCons (tC (.str "zzzzzzzzzzzzz")) tNil))))) (tCall (up K (q_law_take)) [] E0 (tCons (tVar 0) (tCons (tC (.int 4)) tNil)))) (tCons (tVar 7) tNil))) tNil))) (gName 3)) tNext)
    (tRet (tCB (cTuple K) (tCons (tVar 3) tNil)))))))))))))))
def p_law_bad_terms (C : AD) : PSx :=
    (pSeq (pNew (pCBN gList (pCons (pVar 1) pNil)) 3)
    (pSeq (pIfS (pTest (pOp (fIB fun i j => decide (i < j)) (pCB gLenQ (pCons (pVar 3) pNil)) (pC (cI 2)))) (pNew (pLst (pCons (pTup (pCons (pOp fIxL (pVar 2) (pC (cI 0))) (pCons (pCall (q_law_times) (pCons (pVar 0) pNil)) pNil))) (pCons (pTup (pCons (pOp fIxL (pVar 2) (pC (cI 1))) (pCons (pCall (q_law_times) (pCons (pVar 0) pNil)) pNil))) pNil))) 3) pNext)
    (pSeq (pAsg (pCall (q_law_take) (pCons (pVar 0) (pCons (pCB gLenQ (pCons (pVar 3) pNil)) pNil))) (pgName 4))
    (pSeq (pAsg (pOp fIxL (pVar 3) (pVar 4)) (pgTup (pgCons (pgName 6) (pgCons (pgName 7) pgNil))))
    (pSeq (pAsg (pCall (q_law_take) (pCons (pVar 0) (pCons (pC (cI 7)) pNil))) (pgName 5))
    (pSeq (pIfS (pTest (pOp (fEq id) (pVar 5) (pC (cI 0)))) (pSetL 3 (pVar 4) (pTup (pCons (pVar 6) (pCons (pC (cI 0)) pNil)))) pNext)
    (pSeq (pIfS (pTest (pOp (fEq id) (pVar 5) (pC (cI 1)))) (pSetL 3 (pVar 4) (pTup (pCons (pCall (q_law_bad_name) (pCons (pVar 0) (pCons (pVar 6) pNil))) (pCons (pVar 7) pNil)))) pNext)
    (pSeq (pIfS (pTest (pOp (fEq id) (pVar 5) (pC (cI 2)))) (pNew (pOpN fCatL (pNewL (pOpN fCatL (pNewL (pSlL (pVar 3) pNoPart (pPart (pVar 4)))) (pNewL (pLst (pCons (pTup (pCons (pVar 6) (pCons (pCall (q_law_times) (pCons (pVar 0) pNil)) pNil))) pNil))))) (pNewL (pSlL (pVar 3) (pPart (pVar 4)) pNoPart))) 3) pNext)
    (pSeq (pIfS (pTest (pOp (fEq id) (pVar 5) (pC (cI 3)))) (pSeq (pAsg (pCall (q_law_take) (pCons (pVar 0) (pCons (pOp (fI fun i j => i - j) (pCB gLenQ (pCons (pVar 3) pNil)) (pC (cI 1))) pNil))) (pgName 4))
    (pNew (pOpN fCatL (pNewL (pOpN fCatL (pNewL (pSlL (pVar 3) pNoPart (pPart (pVar 4)))) (pNewL (pLst (pCons (pOp fIxL (pVar 3) (pOp (fI fun i j => i + j) (pVar 4) (pC (cI 1)))) (pCons (pOp fIxL (pVar 3) (pVar 4)) pNil)))))) (pNewL (pSlL (pVar 3) (pPart (pOp (fI fun i j => i + j) (pVar 4) (pC (cI 2)))) pNoPart))) 3)) pNext)
    (pSeq (pIfS (pTest (pOp (fEq id) (pVar 5) (pC (cI 4)))) (pSeq (pNew (pLc (pILk (pVar 3)) (pgName 9) (pTest (pOp (fSB fun i j => decide (i.cps.toList < j.cps.toList)) (pOp fIxT (pVar 9) (pC (cI 0))) (pC (cS "frame")))) (pVar 9) [9]) 8)
    (pNew (pOpN fCatL (pNewL (pOpN fCatL (pVar 8) (pNewL (pLst (pCons (pTup (pCons (pC (cS "frame")) (pCons (pVar 7) pNil))) pNil))))) (pNewL (pLc (pILk (pVar 3)) (pgName 9) (pTest (pOp (fSB fun i j => decide (j.cps.toList < i.cps.toList)) (pOp fIxT (pVar 9) (pC (cI 0))) (pC (cS "frame")))) (pVar 9) [9]))) 3)) pNext)
    (pSeq (pIfS (pTest (pOp (fEq id) (pVar 5) (pC (cI 5)))) (pNew (pOpN fCatL (pNewL (pLst (pCons (pTup (pCons (pOp fIxL (pNewL (pLst (pCons (pC (cS "")) (pCons (pC (cS "0")) (pCons (pC (cS "7a")) (pCons (pC (cS "A")) (pCons (pC (cS "Za")) pNil))))))) (pCall (q_law_take) (pCons (pVar 0) (pCons (pC (cI 5)) pNil)))) (pCons (pVar 7) pNil))) pNil))) (pVar 3)) 3) pNext)
    (pSeq (pIfS (pTest (pOp (fEq id) (pVar 5) (pC (cI 6)))) (pNew (pOpN fCatL (pVar 3) (pNewL (pLst (pCons (pTup (pCons (pOp fIxL (pNewL (pLst (pCons (pC (cS "z~")) (pCons (pC (cS "{")) (pCons (pC (cS "~")) (pCons (pC (cS "zzzzzzzzzzzzz")) pNil)))))) (pCall (q_law_take) (pCons (pVar 0) (pCons (pC (cI 4)) pNil)))) (pCons (pVar 7) pNil))) pNil)))) 3) pNext)
    (pRet (pCB gTuple (pCons (pVar 3) pNil)))))))))))))))
theorem l_law_bad_terms (B : Fl K C) {s c : Addr} {H0 : Hp} : LS K s c H0 (t_law_bad_terms K C) (p_law_bad_terms C) :=
    (S_seq (S_new 3 (L_cbn C_list (L_cons (L_var 1) L_nil)))
    (S_seq (S_if (L_test (L_op (O_IB fun i j => decide (i < j)) (L_cb C_lenQ (L_cons (L_var 3) L_nil)) (L_int 2))) (S_new 3 (L_lst (L_cons (L_tup (L_cons (L_op O_ixL (L_var 2) (L_int 0)) (L_cons (L_call m_law_times (L_cons (L_var 0) L_nil)) L_nil))) (L_cons (L_tup (L_cons (L_op O_ixL (L_var 2) (L_int 1)) (L_cons (L_call m_law_times (L_cons (L_var 0) L_nil)) L_nil))) L_nil)))) S_next)
    (S_seq (S_asg (L_call m_law_take (L_cons (L_var 0) (L_cons (L_cb C_lenQ (L_cons (L_var 3) L_nil)) L_nil))) (G_name 4))
    (S_seq (S_asg (L_op O_ixL (L_var 3) (L_var 4)) (G_tup (G_cons (G_name 6) (G_cons (G_name 7) G_nil)) (fun _ _ _ h => glen_cons (fun _ _ _ h => glen_cons (fun _ _ _ h => glen_nil h) (name_some 7) h) (name_some 6) h)))
    (S_seq (S_asg (L_call m_law_take (L_cons (L_var 0) (L_cons (L_int 7) L_nil))) (G_name 5))
    (S_seq (S_if (L_test (L_op O_eq (L_var 5) (L_int 0))) (S_setL 3 (L_var 4) (L_tup (L_cons (L_var 6) (L_cons (L_int 0) L_nil)))) S_next)
    (S_seq (S_if (L_test (L_op O_eq (L_var 5) (L_int 1))) (S_setL 3 (L_var 4) (L_tup (L_cons (L_call m_law_bad_name (L_cons (L_var 0) (L_cons (L_var 6) L_nil))) (L_cons (L_var 7) L_nil)))) S_next)
    (S_seq (S_if (L_test (L_op O_eq (L_var 5) (L_int 2))) (S_new 3 (L_opN O_catL (LN.le (L_opN O_catL (LN.le (L_slL (L_var 3) L_noPart (L_part (L_var 4)))) (LN.le (L_lst (L_cons (L_tup (L_cons (L_var 6) (L_cons (L_call m_law_times (L_cons (L_var 0) L_nil)) L_nil))) L_nil))))) (LN.le (L_slL (L_var 3) (L_part (L_var 4)) L_noPart)))) S_next)
    (S_seq (S_if (L_test (L_op O_eq (L_var 5) (L_int 3))) (S_seq (S_asg (L_call m_law_take (L_cons (L_var 0) (L_cons (L_op (O_I fun i j => i - j) (L_cb C_lenQ (L_cons (L_var 3) L_nil)) (L_int 1)) L_nil))) (G_name 4))
    (S_new 3 (L_opN O_catL (LN.le (L_opN O_catL (LN.le (L_slL (L_var 3) L_noPart (L_part (L_var 4)))) (LN.le (L_lst (L_cons (L_op O_ixL (L_var 3) (L_op (O_I fun i j => i + j) (L_var 4) (L_int 1))) (L_cons (L_op O_ixL (L_var 3) (L_var 4)) L_nil)))))) (LN.le (L_slL (L_var 3) (L_part (L_op (O_I fun i j => i + j) (L_var 4) (L_int 2))) L_noPart))))) S_next)
    (S_seq (S_if (L_test (L_op O_eq (L_var 5) (L_int 4))) (S_seq (S_new 8 (L_lcK (I_listK (L_var 3)) (G_name 9) (L_test (L_op O_ltS (L_op O_ixT (L_var 9) (L_int 0)) (L_str "frame"))) (L_var 9)))
    (S_new 3 (L_opN O_catL (LN.le (L_opN O_catL (L_var 8) (LN.le (L_lst (L_cons (L_tup (L_cons (L_str "frame") (L_cons (L_var 7) L_nil))) L_nil))))) (LN.le (L_lcK (I_listK (L_var 3)) (G_name 9) (L_test (L_op O_gtS (L_op O_ixT (L_var 9) (L_int 0)) (L_str "frame"))) (L_var 9)))))) S_next)
    (S_seq (S_if (L_test (L_op O_eq (L_var 5) (L_int 5))) (S_new 3 (L_opN O_catL (LN.le (L_lst (L_cons (L_tup (L_cons (L_op O_ixL (LN.le (L_lst (L_cons (L_str "") (L_cons (L_str "0") (L_cons (L_str "7a") (L_cons (L_str "A") (L_cons (L_str "Za") L_nil))))))) (L_call m_law_take (L_cons (L_var 0) (L_cons (L_int 5) L_nil)))) (L_cons (L_var 7) L_nil))) L_nil))) (L_var 3))) S_next)
    (S_seq (S_if (L_test (L_op O_eq (L_var 5) (L_int 6))) (S_new 3 (L_opN O_catL (L_var 3) (LN.le (L_lst (L_cons (L_tup (L_cons (L_op O_ixL (LN.le (L_lst (L_cons (L_str "z~") (L_cons (L_str "{") (L_cons (L_str "~") (L_cons (L_str "zzzzzzzzzzzzz") L_nil)))))) (L_call m_law_take (L_cons (L_var 0) (L_cons (L_int 4) L_nil)))) (L_cons (L_var 7) L_nil))) L_nil))))) S_next)
    (S_ret (L_cb C_tuple (L_cons (L_var 3) L_nil)))))))))))))))
theorem st_law_bad_terms (d0 d1 d2 : D) : startD n_law_bad_terms [d0, d1, d2] = [some (.dat d0), some (.dat d1), some (.dat d2), none, none, none, none, none, none, none] := rfl
/-- _law_spoilt -/
abbrev n_law_spoilt : List Str := ["_law_source_here", "_law_old", "_law_measures", "_law_stack_here", "_law_words", "_law_word_here", "_law_at", "_law_way", "_law_kind", "_law_upper", "_law_lower", "_law_constant", "_law_terms", "_law_extra", "_law_rows", "_law_cut"]
def t_law_spoilt (K : PySem.W.Frag) (C : AD) : TS :=
    (tSeq (tPar3 8 9 10 (tCons (tOp (rIxT K) (tVar 1) (tC (.int 0))) (tCons (tOp (rIxT K) (tVar 1) (tC (.int 1))) (tCons (tOp (rIxT K) (tVar 1) (tC (.int 2))) tNil))))
    (tSeq (tAsg (tIf (tTest (tOp rEq (tVar 8) (tC (.str "room")))) (tOp (rIxT K) (tVar 1) (tC (.int 3))) (tC (.str ""))) (gName 3))
    (tSeq (tAsg (tOp (rIxT K) (tVar 1) (tOp rSubI (tCB (cLenQ K) (tCons (tVar 1) tNil)) (tC (.int 1)))) (gTup K 2 (gCons (gName 11) (gCons (gName 12) gNil))))
    (tSeq (tAsg (tFrz (tLst (tCons (tC (.str "")) (tCons (tC (.str "rooms")) (tCons (tC (.str "roo")) (tCons (tC (.str "Room")) (tCons (tC (.str "reaches")) (tCons (tC (.str "reac")) (tCons (tC (.str "REACH")) (tCons (tC (.str "room ")) (tCons (tC (.str " reach")) (tCons (tC (.str "roomreach")) (tCons (tC (.str "rule")) (tCons (tC (.str "frame")) tNil)))))))))))))) (gName 4))
    (tSeq (tAsg (tOp (rIxL K) (tVar 4) (tCall (up K (q_law_take)) [] E0 (tCons (tVar 0) (tCons (tCB (cLenQ K) (tCons (tVar 4) tNil)) tNil)))) (gName 5))
    (tSeq (tAsg (tOp rAddI (tC (.int 1)) (tCall (up K (q_law_take)) [] E0 (tCons (tVar 0) (tCons (tOp rSubI (tCB (cLenQ K) (tCons (tVar 1) tNil)) (tC (.int 1))) tNil)))) (gName 6))
    (tSeq (tAsg (tCall (up K (q_law_take)) [] E0 (tCons (tVar 0) (tCons (tC (.int 14)) tNil))) (gName 7))
    (tSeq (tIfS (tTest (tOp rEq (tVar 7) (tC (.int 0)))) (tRet (tOp (rCatA K) (tTup (tCons (tVar 5) tNil)) (tSl (rSlA K) (tVar 1) (tPart (tC (.int 1))) tNoPart))) tNext)
    (tSeq (tIfS (tTest (tOp rEq (tVar 7) (tC (.int 1)))) (tRet (tSl (rSlA K) (tVar 1) tNoPart (tPart (tCall (up K (q_law_take)) [] E0 (tCons (tVar 0) (tCons (tCB (cLenQ K) (tCons (tVar 1) tNil)) tNil)))))) tNext)
    (tSeq (tIfS (tTest (tOp rEq (tVar 7) (tC (.int 2)))) (tRet (tOp (rCatA K) (tSl (rSlA K) (tVar 1) tNoPart (tPart (tVar 6))) (tSl (rSlA K) (tVar 1) (tPart (tOp rAddI (tVar 6) (tC (.int 1)))) tNoPart))) tNext)
    (tSeq (tIfS (tTest (tOp rEq (tVar 7) (tC (.int 3)))) (tSeq (tAsg (tOp (rIxL K) (tLst (tCons (tVar 3) (tCons (tVar 11) (tCons (tVar 12) (tCons (tVar 9) (tCons (tVar 1) tNil)))))) (tCall (up K (q_law_take)) [] E0 (tCons (tVar 0) (tCons (tC (.int 5)) tNil)))) (gName 13))
    (tRet (tOp (rCatA K) (tOp (rCatA K) (tSl (rSlA K) (tVar 1) tNoPart (tPart (tVar 6))) (tTup (tCons (tVar 13) tNil))) (tSl (rSlA K) (tVar 1) (tPart (tVar 6)) tNoPart)))) tNext)
    (tSeq (tIfS (tTest (tOp rEq (tVar 7) (tC (.int 4)))) (tRet (tOp (rCatA K) (tTup (tCons (tIf (tTest (tOp rEq (tVar 8) (tC (.str "room")))) (tC (.str "reach")) (tC (.str "room"))) tNil)) (tSl (rSlA K) (tVar 1) (tPart (tC (.int 1))) tNoPart))) tNext)
    (tSeq (tIfS (tTest (tOp rEq (tVar 7) (tC (.int 5)))) (tSeq (tAsg (tFrz (tLst (tCons (tTup (tCons (tVar 5) tNil)) (tCons (tTup (tCons (tVar 5) (tCons (tVar 11) (tCons (tVar 12) tNil)))) (tCons (tTup (tCons (tVar 8) (tCons (tVar 11) tNil))) (tCons (tTup (tCons (tC (.str "room")) (tCons (tVar 12) (tCons (tVar 11) (tCons (tVar 3) tNil))))) (tCons (tOp (rCatA K) (tVar 1) (tTup (tCons (tVar 11) tNil))) tNil))))))) (gName 14))
    (tRet (tOp (rIxL K) (tVar 14) (tCall (up K (q_law_take)) [] E0 (tCons (tVar 0) (tCons (tCB (cLenQ K) (tCons (tVar 14) tNil)) tNil)))))) tNext)
    (tSeq (tIfS (tTest (tOp rEq (tVar 7) (tC (.int 6)))) (tAsg (tCall (up K (q_law_bad_name)) [] E0 (tCons (tVar 0) (tCons (tVar 9) tNil))) (gName 9)) tNext)
    (tSeq (tIfS (tTest (tOp rEq (tVar 7) (tC (.int 7)))) (tAsg (tCall (up K (q_law_bad_name)) [] E0 (tCons (tVar 0) (tCons (tVar 10) tNil))) (gName 10)) tNext)
    (tSeq (tIfS (tTest (tOp rEq (tVar 7) (tC (.int 8)))) (tAsg (tVar 10) (gName 9)) tNext)
    (tSeq (tIfS (tTest (tOp rEq (tVar 7) (tC (.int 9)))) (tSeq (tAsg (tCall (up K (q_law_take)) [] E0 (tCons (tVar 0) (tCons (tOp rAddI (tCB cLenS (tCons (tVar 3) tNil)) (tC (.int 1))) tNil))) (gName 15))
    (tPar 8 3 (tCons (tC (.str "room")) (tCons (tOp rCatS (tOp rCatS (tSl rSlS (tVar 3) tNoPart (tPart (tVar 15))) (tOp (rIxL K) (tLst (tCons (tC (.str " ")) (tCons (tC (.str "\n")) (tCons (tC (.str "	")) tNil)))) (tCall (up K (q_law_take)) [] E0 (tCons (tVar 0) (tCons (tC (.int 3)) tNil))))) (tSl rSlS (tVar 3) (tPart (tVar 15)) tNoPart)) tNil)))) tNext)
    (tSeq (tIfS (tTest (tOp rGtI (tVar 7) (tC (.int 9)))) (tAsg (tCall (up K (q_law_bad_terms)) [] E0 (tCons (tVar 0) (tCons (tVar 12) (tCons (tVar 2) tNil)))) (gName 12)) tNext)
    (tRet (tCall (up K (q_law_built)) [] E0 (tCons (tVar 8) (tCons (tVar 9) (tCons (tVar 10) (tCons (tVar 3) (tCons (tTup (tCons (tVar 11) (tCons (tVar 12) tNil))) tNil)))))))))))))))))))))))))
def p_law_spoilt (C : AD) : PSx :=
    (pSeq (pPar3 8 9 10 (pCons (pOp fIxT (pVar 1) (pC (cI 0))) (pCons (pOp fIxT (pVar 1) (pC (cI 1))) (pCons (pOp fIxT (pVar 1) (pC (cI 2))) pNil))))
    (pSeq (pAsg (pIf (pTest (pOp (fEq id) (pVar 8) (pC (cS "room")))) (pOp fIxT (pVar 1) (pC (cI 3))) (pC (cS ""))) (pgName 3))
    (pSeq (pAsg (pOp fIxT (pVar 1) (pOp (fI fun i j => i - j) (pCB gLenQ (pCons (pVar 1) pNil)) (pC (cI 1)))) (pgTup (pgCons (pgName 11) (pgCons (pgName 12) pgNil))))
    (pSeq (pAsg (pFrz (pLst (pCons (pC (cS "")) (pCons (pC (cS "rooms")) (pCons (pC (cS "roo")) (pCons (pC (cS "Room")) (pCons (pC (cS "reaches")) (pCons (pC (cS "reac")) (pCons (pC (cS "REACH")) (pCons (pC (cS "room ")) (pCons (pC (cS " reach")) (pCons (pC (cS "roomreach")) (pCons (pC (cS "rule")) (pCons (pC (cS "frame")) pNil)))))))))))))) (pgName 4))
    (pSeq (pAsg (pOp fIxL (pVar 4) (pCall (q_law_take) (pCons (pVar 0) (pCons (pCB gLenQ (pCons (pVar 4) pNil)) pNil)))) (pgName 5))
    (pSeq (pAsg (pOp (fI fun i j => i + j) (pC (cI 1)) (pCall (q_law_take) (pCons (pVar 0) (pCons (pOp (fI fun i j => i - j) (pCB gLenQ (pCons (pVar 1) pNil)) (pC (cI 1))) pNil)))) (pgName 6))
    (pSeq (pAsg (pCall (q_law_take) (pCons (pVar 0) (pCons (pC (cI 14)) pNil))) (pgName 7))
    (pSeq (pIfS (pTest (pOp (fEq id) (pVar 7) (pC (cI 0)))) (pRet (pOp fCatA (pTup (pCons (pVar 5) pNil)) (pSlA (pVar 1) (pPart (pC (cI 1))) pNoPart))) pNext)
    (pSeq (pIfS (pTest (pOp (fEq id) (pVar 7) (pC (cI 1)))) (pRet (pSlA (pVar 1) pNoPart (pPart (pCall (q_law_take) (pCons (pVar 0) (pCons (pCB gLenQ (pCons (pVar 1) pNil)) pNil)))))) pNext)
    (pSeq (pIfS (pTest (pOp (fEq id) (pVar 7) (pC (cI 2)))) (pRet (pOp fCatA (pSlA (pVar 1) pNoPart (pPart (pVar 6))) (pSlA (pVar 1) (pPart (pOp (fI fun i j => i + j) (pVar 6) (pC (cI 1)))) pNoPart))) pNext)
    (pSeq (pIfS (pTest (pOp (fEq id) (pVar 7) (pC (cI 3)))) (pSeq (pAsg (pOp fIxL (pNewL (pLst (pCons (pVar 3) (pCons (pVar 11) (pCons (pVar 12) (pCons (pVar 9) (pCons (pVar 1) pNil))))))) (pCall (q_law_take) (pCons (pVar 0) (pCons (pC (cI 5)) pNil)))) (pgName 13))
    (pRet (pOp fCatA (pOp fCatA (pSlA (pVar 1) pNoPart (pPart (pVar 6))) (pTup (pCons (pVar 13) pNil))) (pSlA (pVar 1) (pPart (pVar 6)) pNoPart)))) pNext)
    (pSeq (pIfS (pTest (pOp (fEq id) (pVar 7) (pC (cI 4)))) (pRet (pOp fCatA (pTup (pCons (pIf (pTest (pOp (fEq id) (pVar 8) (pC (cS "room")))) (pC (cS "reach")) (pC (cS "room"))) pNil)) (pSlA (pVar 1) (pPart (pC (cI 1))) pNoPart))) pNext)
    (pSeq (pIfS (pTest (pOp (fEq id) (pVar 7) (pC (cI 5)))) (pSeq (pAsg (pFrz (pLst (pCons (pTup (pCons (pVar 5) pNil)) (pCons (pTup (pCons (pVar 5) (pCons (pVar 11) (pCons (pVar 12) pNil)))) (pCons (pTup (pCons (pVar 8) (pCons (pVar 11) pNil))) (pCons (pTup (pCons (pC (cS "room")) (pCons (pVar 12) (pCons (pVar 11) (pCons (pVar 3) pNil))))) (pCons (pOp fCatA (pVar 1) (pTup (pCons (pVar 11) pNil))) pNil))))))) (pgName 14))
    (pRet (pOp fIxL (pVar 14) (pCall (q_law_take) (pCons (pVar 0) (pCons (pCB gLenQ (pCons (pVar 14) pNil)) pNil)))))) pNext)
    (pSeq (pIfS (pTest (pOp (fEq id) (pVar 7) (pC (cI 6)))) (pAsg (pCall (q_law_bad_name) (pCons (pVar 0) (pCons (pVar 9) pNil))) (pgName 9)) pNext)
    (pSeq (pIfS (pTest (pOp (fEq id) (pVar 7) (pC (cI 7)))) (pAsg (pCall (q_law_bad_name) (pCons (pVar 0) (pCons (pVar 10) pNil))) (pgName 10)) pNext)
    (pSeq (pIfS (pTest (pOp (fEq id) (pVar 7) (pC (cI 8)))) (pAsg (pVar 10) (pgName 9)) pNext)
    (pSeq (pIfS (pTest (pOp (fEq id) (pVar 7) (pC (cI 9)))) (pSeq (pAsg (pCall (q_law_take) (pCons (pVar 0) (pCons (pOp (fI fun i j => i + j) (pCB gLenS (pCons (pVar 3) pNil)) (pC (cI 1))) pNil))) (pgName 15))
    (pPar 8 3 (pCons (pC (cS "room")) (pCons (pOp fCatS (pOp fCatS (pSlS (pVar 3) pNoPart (pPart (pVar 15))) (pOp fIxL (pNewL (pLst (pCons (pC (cS " ")) (pCons (pC (cS "\n")) (pCons (pC (cS "	")) pNil))))) (pCall (q_law_take) (pCons (pVar 0) (pCons (pC (cI 3)) pNil))))) (pSlS (pVar 3) (pPart (pVar 15)) pNoPart)) pNil)))) pNext)
    (pSeq (pIfS (pTest (pOp (fIB fun i j => decide (j < i)) (pVar 7) (pC (cI 9)))) (pAsg (pCall (q_law_bad_terms) (pCons (pVar 0) (pCons (pVar 12) (pCons (pVar 2) pNil)))) (pgName 12)) pNext)
    (pRet (pCall (q_law_built) (pCons (pVar 8) (pCons (pVar 9) (pCons (pVar 10) (pCons (pVar 3) (pCons (pTup (pCons (pVar 11) (pCons (pVar 12) pNil))) pNil)))))))))))))))))))))))))
theorem l_law_spoilt (B : Fl K C) {s c : Addr} {H0 : Hp} : LS K s c H0 (t_law_spoilt K C) (p_law_spoilt C) :=
    (S_seq (S_par3 8 9 10 (L_cons (L_op O_ixT (L_var 1) (L_int 0)) (L_cons (L_op O_ixT (L_var 1) (L_int 1)) (L_cons (L_op O_ixT (L_var 1) (L_int 2)) L_nil))))
    (S_seq (S_asg (L_if (L_test (L_op O_eq (L_var 8) (L_str "room"))) (L_op O_ixT (L_var 1) (L_int 3)) (L_str "")) (G_name 3))
    (S_seq (S_asg (L_op O_ixT (L_var 1) (L_op (O_I fun i j => i - j) (L_cb C_lenQ (L_cons (L_var 1) L_nil)) (L_int 1))) (G_tup (G_cons (G_name 11) (G_cons (G_name 12) G_nil)) (fun _ _ _ h => glen_cons (fun _ _ _ h => glen_cons (fun _ _ _ h => glen_nil h) (name_some 12) h) (name_some 11) h)))
    (S_seq (S_asg (LN.frz (L_lst (L_cons (L_str "") (L_cons (L_str "rooms") (L_cons (L_str "roo") (L_cons (L_str "Room") (L_cons (L_str "reaches") (L_cons (L_str "reac") (L_cons (L_str "REACH") (L_cons (L_str "room ") (L_cons (L_str " reach") (L_cons (L_str "roomreach") (L_cons (L_str "rule") (L_cons (L_str "frame") L_nil)))))))))))))) (G_name 4))
    (S_seq (S_asg (L_op O_ixL (L_var 4) (L_call m_law_take (L_cons (L_var 0) (L_cons (L_cb C_lenQ (L_cons (L_var 4) L_nil)) L_nil)))) (G_name 5))
    (S_seq (S_asg (L_op (O_I fun i j => i + j) (L_int 1) (L_call m_law_take (L_cons (L_var 0) (L_cons (L_op (O_I fun i j => i - j) (L_cb C_lenQ (L_cons (L_var 1) L_nil)) (L_int 1)) L_nil)))) (G_name 6))
    (S_seq (S_asg (L_call m_law_take (L_cons (L_var 0) (L_cons (L_int 14) L_nil))) (G_name 7))
    (S_seq (S_if (L_test (L_op O_eq (L_var 7) (L_int 0))) (S_ret (L_op O_catA (L_tup (L_cons (L_var 5) L_nil)) (L_slA (L_var 1) (L_part (L_int 1)) L_noPart))) S_next)
    (S_seq (S_if (L_test (L_op O_eq (L_var 7) (L_int 1))) (S_ret (L_slA (L_var 1) L_noPart (L_part (L_call m_law_take (L_cons (L_var 0) (L_cons (L_cb C_lenQ (L_cons (L_var 1) L_nil)) L_nil)))))) S_next)
    (S_seq (S_if (L_test (L_op O_eq (L_var 7) (L_int 2))) (S_ret (L_op O_catA (L_slA (L_var 1) L_noPart (L_part (L_var 6))) (L_slA (L_var 1) (L_part (L_op (O_I fun i j => i + j) (L_var 6) (L_int 1))) L_noPart))) S_next)
    (S_seq (S_if (L_test (L_op O_eq (L_var 7) (L_int 3))) (S_seq (S_asg (L_op O_ixL (LN.le (L_lst (L_cons (L_var 3) (L_cons (L_var 11) (L_cons (L_var 12) (L_cons (L_var 9) (L_cons (L_var 1) L_nil))))))) (L_call m_law_take (L_cons (L_var 0) (L_cons (L_int 5) L_nil)))) (G_name 13))
    (S_ret (L_op O_catA (L_op O_catA (L_slA (L_var 1) L_noPart (L_part (L_var 6))) (L_tup (L_cons (L_var 13) L_nil))) (L_slA (L_var 1) (L_part (L_var 6)) L_noPart)))) S_next)
    (S_seq (S_if (L_test (L_op O_eq (L_var 7) (L_int 4))) (S_ret (L_op O_catA (L_tup (L_cons (L_if (L_test (L_op O_eq (L_var 8) (L_str "room"))) (L_str "reach") (L_str "room")) L_nil)) (L_slA (L_var 1) (L_part (L_int 1)) L_noPart))) S_next)
    (S_seq (S_if (L_test (L_op O_eq (L_var 7) (L_int 5))) (S_seq (S_asg (LN.frz (L_lst (L_cons (L_tup (L_cons (L_var 5) L_nil)) (L_cons (L_tup (L_cons (L_var 5) (L_cons (L_var 11) (L_cons (L_var 12) L_nil)))) (L_cons (L_tup (L_cons (L_var 8) (L_cons (L_var 11) L_nil))) (L_cons (L_tup (L_cons (L_str "room") (L_cons (L_var 12) (L_cons (L_var 11) (L_cons (L_var 3) L_nil))))) (L_cons (L_op O_catA (L_var 1) (L_tup (L_cons (L_var 11) L_nil))) L_nil))))))) (G_name 14))
    (S_ret (L_op O_ixL (L_var 14) (L_call m_law_take (L_cons (L_var 0) (L_cons (L_cb C_lenQ (L_cons (L_var 14) L_nil)) L_nil)))))) S_next)
    (S_seq (S_if (L_test (L_op O_eq (L_var 7) (L_int 6))) (S_asg (L_call m_law_bad_name (L_cons (L_var 0) (L_cons (L_var 9) L_nil))) (G_name 9)) S_next)
    (S_seq (S_if (L_test (L_op O_eq (L_var 7) (L_int 7))) (S_asg (L_call m_law_bad_name (L_cons (L_var 0) (L_cons (L_var 10) L_nil))) (G_name 10)) S_next)
    (S_seq (S_if (L_test (L_op O_eq (L_var 7) (L_int 8))) (S_asg (L_var 10) (G_name 9)) S_next)
    (S_seq (S_if (L_test (L_op O_eq (L_var 7) (L_int 9))) (S_seq (S_asg (L_call m_law_take (L_cons (L_var 0) (L_cons (L_op (O_I fun i j => i + j) (L_cb C_lenS (L_cons (L_var 3) L_nil)) (L_int 1)) L_nil))) (G_name 15))
    (S_par 8 3 (L_cons (L_str "room") (L_cons (L_op O_catS (L_op O_catS (L_slS (L_var 3) L_noPart (L_part (L_var 15))) (L_op O_ixL (LN.le (L_lst (L_cons (L_str " ") (L_cons (L_str "\n") (L_cons (L_str "	") L_nil))))) (L_call m_law_take (L_cons (L_var 0) (L_cons (L_int 3) L_nil))))) (L_slS (L_var 3) (L_part (L_var 15)) L_noPart)) L_nil)))) S_next)
    (S_seq (S_if (L_test (L_op (O_IB fun i j => decide (j < i)) (L_var 7) (L_int 9))) (S_asg (L_call m_law_bad_terms (L_cons (L_var 0) (L_cons (L_var 12) (L_cons (L_var 2) L_nil)))) (G_name 12)) S_next)
    (S_ret (L_call m_law_built (L_cons (L_var 8) (L_cons (L_var 9) (L_cons (L_var 10) (L_cons (L_var 3) (L_cons (L_tup (L_cons (L_var 11) (L_cons (L_var 12) L_nil))) L_nil)))))))))))))))))))))))))
theorem st_law_spoilt (d0 d1 d2 : D) : startD n_law_spoilt [d0, d1, d2] = [some (.dat d0), some (.dat d1), some (.dat d2), none, none, none, none, none, none, none, none, none, none, none, none, none] := rfl
/-- _law_truth -/
abbrev n_law_truth : List Str := ["_law_value", "_law_due"]
def t_law_truth (K : PySem.W.Frag) (C : AD) : TS :=
    (tSeq (tIfS (tB (tVar 1)) (tRet (tOp rIsB (tVar 0) (tC (.bl true)))) tNext)
    (tRet (tOp rIsB (tVar 0) (tC (.bl false)))))
def p_law_truth (C : AD) : PSx :=
    (pSeq (pIfS (pTest (pVar 1)) (pRet (pOp (fIsB id) (pVar 0) (pC (cB true)))) pNext)
    (pRet (pOp (fIsB id) (pVar 0) (pC (cB false)))))
theorem l_law_truth (B : Fl K C) {s c : Addr} {H0 : Hp} : LS K s c H0 (t_law_truth K C) (p_law_truth C) :=
    (S_seq (S_if (L_b (L_var 1)) (S_ret (L_op O_isB (L_var 0) (L_bl true))) S_next)
    (S_ret (L_op O_isB (L_var 0) (L_bl false))))
theorem st_law_truth (d0 d1 : D) : startD n_law_truth [d0, d1] = [some (.dat d0), some (.dat d1)] := rfl
/-- _law_shows -/
abbrev n_law_shows : List Str := ["_law_sheet", "_law_due", "_law_pool_here", "_law_row"]
def t_law_shows (K : PySem.W.Frag) (C : AD) : TS :=
    (tSeq (tIfS (tOr (tNot (tB (tCB (rIsiD K) (tCons (tVar 0) (tCons (tC (.ref C.Sheet)) tNil))))) (tOr (tTest (tOp rNe (tCB (rLenF K C.Sheet "_limits") (tCons (tVar 0) tNil)) (tCB (cLenQ K) (tCons (tVar 1) tNil)))) (tTest (tOp (rEqP K not) (tCB (rListOwn K C.Sheet "_limits") (tCons (tVar 0) tNil)) (tVar 1))))) (tRet (tC (.bl false))) tNext)
    (tRet (tOp (rEqD K) (tLc (iList K (tVar 2)) (gName 3) tYes (tOp (rOwnIn C.Sheet (up K (q_Sheet_contains C)) id) (tVar 3) (tVar 0)) [3]) (tLc (iList K (tVar 2)) (gName 3) tYes (tOp (rInP K id) (tVar 3) (tVar 1)) [3]))))
def p_law_shows (C : AD) : PSx :=
    (pSeq (pIfS (pOr (pNot (pTest (pIsC C.Sheet (pVar 0)))) (pOr (pTest (pOp (fEq not) (pCB (gLenF C.Sheet "_limits") (pCons (pVar 0) pNil)) (pCB gLenQ (pCons (pVar 1) pNil)))) (pTest (pOp (fEqO not) (pNewL (pCBN (gListOwn C.Sheet "_limits") (pCons (pVar 0) pNil))) (pVar 1))))) (pRet (pC (cB false))) pNext)
    (pRet (pOp (fEqD id) (pNewL (pLc (pIL (pVar 2)) (pgName 3) pYes (pOp (fOwnIn C.Sheet (q_Sheet_contains C) id) (pVar 3) (pVar 0)) [3])) (pNewL (pLc (pIL (pVar 2)) (pgName 3) pYes (pOp (fInO id) (pVar 3) (pVar 1)) [3])))))
theorem l_law_shows (B : Fl K C) {s c : Addr} {H0 : Hp} : LS K s c H0 (t_law_shows K C) (p_law_shows C) :=
    (S_seq (S_if (L_or (L_not (L_b (L_isC B.z_Sheet.ins B.z_Sheet.nb (L_var 0)))) (L_or (L_test (L_op O_ne (L_cb C_lenF (L_cons (L_var 0) L_nil)) (L_cb C_lenQ (L_cons (L_var 1) L_nil)))) (L_test (L_op O_eqP (LN.le (L_cbn C_listOwn (L_cons (L_var 0) L_nil))) (L_var 1))))) (S_ret (L_bl false)) S_next)
    (S_ret (L_op O_eqD (LN.le (L_lc (I_list (L_var 2)) (G_name 3) L_yes (L_op (O_ownIn m_Sheet_contains) (L_var 3) (L_var 0)))) (LN.le (L_lc (I_list (L_var 2)) (G_name 3) L_yes (L_op O_inP (L_var 3) (L_var 1)))))))
theorem st_law_shows (d0 d1 d2 : D) : startD n_law_shows [d0, d1, d2] = [some (.dat d0), some (.dat d1), some (.dat d2), none] := rfl
/-- _law_drawn_rows -/
abbrev n_law_drawn_rows : List Str := ["_law_source_here", "_law_pool_here", "_law_k"]
def t_law_drawn_rows (K : PySem.W.Frag) (C : AD) : TS :=
    (tRet (tFrz (tLc (iRng1 (tCons (tCall (up K (q_law_take)) [] E0 (tCons (tVar 0) (tCons (tOp rAddI (tCB (cLenQ K) (tCons (tVar 1) tNil)) (tC (.int 3))) tNil))) tNil)) (gName 2) tYes (tOp (rIxL K) (tVar 1) (tCall (up K (q_law_take)) [] E0 (tCons (tVar 0) (tCons (tCB (cLenQ K) (tCons (tVar 1) tNil)) tNil)))) [2])))
def p_law_drawn_rows (C : AD) : PSx :=
    (pRet (pFrz (pLc (pIR (pCons (pCall (q_law_take) (pCons (pVar 0) (pCons (pOp (fI fun i j => i + j) (pCB gLenQ (pCons (pVar 1) pNil)) (pC (cI 3))) pNil))) pNil)) (pgName 2) pYes (pOp fIxL (pVar 1) (pCall (q_law_take) (pCons (pVar 0) (pCons (pCB gLenQ (pCons (pVar 1) pNil)) pNil)))) [2])))
theorem l_law_drawn_rows (B : Fl K C) {s c : Addr} {H0 : Hp} : LS K s c H0 (t_law_drawn_rows K C) (p_law_drawn_rows C) :=
    (S_ret (LN.frz (L_lc (I_rng1 (L_cons (L_call m_law_take (L_cons (L_var 0) (L_cons (L_op (O_I fun i j => i + j) (L_cb C_lenQ (L_cons (L_var 1) L_nil)) (L_int 3)) L_nil))) L_nil)) (G_name 2) L_yes (L_op O_ixL (L_var 1) (L_call m_law_take (L_cons (L_var 0) (L_cons (L_cb C_lenQ (L_cons (L_var 1) L_nil)) L_nil)))))))
theorem st_law_drawn_rows (d0 d1 : D) : startD n_law_drawn_rows [d0, d1] = [some (.dat d0), some (.dat d1), none] := rfl
/-- _law_apart -/
abbrev n_law_apart : List Str := ["_law_sheet", "_law_rows"]
def t_law_apart (K : PySem.W.Frag) (C : AD) : TS :=
    (tSeq (tIfS (tOr (tNot (tB (tCall (up K (q_law_truth)) [] E0 (tCons (tOp (rOwnEqD K C.Sheet (up K (q_Sheet_eq C))) (tVar 0) (tVar 1)) (tCons (tC (.bl false)) tNil))))) (tNot (tB (tCall (up K (q_law_truth)) [] E0 (tCons (tOp (rOwnEqR K C.Sheet (up K (q_Sheet_eq C))) (tVar 1) (tVar 0)) (tCons (tC (.bl false)) tNil)))))) (tRet (tC (.bl false))) tNext)
    (tSeq (tIfS (tOr (tNot (tB (tCall (up K (q_law_truth)) [] E0 (tCons (tOp (rOwnEqD K C.Sheet (up K (q_Sheet_eq C))) (tVar 0) (tCB (cTuple K) (tCons (tVar 1) tNil))) (tCons (tC (.bl false)) tNil))))) (tNot (tB (tCall (up K (q_law_truth)) [] E0 (tCons (tOp (rOwnEqD K C.Sheet (up K (q_Sheet_eq C))) (tVar 0) (tCB (cLenQ K) (tCons (tVar 1) tNil))) (tCons (tC (.bl false)) tNil)))))) (tRet (tC (.bl false))) tNext)
    (tRet (tCall (up K (q_law_truth)) [] E0 (tCons (tOp (rOneNo K C.Sheet (up K (q_Sheet_eq C))) (tLst (tCons (tVar 0) tNil)) (tLst (tCons (tC .non) tNil))) (tCons (tC (.bl false)) tNil))))))
def p_law_apart (C : AD) : PSx :=
    (pSeq (pIfS (pOr (pNot (pTest (pCall (q_law_truth) (pCons (pOp (fOwnEq C.Sheet (q_Sheet_eq C)) (pVar 0) (pVar 1)) (pCons (pC (cB false)) pNil))))) (pNot (pTest (pCall (q_law_truth) (pCons (pOp (fOwnEqR C.Sheet (q_Sheet_eq C)) (pVar 1) (pVar 0)) (pCons (pC (cB false)) pNil)))))) (pRet (pC (cB false))) pNext)
    (pSeq (pIfS (pOr (pNot (pTest (pCall (q_law_truth) (pCons (pOp (fOwnEq C.Sheet (q_Sheet_eq C)) (pVar 0) (pCB gTuple (pCons (pVar 1) pNil))) (pCons (pC (cB false)) pNil))))) (pNot (pTest (pCall (q_law_truth) (pCons (pOp (fOwnEq C.Sheet (q_Sheet_eq C)) (pVar 0) (pCB gLenQ (pCons (pVar 1) pNil))) (pCons (pC (cB false)) pNil)))))) (pRet (pC (cB false))) pNext)
    (pRet (pCall (q_law_truth) (pCons (pOp (fOneNo C.Sheet (q_Sheet_eq C)) (pNewL (pLst (pCons (pVar 0) pNil))) (pNewL (pLst (pCons (pC cN) pNil)))) (pCons (pC (cB false)) pNil))))))
theorem l_law_apart (B : Fl K C) {s c : Addr} {H0 : Hp} : LS K s c H0 (t_law_apart K C) (p_law_apart C) :=
    (S_seq (S_if (L_or (L_not (L_b (L_call m_law_truth (L_cons (L_op (O_ownEq m_Sheet_eq B.z_Sheet.ins B.z_Sheet.fn) (L_var 0) (L_var 1)) (L_cons (L_bl false) L_nil))))) (L_not (L_b (L_call m_law_truth (L_cons (L_op (O_ownEqR m_Sheet_eq) (L_var 1) (L_var 0)) (L_cons (L_bl false) L_nil)))))) (S_ret (L_bl false)) S_next)
    (S_seq (S_if (L_or (L_not (L_b (L_call m_law_truth (L_cons (L_op (O_ownEq m_Sheet_eq B.z_Sheet.ins B.z_Sheet.fn) (L_var 0) (L_cb C_tuple (L_cons (L_var 1) L_nil))) (L_cons (L_bl false) L_nil))))) (L_not (L_b (L_call m_law_truth (L_cons (L_op (O_ownEq m_Sheet_eq B.z_Sheet.ins B.z_Sheet.fn) (L_var 0) (L_cb C_lenQ (L_cons (L_var 1) L_nil))) (L_cons (L_bl false) L_nil)))))) (S_ret (L_bl false)) S_next)
    (S_ret (L_call m_law_truth (L_cons (L_op (O_oneNo m_Sheet_eq) (LN.le (L_lst (L_cons (L_var 0) L_nil))) (LN.le (L_lst (L_cons L_non L_nil)))) (L_cons (L_bl false) L_nil))))))
theorem st_law_apart (d0 d1 : D) : startD n_law_apart [d0, d1] = [some (.dat d0), some (.dat d1)] := rfl
/-- _law_operators -/
abbrev n_law_operators : List Str := ["_law_a", "_law_b", "_law_left", "_law_right", "_law_pool_here", "_law_both", "_law_less", "_law_more", "_law_row"]
def t_law_operators (K : PySem.W.Frag) (C : AD) : TS :=
    (tSeq (tAsg (tLc (iList K (tVar 2)) (gName 8) (tTest (tOp (rInP K id) (tVar 8) (tVar 3))) (tVar 8) [8]) (gName 5))
    (tSeq (tAsg (tLc (iList K (tVar 2)) (gName 8) (tTest (tOp (rInP K not) (tVar 8) (tVar 3))) (tVar 8) [8]) (gName 6))
    (tSeq (tAsg (tLc (iList K (tVar 3)) (gName 8) (tTest (tOp (rInP K not) (tVar 8) (tVar 2))) (tVar 8) [8]) (gName 7))
    (tSeq (tFrzS 5 (tIfS (tOr (tNot (tB (tCall (up K (q_law_shows C)) [] E0 (tCons (tOp (rOwn C.Sheet (up K (q_Sheet_or C))) (tVar 0) (tVar 1)) (tCons (tCall (up K (q_law_ordered)) [] E0 (tCons (tFrz (tOp (rCatL K) (tVar 2) (tVar 3))) tNil)) (tCons (tVar 4) tNil)))))) (tNot (tB (tCall (up K (q_law_shows C)) [] E0 (tCons (tOp (rOwn C.Sheet (up K (q_Sheet_and C))) (tVar 0) (tVar 1)) (tCons (tVar 5) (tCons (tVar 4) tNil))))))) (tRet (tC (.bl false))) tNext))
    (tSeq (tFrzS 6 (tFrzS 7 (tIfS (tOr (tNot (tB (tCall (up K (q_law_shows C)) [] E0 (tCons (tOp (rOwn C.Sheet (up K (q_Sheet_sub C))) (tVar 0) (tVar 1)) (tCons (tVar 6) (tCons (tVar 4) tNil)))))) (tNot (tB (tCall (up K (q_law_shows C)) [] E0 (tCons (tOp (rOwn C.Sheet (up K (q_Sheet_sub C))) (tVar 1) (tVar 0)) (tCons (tVar 7) (tCons (tVar 4) tNil))))))) (tRet (tC (.bl false))) tNext)))
    (tSeq (tIfS (tOr (tNot (tB (tCall (up K (q_law_truth)) [] E0 (tCons (tOp (rOwn C.Sheet (up K (q_Sheet_le C))) (tVar 0) (tVar 1)) (tCons (tOp (rEqP K id) (tVar 6) (tLst tNil)) tNil))))) (tNot (tB (tCall (up K (q_law_truth)) [] E0 (tCons (tOp (rOwn C.Sheet (up K (q_Sheet_le C))) (tVar 1) (tVar 0)) (tCons (tOp (rEqP K id) (tVar 7) (tLst tNil)) tNil)))))) (tRet (tC (.bl false))) tNext)
    (tRet (tCall (up K (q_law_truth)) [] E0 (tCons (tOp (rOwnEqD K C.Sheet (up K (q_Sheet_eq C))) (tVar 0) (tVar 1)) (tCons (tOp (rEqP K id) (tVar 2) (tVar 3)) tNil))))))))))
def p_law_operators (C : AD) : PSx :=
    (pSeq (pNew (pLc (pIL (pVar 2)) (pgName 8) (pTest (pOp (fInO id) (pVar 8) (pVar 3))) (pVar 8) [8]) 5)
    (pSeq (pNew (pLc (pIL (pVar 2)) (pgName 8) (pTest (pOp (fInO not) (pVar 8) (pVar 3))) (pVar 8) [8]) 6)
    (pSeq (pNew (pLc (pIL (pVar 3)) (pgName 8) (pTest (pOp (fInO not) (pVar 8) (pVar 2))) (pVar 8) [8]) 7)
    (pSeq (pFrzC 5 (pIfS (pOr (pNot (pTest (pCall (q_law_shows C) (pCons (pOp (fOwn C.Sheet (q_Sheet_or C)) (pVar 0) (pVar 1)) (pCons (pCall (q_law_ordered) (pCons (pFrz (pOpN fCatL (pVar 2) (pVar 3))) pNil)) (pCons (pVar 4) pNil)))))) (pNot (pTest (pCall (q_law_shows C) (pCons (pOp (fOwn C.Sheet (q_Sheet_and C)) (pVar 0) (pVar 1)) (pCons (pVar 5) (pCons (pVar 4) pNil))))))) (pRet (pC (cB false))) pNext))
    (pSeq (pFrzC 6 (pFrzC 7 (pIfS (pOr (pNot (pTest (pCall (q_law_shows C) (pCons (pOp (fOwn C.Sheet (q_Sheet_sub C)) (pVar 0) (pVar 1)) (pCons (pVar 6) (pCons (pVar 4) pNil)))))) (pNot (pTest (pCall (q_law_shows C) (pCons (pOp (fOwn C.Sheet (q_Sheet_sub C)) (pVar 1) (pVar 0)) (pCons (pVar 7) (pCons (pVar 4) pNil))))))) (pRet (pC (cB false))) pNext)))
    (pSeq (pIfS (pOr (pNot (pTest (pCall (q_law_truth) (pCons (pOp (fOwn C.Sheet (q_Sheet_le C)) (pVar 0) (pVar 1)) (pCons (pOp (fEqO id) (pVar 6) (pNewL (pLst pNil))) pNil))))) (pNot (pTest (pCall (q_law_truth) (pCons (pOp (fOwn C.Sheet (q_Sheet_le C)) (pVar 1) (pVar 0)) (pCons (pOp (fEqO id) (pVar 7) (pNewL (pLst pNil))) pNil)))))) (pRet (pC (cB false))) pNext)
    (pRet (pCall (q_law_truth) (pCons (pOp (fOwnEq C.Sheet (q_Sheet_eq C)) (pVar 0) (pVar 1)) (pCons (pOp (fEqO id) (pVar 2) (pVar 3)) pNil))))))))))
theorem l_law_operators (B : Fl K C) {s c : Addr} {H0 : Hp} : LS K s c H0 (t_law_operators K C) (p_law_operators C) :=
    (S_seq (S_new 5 (L_lc (I_list (L_var 2)) (G_name 8) (L_test (L_op O_inP (L_var 8) (L_var 3))) (L_var 8)))
    (S_seq (S_new 6 (L_lc (I_list (L_var 2)) (G_name 8) (L_test (L_op O_inP (L_var 8) (L_var 3))) (L_var 8)))
    (S_seq (S_new 7 (L_lc (I_list (L_var 3)) (G_name 8) (L_test (L_op O_inP (L_var 8) (L_var 2))) (L_var 8)))
    (S_seq (S_frzC 5 (S_if (L_or (L_not (L_b (L_call m_law_shows (L_cons (L_op (O_own m_Sheet_or) (L_var 0) (L_var 1)) (L_cons (L_call m_law_ordered (L_cons (LN.frz (L_opN O_catL (L_var 2) (L_var 3))) L_nil)) (L_cons (L_var 4) L_nil)))))) (L_not (L_b (L_call m_law_shows (L_cons (L_op (O_own m_Sheet_and) (L_var 0) (L_var 1)) (L_cons (L_var 5) (L_cons (L_var 4) L_nil))))))) (S_ret (L_bl false)) S_next))
    (S_seq (S_frzC 6 (S_frzC 7 (S_if (L_or (L_not (L_b (L_call m_law_shows (L_cons (L_op (O_own m_Sheet_sub) (L_var 0) (L_var 1)) (L_cons (L_var 6) (L_cons (L_var 4) L_nil)))))) (L_not (L_b (L_call m_law_shows (L_cons (L_op (O_own m_Sheet_sub) (L_var 1) (L_var 0)) (L_cons (L_var 7) (L_cons (L_var 4) L_nil))))))) (S_ret (L_bl false)) S_next)))
    (S_seq (S_if (L_or (L_not (L_b (L_call m_law_truth (L_cons (L_op (O_own m_Sheet_le) (L_var 0) (L_var 1)) (L_cons (L_op O_eqP (L_var 6) (LN.le (L_lst L_nil))) L_nil))))) (L_not (L_b (L_call m_law_truth (L_cons (L_op (O_own m_Sheet_le) (L_var 1) (L_var 0)) (L_cons (L_op O_eqP (L_var 7) (LN.le (L_lst L_nil))) L_nil)))))) (S_ret (L_bl false)) S_next)
    (S_ret (L_call m_law_truth (L_cons (L_op (O_ownEq m_Sheet_eq B.z_Sheet.ins B.z_Sheet.fn) (L_var 0) (L_var 1)) (L_cons (L_op O_eqP (L_var 2) (L_var 3)) L_nil))))))))))
theorem st_law_operators (d0 d1 d2 d3 d4 : D) : startD n_law_operators [d0, d1, d2, d3, d4] = [some (.dat d0), some (.dat d1), some (.dat d2), some (.dat d3), some (.dat d4), none, none, none, none] := rfl
/-- _law_sheets_agree -/
abbrev n_law_sheets_agree : List Str := ["_law_source_here", "_law_pool_here", "_law_first", "_law_second", "_law_way", "_law_turned", "_law_given", "_law_a", "_law_b", "_law_left", "_law_right", "_law_k"]
def t_law_sheets_agree (K : PySem.W.Frag) (C : AD) : TS :=
    (tSeq (tAsg (tCall (up K (q_law_drawn_rows)) [] E0 (tCons (tVar 0) (tCons (tVar 1) tNil))) (gName 2))
    (tSeq (tAsg (tCall (up K (q_law_drawn_rows)) [] E0 (tCons (tVar 0) (tCons (tVar 1) tNil))) (gName 3))
    (tSeq (tAsg (tCall (up K (q_law_take)) [] E0 (tCons (tVar 0) (tCons (tC (.int 4)) tNil))) (gName 4))
    (tSeq (tAsg (tLc (iRng1 (tCons (tCB (cLenQ K) (tCons (tVar 2) tNil)) tNil)) (gName 11) tYes (tOp (rIxL K) (tVar 2) (tOp rSubI (tOp rSubI (tCB (cLenQ K) (tCons (tVar 2) tNil)) (tC (.int 1))) (tVar 11))) [11]) (gName 5))
    (tSeq (tIfS (tTest (tOp rEq (tVar 4) (tC (.int 1)))) (tAsg (tFrz (tOp (rCatL K) (tVar 5) (tSl (rSlL K) (tVar 3) tNoPart (tPart (tC (.int 1)))))) (gName 3)) tNext)
    (tSeq (tIfS (tTest (tOp rEq (tVar 4) (tC (.int 2)))) (tAsg (tFrz (tOp (rCatL K) (tVar 5) (tSl (rSlL K) (tVar 2) tNoPart (tPart (tC (.int 2)))))) (gName 3)) tNext)
    (tSeq (tIfS (tTest (tOp rEq (tVar 4) (tC (.int 3)))) (tAsg (tFrz (tSl (rSlL K) (tVar 2) (tPart (tC (.int 1))) tNoPart)) (gName 3)) tNext)
    (tSeq (tAsg (tCB (cList K) (tCons (tVar 2) tNil)) (gName 6))
    (tSeq (tAsg (tFrz (tMakeS C.Sheet (upIC K C.Sheet (q_Sheet_init C)) (fun _ => E0) (tCons (tVar 6) tNil))) (gName 7))
    (tSeq (tAsg (tFrz (tMakeS C.Sheet (upIC K C.Sheet (q_Sheet_init C)) (fun _ => E0) (tCons (tCB (cTuple K) (tCons (tVar 3) tNil)) tNil))) (gName 8))
    (tSeq (tIfS (tTest (tOp (rEqP K not) (tVar 6) (tVar 2))) (tRet (tC (.bl false))) tNext)
    (tSeq (tDrop (tBM0 K "list" rClear (tVar 6)))
    (tSeq (tIfS (tTest (tOp (rEqP K id) (tVar 2) (tLst tNil))) (tDrop (tBM K "list" rAppend (tVar 6) (tCons (tOp (rIxL K) (tVar 1) (tC (.int 0))) tNil))) tNext)
    (tSeq (tAsg (tCall (up K (q_law_ordered)) [] E0 (tCons (tVar 2) tNil)) (gName 9))
    (tSeq (tAsg (tCall (up K (q_law_ordered)) [] E0 (tCons (tVar 3) tNil)) (gName 10))
    (tSeq (tIfS (tOr (tNot (tB (tCall (up K (q_law_shows C)) [] E0 (tCons (tVar 7) (tCons (tVar 9) (tCons (tVar 1) tNil)))))) (tNot (tB (tCall (up K (q_law_shows C)) [] E0 (tCons (tVar 8) (tCons (tVar 10) (tCons (tVar 1) tNil))))))) (tRet (tC (.bl false))) tNext)
    (tSeq (tIfS (tOr (tNot (tB (tCall (up K (q_law_operators C)) [] E0 (tCons (tVar 7) (tCons (tVar 8) (tCons (tVar 9) (tCons (tVar 10) (tCons (tVar 1) tNil)))))))) (tNot (tB (tCall (up K (q_law_operators C)) [] E0 (tCons (tVar 8) (tCons (tVar 7) (tCons (tVar 10) (tCons (tVar 9) (tCons (tVar 1) tNil))))))))) (tRet (tC (.bl false))) tNext)
    (tSeq (tIfS (tOr (tNot (tB (tCall (up K (q_law_operators C)) [] E0 (tCons (tVar 7) (tCons (tVar 7) (tCons (tVar 9) (tCons (tVar 9) (tCons (tVar 1) tNil)))))))) (tOr (tNot (tB (tCall (up K (q_law_apart C)) [] E0 (tCons (tVar 7) (tCons (tVar 9) tNil))))) (tNot (tB (tCall (up K (q_law_apart C)) [] E0 (tCons (tVar 8) (tCons (tVar 10) tNil))))))) (tRet (tC (.bl false))) tNext)
    (tRet (tAndV (tCall (up K (q_law_shows C)) [] E0 (tCons (tVar 7) (tCons (tVar 9) (tCons (tVar 1) tNil)))) (tCall (up K (q_law_shows C)) [] E0 (tCons (tVar 8) (tCons (tVar 10) (tCons (tVar 1) tNil))))))))))))))))))))))))
def p_law_sheets_agree (C : AD) : PSx :=
    (pSeq (pAsg (pCall (q_law_drawn_rows) (pCons (pVar 0) (pCons (pVar 1) pNil))) (pgName 2))
    (pSeq (pAsg (pCall (q_law_drawn_rows) (pCons (pVar 0) (pCons (pVar 1) pNil))) (pgName 3))
    (pSeq (pAsg (pCall (q_law_take) (pCons (pVar 0) (pCons (pC (cI 4)) pNil))) (pgName 4))
    (pSeq (pNew (pLc (pIR (pCons (pCB gLenQ (pCons (pVar 2) pNil)) pNil)) (pgName 11) pYes (pOp fIxL (pVar 2) (pOp (fI fun i j => i - j) (pOp (fI fun i j => i - j) (pCB gLenQ (pCons (pVar 2) pNil)) (pC (cI 1))) (pVar 11))) [11]) 5)
    (pSeq (pIfS (pTest (pOp (fEq id) (pVar 4) (pC (cI 1)))) (pAsg (pFrz (pOpN fCatL (pVar 5) (pNewL (pSlL (pVar 3) pNoPart (pPart (pC (cI 1))))))) (pgName 3)) pNext)
    (pSeq (pIfS (pTest (pOp (fEq id) (pVar 4) (pC (cI 2)))) (pAsg (pFrz (pOpN fCatL (pVar 5) (pNewL (pSlL (pVar 2) pNoPart (pPart (pC (cI 2))))))) (pgName 3)) pNext)
    (pSeq (pIfS (pTest (pOp (fEq id) (pVar 4) (pC (cI 3)))) (pAsg (pFrz (pSlL (pVar 2) (pPart (pC (cI 1))) pNoPart)) (pgName 3)) pNext)
    (pSeq (pNew (pCBN gList (pCons (pVar 2) pNil)) 6)
    (pSeq (pAsg (pMake0 C.Sheet (q_Sheet_init C) (pCons (pVar 6) pNil)) (pgName 7))
    (pSeq (pAsg (pMake0 C.Sheet (q_Sheet_init C) (pCons (pCB gTuple (pCons (pVar 3) pNil)) pNil)) (pgName 8))
    (pSeq (pIfS (pTest (pOp (fEqO not) (pVar 6) (pVar 2))) (pRet (pC (cB false))) pNext)
    (pSeq (pClear 6)
    (pSeq (pIfS (pTest (pOp (fEqO id) (pVar 2) (pNewL (pLst pNil)))) (pApp 6 (pOp fIxL (pVar 1) (pC (cI 0)))) pNext)
    (pSeq (pAsg (pCall (q_law_ordered) (pCons (pVar 2) pNil)) (pgName 9))
    (pSeq (pAsg (pCall (q_law_ordered) (pCons (pVar 3) pNil)) (pgName 10))
    (pSeq (pIfS (pOr (pNot (pTest (pCall (q_law_shows C) (pCons (pVar 7) (pCons (pVar 9) (pCons (pVar 1) pNil)))))) (pNot (pTest (pCall (q_law_shows C) (pCons (pVar 8) (pCons (pVar 10) (pCons (pVar 1) pNil))))))) (pRet (pC (cB false))) pNext)
    (pSeq (pIfS (pOr (pNot (pTest (pCall (q_law_operators C) (pCons (pVar 7) (pCons (pVar 8) (pCons (pVar 9) (pCons (pVar 10) (pCons (pVar 1) pNil)))))))) (pNot (pTest (pCall (q_law_operators C) (pCons (pVar 8) (pCons (pVar 7) (pCons (pVar 10) (pCons (pVar 9) (pCons (pVar 1) pNil))))))))) (pRet (pC (cB false))) pNext)
    (pSeq (pIfS (pOr (pNot (pTest (pCall (q_law_operators C) (pCons (pVar 7) (pCons (pVar 7) (pCons (pVar 9) (pCons (pVar 9) (pCons (pVar 1) pNil)))))))) (pOr (pNot (pTest (pCall (q_law_apart C) (pCons (pVar 7) (pCons (pVar 9) pNil))))) (pNot (pTest (pCall (q_law_apart C) (pCons (pVar 8) (pCons (pVar 10) pNil))))))) (pRet (pC (cB false))) pNext)
    (pRet (pAndV (pCall (q_law_shows C) (pCons (pVar 7) (pCons (pVar 9) (pCons (pVar 1) pNil)))) (pCall (q_law_shows C) (pCons (pVar 8) (pCons (pVar 10) (pCons (pVar 1) pNil))))))))))))))))))))))))
theorem l_law_sheets_agree (B : Fl K C) {s c : Addr} {H0 : Hp} : LS K s c H0 (t_law_sheets_agree K C) (p_law_sheets_agree C) :=
    (S_seq (S_asg (L_call m_law_drawn_rows (L_cons (L_var 0) (L_cons (L_var 1) L_nil))) (G_name 2))
    (S_seq (S_asg (L_call m_law_drawn_rows (L_cons (L_var 0) (L_cons (L_var 1) L_nil))) (G_name 3))
    (S_seq (S_asg (L_call m_law_take (L_cons (L_var 0) (L_cons (L_int 4) L_nil))) (G_name 4))
    (S_seq (S_new 5 (L_lc (I_rng1 (L_cons (L_cb C_lenQ (L_cons (L_var 2) L_nil)) L_nil)) (G_name 11) L_yes (L_op O_ixL (L_var 2) (L_op (O_I fun i j => i - j) (L_op (O_I fun i j => i - j) (L_cb C_lenQ (L_cons (L_var 2) L_nil)) (L_int 1)) (L_var 11)))))
    (S_seq (S_if (L_test (L_op O_eq (L_var 4) (L_int 1))) (S_asg (LN.frz (L_opN O_catL (L_var 5) (LN.le (L_slL (L_var 3) L_noPart (L_part (L_int 1)))))) (G_name 3)) S_next)
    (S_seq (S_if (L_test (L_op O_eq (L_var 4) (L_int 2))) (S_asg (LN.frz (L_opN O_catL (L_var 5) (LN.le (L_slL (L_var 2) L_noPart (L_part (L_int 2)))))) (G_name 3)) S_next)
    (S_seq (S_if (L_test (L_op O_eq (L_var 4) (L_int 3))) (S_asg (LN.frz (L_slL (L_var 2) (L_part (L_int 1)) L_noPart)) (G_name 3)) S_next)
    (S_seq (S_new 6 (L_cbn C_list (L_cons (L_var 2) L_nil)))
    (S_seq (S_asg (L_makeC0 m_Sheet_init (L_cons (L_var 6) L_nil)) (G_name 7))
    (S_seq (S_asg (L_makeC0 m_Sheet_init (L_cons (L_cb C_tuple (L_cons (L_var 3) L_nil)) L_nil)) (G_name 8))
    (S_seq (S_if (L_test (L_op O_eqP (L_var 6) (L_var 2))) (S_ret (L_bl false)) S_next)
    (S_seq (S_clear 6)
    (S_seq (S_if (L_test (L_op O_eqP (L_var 2) (LN.le (L_lst L_nil)))) (S_app 6 (L_op O_ixL (L_var 1) (L_int 0))) S_next)
    (S_seq (S_asg (L_call m_law_ordered (L_cons (L_var 2) L_nil)) (G_name 9))
    (S_seq (S_asg (L_call m_law_ordered (L_cons (L_var 3) L_nil)) (G_name 10))
    (S_seq (S_if (L_or (L_not (L_b (L_call m_law_shows (L_cons (L_var 7) (L_cons (L_var 9) (L_cons (L_var 1) L_nil)))))) (L_not (L_b (L_call m_law_shows (L_cons (L_var 8) (L_cons (L_var 10) (L_cons (L_var 1) L_nil))))))) (S_ret (L_bl false)) S_next)
    (S_seq (S_if (L_or (L_not (L_b (L_call m_law_operators (L_cons (L_var 7) (L_cons (L_var 8) (L_cons (L_var 9) (L_cons (L_var 10) (L_cons (L_var 1) L_nil)))))))) (L_not (L_b (L_call m_law_operators (L_cons (L_var 8) (L_cons (L_var 7) (L_cons (L_var 10) (L_cons (L_var 9) (L_cons (L_var 1) L_nil))))))))) (S_ret (L_bl false)) S_next)
    (S_seq (S_if (L_or (L_not (L_b (L_call m_law_operators (L_cons (L_var 7) (L_cons (L_var 7) (L_cons (L_var 9) (L_cons (L_var 9) (L_cons (L_var 1) L_nil)))))))) (L_or (L_not (L_b (L_call m_law_apart (L_cons (L_var 7) (L_cons (L_var 9) L_nil))))) (L_not (L_b (L_call m_law_apart (L_cons (L_var 8) (L_cons (L_var 10) L_nil))))))) (S_ret (L_bl false)) S_next)
    (S_ret (L_andV (L_call m_law_shows (L_cons (L_var 7) (L_cons (L_var 9) (L_cons (L_var 1) L_nil)))) (L_call m_law_shows (L_cons (L_var 8) (L_cons (L_var 10) (L_cons (L_var 1) L_nil))))))))))))))))))))))))
theorem st_law_sheets_agree (d0 d1 : D) : startD n_law_sheets_agree [d0, d1] = [some (.dat d0), some (.dat d1), none, none, none, none, none, none, none, none, none, none] := rfl
/-- _law_refused -/
abbrev n_law_refused : List Str := ["_law_values", "_law_due", "e"]
def t_law_refused (K : PySem.W.Frag) (C : AD) : TS :=
    (tSeq (tTry K (.ref C.OfficeError) 2 (fun W => (tDrop (tFrz (tMakeS C.Sheet (upIC K C.Sheet (q_Sheet_init C)) (WE W) (tCons (tVar 0) tNil)))))
    (fun a cls d => (tSeq (tIfS (tOr (tB (tCB (rIsX K a cls d) (tCons (tVar 2) (tCons (tC (.ref C.BadChange)) tNil)))) (tB (tCB (rIsX K a cls d) (tCons (tVar 2) (tCons (tC (.ref C.DoesNotGo)) tNil))))) (tRet (tC (.bl false))) tNext)
    (tRet (tAndV (tCB (rIsX K a cls d) (tCons (tVar 2) (tCons (tC (.ref C.BadLimit)) tNil))) (tAndV (tCB (rIsX K a cls d) (tCons (tVar 2) (tCons (tC (.ty "ValueError")) tNil))) (tOp (rEqP K id) (tXf a cls d C.BadLimit "limit" (tVar 2)) (tVar 1))))))))
    (tRet (tC (.bl false))))
def p_law_refused (C : AD) : PSx :=
    (pSeq (pTry 2 (xcs C) (pDropX (pMakeC C.Sheet (q_Sheet_init C) (pCons (pVar 0) pNil)))
    (fun a cls d => (pSeq (pIfS (pOr (pTest (pIsX a cls d 2 (kx_BadChange C))) (pTest (pIsX a cls d 2 (kx_DoesNotGo C)))) (pRet (pC (cB false))) pNext)
    (pRet (pAndV (pIsX a cls d 2 (kx_BadLimit C)) (pAndV (pIsX a cls d 2 (kx_ValueError C)) (pOp (fEqO id) (pXf a cls d 2 C.BadLimit "limit") (pVar 1))))))))
    (pRet (pC (cB false))))
theorem l_law_refused (B : Fl K C) {s c : Addr} {H0 : Hp} : LS K s c H0 (t_law_refused K C) (p_law_refused C) :=
    (S_seq (S_try B.exm (X_drop (L_makeC m_Sheet_init (L_cons (L_var 0) L_nil)))
    (fun a cls d => (S_seq (S_if (L_or (L_b (L_isX 2 (.own _) (B.kx_BadChange))) (L_b (L_isX 2 (.own _) (B.kx_DoesNotGo)))) (S_ret (L_bl false)) S_next)
    (S_ret (L_andV (L_isX 2 (.own _) (B.kx_BadLimit)) (L_andV (L_isX 2 (.ty _) (B.kx_ValueError)) (L_op O_eqP (L_xf 2) (L_var 1))))))))
    (S_ret (L_bl false)))
theorem st_law_refused (d0 d1 : Cell) : startC n_law_refused [d0, d1] = [some d0, some d1, none] := rfl
/-- _law_refusals -/
abbrev n_law_refusals : List Str := ["_law_source_here", "_law_pool_here", "_law_measures", "_law_values", "_law_bad", "_law_k", "_law_faults", "_law_good", "_law_given", "_law_spoilt_here", "_law_at", "_law_value"]
def t_law_refusals (K : PySem.W.Frag) (C : AD) : TS :=
    (tSeq (tAsg (tCall (up K (q_law_drawn_rows)) [] E0 (tCons (tVar 0) (tCons (tVar 1) tNil))) (gName 3))
    (tSeq (tAsg (tLst tNil) (gName 4))
    (tSeq (tFor (iRng1 (tCons (tOp rAddI (tC (.int 1)) (tCall (up K (q_law_take)) [] E0 (tCons (tVar 0) (tCons (tC (.int 3)) tNil)))) tNil)) (gName 5) (tSeq (tAsg (tCall (up K (q_law_spoilt)) [] E0 (tCons (tVar 0) (tCons (tOp (rIxL K) (tVar 1) (tCall (up K (q_law_take)) [] E0 (tCons (tVar 0) (tCons (tCB (cLenQ K) (tCons (tVar 1) tNil)) tNil)))) (tCons (tVar 2) tNil)))) (gName 9))
    (tSeq (tAsg (tCall (up K (q_law_take)) [] E0 (tCons (tVar 0) (tCons (tOp rAddI (tCB (cLenQ K) (tCons (tVar 3) tNil)) (tC (.int 1))) tNil))) (gName 10))
    (tSeq (tAsg (tFrz (tOp (rCatL K) (tOp (rCatL K) (tSl (rSlL K) (tVar 3) tNoPart (tPart (tVar 10))) (tLst (tCons (tVar 9) tNil))) (tSl (rSlL K) (tVar 3) (tPart (tVar 10)) tNoPart))) (gName 3))
    (tDrop (tBM K "list" rAppend (tVar 4) (tCons (tVar 9) tNil)))))))
    (tSeq (tAsg (tLc (iList K (tVar 3)) (gName 11) (tTest (tOp (rInP K id) (tVar 11) (tVar 4))) (tVar 11) [11]) (gName 6))
    (tSeq (tAsg (tLc (iList K (tVar 3)) (gName 11) (tTest (tOp (rInP K not) (tVar 11) (tVar 4))) (tVar 11) [11]) (gName 7))
    (tSeq (tAsg (tFrz (tCB (cList K) (tCons (tVar 3) tNil))) (gName 8))
    (tSeq (tIfS (tOr (tNot (tB (tCall (upC K (q_law_refused)) [] E0 (tCons (tVar 8) (tCons (tOp (rIxL K) (tVar 6) (tC (.int 0))) tNil))))) (tTest (tOp (rEqP K not) (tVar 8) (tVar 3)))) (tRet (tC (.bl false))) tNext)
    (tFrzS 7 (tRet (tAndV (tCall (up K (q_law_shows C)) [] E0 (tCons (tFrz (tMakeS C.Sheet (upIC K C.Sheet (q_Sheet_init C)) (fun _ => E0) (tCons (tVar 7) tNil))) (tCons (tCall (up K (q_law_ordered)) [] E0 (tCons (tVar 7) tNil)) (tCons (tVar 1) tNil)))) (tCall (upC K (q_law_refused)) [] E0 (tCons (tCB (cTuple K) (tCons (tVar 3) tNil)) (tCons (tOp (rIxL K) (tVar 6) (tC (.int 0))) tNil)))))))))))))
def p_law_refusals (C : AD) : PSx :=
    (pSeq (pAsg (pCall (q_law_drawn_rows) (pCons (pVar 0) (pCons (pVar 1) pNil))) (pgName 3))
    (pSeq (pNew (pLst pNil) 4)
    (pSeq (pFor (pIR (pCons (pOp (fI fun i j => i + j) (pC (cI 1)) (pCall (q_law_take) (pCons (pVar 0) (pCons (pC (cI 3)) pNil)))) pNil)) (pgName 5) (pSeq (pAsg (pCall (q_law_spoilt) (pCons (pVar 0) (pCons (pOp fIxL (pVar 1) (pCall (q_law_take) (pCons (pVar 0) (pCons (pCB gLenQ (pCons (pVar 1) pNil)) pNil)))) (pCons (pVar 2) pNil)))) (pgName 9))
    (pSeq (pAsg (pCall (q_law_take) (pCons (pVar 0) (pCons (pOp (fI fun i j => i + j) (pCB gLenQ (pCons (pVar 3) pNil)) (pC (cI 1))) pNil))) (pgName 10))
    (pSeq (pAsg (pFrz (pOpN fCatL (pNewL (pOpN fCatL (pNewL (pSlL (pVar 3) pNoPart (pPart (pVar 10)))) (pNewL (pLst (pCons (pVar 9) pNil))))) (pNewL (pSlL (pVar 3) (pPart (pVar 10)) pNoPart)))) (pgName 3))
    (pApp 4 (pVar 9))))))
    (pSeq (pNew (pLc (pIL (pVar 3)) (pgName 11) (pTest (pOp (fInO id) (pVar 11) (pVar 4))) (pVar 11) [11]) 6)
    (pSeq (pNew (pLc (pIL (pVar 3)) (pgName 11) (pTest (pOp (fInO not) (pVar 11) (pVar 4))) (pVar 11) [11]) 7)
    (pSeq (pAsg (pFrz (pCBN gList (pCons (pVar 3) pNil))) (pgName 8))
    (pSeq (pIfS (pOr (pNot (pTest (pCallC (q_law_refused) (pCons (pVar 8) (pCons (pOp fIxL (pVar 6) (pC (cI 0))) pNil))))) (pTest (pOp (fEqO not) (pVar 8) (pVar 3)))) (pRet (pC (cB false))) pNext)
    (pFrzC 7 (pRet (pAndV (pCall (q_law_shows C) (pCons (pMake0 C.Sheet (q_Sheet_init C) (pCons (pVar 7) pNil)) (pCons (pCall (q_law_ordered) (pCons (pVar 7) pNil)) (pCons (pVar 1) pNil)))) (pCallC (q_law_refused) (pCons (pCB gTuple (pCons (pVar 3) pNil)) (pCons (pOp fIxL (pVar 6) (pC (cI 0))) pNil)))))))))))))
theorem l_law_refusals (B : Fl K C) {s c : Addr} {H0 : Hp} : LS K s c H0 (t_law_refusals K C) (p_law_refusals C) :=
    (S_seq (S_asg (L_call m_law_drawn_rows (L_cons (L_var 0) (L_cons (L_var 1) L_nil))) (G_name 3))
    (S_seq (S_new 4 (L_lst L_nil))
    (S_seq (S_for (I_rng1 (L_cons (L_op (O_I fun i j => i + j) (L_int 1) (L_call m_law_take (L_cons (L_var 0) (L_cons (L_int 3) L_nil)))) L_nil)) (G_name 5) (S_seq (S_asg (L_call m_law_spoilt (L_cons (L_var 0) (L_cons (L_op O_ixL (L_var 1) (L_call m_law_take (L_cons (L_var 0) (L_cons (L_cb C_lenQ (L_cons (L_var 1) L_nil)) L_nil)))) (L_cons (L_var 2) L_nil)))) (G_name 9))
    (S_seq (S_asg (L_call m_law_take (L_cons (L_var 0) (L_cons (L_op (O_I fun i j => i + j) (L_cb C_lenQ (L_cons (L_var 3) L_nil)) (L_int 1)) L_nil))) (G_name 10))
    (S_seq (S_asg (LN.frz (L_opN O_catL (LN.le (L_opN O_catL (LN.le (L_slL (L_var 3) L_noPart (L_part (L_var 10)))) (LN.le (L_lst (L_cons (L_var 9) L_nil))))) (LN.le (L_slL (L_var 3) (L_part (L_var 10)) L_noPart)))) (G_name 3))
    (S_app 4 (L_var 9))))))
    (S_seq (S_new 6 (L_lc (I_list (L_var 3)) (G_name 11) (L_test (L_op O_inP (L_var 11) (L_var 4))) (L_var 11)))
    (S_seq (S_new 7 (L_lc (I_list (L_var 3)) (G_name 11) (L_test (L_op O_inP (L_var 11) (L_var 4))) (L_var 11)))
    (S_seq (S_asg (LN.frz (L_cbn C_list (L_cons (L_var 3) L_nil))) (G_name 8))
    (S_seq (S_if (L_or (L_not (L_b (L_callC m_law_refused (L_cons (L_var 8) (L_cons (L_op O_ixL (L_var 6) (L_int 0)) L_nil))))) (L_test (L_op O_eqP (L_var 8) (L_var 3)))) (S_ret (L_bl false)) S_next)
    (S_frzC 7 (S_ret (L_andV (L_call m_law_shows (L_cons (L_makeC0 m_Sheet_init (L_cons (L_var 7) L_nil)) (L_cons (L_call m_law_ordered (L_cons (L_var 7) L_nil)) (L_cons (L_var 1) L_nil)))) (L_callC m_law_refused (L_cons (L_cb C_tuple (L_cons (L_var 3) L_nil)) (L_cons (L_op O_ixL (L_var 6) (L_int 0)) L_nil)))))))))))))
theorem st_law_refusals (d0 d1 d2 : D) : startD n_law_refusals [d0, d1, d2] = [some (.dat d0), some (.dat d1), some (.dat d2), none, none, none, none, none, none, none, none, none] := rfl
/-- law -/
abbrev n_law : List Str := ["_law_script", "_law_source_here", "_law_names_here", "_law_parts", "_law_measures", "_law_pool_here", "_law_spoilt_here", "_law_value", "_law_row", "_law_k", "_law_name"]
def t_law (K : PySem.W.Frag) (C : AD) : TS :=
    (tSeq (tAsg (tCall (up K (q_law_names)) [] E0 (tCons (tVar 1) (tCons (tOp rAddI (tC (.int 5)) (tCall (up K (q_law_take)) [] E0 (tCons (tVar 1) (tCons (tC (.int 6)) tNil)))) tNil))) (gName 2))
    (tSeq (tAsg (tFrz (tOp (rCatL K) (tSl (rSlL K) (tVar 2) tNoPart (tPart (tOp rAddI (tC (.int 1)) (tCall (up K (q_law_take)) [] E0 (tCons (tVar 1) (tCons (tC (.int 3)) tNil)))))) (tLst (tCons (tC (.str "frame")) tNil)))) (gName 3))
    (tSeq (tAsg (tFrz (tCB (rSortedL K) (tCons (tLc (iList K (tFrz (tSl (rSlL K) (tVar 2) (tPart (tC (.int 3))) tNoPart))) (gName 10) tYes (tCB cStrS (tCons (tVar 10) tNil)) [10]) tNil))) (gName 4))
    (tSeq (tAsg (tCall (up K (q_law_pool)) [] E0 (tCons (tVar 1) (tCons (tVar 3) (tCons (tVar 4) (tCons (tCall (up K (q_law_size)) [] E0 (tCons (tVar 1) (tCons (tC (.int 6)) (tCons (tC (.int 40)) tNil)))) tNil))))) (gName 5))
    (tSeq (tAsg (tLc (iRng1 (tCons (tOp rAddI (tC (.int 1)) (tCall (up K (q_law_take)) [] E0 (tCons (tVar 1) (tCons (tC (.int 4)) tNil)))) tNil)) (gName 9) tYes (tCall (up K (q_law_spoilt)) [] E0 (tCons (tVar 1) (tCons (tOp (rIxL K) (tVar 5) (tCall (up K (q_law_take)) [] E0 (tCons (tVar 1) (tCons (tCB (cLenQ K) (tCons (tVar 5) tNil)) tNil)))) (tCons (tVar 4) tNil)))) [9]) (gName 6))
    (tSeq (tFor (iList K (tFrz (tOp (rCatL K) (tVar 6) (tLst (tCons (tTup tNil) tNil))))) (gName 7) (tIfS (tTest (tOp rNotB (tCall (up K (q_is_limit)) [] E0 (tCons (tVar 7) tNil)) (tC (.bl false)))) (tRet (tC (.bl false))) tNext))
    (tSeq (tFor (iList K (tVar 5)) (gName 8) (tIfS (tTest (tOp rNotB (tCall (up K (q_is_limit)) [] E0 (tCons (tVar 8) tNil)) (tC (.bl true)))) (tRet (tC (.bl false))) tNext))
    (tRet (tAndV (tCall (up K (q_law_sheets_agree)) [] E0 (tCons (tVar 1) (tCons (tVar 5) tNil))) (tCall (up K (q_law_refusals)) [] E0 (tCons (tVar 1) (tCons (tVar 5) (tCons (tVar 4) tNil)))))))))))))
def p_law (C : AD) : PSx :=
    (pSeq (pAsg (pCall (q_law_names) (pCons (pVar 1) (pCons (pOp (fI fun i j => i + j) (pC (cI 5)) (pCall (q_law_take) (pCons (pVar 1) (pCons (pC (cI 6)) pNil)))) pNil))) (pgName 2))
    (pSeq (pAsg (pFrz (pOpN fCatL (pNewL (pSlL (pVar 2) pNoPart (pPart (pOp (fI fun i j => i + j) (pC (cI 1)) (pCall (q_law_take) (pCons (pVar 1) (pCons (pC (cI 3)) pNil))))))) (pNewL (pLst (pCons (pC (cS "frame")) pNil))))) (pgName 3))
    (pSeq (pAsg (pFrz (pCBN gSortedL (pCons (pNewL (pLc (pIL (pFrz (pSlL (pVar 2) (pPart (pC (cI 3))) pNoPart))) (pgName 10) pYes (pCB gStrS (pCons (pVar 10) pNil)) [10])) pNil))) (pgName 4))
    (pSeq (pAsg (pCall (q_law_pool) (pCons (pVar 1) (pCons (pVar 3) (pCons (pVar 4) (pCons (pCall (q_law_size) (pCons (pVar 1) (pCons (pC (cI 6)) (pCons (pC (cI 40)) pNil)))) pNil))))) (pgName 5))
    (pSeq (pNew (pLc (pIR (pCons (pOp (fI fun i j => i + j) (pC (cI 1)) (pCall (q_law_take) (pCons (pVar 1) (pCons (pC (cI 4)) pNil)))) pNil)) (pgName 9) pYes (pCall (q_law_spoilt) (pCons (pVar 1) (pCons (pOp fIxL (pVar 5) (pCall (q_law_take) (pCons (pVar 1) (pCons (pCB gLenQ (pCons (pVar 5) pNil)) pNil)))) (pCons (pVar 4) pNil)))) [9]) 6)
    (pSeq (pFor (pIL (pFrz (pOpN fCatL (pVar 6) (pNewL (pLst (pCons (pTup pNil) pNil)))))) (pgName 7) (pIfS (pTest (pOp (fIsB not) (pCall (q_is_limit) (pCons (pVar 7) pNil)) (pC (cB false)))) (pRet (pC (cB false))) pNext))
    (pSeq (pFor (pIL (pVar 5)) (pgName 8) (pIfS (pTest (pOp (fIsB not) (pCall (q_is_limit) (pCons (pVar 8) pNil)) (pC (cB true)))) (pRet (pC (cB false))) pNext))
    (pRet (pAndV (pCall (q_law_sheets_agree) (pCons (pVar 1) (pCons (pVar 5) pNil))) (pCall (q_law_refusals) (pCons (pVar 1) (pCons (pVar 5) (pCons (pVar 4) pNil)))))))))))))
theorem l_law (B : Fl K C) {s c : Addr} {H0 : Hp} : LS K s c H0 (t_law K C) (p_law C) :=
    (S_seq (S_asg (L_call m_law_names (L_cons (L_var 1) (L_cons (L_op (O_I fun i j => i + j) (L_int 5) (L_call m_law_take (L_cons (L_var 1) (L_cons (L_int 6) L_nil)))) L_nil))) (G_name 2))
    (S_seq (S_asg (LN.frz (L_opN O_catL (LN.le (L_slL (L_var 2) L_noPart (L_part (L_op (O_I fun i j => i + j) (L_int 1) (L_call m_law_take (L_cons (L_var 1) (L_cons (L_int 3) L_nil))))))) (LN.le (L_lst (L_cons (L_str "frame") L_nil))))) (G_name 3))
    (S_seq (S_asg (LN.frz (L_cbn C_sortedL (L_cons (LN.le (L_lc (I_list (LN.frz (L_slL (L_var 2) (L_part (L_int 3)) L_noPart))) (G_name 10) L_yes (L_cb C_strS (L_cons (L_var 10) L_nil)))) L_nil))) (G_name 4))
    (S_seq (S_asg (L_call m_law_pool (L_cons (L_var 1) (L_cons (L_var 3) (L_cons (L_var 4) (L_cons (L_call m_law_size (L_cons (L_var 1) (L_cons (L_int 6) (L_cons (L_int 40) L_nil)))) L_nil))))) (G_name 5))
    (S_seq (S_new 6 (L_lc (I_rng1 (L_cons (L_op (O_I fun i j => i + j) (L_int 1) (L_call m_law_take (L_cons (L_var 1) (L_cons (L_int 4) L_nil)))) L_nil)) (G_name 9) L_yes (L_call m_law_spoilt (L_cons (L_var 1) (L_cons (L_op O_ixL (L_var 5) (L_call m_law_take (L_cons (L_var 1) (L_cons (L_cb C_lenQ (L_cons (L_var 5) L_nil)) L_nil)))) (L_cons (L_var 4) L_nil))))))
    (S_seq (S_for (I_list (LN.frz (L_opN O_catL (L_var 6) (LN.le (L_lst (L_cons (L_tup L_nil) L_nil)))))) (G_name 7) (S_if (L_test (L_op O_notB (L_call m_is_limit (L_cons (L_var 7) L_nil)) (L_bl false))) (S_ret (L_bl false)) S_next))
    (S_seq (S_for (I_list (L_var 5)) (G_name 8) (S_if (L_test (L_op O_notB (L_call m_is_limit (L_cons (L_var 8) L_nil)) (L_bl true))) (S_ret (L_bl false)) S_next))
    (S_ret (L_andV (L_call m_law_sheets_agree (L_cons (L_var 1) (L_cons (L_var 5) L_nil))) (L_call m_law_refusals (L_cons (L_var 1) (L_cons (L_var 5) (L_cons (L_var 4) L_nil)))))))))))))
end
end My


/-! Wp: one rule for each plain reading, by its head; what follows has a name. -/
namespace My
open PySem PySem.Spec PyProof.Rows L2
/-! ### what follows -/
def kDat (Q : D → Prop) : Cell → Prop := fun x => ∃ d, x = .dat d ∧ Q d
def kDats (Q : List D → Prop) : List Cell → Prop := fun xs => ∃ ds, datsC xs = some ds ∧ Q ds
def kSeq (Q : List D → Prop) : List Cell → Prop := fun xs => ∃ ds, datsC xs = some ds ∧ ds.length ≤ 100000 ∧ Q ds
def kB (Q : Bool → Prop) : Cell → Prop := fun x => ∃ b, x = cB b ∧ Q b
def kI (Q : Int → Prop) : Cell → Prop := fun x => ∃ i, x = cI i ∧ Q i
def kIf (A B : Prop) : Bool → Prop := fun b => if b = true then A else B
def kApp (ds : List D) (Q : D → Prop) : Cell → Prop := fun x => ∃ d, x = .dat d ∧ ds.length ≤ 100000 ∧ Q d
def kLst (Q : List D → Prop) : Cell → Prop := fun x => ∃ ds, x = .dat (.lst ds) ∧ Q ds
def kTup (Q : List D → Prop) : Cell → Prop := fun x => ∃ ds, x = .dat (.tup ds) ∧ Q ds
def kStr (Q : Str → Prop) : Cell → Prop := fun x => ∃ z, x = cS z ∧ Q z
def kSeqL (Q : List D → Prop) : Cell → Prop := fun x => ∃ ds, seqL x = some ds ∧ Q ds
def kRng (Q : List D → Prop) : List Cell → Prop := fun xs => ∃ n : Int, xs = [cI n] ∧ n ≤ 100000 ∧ -100000 ≤ n ∧ Q (rangeD n)
def kEnum (Q : List D → Prop) : List Cell → Prop := fun xs => ∃ ds, xs = [.dat (.lst ds)] ∧ Q (enumD ds)
def kSlS (l u : Option Int) (P : Cell → Prop) : Cell → Prop := fun x => ∃ z, x = cS z ∧ z.length ≤ 1000000 ∧ P (cS (cutS z l u))
def kSlL (l u : Option Int) (P : List D → Prop) : Cell → Prop := fun x => ∃ ds, seqL x = some ds ∧ P (cutL ds l u)
def kSlA (l u : Option Int) (P : Cell → Prop) : Cell → Prop := fun x => ∃ ds, x = .dat (.tup ds) ∧ P (.dat (.tup (cutL ds l u)))
def kJoin (z : Str) (P : Cell → Prop) : Cell → Prop := fun y => ∃ zs : List Str, seqC y = some (zs.map .str) ∧ (zs.map (·.length)).sum + zs.length * z.length ≤ 16777216 ∧ P (cS (Txt.join z zs))
def kPar (Q : D → D → Prop) : List Cell → Prop := fun xs => ∃ d d2, datsC xs = some [d, d2] ∧ Q d d2
def kPar3 (Q : D → D → D → Prop) : List Cell → Prop := fun xs => ∃ d d2 d3, datsC xs = some [d, d2, d3] ∧ Q d d2 d3
def kFor (g : PGx) (b : PSx) (e : PEnds) (σd : Sd) (ds : List D) : Prop := ∃ inv : Nat → Sd → Prop, inv 0 σd ∧ (∀ i d σd', ds[i]? = some d → inv i σd' → g d σd' fun σd2 => b { e with nx := inv (i + 1), ct := inv (i + 1), bk := e.nx } σd2) ∧ ∀ σd', inv ds.length σd' → e.nx σd'
def kForX (g : PGx) (b : PSXx) (e : PEnds) (xr : Ex → Sd → Prop) (σd : Sd) (ds : List D) : Prop := ∃ inv : Nat → Sd → Prop, inv 0 σd ∧ (∀ i d σd', ds[i]? = some d → inv i σd' → g d σd' fun σd2 => b { e with nx := inv (i + 1), ct := inv (i + 1), bk := e.nx } xr σd2) ∧ ∀ σd', inv ds.length σd' → e.nx σd'
def kSetB (i : Nat) (b : PEx) (e : PEnds) (σd : Sd) (z : Cell) : Prop := ∃ ds, σd[i]? = some (some (.lm ds)) ∧ b σd fun y => ∃ d k j, z = .dat d ∧ y = cI k ∧ ixN ds.length k = some j ∧ e.nx (σd.set i (some (.lm (ds.set j d))))
def kSetC (i : Nat) (d : D) (ds : List D) (e : PEnds) (σd : Sd) (y : Cell) : Prop := ∃ d' k j, (.dat d : Cell) = .dat d' ∧ y = cI k ∧ ixN ds.length k = some j ∧ e.nx (σd.set i (some (.lm (ds.set j d'))))
def tupC : Cell → Option (List D)
  | .dat (.tup ds) => some ds
  | _ => none
theorem tupC_eq {x : Cell} {ds : List D} (h : tupC x = some ds) : x = .dat (.tup ds) := by
  unfold tupC at h
  split at h
  · cases h; rfl
  · cases h
def lstC : Cell → Option (List D)
  | .dat (.lst ds) => some ds
  | _ => none
theorem lstC_eq {x : Cell} {ds : List D} (h : lstC x = some ds) : x = .dat (.lst ds) := by
  unfold lstC at h
  split at h
  · cases h; rfl
  · cases h
section
variable {e : PEnds} {xr : Ex → Sd → Prop} {σd : Sd} {P : Cell → Prop} {Pn : List D → Prop} {Pb : Bool → Prop} {Pa : List Cell → Prop} {Po : Option Int → Prop} {Ps : Sd → Prop} {a b c : PEx} {t u : PTx} {as : PAx} {an : PNx} {p q : PSx} {px qx : PSXx} {lo hi : POx} {i j l : Nat}
theorem k_dat {Q : D → Prop} {d : D} (h : Q d) : kDat Q (.dat d) := ⟨d, rfl, h⟩
theorem k_dats {Q : List D → Prop} {xs : List Cell} {ds : List D} (e : datsC xs = some ds) (h : Q ds) : kDats Q xs := ⟨ds, e, h⟩
theorem k_seq {Q : List D → Prop} {xs : List Cell} {ds : List D} (e : datsC xs = some ds) (hl : ds.length ≤ 100000) (h : Q ds) : kSeq Q xs := ⟨ds, e, hl, h⟩
theorem k_b {Q : Bool → Prop} {v : Bool} (h : Q v) : kB Q (cB v) := ⟨v, rfl, h⟩
theorem k_i {Q : Int → Prop} {v : Int} (h : Q v) : kI Q (cI v) := ⟨v, rfl, h⟩
theorem k_app {ds : List D} {Q : D → Prop} {d : D} (hl : ds.length ≤ 100000) (h : Q d) : kApp ds Q (.dat d) := ⟨d, rfl, hl, h⟩
theorem k_lst {Q : List D → Prop} {x : Cell} {ds : List D} (e : lstC x = some ds) (h : Q ds) : kLst Q x := ⟨ds, lstC_eq e, h⟩
theorem k_tup {Q : List D → Prop} {x : Cell} {ds : List D} (e : tupC x = some ds) (h : Q ds) : kTup Q x := ⟨ds, tupC_eq e, h⟩
theorem k_str {Q : Str → Prop} {z : Str} (h : Q z) : kStr Q (cS z) := ⟨z, rfl, h⟩
theorem k_seqL {Q : List D → Prop} {x : Cell} {ds : List D} (e : seqL x = some ds) (h : Q ds) : kSeqL Q x := ⟨ds, e, h⟩
theorem k_rng {Q : List D → Prop} {n : Int} (h1 : n ≤ 100000) (h2 : -100000 ≤ n) (h : Q (rangeD n)) : kRng Q [cI n] := ⟨n, rfl, h1, h2, h⟩
theorem k_enum {Q : List D → Prop} {x : Cell} {ds : List D} (e : lstC x = some ds) (h : Q (enumD ds)) : kEnum Q [x] := ⟨ds, by rw [lstC_eq e], h⟩
theorem k_slS {v w : Option Int} {z : Str} (hl : z.length ≤ 1000000) (h : P (cS (cutS z v w))) : kSlS v w P (cS z) := ⟨z, rfl, hl, h⟩
theorem k_slL {v w : Option Int} {x : Cell} {ds : List D} (e : seqL x = some ds) (h : Pn (cutL ds v w)) : kSlL v w Pn x := ⟨ds, e, h⟩
theorem k_slA {v w : Option Int} {x : Cell} {ds : List D} (e : tupC x = some ds) (h : P (.dat (.tup (cutL ds v w)))) : kSlA v w P x := ⟨ds, tupC_eq e, h⟩
theorem k_join {z : Str} {y : Cell} {zs : List Str} (e : seqC y = some (zs.map .str)) (hl : (zs.map (·.length)).sum + zs.length * z.length ≤ 16777216) (h : P (cS (Txt.join z zs))) : kJoin z P y := ⟨zs, e, hl, h⟩
theorem k_par {Q : D → D → Prop} {d d2 : D} (h : Q d d2) : kPar Q [.dat d, .dat d2] := ⟨d, d2, rfl, h⟩
theorem k_par3 {Q : D → D → D → Prop} {d d2 d3 : D} (h : Q d d2 d3) : kPar3 Q [.dat d, .dat d2, .dat d3] := ⟨d, d2, d3, rfl, h⟩
theorem k_if {A B : Prop} {p : Prop} [Decidable p] (h1 : p → A) (h2 : ¬p → B) : kIf A B (decide p) := by
  unfold kIf
  by_cases h : p
  · rw [if_pos (decide_eq_true h)]
    exact h1 h
  · rw [if_neg (by simpa using h)]
    exact h2 h
theorem k_ifn {A B : Prop} {p : Prop} [Decidable p] (h1 : ¬p → A) (h2 : p → B) : kIf A B (!decide p) := by
  unfold kIf
  by_cases h : p
  · rw [if_neg (by simpa using h)]
    exact h2 h
  · rw [if_pos (by simpa using h)]
    exact h1 h
theorem k_ifb {A B : Prop} {v : Bool} (h1 : v = true → A) (h2 : v = false → B) : kIf A B v := by
  unfold kIf
  cases v with
  | true => exact h1 rfl
  | false => exact h2 rfl
theorem k_ifT {A B : Prop} {v : Bool} (hv : v = true) (h : A) : kIf A B v := by subst hv; exact h
theorem k_ifF {A B : Prop} {v : Bool} (hv : v = false) (h : B) : kIf A B v := by subst hv; exact h
theorem k_id {A B : Prop} {v : Bool} (h : kIf A B v) : kIf A B (id v) := h
theorem k_norm {f : Sd → Prop} {l l' : Sd} (e : l = l') (h : f l') : f l := e ▸ h
/-! ### statements -/
theorem s_next (h : e.nx σd) : pNext e σd := h
theorem s_seq (h : p { e with nx := q e } σd) : pSeq p q e σd := h
theorem s_seqN {σd' : Sd} (he : σd = σd') (h : p { e with nx := q e } σd') : pSeq p q e σd := he ▸ h
theorem s_while {inv : Nat → Sd → Prop} {m : Nat} (h0 : inv m σd) (h : ∀ m σd', inv m σd' → t σd' (kIf (p { e with nx := fun σd2 => ∃ m', m' < m ∧ inv m' σd2, ct := fun σd2 => ∃ m', m' < m ∧ inv m' σd2, bk := e.nx } σd') (e.nx σd'))) : pWhile t p e σd := ⟨inv, ⟨m, h0⟩, h⟩
theorem s_ret (h : a σd (kDat e.rt)) : pRet a e σd := h
theorem s_brk (h : e.bk σd) : pBreak e σd := h
theorem s_cont (h : e.ct σd) : pCont e σd := h
theorem s_ifS (h : t σd (kIf (p e σd) (q e σd))) : pIfS t p q e σd := h
theorem s_drop (h : a σd fun _ => e.nx σd) : pDrop a e σd := h
theorem s_asg {g : PGx} (h : a σd (kDat fun d => g d σd e.nx)) : pAsg a g e σd := h
theorem s_new (h : an σd fun ds => e.nx (σd.set i (some (.lm ds)))) : pNew an i e σd := h
theorem s_app {ds : List D} (hi : σd[i]? = some (some (.lm ds))) (h : a σd (kApp ds fun d => e.nx (σd.set i (some (.lm (ds ++ [d])))))) : pApp i a e σd := ⟨ds, hi, h⟩
theorem s_frzC {x : Cell} {d : D} (hi : σd[i]? = some (some x)) (hx : frzC x = some d) (h : p e (σd.set i (some (.dat d)))) : pFrzC i p e σd := ⟨x, d, hi, hx, h⟩
theorem s_frzX {x : Cell} {d : D} (hi : σd[i]? = some (some x)) (hx : frzC x = some d) (h : px e xr (σd.set i (some (.dat d)))) : pFrzX i px e xr σd := ⟨x, d, hi, hx, h⟩
theorem s_par (h : as σd (kPar fun d d2 => e.nx ((σd.set i (some (.dat d))).set j (some (.dat d2))))) : pPar i j as e σd := h
theorem s_par3 (h : as σd (kPar3 fun d d2 d3 => e.nx (((σd.set i (some (.dat d))).set j (some (.dat d2))).set l (some (.dat d3))))) : pPar3 i j l as e σd := h
theorem s_for {it : PNx} {g : PGx} (h : it σd (kFor g p e σd)) : pFor it g p e σd := h
theorem s_forX {it : PNx} {g : PGx} (h : it σd (kForX g px e xr σd)) : pForX it g px e xr σd := h
theorem s_clear {ds : List D} (hi : σd[i]? = some (some (.lm ds))) (h : e.nx (σd.set i (some (.lm [])))) : pClear i e σd := ⟨ds, hi, h⟩
theorem s_retL {x : Cell} (hi : σd[i]? = some (some x)) (hl : looseC (some x) = true) (h : e.rn x) : pRetL i e σd := ⟨x, hi, hl, h⟩
theorem s_retNw (h : an σd fun ds => e.rn (.lm ds)) : pRetNw an e σd := h
theorem s_setL (h : b σd (kSetB i a e σd)) : pSetL i a b e σd := h
theorem k_setB {d : D} {ds : List D} (hi : σd[i]? = some (some (.lm ds))) (h : b σd (kSetC i d ds e σd)) : kSetB i b e σd (.dat d) := ⟨ds, hi, h⟩
theorem k_setC {d : D} {ds : List D} {k : Int} {j : Nat} (hj : ixN ds.length k = some j) (h : e.nx (σd.set i (some (.lm (ds.set j d))))) : kSetC i d ds e σd (cI k) := ⟨d, k, j, rfl, rfl, hj, h⟩
def kSelf (C : Addr) (i : Nat) (f : Str) (e : PEnds) (σd : Sd) (x : Cell) : Prop := ∃ d o fs, x = .dat d ∧ σd[i]? = some (some (.om o C fs)) ∧ fs.length ≤ 100 ∧ e.nx (σd.set i (some (.om o C (putD f d fs))))
theorem s_self {C : Addr} {f : Str} (h : a σd (kSelf C i f e σd)) : pSelf C i f a e σd := h
theorem k_self {C o : Addr} {f : Str} {d : D} {fs : List (Str × D)} (hi : σd[i]? = some (some (.om o C fs))) (hl : fs.length ≤ 100) (h : e.nx (σd.set i (some (.om o C (putD f d fs))))) : kSelf C i f e σd (.dat d) := ⟨d, o, fs, rfl, hi, hl, h⟩
/-! ### targets -/
theorem g_name {d : D} (h : Ps (σd.set i (some (.dat d)))) : pgName i d σd Ps := h
theorem g_tup {w : List D → Sd → (Sd → Prop) → Prop} {d : D} {ds : List D} (e : d = .tup ds) (h : w ds σd Ps) : pgTup w d σd Ps := ⟨ds, e, h⟩
theorem g_cons {g : PGx} {w : List D → Sd → (Sd → Prop) → Prop} {d : D} {r : List D} (h : g d σd fun σd' => w r σd' Ps) : pgCons g w (d :: r) σd Ps := ⟨d, r, rfl, h⟩
theorem g_nil (h : Ps σd) : pgNil [] σd Ps := ⟨rfl, h⟩
/-! ### values -/
theorem e_var {x : Cell} (hi : σd[i]? = some (some x)) (h : P x) : pVar i σd P := ⟨x, hi, h⟩
theorem e_c {x : Cell} (h : P x) : pC x σd P := h
theorem e_op {f : P2} (h : a σd fun x => b σd fun y => f x y P) : pOp f a b σd P := h
theorem e_opN {f : Cell → Cell → (List D → Prop) → Prop} (h : a σd fun x => b σd fun y => f x y Pn) : pOpN f a b σd Pn := h
theorem e_un {f : Cell → (Cell → Prop) → Prop} (h : a σd fun x => f x P) : pUn f a σd P := h
theorem e_nil (h : Pa []) : pNil σd Pa := h
theorem e_cons (h : a σd fun x => as σd fun xs => Pa (x :: xs)) : pCons a as σd Pa := h
theorem e_tup (h : as σd (kSeq fun ds => P (.dat (.tup ds)))) : pTup as σd P := h
theorem e_lst (h : as σd (kSeq Pn)) : pLst as σd Pn := h
theorem e_newL (h : an σd fun ds => P (.lm ds)) : pNewL an σd P := h
theorem e_frz (h : an σd fun ds => P (.dat (.lst ds))) : pFrz an σd P := h
theorem e_noPart (h : Po none) : pNoPart σd Po := h
theorem e_part (h : a σd (kI fun i => Po (some i))) : pPart a σd Po := h
theorem e_slS (h : a σd fun x => lo σd fun l => hi σd fun u => kSlS l u P x) : pSlS a lo hi σd P := h
theorem e_slL (h : a σd fun x => lo σd fun l => hi σd fun u => kSlL l u Pn x) : pSlL a lo hi σd Pn := h
theorem e_slA (h : a σd fun x => lo σd fun l => hi σd fun u => kSlA l u P x) : pSlA a lo hi σd P := h
theorem e_test (h : a σd (kB Pb)) : pTest a σd Pb := h
theorem e_and (h : t σd (kIf (u σd Pb) (Pb false))) : pAnd t u σd Pb := h
theorem e_or (h : t σd (kIf (Pb true) (u σd Pb))) : pOr t u σd Pb := h
theorem e_not (h : t σd fun x => Pb (!x)) : pNot t σd Pb := h
theorem e_yes (h : Pb true) : pYes σd Pb := h
theorem e_if (h : t σd (kIf (a σd P) (b σd P))) : pIf t a b σd P := h
theorem e_andV (h : a σd (kB (kIf (b σd P) (P (cB false))))) : pAndV a b σd P := h
theorem e_orV (h : a σd (kB (kIf (P (cB true)) (b σd P)))) : pOrV a b σd P := h
theorem e_notV (h : a σd (kB fun c => P (cB (!c)))) : pNotV a σd P := h
theorem e_chain {f g : P2} (h : a σd fun x => b σd fun y => f x y (kB (kIf (c σd fun w => g y w P) (P (cB false))))) : pChain f g a b c σd P := h
theorem e_cb {f : List Cell → (Cell → Prop) → Prop} (h : as σd fun xs => f xs P) : pCB f as σd P := h
theorem e_cbn {f : List Cell → (List D → Prop) → Prop} (h : as σd fun xs => f xs Pn) : pCBN f as σd Pn := h
theorem e_join (h : a σd (kStr fun z => b σd (kJoin z P))) : pJoin a b σd P := h
theorem e_call {q : QP} (h : as σd (kDats fun ds => q ds fun d => P (.dat d))) : pCall q as σd P := h
theorem e_rev (h : a σd (kSeqL fun ds => Pn ds.reverse)) : pRev a σd Pn := h
theorem e_IL (h : a σd (kLst Pn)) : pIL a σd Pn := h
theorem e_IT (h : a σd (kTup Pn)) : pIT a σd Pn := h
theorem e_IS (h : a σd (kStr fun z => Pn (signsD z))) : pIS a σd Pn := h
theorem e_IR (h : as σd (kRng Pn)) : pIR as σd Pn := h
theorem e_IE (h : as σd (kEnum Pn)) : pIE as σd Pn := h
theorem e_ISV {x : Cell} {ds : List D} (hi : σd[i]? = some (some x)) (hx : seqV x = some ds) (h : Pn ds) : pISV i σd Pn := ⟨x, ds, hi, hx, h⟩
/-! ### operators -/
theorem o_I {g : Int → Int → Int} {x y : Int} (h : P (cI (g x y))) : fI g (cI x) (cI y) P := ⟨x, y, rfl, rfl, h⟩
theorem o_IB {g : Int → Int → Bool} {x y : Int} (h : P (cB (g x y))) : fIB g (cI x) (cI y) P := ⟨x, y, rfl, rfl, h⟩
theorem o_IC {C : Int → Int → Prop} {g : Int → Int → Int} {x y : Int} (hc : C x y) (h : P (cI (g x y))) : fIC C g (cI x) (cI y) P := ⟨x, y, rfl, rfl, hc, h⟩
theorem o_neg {x : Int} (h : P (cI (-x))) : fNeg (cI x) P := ⟨x, rfl, h⟩
theorem o_catS {x y : Str} (hl : x.length + y.length ≤ 1000000) (h : P (cS (x ++ y))) : fCatS (cS x) (cS y) P := ⟨x, y, rfl, rfl, hl, h⟩
theorem o_SB {g : Str → Str → Bool} {x y : Str} (h : P (cB (g x y))) : fSB g (cS x) (cS y) P := ⟨x, y, rfl, rfl, h⟩
theorem dI (x y : Int) : decide (V.int x = V.int y) = decide (x = y) := by
  by_cases h : x = y
  · subst h; simp
  · simp [h]
theorem dS (x y : Str) : decide (V.str x = V.str y) = decide (x = y) := by
  by_cases h : x = y
  · subst h; simp
  · simp [h]
theorem o_eqI {x y : Int} (h : P (cB (decide (x = y)))) : fEq id (cI x) (cI y) P := ⟨_, _, rfl, rfl, rfl, by rw [dI]; exact h⟩
theorem o_eqS {x y : Str} (h : P (cB (decide (x = y)))) : fEq id (cS x) (cS y) P := ⟨_, _, rfl, rfl, rfl, by rw [dS]; exact h⟩
theorem o_neI {x y : Int} (h : P (cB (!decide (x = y)))) : fEq not (cI x) (cI y) P := ⟨_, _, rfl, rfl, rfl, by rw [dI]; exact h⟩
theorem o_neS {x y : Str} (h : P (cB (!decide (x = y)))) : fEq not (cS x) (cS y) P := ⟨_, _, rfl, rfl, rfl, by rw [dS]; exact h⟩
theorem o_ixT {x : Cell} {ds : List D} {k : Int} {d : D} (hx : tupC x = some ds) (he : atI ds k = some d) (h : P (.dat d)) : fIxT x (cI k) P := ⟨ds, k, d, tupC_eq hx, rfl, he, h⟩
theorem o_ixL {x : Cell} {ds : List D} {k : Int} {d : D} (hx : seqL x = some ds) (he : atI ds k = some d) (h : P (.dat d)) : fIxL x (cI k) P := ⟨ds, k, d, hx, rfl, he, h⟩
theorem o_ixS {z : Str} {k : Int} {n : Nat} (hl : z.length ≤ 1000000) (he : atI z.cps.toList k = some n) (h : P (cS ⟨#[n]⟩)) : fIxS (cS z) (cI k) P := ⟨z, k, n, rfl, rfl, hl, he, h⟩
theorem o_inSign {g : Bool → Bool} {n : Nat} {z : Str} (h : P (cB (g (decide (n ∈ z.cps.toList))))) : fInSign g (cS ⟨#[n]⟩) (cS z) P := ⟨n, z, rfl, rfl, h⟩
theorem o_inS {g : Bool → Bool} {z : Str} {y : Cell} {zs : List Str} (hy : seqC y = some (zs.map .str)) (h : P (cB (g (decide (z ∈ zs))))) : fInS g (cS z) y P := ⟨z, zs, rfl, hy, h⟩
theorem o_eqO {g : Bool → Bool} {x y : Cell} {d d' : D} (hx : asD x = some d) (hy : asD y = some d') (o1 : okN 30 d = true) (o2 : okN 30 d' = true) (h : P (cB (g (dec (d = d'))))) : fEqO g x y P := ⟨d, d', hx, hy, o1, o2, h⟩
theorem o_inO {g : Bool → Bool} {y : Cell} {d : D} {es : List D} (hy : seqC y = some es) (o1 : okN 30 d = true) (o2 : es.all (okN 30) = true) (h : P (cB (g (dec (d ∈ es))))) : fInO g (.dat d) y P := ⟨d, es, rfl, hy, o1, o2, h⟩
theorem o_ltO {d d' : D} {out : Bool} (o1 : okN 30 d = true) (o2 : okN 30 d' = true) (hl : ltN 30 d d' = some out) (h : P (cB out)) : fLtO (.dat d) (.dat d') P := ⟨d, d', out, rfl, rfl, o1, o2, hl, h⟩
theorem o_catL {x y : Cell} {ds es : List D} (hx : seqL x = some ds) (hy : seqL y = some es) (hl : ds.length + es.length ≤ 100000) (h : Pn (ds ++ es)) : fCatL x y Pn := ⟨ds, es, hx, hy, hl, h⟩
theorem o_catA {x y : Cell} {ds es : List D} (hx : tupC x = some ds) (hy : tupC y = some es) (hl : ds.length + es.length ≤ 100000) (h : P (.dat (.tup (ds ++ es)))) : fCatA x y P := ⟨ds, es, tupC_eq hx, tupC_eq hy, hl, h⟩
theorem o_isB {g : Bool → Bool} {x y : Bool} (h : P (cB (g (decide (x = y))))) : fIsB g (cB x) (cB y) P := ⟨x, y, rfl, rfl, h⟩
theorem o_isN {g : Bool → Bool} {x : Cell} {v : Bool} (hx : nonC x = some v) (h : P (cB (g v))) : fIsN g x cN P := ⟨v, hx, rfl, h⟩
/-! ### built-ins -/
theorem b_lenS {z : Str} (hl : z.length ≤ 1000000) (h : P (cI z.length)) : gLenS [cS z] P := ⟨z, rfl, hl, h⟩
theorem b_lenQ {x : Cell} {ds : List D} (hx : seqC x = some ds) (h : P (cI ds.length)) : gLenQ [x] P := ⟨x, ds, rfl, hx, h⟩
theorem b_int {x : Int} (h : P (cI x)) : gInt1 [cI x] P := .inl ⟨x, rfl, h⟩
theorem b_strS {z : Str} (h : P (cS z)) : gStrS [cS z] P := ⟨z, rfl, h⟩
theorem b_tuple {x : Cell} {ds : List D} (hx : seqC x = some ds) (h : P (.dat (.tup ds))) : gTuple [x] P := ⟨x, ds, rfl, hx, h⟩
theorem b_list {x : Cell} {ds : List D} (hx : seqC x = some ds) (h : Pn ds) : gList [x] Pn := ⟨x, ds, rfl, hx, h⟩
theorem b_all {x : Cell} {bs : List Bool} (hx : seqL x = some (bs.map D.bl)) (h : P (cB (bs.all id))) : gAll [x] P := ⟨x, bs, rfl, hx, h⟩
theorem b_any {x : Cell} {bs : List Bool} (hx : seqL x = some (bs.map D.bl)) (h : P (cB (bs.any id))) : gAny [x] P := ⟨x, bs, rfl, hx, h⟩
theorem b_max2 {x y : Int} (h : P (cI (if y > x then y else x))) : gMax2 [cI x, cI y] P := ⟨x, y, rfl, h⟩
theorem b_sortedL {x : Cell} {zs : List Str} (hx : seqL x = some (zs.map D.str)) (h : Pn ((zs.mergeSort leS).map D.str)) : gSortedL [x] Pn := ⟨x, zs, rfl, hx, h⟩
theorem b_lenF {C : Addr} {fld : Str} {fs : List (Str × D)} {ds : List D} (hf : fs.lookup fld = some (.lst ds)) (h : P (cI ds.length)) : gLenF C fld [.dat (.ins C fs)] P := ⟨fs, ds, rfl, hf, h⟩
theorem b_listOwn {C : Addr} {fld : Str} {fs : List (Str × D)} {ds : List D} (hf : fs.lookup fld = some (.lst ds)) (h : Pn ds) : gListOwn C fld [.dat (.ins C fs)] Pn := ⟨fs, ds, rfl, hf, h⟩
/-! ### the draws -/
theorem small_log {m : Int} (h : m < 2 ^ 64) (h0 : 0 < m) : m.natAbs.log2 < 9000 := by
  have : m.natAbs < 2 ^ 64 := by omega
  have h1 : m.natAbs ≠ 0 := by omega
  have := (Nat.log2_lt h1).mpr this
  omega
theorem q_take {m : Int} {Q : D → Prop} (h0 : 0 < m) (h1 : m < 2 ^ 64) (h : ∀ d : Int, 0 ≤ d → d < m → Q (.int d)) : q_law_take [.src, .int m] Q := ⟨m, rfl, h0, small_log h1 h0, h⟩
/-- a draw of a Nat -/
theorem q_takeN {m : Nat} {Q : D → Prop} (h0 : 0 < m) (h1 : m ≤ 1000000000000) (h : ∀ d : Nat, d < m → Q (.int (d : Int))) : q_law_take [.src, .int (m : Int)] Q := q_take (by omega) (by omega) fun d h2 h3 => by
  obtain ⟨n, rfl⟩ := Int.eq_ofNat_of_zero_le h2
  exact h n (by omega)
/-! ### instances, own defs -/
theorem e_fld {C : Addr} {f : Str} (h : a σd fun x => ∃ fs d, (x = .dat (.ins C fs) ∨ ∃ o, x = .om o C fs) ∧ fs.lookup f = some d ∧ P (.dat d)) : pFld C f a σd P := h
theorem k_fld {C : Addr} {f : Str} {fs : List (Str × D)} {d : D} (hf : fs.lookup f = some d) (h : P (.dat d)) : ∃ fs' d', ((.dat (.ins C fs) : Cell) = .dat (.ins C fs') ∨ ∃ o, (.dat (.ins C fs) : Cell) = .om o C fs') ∧ fs'.lookup f = some d' ∧ P (.dat d') := ⟨fs, d, .inl rfl, hf, h⟩
/-! ### comprehensions -/
def kLc (g : PGx) (t : PTx) (el : PEx) (vs : List Nat) (σd : Sd) (P : List D → Prop) (ds : List D) : Prop := ds.length ≤ 100000 ∧ ∃ inv : Nat → List D → Prop, inv 0 [] ∧
  (∀ i d acc, ds[i]? = some d → inv i acc → g d (wipeD σd vs) fun σd2 => t σd2 fun b => if b = true then el σd2 fun x => ∃ y, x = .dat y ∧ inv (i + 1) (acc ++ [y]) else inv (i + 1) acc) ∧ ∀ acc, inv ds.length acc → P acc
theorem e_lc {it : PNx} {g : PGx} {vs : List Nat} (h : it σd (kLc g t a vs σd Pn)) : pLc it g t a vs σd Pn := h
theorem k_lcF {α : Type} (xs : List α) (dx fx : α → D) (keep : α → Bool) {g : PGx} {vs : List Nat} (hl : xs.length ≤ 100000)
    (step : ∀ x, x ∈ xs → ∀ (Q0 : Prop) (Q : D → Prop), (keep x = true → Q (fx x)) → (keep x = false → Q0) → g (dx x) (wipeD σd vs) fun σd2 => t σd2 (kIf (a σd2 (kDat Q)) Q0)) (fin : Pn ((xs.filter keep).map fx)) : kLc g t a vs σd Pn (xs.map dx) := by
  refine ⟨by rw [List.length_map]; exact hl, fun i acc => acc = ((xs.take i).filter keep).map fx, rfl, ?_, ?_⟩
  · rintro i d acc hd rfl
    rw [List.getElem?_map] at hd
    obtain ⟨x, hx, rfl⟩ := Option.map_eq_some_iff.mp hd
    refine step x (List.mem_of_getElem? hx) _ _ (fun h => ?_) (fun h => ?_)
    · show _ = ((xs.take (i + 1)).filter keep).map fx
      rw [List.take_add_one, hx, List.filter_append, List.map_append]
      simp [h]
    · show _ = ((xs.take (i + 1)).filter keep).map fx
      rw [List.take_add_one, hx, List.filter_append, List.map_append]
      simp [h]
  · rintro acc rfl
    rw [List.length_map, List.take_length]
    exact fin
/-- elements that may be drawn: R tells what each may be -/
theorem k_lcR {α : Type} (xs : List α) (dx : α → D) (R : α → D → Prop) {g : PGx} {vs : List Nat} (hl : xs.length ≤ 100000)
    (step : ∀ x, x ∈ xs → ∀ Q : D → Prop, (∀ y, R x y → Q y) → g (dx x) (wipeD σd vs) fun σd2 => a σd2 (kDat Q)) (fin : ∀ ys : List D, ys.length = xs.length → (∀ (i : Nat) (x : α) (y : D), xs[i]? = some x → ys[i]? = some y → R x y) → Pn ys) : kLc g pYes a vs σd Pn (xs.map dx) := by
  refine ⟨by rw [List.length_map]; exact hl, fun i acc => acc.length = min i xs.length ∧ ∀ (j : Nat) (x : α) (y : D), xs[j]? = some x → acc[j]? = some y → R x y, ⟨by simp, fun j x y _ h => by simp at h⟩, ?_, ?_⟩
  · rintro i d acc hd ⟨h1, h2⟩
    rw [List.getElem?_map] at hd
    obtain ⟨x, hx, rfl⟩ := Option.map_eq_some_iff.mp hd
    have hi := (List.getElem?_eq_some_iff.mp hx).1
    refine step x (List.mem_of_getElem? hx) (fun y => (acc ++ [y]).length = min (i + 1) xs.length ∧ ∀ (j : Nat) (x : α) (y' : D), xs[j]? = some x → (acc ++ [y])[j]? = some y' → R x y') fun y hy => ⟨by rw [List.length_append, List.length_singleton, h1]; omega, fun j x' y' hj hy' => ?_⟩
    rw [Nat.min_eq_left (by omega)] at h1
    by_cases c : j < acc.length
    · rw [List.getElem?_append_left c] at hy'
      exact h2 j x' y' hj hy'
    · rw [List.getElem?_append_right (by omega)] at hy'
      have e : j - acc.length = 0 := by
        have := (List.getElem?_eq_some_iff.mp hy').1
        simp only [List.length_singleton] at this
        omega
      rw [e] at hy'
      have e2 : j = i := by omega
      subst e2
      rw [hx] at hj
      cases hj
      cases hy'
      exact hy
  · rintro acc ⟨h1, h2⟩
    rw [List.length_map, Nat.min_self] at h1
    exact fin acc h1 h2
theorem k_lcM {α : Type} (xs : List α) (dx fx : α → D) {g : PGx} {vs : List Nat} (hl : xs.length ≤ 100000)
    (step : ∀ x, x ∈ xs → ∀ Q : D → Prop, Q (fx x) → g (dx x) (wipeD σd vs) fun σd2 => a σd2 (kDat Q)) (fin : Pn (xs.map fx)) : kLc g pYes a vs σd Pn (xs.map dx) := by
  refine k_lcR xs dx (fun x y => y = fx x) hl (fun x hx Q hQ => step x hx Q (hQ _ rfl)) fun ys h1 h2 => ?_
  have : ys = xs.map fx := by
    refine List.ext_getElem? fun i => ?_
    rw [List.getElem?_map]
    cases hx : xs[i]? with
    | none => exact List.getElem?_eq_none (by rw [h1]; exact List.getElem?_eq_none_iff.mp hx)
    | some x =>
      have hi : i < ys.length := by rw [h1]; exact (List.getElem?_eq_some_iff.mp hx).1
      rw [List.getElem?_eq_getElem hi, Option.map_some, h2 i x _ hx (List.getElem?_eq_getElem hi)]
  rw [this]
  exact fin
theorem rng_nat (n : Nat) : rangeD (n : Int) = (List.range n).map fun (i : Nat) => D.int (i : Int) := by unfold rangeD; rw [Int.toNat_natCast]
theorem enum_map {α : Type} (f : α → D) (xs : List α) : enumD (xs.map f) = xs.zipIdx.map fun p => .tup [.int (p.2 : Int), f p.1] := by
  unfold enumD
  rw [List.zipIdx_map, List.map_map]
  rfl
/-! ### exceptions -/
def kArgs (Q : List Cell → Prop) : List Cell → Prop := fun xs => ∃ ys, argsC xs = some ys ∧ Q ys
theorem k_args {Q : List Cell → Prop} {xs ys : List Cell} (e : argsC xs = some ys) (h : Q ys) : kArgs Q xs := ⟨ys, e, h⟩
theorem s_seqX {σd' : Sd} (he : σd = σd') (h : px { e with nx := qx e xr } xr σd') : pSeqX px qx e xr σd := he ▸ h
theorem s_ifX (h : t σd (kIf (px e xr σd) (qx e xr σd))) : pIfX t px qx e xr σd := h
theorem s_lift (h : p e σd) : pLiftX p e xr σd := h
theorem s_raise {m : Sd → (Ex → Prop) → Prop} (h : m σd fun x => xr x σd) : pRaise m e xr σd := h
theorem m_E1 {C : Addr} {f : Str} {X : Ex → Prop} (h : a σd (kDat fun d => X ⟨C, [(f, d)]⟩)) : pMkE1 C f a σd X := h
theorem s_dropX {m : Sd → (D → Prop) → (Ex → Prop) → Prop} (h : m σd (fun _ => e.nx σd) fun x => xr x σd) : pDropX m e xr σd := h
theorem e_makeC {C : Addr} {q : QIC} {Pd : D → Prop} {X : Ex → Prop} (h : as σd (kArgs fun ys => q ys (fun fs => Pd (.ins C fs)) X)) : pMakeC C q as σd Pd X := h
theorem e_callC {q : QC} (h : as σd (kArgs fun ys => q ys fun d => P (.dat d))) : pCallC q as σd P := h
def kTry (i : Nat) (Cs : List Addr) (ps : Addr → Value → Option Addr → PSx) (e : PEnds) (x : Ex) (σd' : Sd) : Prop := x.C ∈ Cs ∧ ∀ a cls d, ps a cls d { nx := fun z => e.nx (z.set i none), rt := e.rt, bk := fun z => e.bk (z.set i none), ct := fun z => e.ct (z.set i none), rn := e.rn } (σd'.set i (some (.ex a cls d x)))
theorem s_try {Cs : List Addr} {ps : Addr → Value → Option Addr → PSx} (h : px e (kTry i Cs ps e) σd) : pTry i Cs px ps e σd := h
theorem e_isX {a : Addr} {cls : Value} {d : Option Addr} {g : Addr → Option Bool} {x : Ex} {v : Bool} (hi : σd[i]? = some (some (.ex a cls d x))) (hg : g x.C = some v) (h : P (cB v)) : pIsX a cls d i g σd P := ⟨x, v, hi, hg, h⟩
theorem e_xf {a : Addr} {cls : Value} {d : Option Addr} {C : Addr} {f : Str} {x : Ex} {dd : D} (hi : σd[i]? = some (some (.ex a cls d x))) (hc : x.C = C) (hf : x.fs.lookup f = some dd) (h : P (.dat dd)) : pXf a cls d i C f σd P := ⟨x, dd, hi, hc, hf, h⟩
/-! ### own classes -/
def kFld (C : Addr) (f : Str) (P : Cell → Prop) (x : Cell) : Prop := ∃ fs d, (x = .dat (.ins C fs) ∨ ∃ o, x = .om o C fs) ∧ fs.lookup f = some d ∧ P (.dat d)
theorem e_fld' {C : Addr} {f : Str} (h : a σd (kFld C f P)) : pFld C f a σd P := h
def insC (C : Addr) : Cell → Option (List (Str × D))
  | .dat (.ins C' fs) => if C' = C then some fs else none
  | _ => none
theorem k_fld' {C : Addr} {f : Str} {x : Cell} {fs : List (Str × D)} {d : D} (hx : x = .dat (.ins C fs)) (hf : fs.lookup f = some d) (h : P (.dat d)) : kFld C f P x := ⟨fs, d, .inl hx, hf, h⟩
def kMethL (C : Addr) (m : Str) (q : QL) (b : PAx) (σd : Sd) (Pn : List D → Prop) (x : Cell) : Prop := ∃ fs, x = .dat (.ins C fs) ∧ fs.lookup m = none ∧ b σd fun xs => ∃ ds, datsC xs = some ds ∧ q (.ins C fs :: ds) fun x => ∃ es, x = .lm es ∧ Pn es
theorem e_methL {C : Addr} {m : Str} {q : QL} (h : a σd (kMethL C m q as σd Pn)) : pMethL C m q a as σd Pn := h
theorem k_methL {C : Addr} {m : Str} {q : QL} {x : Cell} {fs : List (Str × D)} (hx : x = .dat (.ins C fs)) (hm : fs.lookup m = none) (h : as σd (kDats fun ds => q (.ins C fs :: ds) fun x => ∃ es, x = .lm es ∧ Pn es)) : kMethL C m q as σd Pn x := ⟨fs, hx, hm, h⟩
theorem o_own {C : Addr} {q : QP} {x y : Cell} {fs gs : List (Str × D)} (hx : x = .dat (.ins C fs)) (hy : y = .dat (.ins C gs)) (h : q [.ins C fs, .ins C gs] fun d => P (.dat d)) : fOwn C q x y P := ⟨fs, gs, hx, hy, h⟩
theorem o_ownEq {C : Addr} {q : QP} {x : Cell} {fs : List (Str × D)} {d : D} {v : Bool} (hx : x = .dat (.ins C fs)) (hc : isC C d = some v) (h : q [.ins C fs, d] fun d => P (.dat d)) : fOwnEq C q x (.dat d) P := ⟨fs, d, v, hx, rfl, hc, h⟩
theorem o_ownEqR {C : Addr} {q : QP} {y : Cell} {fs : List (Str × D)} {d : D} (hy : y = .dat (.ins C fs)) (hl : leftD d = true) (h : q [.ins C fs, d] fun d => P (.dat d)) : fOwnEqR C q (.dat d) y P := ⟨fs, d, hy, rfl, hl, h⟩
theorem o_ownIn {C : Addr} {q : QP} {g : Bool → Bool} {y : Cell} {fs : List (Str × D)} {d : D} (hy : y = .dat (.ins C fs)) (h : q [.ins C fs, d] fun e => ∃ b, e = .bl b ∧ P (cB (g b))) : fOwnIn C q g (.dat d) y P := ⟨fs, d, hy, rfl, h⟩
theorem o_oneNo {C : Addr} {q : QP} {d : D} {fs : List (Str × D)} (hd : d = .ins C fs) (h : q [.ins C fs, .non] fun d => d = .bl false ∧ P (cB false)) : fOneNo C q (.lm [d]) (.lm [.non]) P := ⟨fs, by rw [hd], rfl, h⟩
def kIsC (C : Addr) (P : Cell → Prop) (x : Cell) : Prop := ∃ d b, x = .dat d ∧ isC C d = some b ∧ P (cB b)
theorem e_isC {C : Addr} (h : a σd (kIsC C P)) : pIsC C a σd P := h
theorem k_isC {C : Addr} {d : D} {v : Bool} (hd : isC C d = some v) (h : P (cB v)) : kIsC C P (.dat d) := ⟨d, v, rfl, hd, h⟩
def kGetKd (tb : List (Str × Int)) (y : Cell) (P : Cell → Prop) (z : Cell) : Prop := ∃ (k : Str) (i : Int), y = cS k ∧ z = cI i ∧ P (cI ((tb.lookup k).getD i))
theorem e_getKd {tb : List (Str × Int)} (h : a σd fun y => b σd fun z => kGetKd tb y P z) : pGetKd tb a b σd P := h
theorem k_getKd {tb : List (Str × Int)} {k : Str} {i : Int} (h : P (cI ((tb.lookup k).getD i))) : kGetKd tb (cS k) P (cI i) := ⟨k, i, rfl, rfl, h⟩
end
end My


/-! K25b: limits as data: their order, sorted lists without repeats. -/
namespace My
open PySem PySem.Spec PyProof.Rows L2 TL
/-! ### as data -/
theorem all_okN {n : Nat} {α : Type} (f : α → D) (xs : List α) (h : ∀ x, okN n (f x) = true) : (xs.map f).all (okN n) = true := by
  rw [List.all_eq_true]
  intro d hd
  obtain ⟨x, _, rfl⟩ := List.mem_map.mp hd
  exact h x
theorem ok_encT {n : Nat} (ts : List (Str × Int)) : okN (n + 2) (encT ts) = true := by
  show (ts.map termD).all (okN (n + 1)) = true
  refine all_okN _ _ fun p => ?_
  unfold termD
  cases n <;> rfl
theorem ok_encS {n : Nat} (c : Int) (ts : List (Str × Int)) : okN (n + 3) (encS c ts) = true := by
  show ([.int c, encT ts] : List D).all (okN (n + 2)) = true
  simp only [List.all_cons, List.all_nil, ok_encT, Bool.and_true]
  rfl
theorem ok_enc {n : Nat} (l : Lim) : okN (n + 4) (enc l) = true := by
  unfold enc
  cases l.st with
  | none =>
    show ([.str "reach", .str l.up, .str l.lo, encS l.c l.ts] : List D).all (okN (n + 3)) = true
    simp only [List.all_cons, List.all_nil, ok_encS, Bool.and_true]
    rfl
  | some z =>
    show ([.str "room", .str l.up, .str l.lo, .str z, encS l.c l.ts] : List D).all (okN (n + 3)) = true
    simp only [List.all_cons, List.all_nil, ok_encS, Bool.and_true]
    rfl
theorem okE (l : Lim) : okN 30 (enc l) = true := ok_enc (n := 26) l
theorem okLs (ls : List Lim) : (ls.map enc).all (okN 30) = true := all_okN _ _ okE
theorem okLD (ls : List Lim) : okN 30 (.lst (ls.map enc)) = true := all_okN (n := 29) _ _ fun l => ok_enc (n := 25) l
theorem termD_inj {p q : Str × Int} (h : termD p = termD q) : p = q := by
  obtain ⟨a, b⟩ := p
  obtain ⟨c, d⟩ := q
  unfold termD at h
  simp only [D.tup.injEq, List.cons.injEq, D.str.injEq, D.int.injEq, and_true] at h
  rw [h.1, h.2]
theorem map_inj {α β : Type} {f : α → β} (hf : ∀ x y, f x = f y → x = y) : ∀ {xs ys : List α}, xs.map f = ys.map f → xs = ys
  | [], [], _ => rfl
  | [], _ :: _, h => by cases h
  | _ :: _, [], h => by cases h
  | x :: xs, y :: ys, h => by
    simp only [List.map_cons, List.cons.injEq] at h
    rw [hf _ _ h.1, map_inj hf h.2]
theorem encT_inj {a b : List (Str × Int)} (h : encT a = encT b) : a = b := by
  unfold encT at h
  exact map_inj (fun _ _ => termD_inj) (D.tup.inj h)
theorem enc_inj {a b : Lim} (h : enc a = enc b) : a = b := by
  obtain ⟨au, al, as, ac, at_⟩ := a
  obtain ⟨bu, bl, bs, bc, bt⟩ := b
  unfold enc at h
  cases as with
  | none =>
    cases bs with
    | none =>
      simp only [encS, D.tup.injEq, List.cons.injEq, D.str.injEq, D.int.injEq, and_true, true_and] at h
      obtain ⟨h1, h2, h3, h4⟩ := h
      rw [h1, h2, h3, encT_inj h4]
    | some y => simp at h
  | some z =>
    cases bs with
    | none => simp at h
    | some y =>
      simp only [encS, D.tup.injEq, List.cons.injEq, D.str.injEq, D.int.injEq, and_true, true_and] at h
      obtain ⟨h1, h2, h3, h4, h5⟩ := h
      rw [h1, h2, h3, h4, encT_inj h5]
theorem enc_eq (a b : Lim) : dec (enc a = enc b) = decide (a = b) := (dec_congr ⟨enc_inj, fun e => by rw [e]⟩).trans dec_decide
theorem lst_eq (a b : List Lim) : dec ((.lst (a.map enc) : D) = .lst (b.map enc)) = decide (a = b) :=
  (dec_congr ⟨fun h => map_inj (fun _ _ => enc_inj) (D.lst.inj h), fun e => by rw [e]⟩).trans dec_decide
theorem enc_mem {l : Lim} {ls : List Lim} : enc l ∈ ls.map enc ↔ l ∈ ls := by
  rw [List.mem_map]
  exact ⟨fun ⟨m, hm, e⟩ => enc_inj e ▸ hm, fun h => ⟨l, h, rfl⟩⟩
theorem enc_mem_dec (l : Lim) (ls : List Lim) : dec (enc l ∈ ls.map enc) = decide (l ∈ ls) := (dec_congr enc_mem).trans dec_decide
/-! ### their order -/
theorem cps_inj {x y : Str} (h : x.cps.toList = y.cps.toList) : x = y := PySem.W.str_of_cps h
theorem lexS {x y : Str} (h : x ≠ y) (r s : List Tk) : lexLt itemOrd (.inr x.cps.toList :: r) (.inr y.cps.toList :: s) = decide (x.cps.toList < y.cps.toList) := by
  rw [lex_diff (O := itemOrd) (fun e => h (cps_inj (Sum.inr.inj e)))]
  rfl
theorem lexI {x y : Int} (h : x ≠ y) (r s : List Tk) : lexLt itemOrd (.inl x :: r) (.inl y :: s) = decide (x < y) := by
  rw [lex_diff (O := itemOrd) (fun e => h (Sum.inl.inj e))]
  rfl
theorem lexE (x : Tk) (r s : List Tk) : lexLt itemOrd (x :: r) (x :: s) = lexLt itemOrd r s := lex_self (O := itemOrd) x r s
theorem ltN_str {n : Nat} {x y : Str} : ltN n (.str x) (.str y) = some (decide (x.cps.toList < y.cps.toList)) := by cases n <;> rfl
theorem ltN_int {n : Nat} {x y : Int} : ltN n (.int x) (.int y) = some (decide (x < y)) := by cases n <;> rfl
theorem ltN_tup {n : Nat} {x y : List D} : ltN (n + 1) (.tup x) (.tup y) = lexO (ltN n) x y := rfl
theorem str_ne {x y : Str} (h : x ≠ y) : (D.str x) ≠ .str y := fun e => h (D.str.inj e)
theorem int_ne {x y : Int} (h : x ≠ y) : (D.int x) ≠ .int y := fun e => h (D.int.inj e)
theorem lt_terms {n : Nat} : ∀ (a b : List (Str × Int)), lexO (ltN (n + 1)) (a.map termD) (b.map termD) = some (lexLt itemOrd (tkT a) (tkT b))
  | [], [] => by
    show some false = _
    rw [tkT, lex_irrefl]
  | [], (m, u) :: b => by
    show some true = _
    rw [tkT, tkT, lexI (by decide)]
    rfl
  | (m, u) :: a, [] => by
    show some false = _
    rw [tkT, tkT, lexI (by decide)]
    rfl
  | (m, u) :: a, (k, v) :: b => by
    rw [List.map_cons, List.map_cons, tkT, tkT, lexE]
    by_cases h1 : m = k
    · subst h1
      rw [lexE]
      by_cases h2 : u = v
      · subst h2
        rw [lexE, lexO_eq]
        exact lt_terms a b
      · rw [lexI h2, lexO_ne (fun e => h2 (by have := termD_inj e; cases this; rfl))]
        unfold termD
        rw [ltN_tup, lexO_eq, lexO_ne (int_ne h2), ltN_int]
    · rw [lexS h1, lexO_ne (fun e => h1 (by have := termD_inj e; cases this; rfl))]
      unfold termD
      rw [ltN_tup, lexO_ne (str_ne h1), ltN_str]
theorem lt_sum {n : Nat} (c d : Int) (a b : List (Str × Int)) (h : encS c a ≠ encS d b) : ltN (n + 3) (encS c a) (encS d b) = some (lexLt itemOrd (tkR c a) (tkR d b)) := by
  unfold encS tkR
  rw [ltN_tup]
  by_cases h1 : c = d
  · subst h1
    rw [lexO_eq, lexE]
    have h2 : encT a ≠ encT b := fun e => h (by unfold encS; rw [e])
    rw [lexO_ne h2]
    unfold encT
    rw [ltN_tup]
    exact lt_terms a b
  · rw [lexO_ne (int_ne h1), lexI h1, ltN_int]
theorem lt_rest {n : Nat} (c d : Int) (a b : List (Str × Int)) : lexO (ltN (n + 3)) [encS c a] [encS d b] = some (lexLt itemOrd (tkR c a) (tkR d b)) := by
  by_cases h : encS c a = encS d b
  · rw [h, lexO_eq]
    unfold encS at h
    simp only [D.tup.injEq, List.cons.injEq, D.int.injEq, and_true] at h
    rw [h.1, encT_inj h.2, lex_irrefl]
    rfl
  · rw [lexO_ne h, lt_sum c d a b h]
theorem room_reach : ("reach" : Str) ≠ "room" := by decide +kernel
theorem lt_kinds : decide (("reach" : Str).cps.toList < ("room" : Str).cps.toList) = true ∧ decide (("room" : Str).cps.toList < ("reach" : Str).cps.toList) = false := by decide +kernel
theorem lt_enc {n : Nat} (a b : Lim) : ltN (n + 4) (enc a) (enc b) = some (lt a b) := by
  obtain ⟨au, al, as, ac, at_⟩ := a
  obtain ⟨bu, bl, bs, bc, bt⟩ := b
  unfold lt tk enc Lim.kind tkQ
  cases as with
  | none =>
    cases bs with
    | none =>
      simp only
      rw [ltN_tup, lexO_eq, lexE]
      by_cases h1 : au = bu
      · subst h1
        rw [lexO_eq, lexE]
        by_cases h2 : al = bl
        · subst h2
          rw [lexO_eq, lexE]
          exact lt_rest _ _ _ _
        · rw [lexO_ne (str_ne h2), lexS h2, ltN_str]
      · rw [lexO_ne (str_ne h1), lexS h1, ltN_str]
    | some y =>
      simp only
      rw [ltN_tup, lexO_ne (str_ne room_reach), lexS room_reach, ltN_str]
  | some z =>
    cases bs with
    | none =>
      simp only
      rw [ltN_tup, lexO_ne (str_ne room_reach.symm), lexS room_reach.symm, ltN_str]
    | some y =>
      simp only
      rw [ltN_tup, lexO_eq, lexE]
      by_cases h1 : au = bu
      · subst h1
        rw [lexO_eq, lexE]
        by_cases h2 : al = bl
        · subst h2
          rw [lexO_eq, lexE]
          by_cases h3 : z = y
          · subst h3
            rw [lexO_eq, lexE]
            exact lt_rest _ _ _ _
          · rw [lexO_ne (str_ne h3), lexS h3, ltN_str]
        · rw [lexO_ne (str_ne h2), lexS h2, ltN_str]
      · rw [lexO_ne (str_ne h1), lexS h1, ltN_str]
theorem ltE (a b : Lim) : ltN 30 (enc a) (enc b) = some (lt a b) := lt_enc (n := 26) a b
theorem tkT_inj : ∀ {a b : List (Str × Int)}, tkT a = tkT b → a = b
  | [], [], _ => rfl
  | [], (m, u) :: b, h => by
    rw [tkT, tkT] at h
    simp at h
  | (m, u) :: a, [], h => by
    rw [tkT, tkT] at h
    simp at h
  | (m, u) :: a, (k, v) :: b, h => by
    rw [tkT, tkT] at h
    simp only [List.cons.injEq, Sum.inr.injEq, Sum.inl.injEq, true_and] at h
    rw [cps_inj h.1, h.2.1, tkT_inj h.2.2]
theorem tk_inj {a b : Lim} (h : tk a = tk b) : a = b := by
  obtain ⟨au, al, as, ac, at_⟩ := a
  obtain ⟨bu, bl, bs, bc, bt⟩ := b
  unfold tk at h
  simp only [List.cons.injEq, Sum.inr.injEq] at h
  obtain ⟨h1, h2, h3, h4⟩ := h
  have h2 := cps_inj h2
  have h3 := cps_inj h3
  have h1 := cps_inj h1
  unfold Lim.kind at h1
  unfold tkQ tkR at h4
  cases as with
  | none =>
    cases bs with
    | none =>
      simp only [List.cons.injEq, Sum.inl.injEq] at h4
      rw [show au = bu from h2, show al = bl from h3, h4.1, tkT_inj h4.2]
    | some y => exact absurd h1 room_reach
  | some z =>
    cases bs with
    | none => exact absurd h1.symm room_reach
    | some y =>
      simp only [List.cons.injEq, Sum.inl.injEq, Sum.inr.injEq] at h4
      rw [show au = bu from h2, show al = bl from h3, cps_inj h4.1, h4.2.1, tkT_inj h4.2.2]
theorem lt_irr (a : Lim) : lt a a = false := lex_irrefl _
theorem lt_tr {a b c : Lim} (h1 : lt a b = true) (h2 : lt b c = true) : lt a c = true := lex_trans _ _ _ h1 h2
theorem lt_tot {a b : Lim} (h1 : lt a b = false) (h2 : lt b a = false) : a = b := tk_inj (lex_total _ _ h1 h2)
theorem lt_asy {a b : Lim} (h : lt a b = true) : lt b a = false := by
  cases e : lt b a with
  | false => rfl
  | true => rw [← lt_irr a, lt_tr h e]
/-- not greater: passed on -/
theorem le_tr {a b c : Lim} (h1 : lt b a = false) (h2 : lt c b = false) : lt c a = false := by
  cases e : lt c a with
  | false => rfl
  | true =>
    cases f : lt a b with
    | true => rw [lt_tr e f] at h2; cases h2
    | false =>
      have := lt_tot f h1
      subst this
      rw [e] at h2
      cases h2
/-! ### sorted, each once -/
theorem mem_insF {x y : Lim} : ∀ {ls : List Lim}, y ∈ insF x ls ↔ y = x ∨ y ∈ ls
  | [] => by simp [insF]
  | z :: r => by
    rw [insF]
    by_cases h1 : x = z
    · rw [if_pos h1]
      subst h1
      simp
    · rw [if_neg h1]
      by_cases h2 : lt x z = true
      · rw [if_pos h2]
        simp
      · rw [if_neg h2, List.mem_cons, mem_insF, List.mem_cons]
        exact ⟨fun h => by rcases h with h | h | h <;> simp [h], fun h => by rcases h with h | h | h <;> simp [h]⟩
theorem ssrt_insF {x : Lim} : ∀ {ls : List Lim}, SSrt ls → SSrt (insF x ls)
  | [], _ => List.pairwise_singleton _ _
  | z :: r, h => by
    have hz := List.pairwise_cons.mp h
    rw [insF]
    by_cases h1 : x = z
    · rw [if_pos h1]
      exact h
    · rw [if_neg h1]
      by_cases h2 : lt x z = true
      · rw [if_pos h2]
        exact List.pairwise_cons.mpr ⟨fun y hy => by
          rcases List.mem_cons.mp hy with e | e
          · rw [e]; exact h2
          · exact lt_tr h2 (hz.1 y e), h⟩
      · rw [if_neg h2]
        refine List.pairwise_cons.mpr ⟨fun y hy => ?_, ssrt_insF hz.2⟩
        rcases mem_insF.mp hy with e | e
        · rw [e]
          cases q : lt z x with
          | true => rfl
          | false => exact absurd (lt_tot (by simpa using h2) q) h1
        · exact hz.1 y e
theorem fold_ins (ls : List Lim) : ∀ (acc : List Lim), SSrt acc → SSrt (ls.foldl (fun acc x => insF x acc) acc) ∧ ∀ y, y ∈ ls.foldl (fun acc x => insF x acc) acc ↔ y ∈ acc ∨ y ∈ ls := by
  induction ls with
  | nil => intro acc h; exact ⟨h, fun y => by simp⟩
  | cons x r ih =>
    intro acc h
    obtain ⟨h1, h2⟩ := ih (insF x acc) (ssrt_insF h)
    refine ⟨h1, fun y => ?_⟩
    rw [List.foldl_cons, h2, mem_insF, List.mem_cons]
    exact ⟨fun h => by rcases h with (h | h) | h <;> simp [h], fun h => by rcases h with h | h | h <;> simp [h]⟩
theorem ssrt_cn (ls : List Lim) : SSrt (cn ls) := (fold_ins ls [] List.Pairwise.nil).1
theorem mem_cn {ls : List Lim} {y : Lim} : y ∈ cn ls ↔ y ∈ ls := by
  have := (fold_ins ls [] List.Pairwise.nil).2 y
  unfold cn
  rw [this]
  simp
/-- a strictly sorted list is told by its members -/
theorem ssrt_ext : ∀ {a b : List Lim}, SSrt a → SSrt b → (∀ y, y ∈ a ↔ y ∈ b) → a = b
  | [], [], _, _, _ => rfl
  | [], y :: b, _, _, h => absurd ((h y).mpr (List.mem_cons_self ..)) (List.not_mem_nil)
  | x :: a, [], _, _, h => absurd ((h x).mp (List.mem_cons_self ..)) (List.not_mem_nil)
  | x :: a, y :: b, ha, hb, h => by
    have pa := List.pairwise_cons.mp ha
    have pb := List.pairwise_cons.mp hb
    have e : x = y := by
      rcases List.mem_cons.mp ((h x).mp (List.mem_cons_self ..)) with e | e
      · exact e
      · rcases List.mem_cons.mp ((h y).mpr (List.mem_cons_self ..)) with f | f
        · exact f.symm
        · have := lt_asy (pb.1 x e)
          rw [pa.1 y f] at this
          cases this
    subst e
    rw [ssrt_ext pa.2 pb.2 fun y => ?_]
    have hy := h y
    rw [List.mem_cons, List.mem_cons] at hy
    constructor
    · intro m
      rcases hy.mp (.inr m) with e | e
      · subst e
        have := pa.1 y m
        rw [lt_irr] at this
        cases this
      · exact e
    · intro m
      rcases hy.mpr (.inr m) with e | e
      · subst e
        have := pb.1 y m
        rw [lt_irr] at this
        cases this
      · exact e
theorem cn_of {ls rs : List Lim} (h : SSrt rs) (hm : ∀ y, y ∈ rs ↔ y ∈ ls) : rs = cn ls := ssrt_ext h (ssrt_cn ls) fun y => by rw [hm, mem_cn]
theorem cn_self {ls : List Lim} (h : SSrt ls) : cn ls = ls := (cn_of h fun _ => Iff.rfl).symm
theorem nodup_le {α : Type} [DecidableEq α] : ∀ {l m : List α}, l.Nodup → (∀ x ∈ l, x ∈ m) → l.length ≤ m.length
  | [], m, _, _ => Nat.zero_le _
  | x :: l, m, hn, h => by
    have hx := h x (List.mem_cons_self ..)
    obtain ⟨h1, h2⟩ := List.nodup_cons.mp hn
    have := nodup_le (l := l) (m := m.erase x) h2 fun y hy => (List.mem_erase_of_ne (fun (e : y = x) => h1 (e ▸ hy))).mpr (h y (List.mem_cons_of_mem _ hy))
    have e := List.length_erase_of_mem hx
    have p := List.length_pos_of_mem hx
    rw [List.length_cons]
    omega
theorem ssrt_nodup {ls : List Lim} (h : SSrt ls) : ls.Nodup := List.Pairwise.imp (fun {a b} (q : lt a b = true) e => by rw [e, lt_irr] at q; cases q) h
theorem cn_len {ls : List Lim} : (cn ls).length ≤ ls.length := nodup_le (ssrt_nodup (ssrt_cn ls)) fun x hx => mem_cn.mp hx
theorem filter_ssrt {ls : List Lim} {p : Lim → Bool} (h : SSrt ls) : SSrt (ls.filter p) := List.Pairwise.filter p h
end My


/-! K25c: in_order, distinct. -/
namespace My
open PySem PySem.Spec PyProof.Rows L2 TL
local macro_rules | `(tactic| fail) => `(tactic| first
  | ((with_reducible apply e_var); (· exact rfl))
  | (with_reducible (first | refine e_c ?_ | refine e_op ?_ | refine e_cons ?_ | refine e_nil ?_ | refine k_dat ?_ | refine g_name ?_ | refine s_asg ?_ | refine e_call ?_ | refine e_test ?_ | refine k_b ?_ | refine s_ifS ?_ | refine s_next ?_ | refine e_cb ?_ | refine s_ret ?_ | refine e_newL ?_ | refine e_frz ?_ | refine e_lst ?_ | refine e_tup ?_))
  | ((with_reducible apply s_seqN); · first | (dsimp only [List.set]; done) | (dsimp only [List.set]; exact rfl) | exact rfl)
  | ((with_reducible apply k_dats); (· exact rfl))
  | (with_reducible (first | refine o_eqI ?_ | refine o_eqS ?_ | refine o_neI ?_ | refine o_neS ?_ | refine o_I ?_ | refine o_IB ?_ | refine o_SB ?_ | refine o_neg ?_ | refine o_inSign ?_ | refine o_isB ?_))
  | ((with_reducible apply o_ixT); (· exact rfl); (· exact rfl))
  | ((with_reducible apply o_ixL); (· exact rfl); (· exact rfl))
  | ((with_reducible apply b_lenQ); (· exact rfl))
  | ((with_reducible apply k_seq); (· exact rfl); (· exact Nat.le_of_ble_eq_true rfl))
  | (with_reducible (first | refine e_opN ?_ | refine e_un ?_ | refine e_noPart ?_ | refine e_part ?_ | refine k_i ?_ | refine e_slS ?_ | refine e_slL ?_ | refine e_slA ?_ | refine e_and ?_ | refine e_or ?_ | refine e_not ?_ | refine e_yes ?_ | refine e_if ?_ | refine e_andV ?_ | refine e_orV ?_ | refine e_notV ?_ | refine e_chain ?_ | refine e_cbn ?_ | refine e_join ?_ | refine k_str ?_ | refine e_rev ?_ | refine e_IL ?_ | refine e_IT ?_ | refine e_IS ?_ | refine e_IR ?_ | refine e_IE ?_ | refine k_par ?_ | refine k_par3 ?_ | refine s_brk ?_ | refine s_cont ?_ | refine s_drop ?_ | refine s_new ?_ | refine s_par ?_ | refine s_par3 ?_ | refine s_for ?_ | refine s_forX ?_ | refine s_retNw ?_ | refine s_setL ?_ | refine s_self ?_ | refine g_cons ?_ | refine g_nil ?_ | refine b_int ?_ | refine b_strS ?_ | refine b_max2 ?_ | refine k_id ?_ | refine e_lc ?_ | refine s_ifX ?_ | refine s_lift ?_ | refine s_raise ?_ | refine m_E1 ?_ | refine s_dropX ?_ | refine e_makeC ?_ | refine e_callC ?_ | refine s_try ?_ | refine e_fld' ?_ | refine e_methL ?_ | refine e_isC ?_ | refine e_getKd ?_ | refine k_getKd ?_))
  | ((with_reducible apply s_app); (· exact rfl))
  | ((with_reducible apply s_frzC); (· exact rfl); (· exact rfl))
  | ((with_reducible apply k_lst); (· exact rfl))
  | ((with_reducible apply k_tup); (· exact rfl))
  | ((with_reducible apply k_enum); (· exact rfl))
  | ((with_reducible apply k_slA); (· exact rfl))
  | ((with_reducible apply g_tup); (· exact rfl))
  | ((with_reducible apply k_seqL); (· exact rfl))
  | ((with_reducible apply k_slL); (· exact rfl))
  | ((with_reducible apply b_tuple); (· exact rfl))
  | ((with_reducible apply b_list); (· exact rfl))
  | ((with_reducible apply k_setB); (· exact rfl))
  | ((with_reducible apply s_clear); (· exact rfl))
  | ((with_reducible apply k_ifT); (· first | exact rfl | decide))
  | ((with_reducible apply k_ifF); (· first | exact rfl | decide))
  | ((with_reducible apply k_rng); (· decide); (· decide))
  | ((with_reducible apply q_take); (· decide); (· decide))
  | ((with_reducible apply s_seqX); (· first | (dsimp only [List.set]; done) | (dsimp only [List.set]; exact rfl) | exact rfl))
  | ((with_reducible apply k_args); (· exact rfl))
  | ((with_reducible apply e_ISV); (· exact rfl); (· assumption))
  | ((with_reducible apply k_fld'); (· exact rfl); (· exact rfl))
  | ((with_reducible apply k_methL); (· exact rfl); (· exact rfl)))
theorem at_enc {ls : List Lim} {k : Nat} {l : Lim} (h : ls[k]? = some l) : atI (ls.map enc) (k : Int) = some (enc l) := atI_nat (by rw [List.getElem?_map, h]; rfl)
theorem get_enc {ls : List Lim} {i : Nat} {d : D} (h : (ls.map enc)[i]? = some d) : ∃ l, ls[i]? = some l ∧ d = enc l := by
  rw [List.getElem?_map] at h
  obtain ⟨z, h1, rfl⟩ := Option.map_eq_some_iff.mp h
  exact ⟨z, h1, rfl⟩
theorem take_snoc {α : Type} {xs : List α} {i : Nat} {x : α} (h : xs[i]? = some x) : xs.take (i + 1) = xs.take i ++ [x] := by rw [List.take_add_one, h]; rfl
theorem drop_cons {α : Type} {xs : List α} {i : Nat} {x : α} (h : xs[i]? = some x) : xs.drop i = x :: xs.drop (i + 1) := by
  obtain ⟨h1, h2⟩ := List.getElem?_eq_some_iff.mp h
  rw [List.drop_eq_getElem_cons h1, h2]
theorem srt_drop {ls : List Lim} {i : Nat} {x : Lim} (hs : Srt ls) (h : ls[i]? = some x) : ∀ y ∈ ls.drop (i + 1), lt y x = false := by
  have := List.Pairwise.drop (i := i) hs
  rw [drop_cons h] at this
  exact (List.pairwise_cons.mp this).1
theorem srt_snoc {rs : List Lim} {x : Lim} (hs : Srt rs) (h : ∀ y ∈ rs, lt x y = false) : Srt (rs ++ [x]) :=
  List.pairwise_append.mpr ⟨hs, List.pairwise_singleton _ _, fun a ha b hb => by rw [List.mem_singleton.mp hb]; exact h a ha⟩
theorem sIx_nat (n : Nat) (dflt k : Nat) : HT.sIx n dflt (some (k : Int)) = min k n := by
  unfold HT.sIx
  simp
  intro h
  omega
theorem cut_tail {α : Type} (xs : List α) (k : Nat) (h : k ≤ xs.length) : cutL xs (some (k : Int)) none = xs.drop k := by
  unfold cutL
  rw [sIx_nat, Nat.min_eq_left h]
  show (xs.drop k).take (xs.length - k) = _
  exact List.take_of_length_le (by rw [List.length_drop]; omega)
theorem cut_head {α : Type} (xs : List α) (k : Nat) : cutL xs none (some (k : Int)) = xs.take k := by
  unfold cutL
  rw [sIx_nat]
  show (xs.drop 0).take (min k xs.length - 0) = _
  rw [List.drop_zero, Nat.sub_zero]
  by_cases h : k ≤ xs.length
  · rw [Nat.min_eq_left h]
  · rw [Nat.min_eq_right (by omega), List.take_length, List.take_of_length_le (by omega)]
structure MI (as bs rs : List Lim) (i k : Nat) : Prop where
  kl : k ≤ bs.length
  pm : rs.Perm (as.take i ++ bs.take k)
  sr : Srt rs
  ga : ∀ x ∈ rs, ∀ y ∈ as.drop i, lt y x = false
  gb : ∀ x ∈ rs, ∀ y ∈ bs.drop k, lt y x = false
theorem MI.takeB {as bs rs : List Lim} {i k : Nat} {a b : Lim} (h : MI as bs rs i k) (sa : Srt as) (sb : Srt bs) (ha : as[i]? = some a) (hb : bs[k]? = some b) (hl : lt b a = true) : MI as bs (rs ++ [b]) i (k + 1) := by
  have hk : k < bs.length := (List.getElem?_eq_some_iff.mp hb).1
  have mb : b ∈ bs.drop k := by rw [drop_cons hb]; exact List.mem_cons_self ..
  refine ⟨hk, ?_, srt_snoc h.sr fun y hy => h.gb y hy b mb, fun x hx y hy => ?_, fun x hx y hy => ?_⟩
  · rw [take_snoc hb, ← List.append_assoc]
    exact h.pm.append_right _
  · rcases List.mem_append.mp hx with hx | hx
    · exact h.ga x hx y hy
    · rw [List.mem_singleton.mp hx]
      rw [drop_cons ha] at hy
      rcases List.mem_cons.mp hy with e | e
      · rw [e]; exact lt_asy hl
      · exact le_tr (lt_asy hl) (srt_drop sa ha y e)
  · rcases List.mem_append.mp hx with hx | hx
    · exact h.gb x hx y (by rw [drop_cons hb]; exact List.mem_cons_of_mem _ hy)
    · rw [List.mem_singleton.mp hx]
      exact srt_drop sb hb y hy
theorem MI.takeA {as bs rs : List Lim} {i k : Nat} {a : Lim} (h : MI as bs rs i k) (sa : Srt as) (sb : Srt bs) (ha : as[i]? = some a) (hl : ∀ b, bs[k]? = some b → lt b a = false) : MI as bs (rs ++ [a]) (i + 1) k := by
  have ma : a ∈ as.drop i := by rw [drop_cons ha]; exact List.mem_cons_self ..
  refine ⟨h.kl, ?_, srt_snoc h.sr fun y hy => h.ga y hy a ma, fun x hx y hy => ?_, fun x hx y hy => ?_⟩
  · rw [take_snoc ha, List.append_assoc]
    refine (h.pm.append_right [a]).trans ?_
    rw [List.append_assoc]
    exact List.Perm.append_left _ List.perm_append_comm
  · rcases List.mem_append.mp hx with hx | hx
    · exact h.ga x hx y (by rw [drop_cons ha]; exact List.mem_cons_of_mem _ hy)
    · rw [List.mem_singleton.mp hx]
      exact srt_drop sa ha y hy
  · rcases List.mem_append.mp hx with hx | hx
    · exact h.gb x hx y hy
    · rw [List.mem_singleton.mp hx]
      cases hb : bs[k]? with
      | none => rw [List.drop_of_length_le (List.getElem?_eq_none_iff.mp hb)] at hy; cases hy
      | some b =>
        rw [drop_cons hb] at hy
        rcases List.mem_cons.mp hy with e | e
        · rw [e]; exact hl b hb
        · exact le_tr (hl b hb) (srt_drop sb hb y e)
theorem MI.len {as bs rs : List Lim} {i k : Nat} (h : MI as bs rs i k) : rs.length ≤ as.length + bs.length := by
  have := h.pm.length_eq
  rw [this, List.length_append, List.length_take, List.length_take]
  omega
theorem map_snoc {α β : Type} (f : α → β) (xs : List α) (x : α) : xs.map f ++ [f x] = (xs ++ [x]).map f := by rw [List.map_append]; rfl
theorem pr_joined_rows (C : AD) : ∀ ds P, q_joined_rows ds P → p_joined_rows C { nx := fun _ => P .non, rt := P } (startD n_joined_rows ds) := by
  rintro ds P ⟨as, bs, rfl, hl, sa, sb, hP⟩
  rw [st_joined_rows]
  unfold p_joined_rows
  repeat fail
  refine ⟨fun i σ => ∃ rs k a4, σ = [some (.dat (limsD as)), some (.dat (limsD bs)), some (.lm (rs.map enc)), some (cI (k : Nat)), a4] ∧ MI as bs rs i k, ⟨[], 0, none, rfl, Nat.zero_le _, .refl _, .nil, (fun x hx => nomatch hx), (fun x hx => nomatch hx)⟩, ?_, ?_⟩
  · rintro i d σ hd ⟨rs, k, a4, rfl, m⟩
    obtain ⟨a, ha, rfl⟩ := get_enc hd
    repeat fail
    refine s_while (inv := fun n σ => ∃ rs k, σ = [some (.dat (limsD as)), some (.dat (limsD bs)), some (.lm (rs.map enc)), some (cI (k : Nat)), some (.dat (enc a))] ∧ MI as bs rs i k ∧ n = bs.length - k) (m := bs.length - k) ⟨rs, k, rfl, m, rfl⟩ ?_
    rintro n σ ⟨rs, k, rfl, m, rfl⟩
    have ml := m.len
    repeat fail
    rw [List.length_map]
    refine k_if (fun hk => ?_) (fun hk => ?_)
    · have hk : k < bs.length := by omega
      obtain ⟨b, hb⟩ : ∃ b, bs[k]? = some b := ⟨_, List.getElem?_eq_getElem hk⟩
      repeat fail
      refine o_ixL rfl (at_enc hb) ?_
      repeat fail
      refine o_ltO (okE _) (okE _) (ltE _ _) ?_
      repeat fail
      refine k_ifb (fun hl => ?_) (fun hl => ?_)
      · repeat fail
        refine o_ixL rfl (at_enc hb) ?_
        refine k_app (by rw [List.length_map]; omega) ?_
        rw [map_snoc]
        repeat fail
        exact ⟨bs.length - (k + 1), by omega, _, k + 1, rfl, m.takeB sa sb ha hb hl, rfl⟩
      · repeat fail
        refine k_app (by rw [List.length_map]; omega) ?_
        rw [map_snoc]
        refine ⟨rs ++ [a], k, _, rfl, m.takeA sa sb ha fun b' hb' => ?_⟩
        rw [hb] at hb'
        cases hb'
        exact hl
    · have hk : bs.length ≤ k := by omega
      repeat fail
      refine k_app (by rw [List.length_map]; omega) ?_
      rw [map_snoc]
      refine ⟨rs ++ [a], k, _, rfl, m.takeA sa sb ha fun b' hb' => ?_⟩
      rw [List.getElem?_eq_none hk] at hb'
      cases hb'
  · rintro σ ⟨rs, k, a4, rfl, m⟩
    rw [List.length_map] at m
    have ml := m.len
    repeat fail
    rw [cut_tail _ _ (by rw [List.length_map]; exact m.kl), ← List.map_drop]
    refine o_catL rfl rfl (by rw [List.length_map, List.length_map, List.length_drop]; omega) ?_
    rw [← List.map_append]
    repeat fail
    refine hP _ ?_ ?_
    · have := m.pm.append_right (bs.drop k)
      rw [List.append_assoc, List.take_append_drop, List.take_length] at this
      exact this
    · exact List.pairwise_append.mpr ⟨m.sr, List.Pairwise.drop sb, fun x hx y hy => m.gb x hx y hy⟩
end My


/-! K25d: in_order, distinct, names, sums, limits. -/
namespace My
open PySem PySem.Spec PyProof.Rows L2 TL
local macro_rules | `(tactic| fail) => `(tactic| first
  | ((with_reducible apply e_var); (· exact rfl))
  | (with_reducible (first | refine e_c ?_ | refine e_op ?_ | refine e_cons ?_ | refine e_nil ?_ | refine k_dat ?_ | refine g_name ?_ | refine s_asg ?_ | refine e_call ?_ | refine e_test ?_ | refine k_b ?_ | refine s_ifS ?_ | refine s_next ?_ | refine e_cb ?_ | refine s_ret ?_ | refine e_newL ?_ | refine e_frz ?_ | refine e_lst ?_ | refine e_tup ?_))
  | ((with_reducible apply s_seqN); · first | (dsimp only [List.set]; done) | (dsimp only [List.set]; exact rfl) | exact rfl)
  | ((with_reducible apply k_dats); (· exact rfl))
  | (with_reducible (first | refine o_eqI ?_ | refine o_eqS ?_ | refine o_neI ?_ | refine o_neS ?_ | refine o_I ?_ | refine o_IB ?_ | refine o_SB ?_ | refine o_neg ?_ | refine o_inSign ?_ | refine o_isB ?_))
  | ((with_reducible apply o_ixT); (· exact rfl); (· exact rfl))
  | ((with_reducible apply o_ixL); (· exact rfl); (· exact rfl))
  | ((with_reducible apply b_lenQ); (· exact rfl))
  | ((with_reducible apply k_seq); (· exact rfl); (· exact Nat.le_of_ble_eq_true rfl))
  | (with_reducible (first | refine e_opN ?_ | refine e_un ?_ | refine e_noPart ?_ | refine e_part ?_ | refine k_i ?_ | refine e_slS ?_ | refine e_slL ?_ | refine e_slA ?_ | refine e_and ?_ | refine e_or ?_ | refine e_not ?_ | refine e_yes ?_ | refine e_if ?_ | refine e_andV ?_ | refine e_orV ?_ | refine e_notV ?_ | refine e_chain ?_ | refine e_cbn ?_ | refine e_join ?_ | refine k_str ?_ | refine e_rev ?_ | refine e_IL ?_ | refine e_IT ?_ | refine e_IS ?_ | refine e_IR ?_ | refine e_IE ?_ | refine k_par ?_ | refine k_par3 ?_ | refine s_brk ?_ | refine s_cont ?_ | refine s_drop ?_ | refine s_new ?_ | refine s_par ?_ | refine s_par3 ?_ | refine s_for ?_ | refine s_forX ?_ | refine s_retNw ?_ | refine s_setL ?_ | refine s_self ?_ | refine g_cons ?_ | refine g_nil ?_ | refine b_int ?_ | refine b_strS ?_ | refine b_max2 ?_ | refine k_id ?_ | refine e_lc ?_ | refine s_ifX ?_ | refine s_lift ?_ | refine s_raise ?_ | refine m_E1 ?_ | refine s_dropX ?_ | refine e_makeC ?_ | refine e_callC ?_ | refine s_try ?_ | refine e_fld' ?_ | refine e_methL ?_ | refine e_isC ?_ | refine e_getKd ?_ | refine k_getKd ?_))
  | ((with_reducible apply s_app); (· exact rfl))
  | ((with_reducible apply s_frzC); (· exact rfl); (· exact rfl))
  | ((with_reducible apply k_lst); (· exact rfl))
  | ((with_reducible apply k_tup); (· exact rfl))
  | ((with_reducible apply k_enum); (· exact rfl))
  | ((with_reducible apply k_slA); (· exact rfl))
  | ((with_reducible apply g_tup); (· exact rfl))
  | ((with_reducible apply k_seqL); (· exact rfl))
  | ((with_reducible apply k_slL); (· exact rfl))
  | ((with_reducible apply b_tuple); (· exact rfl))
  | ((with_reducible apply b_list); (· exact rfl))
  | ((with_reducible apply k_setB); (· exact rfl))
  | ((with_reducible apply s_clear); (· exact rfl))
  | ((with_reducible apply k_ifT); (· first | exact rfl | decide))
  | ((with_reducible apply k_ifF); (· first | exact rfl | decide))
  | ((with_reducible apply k_rng); (· decide); (· decide))
  | ((with_reducible apply q_take); (· decide); (· decide))
  | ((with_reducible apply s_seqX); (· first | (dsimp only [List.set]; done) | (dsimp only [List.set]; exact rfl) | exact rfl))
  | ((with_reducible apply k_args); (· exact rfl))
  | ((with_reducible apply e_ISV); (· exact rfl); (· assumption))
  | ((with_reducible apply k_fld'); (· exact rfl); (· exact rfl))
  | ((with_reducible apply k_methL); (· exact rfl); (· exact rfl)))
theorem div2 (n : Nat) : ((n : Int) / 2) = ((n / 2 : Nat) : Int) := by omega
theorem pr_in_order (C : AD) (n : Nat) : ∀ ds P, q_in_order (n + 1) ds P → p_in_order C n { nx := fun _ => P .non, rt := P } (startD n_in_order ds) := by
  rintro ds P ⟨ls, rfl, hl, hk, hP⟩
  rw [st_in_order]
  unfold p_in_order
  repeat fail
  rw [List.length_map]
  refine k_if (fun h => ?_) (fun h => ?_)
  · repeat fail
    refine hP ls (.refl _) ?_
    match ls, h with
    | [], _ => exact .nil
    | [a], _ => exact List.pairwise_singleton _ _
    | a :: b :: r, h => simp only [List.length_cons] at h; omega
  · repeat fail
    rw [List.length_map]
    refine o_IC (wide_div (b := 2) (by decide) (by decide) (by decide) (by decide)) ?_
    dsimp only
    rw [div2]
    cases n with
    | zero => simp at hl; omega
    | succ n =>
      have hp : 2 ^ (n + 1) = 2 * 2 ^ n := by rw [Nat.pow_succ]; omega
      repeat fail
      rw [cut_head, ← List.map_take]
      refine ⟨ls.take (ls.length / 2), rfl, by rw [List.length_take]; omega, by rw [List.length_take]; omega, fun ra pa sa => ?_⟩
      repeat fail
      rw [cut_tail _ _ (by rw [List.length_map]; omega), ← List.map_drop]
      refine ⟨ls.drop (ls.length / 2), rfl, by rw [List.length_drop]; omega, by rw [List.length_drop]; omega, fun rb pb sb => ?_⟩
      repeat fail
      have la := pa.length_eq
      have lb := pb.length_eq
      rw [List.length_take] at la
      rw [List.length_drop] at lb
      refine ⟨ra, rb, rfl, by omega, sa, sb, fun rs pr sr => ?_⟩
      repeat fail
      refine hP rs (pr.trans ?_) sr
      have := pa.append pb
      rw [List.take_append_drop] at this
      exact this
/-! ### distinct -/
def keepF (ls : List Lim) (p : Lim × Nat) : Bool := decide (p.2 = 0) || !decide (ls[p.2 - 1]? = some p.1)
theorem keep_rec (ls : List Lim) : ∀ (pre r : List Lim), ls = pre ++ r → Srt ls → (∀ x ∈ pre, ∀ y ∈ r, lt y x = false) → SSrt ((r.zipIdx pre.length).filter (keepF ls) |>.map (·.1)) ∧ (∀ y, y ∈ ((r.zipIdx pre.length).filter (keepF ls) |>.map (·.1)) → y ∈ r) ∧
    (∀ y ∈ r, y ∈ ((r.zipIdx pre.length).filter (keepF ls) |>.map (·.1)) ∨ pre.getLast? = some y) ∧ ∀ y ∈ ((r.zipIdx pre.length).filter (keepF ls) |>.map (·.1)), ∀ z, pre.getLast? = some z → lt z y = true := by
  intro pre r
  induction r generalizing pre with
  | nil => intro _ _ _; exact ⟨.nil, fun y h => h, fun y h => (nomatch h), fun y h => (nomatch h)⟩
  | cons x r ih =>
    intro e hs hc
    have hx : ∀ y ∈ r, lt y x = false := by
      rw [e] at hs
      exact (List.pairwise_cons.mp (List.pairwise_append.mp hs).2.1).1
    obtain ⟨i1, i2, i3, i4⟩ := ih (pre ++ [x]) (by rw [e, List.append_assoc]; rfl) hs fun a ha b hb => by
      rcases List.mem_append.mp ha with ha | ha
      · exact hc a ha b (List.mem_cons_of_mem _ hb)
      · rw [List.mem_singleton.mp ha]; exact hx b hb
    rw [List.length_append, List.length_singleton] at i1 i2 i3 i4
    have gl : (pre ++ [x]).getLast? = some x := by simp
    rw [gl] at i3 i4
    have hk : keepF ls (x, pre.length) = true ↔ pre.getLast? ≠ some x := by
      unfold keepF
      cases pre with
      | nil => simp
      | cons a p =>
        have : ls[(a :: p).length - 1]? = (a :: p).getLast? := by
          rw [e, List.getElem?_append_left (by simp), List.getLast?_eq_getElem?]
        simp only [this]
        simp
    rw [List.zipIdx_cons, List.filter_cons]
    by_cases h : keepF ls (x, pre.length) = true
    · rw [if_pos h, List.map_cons]
      refine ⟨List.pairwise_cons.mpr ⟨fun y hy => i4 y hy x rfl, i1⟩, fun y hy => ?_, fun y hy => ?_, fun y hy z hz => ?_⟩
      · rcases List.mem_cons.mp hy with e | e
        · rw [e]; exact List.mem_cons_self ..
        · exact List.mem_cons_of_mem _ (i2 y e)
      · rcases List.mem_cons.mp hy with e | e
        · rw [e]; exact .inl (List.mem_cons_self ..)
        · rcases i3 y e with q | q
          · exact .inl (List.mem_cons_of_mem _ q)
          · cases q; exact .inl (List.mem_cons_self ..)
      · have hzx : lt z x = true := by
          cases q : lt z x with
          | true => rfl
          | false =>
            have mz : z ∈ pre := List.mem_of_getLast? hz
            have := lt_tot q (hc z mz x (List.mem_cons_self ..))
            exact absurd (this ▸ hz) (hk.mp h)
        rcases List.mem_cons.mp hy with e | e
        · rw [e]; exact hzx
        · exact lt_tr hzx (i4 y e x rfl)
    · rw [if_neg h]
      have hp : pre.getLast? = some x := Classical.byContradiction fun c => h (hk.mpr c)
      refine ⟨i1, fun y hy => List.mem_cons_of_mem _ (i2 y hy), fun y hy => ?_, fun y hy z hz => ?_⟩
      · rcases List.mem_cons.mp hy with e | e
        · exact .inr (by rw [e]; exact hp)
        · rcases i3 y e with q | q
          · exact .inl q
          · cases q; exact .inr hp
      · rw [hp] at hz
        cases hz
        exact i4 y hy x rfl
theorem keep_cn {ls rs : List Lim} (pm : rs.Perm ls) (hs : Srt rs) : ((rs.zipIdx).filter (keepF rs)).map (·.1) = cn ls := by
  obtain ⟨h1, h2, h3, _⟩ := keep_rec rs [] rs rfl hs fun x hx => nomatch hx
  refine cn_of h1 fun y => ⟨fun h => pm.mem_iff.mp (h2 y h), fun h => ?_⟩
  rcases h3 y (pm.mem_iff.mpr h) with q | q
  · exact q
  · cases q
theorem pr_distinct (C : AD) : ∀ ds P, q_distinct ds P → p_distinct C { nx := fun _ => P .non, rt := P } (startD n_distinct ds) := by
  rintro ds P ⟨ls, rfl, hl, hP⟩
  rw [st_distinct]
  unfold p_distinct
  repeat fail
  refine ⟨ls, rfl, by omega, by omega, fun rs pm sr => ?_⟩
  have lr := pm.length_eq
  repeat fail
  rw [enum_map]
  refine k_lcF rs.zipIdx _ (fun p => enc p.1) (keepF rs) (by rw [List.length_zipIdx]; omega) (fun p hp Q0 Q h1 h2 => ?_) ?_
  · obtain ⟨x, i⟩ := p
    have hx : rs[i]? = some x := by
      have := List.mem_zipIdx_iff_getElem?.mp hp
      exact this
    have hi : i < rs.length := (List.getElem?_eq_some_iff.mp hx).1
    repeat fail
    refine k_if (fun h => ?_) (fun h => ?_)
    · have h : i = 0 := by simpa using h
      subst h
      repeat fail
      exact h1 rfl
    · have h : i ≠ 0 := by simpa using h
      obtain ⟨j, rfl⟩ : ∃ j, i = j + 1 := ⟨i - 1, by omega⟩
      obtain ⟨y, hy⟩ : ∃ y, rs[j]? = some y := ⟨_, List.getElem?_eq_getElem (by omega)⟩
      repeat fail
      rw [show (((j + 1 : Nat) : Int) - 1) = (j : Int) from by omega]
      refine o_ixL rfl (at_enc hy) ?_
      repeat fail
      refine o_eqO rfl rfl (okE _) (okE _) ?_
      rw [enc_eq]
      repeat fail
      have kk : keepF rs (x, j + 1) = !decide (y = x) := by
        unfold keepF
        simp only [Nat.add_sub_cancel, hy]
        simp
      refine k_ifn (fun h => ?_) (fun h => ?_)
      · repeat fail
        exact h1 (by rw [kk, decide_eq_false h]; rfl)
      · exact h2 (by rw [kk, decide_eq_true h]; rfl)
  · have e : ((rs.zipIdx).filter (keepF rs)).map (fun p => enc p.1) = (cn ls).map enc := by rw [← keep_cn pm sr, List.map_map]; rfl
    rw [e]
    repeat fail
    exact hP
end My


/-! K25e: names, sums, limits, sheets. -/
namespace My
open PySem PySem.Spec PyProof.Rows L2 TL
local macro_rules | `(tactic| fail) => `(tactic| first
  | ((with_reducible apply e_var); (· exact rfl))
  | (with_reducible (first | refine e_c ?_ | refine e_op ?_ | refine e_cons ?_ | refine e_nil ?_ | refine k_dat ?_ | refine g_name ?_ | refine s_asg ?_ | refine e_call ?_ | refine e_test ?_ | refine k_b ?_ | refine s_ifS ?_ | refine s_next ?_ | refine e_cb ?_ | refine s_ret ?_ | refine e_newL ?_ | refine e_frz ?_ | refine e_lst ?_ | refine e_tup ?_))
  | ((with_reducible apply s_seqN); · first | (dsimp only [List.set]; done) | (dsimp only [List.set]; exact rfl) | exact rfl)
  | ((with_reducible apply k_dats); (· exact rfl))
  | (with_reducible (first | refine o_eqI ?_ | refine o_eqS ?_ | refine o_neI ?_ | refine o_neS ?_ | refine o_I ?_ | refine o_IB ?_ | refine o_SB ?_ | refine o_neg ?_ | refine o_inSign ?_ | refine o_isB ?_))
  | ((with_reducible apply o_ixT); (· exact rfl); (· exact rfl))
  | ((with_reducible apply o_ixL); (· exact rfl); (· exact rfl))
  | ((with_reducible apply b_lenQ); (· exact rfl))
  | ((with_reducible apply k_seq); (· exact rfl); (· exact Nat.le_of_ble_eq_true rfl))
  | (with_reducible (first | refine e_opN ?_ | refine e_un ?_ | refine e_noPart ?_ | refine e_part ?_ | refine k_i ?_ | refine e_slS ?_ | refine e_slL ?_ | refine e_slA ?_ | refine e_and ?_ | refine e_or ?_ | refine e_not ?_ | refine e_yes ?_ | refine e_if ?_ | refine e_andV ?_ | refine e_orV ?_ | refine e_notV ?_ | refine e_chain ?_ | refine e_cbn ?_ | refine e_join ?_ | refine k_str ?_ | refine e_rev ?_ | refine e_IL ?_ | refine e_IT ?_ | refine e_IS ?_ | refine e_IR ?_ | refine e_IE ?_ | refine k_par ?_ | refine k_par3 ?_ | refine s_brk ?_ | refine s_cont ?_ | refine s_drop ?_ | refine s_new ?_ | refine s_par ?_ | refine s_par3 ?_ | refine s_for ?_ | refine s_forX ?_ | refine s_retNw ?_ | refine s_setL ?_ | refine s_self ?_ | refine g_cons ?_ | refine g_nil ?_ | refine b_int ?_ | refine b_strS ?_ | refine b_max2 ?_ | refine k_id ?_ | refine e_lc ?_ | refine s_ifX ?_ | refine s_lift ?_ | refine s_raise ?_ | refine m_E1 ?_ | refine s_dropX ?_ | refine e_makeC ?_ | refine e_callC ?_ | refine s_try ?_ | refine e_fld' ?_ | refine e_methL ?_ | refine e_isC ?_ | refine e_getKd ?_ | refine k_getKd ?_))
  | ((with_reducible apply s_app); (· exact rfl))
  | ((with_reducible apply s_frzC); (· exact rfl); (· exact rfl))
  | ((with_reducible apply k_lst); (· exact rfl))
  | ((with_reducible apply k_tup); (· exact rfl))
  | ((with_reducible apply k_enum); (· exact rfl))
  | ((with_reducible apply k_slA); (· exact rfl))
  | ((with_reducible apply g_tup); (· exact rfl))
  | ((with_reducible apply k_seqL); (· exact rfl))
  | ((with_reducible apply k_slL); (· exact rfl))
  | ((with_reducible apply b_tuple); (· exact rfl))
  | ((with_reducible apply b_list); (· exact rfl))
  | ((with_reducible apply k_setB); (· exact rfl))
  | ((with_reducible apply s_clear); (· exact rfl))
  | ((with_reducible apply k_ifT); (· first | exact rfl | decide))
  | ((with_reducible apply k_ifF); (· first | exact rfl | decide))
  | ((with_reducible apply k_rng); (· decide); (· decide))
  | ((with_reducible apply q_take); (· decide); (· decide))
  | ((with_reducible apply s_seqX); (· first | (dsimp only [List.set]; done) | (dsimp only [List.set]; exact rfl) | exact rfl))
  | ((with_reducible apply k_args); (· exact rfl))
  | ((with_reducible apply e_ISV); (· exact rfl); (· assumption))
  | ((with_reducible apply k_fld'); (· exact rfl); (· exact rfl))
  | ((with_reducible apply k_methL); (· exact rfl); (· exact rfl)))
theorem at0 {α : Type} (a : α) (l : List α) : atI (a :: l) 0 = some a := (atI_nat (xs := a :: l) (j := 0) (v := a) rfl)
theorem isNm_cons {c : Nat} {r : List Nat} : isNm ⟨⟨c :: r⟩⟩ = (decide ((c :: r).length ≤ 12) && (decide (c ∈ letters) && (c :: r).all fun x => decide (x ∈ letters) || decide (x ∈ digits))) := rfl
theorem ret_bl {P : D → Prop} {a b : Bool} (h : P (.bl b)) (e : a = b) : P (.bl a) := e ▸ h
theorem pr_is_nameR (C : AD) : ∀ ds P, q_is_nameR ds P → p_is_nameR C { nx := fun _ => P .non, rt := P } (startD n_is_nameR ds) := by
  rintro ds P ⟨⟨⟨l⟩⟩, rfl, hl, hP⟩
  have hl : l.length ≤ 1000 := hl
  rw [st_is_nameR]
  unfold p_is_nameR
  repeat fail
  refine b_lenS (show l.length ≤ 1000000 by omega) ?_
  repeat fail
  show kIf _ _ (decide ((1 : Int) ≤ (l.length : Nat)))
  refine k_if (fun h1 => ?_) (fun h1 => ?_)
  · repeat fail
    show kIf _ _ (!decide (((l.length : Nat) : Int) ≤ 12))
    cases l with
    | nil => simp at h1
    | cons c r =>
      refine k_ifn (fun h2 => ?_) (fun h2 => ?_)
      · repeat fail
        refine ret_bl hP ?_
        rw [isNm_cons, decide_eq_false (by omega)]
        rfl
      · repeat fail
        refine o_ixS (show (c :: r).length ≤ 1000000 by omega) (at0 c r) ?_
        repeat fail
        refine k_ifn (fun h3 => ?_) (fun h3 => ?_)
        · repeat fail
          refine ret_bl hP ?_
          rw [isNm_cons, decide_eq_false (show ¬ c ∈ letters from h3)]
          simp
        · repeat fail
          refine k_lcM (c :: r) _ (fun x => .bl (decide (x ∈ letters) || decide (x ∈ digits))) (by omega) (fun x hx Q hQ => ?_) ?_
          · repeat fail
            refine k_if (fun h4 => ?_) (fun h4 => ?_)
            · repeat fail
              rw [decide_eq_true (show x ∈ letters from h4)] at hQ
              exact hQ
            · repeat fail
              rw [decide_eq_false (show ¬ x ∈ letters from h4)] at hQ
              exact hQ
          · repeat fail
            refine b_all (bs := (c :: r).map fun x => decide (x ∈ letters) || decide (x ∈ digits)) (by rw [List.map_map]; rfl) ?_
            repeat fail
            refine ret_bl hP ?_
            rw [isNm_cons, decide_eq_true (show (c :: r).length ≤ 12 by omega), decide_eq_true (show c ∈ letters from h3), List.all_map]
            simp
  · repeat fail
    refine ret_bl hP ?_
    cases l with
    | nil => rfl
    | cons c r => simp only [List.length_cons] at h1; omega
theorem pr_is_step_nameR (C : AD) : ∀ ds P, q_is_step_nameR ds P → p_is_step_nameR C { nx := fun _ => P .non, rt := P } (startD n_is_step_nameR ds) := by
  rintro ds P ⟨z, rfl, hl, hP⟩
  rw [st_is_step_nameR]
  unfold p_is_step_nameR
  repeat fail
  refine ⟨z, rfl, hl, ?_⟩
  repeat fail
  refine k_ifb (fun h => ?_) (fun h => ?_)
  · repeat fail
    refine ret_bl hP ?_
    unfold isSt
    rw [h, Bool.true_and]
  · repeat fail
    refine ret_bl hP ?_
    unfold isSt
    rw [h, Bool.false_and]
theorem pr_is_textR (C : AD) : ∀ ds P, q_is_textR ds P → p_is_textR C { nx := fun _ => P .non, rt := P } (startD n_is_textR ds) := by
  rintro ds P ⟨z, rfl, hl, hP⟩
  rw [st_is_textR]
  unfold p_is_textR
  repeat fail
  have hl' : z.cps.toList.length ≤ 1000 := by rw [Array.length_toList]; exact hl
  refine k_lcM z.cps.toList _ (fun x => .bl (decide (x ∈ charsL))) (by omega) (fun x hx Q hQ => ?_) ?_
  · repeat fail
    exact hQ
  · repeat fail
    refine b_all (bs := z.cps.toList.map fun x => decide (x ∈ charsL)) (by rw [List.map_map]; rfl) ?_
    repeat fail
    refine ret_bl hP ?_
    unfold isTx
    rw [List.all_map]
    rfl
theorem get_term {ts : List (Str × Int)} {i : Nat} {d : D} (h : (ts.map termD)[i]? = some d) : ∃ p, ts[i]? = some p ∧ d = termD p := by
  rw [List.getElem?_map] at h
  obtain ⟨z, h1, rfl⟩ := Option.map_eq_some_iff.mp h
  exact ⟨z, h1, rfl⟩
theorem pr_is_sum (C : AD) : ∀ ds P, q_is_sum ds P → p_is_sum C { nx := fun _ => P .non, rt := P } (startD n_is_sum ds) := by
  rintro ds P ⟨c, ts, rfl, hl, hP⟩
  rw [st_is_sum]
  unfold p_is_sum
  repeat fail
  refine ⟨fun i σ => ∃ b a2 a3, σ = [some (.dat (encS c ts)), some (cS b), a2, a3] ∧ sumB b (ts.drop i) = sumB "" ts, ⟨"", none, none, rfl, rfl⟩, ?_, ?_⟩
  · rintro i d σ hd ⟨b, a2, a3, rfl, hb⟩
    obtain ⟨⟨n, t⟩, hp, rfl⟩ := get_term hd
    have hn := hl _ (List.mem_of_getElem? hp)
    rw [drop_cons hp, sumB] at hb
    repeat fail
    refine ⟨n, rfl, hn, ?_⟩
    repeat fail
    refine k_ifb (fun h => ?_) (fun h => ?_)
    · repeat fail
      refine ret_bl hP ?_
      rw [← hb]
      cases q : isSt n with
      | true => rw [q] at h; cases h
      | false => rfl
    · have h : isSt n = true := by simpa using h
      rw [h, Bool.true_and] at hb
      repeat fail
      refine k_ifn (fun h2 => ?_) (fun h2 => ?_)
      · repeat fail
        refine ret_bl hP ?_
        rw [← hb]
        unfold ltS
        rw [decide_eq_false h2]
        rfl
      · unfold ltS at hb
        rw [decide_eq_true h2, Bool.true_and] at hb
        repeat fail
        refine k_if (fun h3 => ?_) (fun h3 => ?_)
        · repeat fail
          refine ret_bl hP ?_
          rw [← hb, decide_eq_true h3]
          rfl
        · rw [decide_eq_false h3] at hb
          repeat fail
          exact ⟨n, _, _, rfl, hb⟩
  · rintro σ ⟨b, a2, a3, rfl, hb⟩
    rw [List.length_map, List.drop_length, sumB] at hb
    repeat fail
    exact ret_bl hP hb
theorem room_look : tb_ITEM_COUNTS.lookup ("room" : Str) = some 5 := by decide +kernel
theorem reach_look : tb_ITEM_COUNTS.lookup ("reach" : Str) = some 4 := by decide +kernel
theorem pr_is_limit (C : AD) : ∀ ds P, q_is_limit ds P → p_is_limit C { nx := fun _ => P .non, rt := P } (startD n_is_limit ds) := by
  rintro ds P ⟨v, rfl, hz, hP⟩
  rw [st_is_limit]
  unfold p_is_limit
  cases v with
  | odd ds =>
    obtain ⟨ho, hlen, hc⟩ := hz
    show pSeq _ _ _ [some (.dat (.tup ds)), none, none]
    repeat fail
    rcases hc with rfl | ⟨k, r, rfl, hk⟩
    · repeat fail
      exact hP
    · refine k_ifF (by simp only [List.length_cons]; exact decide_eq_false (by omega)) ?_
      repeat fail
      refine o_ixT rfl (at0 _ _) ?_
      repeat fail
      refine k_ifn (fun _ => ?_) (fun z => absurd z hk)
      repeat fail
      exact hP
  | lim l =>
    obtain ⟨u, w, st, c, ts⟩ := l
    have z1 : u.length ≤ 1000 := hz.up
    have z2 : w.length ≤ 1000 := hz.lo
    have z4 : ∀ p ∈ ts, p.1.length ≤ 1000 := hz.ts
    have fin : ∀ {b : Bool}, Lim.ok ⟨u, w, st, c, ts⟩ = b → P (.bl b) := fun e => ret_bl hP e.symm
    cases st with
    | none =>
      show pSeq _ _ _ [some (.dat (enc ⟨u, w, none, c, ts⟩)), none, none]
      repeat fail
      refine ⟨u, rfl, z1, ?_⟩
      repeat fail
      refine k_ifb (fun h => ?_) (fun h => ?_)
      · repeat fail
        exact fin (by simp [Lim.ok, show isNm u = false by simpa using h])
      have h : isNm u = true := by simpa using h
      repeat fail
      refine ⟨w, rfl, z2, ?_⟩
      repeat fail
      refine k_ifb (fun h2 => ?_) (fun h2 => ?_)
      · repeat fail
        exact fin (by simp [Lim.ok, show isNm w = false by simpa using h2])
      have h2 : isNm w = true := by simpa using h2
      repeat fail
      refine k_if (fun h3 => ?_) (fun h3 => ?_)
      · repeat fail
        exact fin (by simp [Lim.ok, h3])
      repeat fail
      refine ⟨c, ts, rfl, z4, ?_⟩
      repeat fail
      exact fin (by simp [Lim.ok, h, h2, h3])
    | some z =>
      have z3 : z.length ≤ 1000 := hz.st
      show pSeq _ _ _ [some (.dat (enc ⟨u, w, some z, c, ts⟩)), none, none]
      repeat fail
      refine ⟨u, rfl, z1, ?_⟩
      repeat fail
      refine k_ifb (fun h => ?_) (fun h => ?_)
      · repeat fail
        exact fin (by simp [Lim.ok, show isNm u = false by simpa using h])
      have h : isNm u = true := by simpa using h
      repeat fail
      refine ⟨w, rfl, z2, ?_⟩
      repeat fail
      refine k_ifb (fun h2 => ?_) (fun h2 => ?_)
      · repeat fail
        exact fin (by simp [Lim.ok, show isNm w = false by simpa using h2])
      have h2 : isNm w = true := by simpa using h2
      repeat fail
      refine k_if (fun h3 => ?_) (fun h3 => ?_)
      · repeat fail
        exact fin (by simp [Lim.ok, h3])
      repeat fail
      refine ⟨z, rfl, z3, ?_⟩
      repeat fail
      refine k_ifb (fun h4 => ?_) (fun h4 => ?_)
      · repeat fail
        exact fin (by simp [Lim.ok, show isTx z = false by simpa using h4])
      have h4 : isTx z = true := by simpa using h4
      repeat fail
      refine ⟨c, ts, rfl, z4, ?_⟩
      repeat fail
      exact fin (by simp [Lim.ok, h, h2, h3, h4])
end My


/-! K25f: sheets. -/
namespace My
open PySem PySem.Spec PyProof.Rows L2 TL
theorem e_make0 {C : Addr} {q : QIC} {as : PAx} {σd : Sd} {P : Cell → Prop} (h : as σd (kArgs fun ys => q ys (fun fs => P (.dat (.ins C fs))) fun _ => False)) : pMake0 C q as σd P := h
theorem seqV_C {x : Cell} {ds : List D} (h : seqV x = some ds) : seqC x = some ds := by
  unfold seqV at h
  split at h
  · exact h
  · exact h
  · exact h
  · cases h
local macro_rules | `(tactic| fail) => `(tactic| first
  | ((with_reducible apply e_var); (· exact rfl))
  | (with_reducible (first | refine e_c ?_ | refine e_op ?_ | refine e_cons ?_ | refine e_nil ?_ | refine k_dat ?_ | refine g_name ?_ | refine s_asg ?_ | refine e_call ?_ | refine e_test ?_ | refine k_b ?_ | refine s_ifS ?_ | refine s_next ?_ | refine e_cb ?_ | refine s_ret ?_ | refine e_newL ?_ | refine e_frz ?_ | refine e_lst ?_ | refine e_tup ?_))
  | ((with_reducible apply s_seqN); · first | (dsimp only [List.set]; done) | (dsimp only [List.set]; exact rfl) | exact rfl)
  | ((with_reducible apply k_dats); (· exact rfl))
  | (with_reducible (first | refine o_eqI ?_ | refine o_eqS ?_ | refine o_neI ?_ | refine o_neS ?_ | refine o_I ?_ | refine o_IB ?_ | refine o_SB ?_ | refine o_neg ?_ | refine o_inSign ?_ | refine o_isB ?_))
  | ((with_reducible apply o_ixT); (· exact rfl); (· exact rfl))
  | ((with_reducible apply o_ixL); (· exact rfl); (· exact rfl))
  | ((with_reducible apply b_lenQ); (· exact rfl))
  | ((with_reducible apply k_seq); (· exact rfl); (· exact Nat.le_of_ble_eq_true rfl))
  | (with_reducible (first | refine e_opN ?_ | refine e_un ?_ | refine e_noPart ?_ | refine e_part ?_ | refine k_i ?_ | refine e_slS ?_ | refine e_slL ?_ | refine e_slA ?_ | refine e_and ?_ | refine e_or ?_ | refine e_not ?_ | refine e_yes ?_ | refine e_if ?_ | refine e_andV ?_ | refine e_orV ?_ | refine e_notV ?_ | refine e_chain ?_ | refine e_cbn ?_ | refine e_join ?_ | refine k_str ?_ | refine e_rev ?_ | refine e_IL ?_ | refine e_IT ?_ | refine e_IS ?_ | refine e_IR ?_ | refine e_IE ?_ | refine k_par ?_ | refine k_par3 ?_ | refine s_brk ?_ | refine s_cont ?_ | refine s_drop ?_ | refine s_new ?_ | refine s_par ?_ | refine s_par3 ?_ | refine s_for ?_ | refine s_forX ?_ | refine s_retNw ?_ | refine s_setL ?_ | refine s_self ?_ | refine g_cons ?_ | refine g_nil ?_ | refine b_int ?_ | refine b_strS ?_ | refine b_max2 ?_ | refine k_id ?_ | refine e_lc ?_ | refine s_ifX ?_ | refine s_lift ?_ | refine s_raise ?_ | refine m_E1 ?_ | refine s_dropX ?_ | refine e_makeC ?_ | refine e_callC ?_ | refine e_make0 ?_ | refine s_try ?_ | refine e_fld' ?_ | refine e_methL ?_ | refine e_isC ?_ | refine e_getKd ?_ | refine k_getKd ?_))
  | ((with_reducible apply s_app); (· exact rfl))
  | ((with_reducible apply s_frzC); (· exact rfl); (· exact rfl))
  | ((with_reducible apply k_lst); (· exact rfl))
  | ((with_reducible apply k_tup); (· exact rfl))
  | ((with_reducible apply k_enum); (· exact rfl))
  | ((with_reducible apply k_slA); (· exact rfl))
  | ((with_reducible apply g_tup); (· exact rfl))
  | ((with_reducible apply k_seqL); (· exact rfl))
  | ((with_reducible apply k_slL); (· exact rfl))
  | ((with_reducible apply b_tuple); (· exact rfl))
  | ((with_reducible apply b_list); (· exact rfl))
  | ((with_reducible apply k_setB); (· exact rfl))
  | ((with_reducible apply s_clear); (· exact rfl))
  | ((with_reducible apply k_ifT); (· first | exact rfl | decide))
  | ((with_reducible apply k_ifF); (· first | exact rfl | decide))
  | ((with_reducible apply k_rng); (· decide); (· decide))
  | ((with_reducible apply q_take); (· decide); (· decide))
  | ((with_reducible apply s_seqX); (· first | (dsimp only [List.set]; done) | (dsimp only [List.set]; exact rfl) | exact rfl))
  | ((with_reducible apply k_args); (· exact rfl))
  | ((with_reducible apply e_ISV); (· exact rfl); (· assumption))
  | ((with_reducible apply k_fld'); (· exact rfl); (· exact rfl))
  | ((with_reducible apply k_methL); (· exact rfl); (· exact rfl)))
theorem pr_Sheet_init (C : AD) : ∀ x xs P X, q_Sheet_init C xs P X → p_Sheet_init C { nx := fun σd => ∃ fs r, σd = some (.om x C.Sheet fs) :: r ∧ P fs, rt := fun _ => False } (fun ex _ => X ex) (some (.om x C.Sheet []) :: startC (n_Sheet_init.drop 1) xs) := by
  rintro o xs P X ⟨y, rfl, h⟩
  rw [st_Sheet_init]
  unfold p_Sheet_init
  rcases h with ⟨ls, hy, hz, hn, hP⟩ | ⟨ls, v, rest, hy, hz, hv, hb, hX⟩
  · repeat fail
    refine ⟨fun i σ => ∃ a, σ = [some (.om o C.Sheet []), some y, a], ⟨none, rfl⟩, ?_, ?_⟩
    · rintro i d σ hd ⟨a, rfl⟩
      obtain ⟨l, hl, rfl⟩ := get_enc hd
      obtain ⟨z, ok⟩ := hz _ (List.mem_of_getElem? hl)
      repeat fail
      refine ⟨.lim l, rfl, z, ?_⟩
      repeat fail
      refine k_ifF (by rw [show (Val.lim l).ok = l.ok from rfl, ok]; rfl) ?_
      repeat fail
      exact ⟨_, rfl⟩
    · rintro σ ⟨a, rfl⟩
      repeat fail
      refine b_list (seqV_C hy) ?_
      repeat fail
      refine ⟨ls, rfl, by omega, ?_⟩
      repeat fail
      exact k_self rfl (by decide) ⟨_, _, rfl, hP⟩
  · repeat fail
    refine ⟨fun i σ => i ≤ ls.length ∧ ∃ a, σ = [some (.om o C.Sheet []), some y, a], ⟨Nat.zero_le _, none, rfl⟩, ?_, ?_⟩
    · rintro i d σ hd ⟨hi, a, rfl⟩
      by_cases c : i < ls.length
      · rw [List.getElem?_append_left (by rw [List.length_map]; exact c)] at hd
        obtain ⟨l, hl, rfl⟩ := get_enc hd
        obtain ⟨z, ok⟩ := hz _ (List.mem_of_getElem? hl)
        repeat fail
        refine ⟨.lim l, rfl, z, ?_⟩
        repeat fail
        refine k_ifF (by rw [show (Val.lim l).ok = l.ok from rfl, ok]; rfl) ?_
        repeat fail
        exact ⟨by omega, _, rfl⟩
      · have e : i = (ls.map enc).length := by rw [List.length_map]; omega
        rw [e, List.getElem?_append_right (Nat.le_refl _), Nat.sub_self] at hd
        cases hd
        repeat fail
        refine ⟨v, rfl, hv, ?_⟩
        repeat fail
        refine k_ifT (by rw [hb]; rfl) ?_
        repeat fail
        exact hX
    · rintro σ ⟨hi, a, rfl⟩
      rw [List.length_append, List.length_map, List.length_cons] at hi
      omega
theorem pr_Sheet_listed (C : AD) : ∀ ds P, q_Sheet_listed C ds P → p_Sheet_listed C { nx := fun _ => False, rt := fun _ => False, rn := P } (startD n_Sheet_listed ds) := by
  rintro ds P ⟨ls, rfl, hP⟩
  rw [st_Sheet_listed]
  unfold p_Sheet_listed sheet limsD
  repeat fail
  exact hP
theorem pr_Sheet_contains (C : AD) : ∀ ds P, q_Sheet_contains C ds P → p_Sheet_contains C { nx := fun _ => P .non, rt := P } (startD n_Sheet_contains ds) := by
  rintro ds P ⟨ls, l, rfl, hP⟩
  rw [st_Sheet_contains]
  unfold p_Sheet_contains sheet limsD
  repeat fail
  refine o_inO rfl (okE _) (okLs _) ?_
  repeat fail
  rw [enc_mem_dec]
  exact hP
theorem shs_siz {as : List Lim} (h : Shs as) {bs : List Lim} (h2 : ∀ b ∈ bs, b ∈ as) : ∀ l ∈ bs, Siz l ∧ l.ok = true := fun l hl => h.z l (h2 l hl)
theorem pr_Sheet_or (C : AD) : ∀ ds P, q_Sheet_or C ds P → p_Sheet_or C { nx := fun _ => P .non, rt := P } (startD n_Sheet_or ds) := by
  rintro ds P ⟨as, bs, rfl, sa, sb, hn, hP⟩
  rw [st_Sheet_or]
  unfold p_Sheet_or
  repeat fail
  refine ⟨as, rfl, _, rfl, ?_⟩
  repeat fail
  refine ⟨bs, rfl, _, rfl, ?_⟩
  rw [List.length_append] at hn
  refine o_catL rfl rfl (by rw [List.length_map, List.length_map]; omega) ?_
  repeat fail
  rw [← List.map_append]
  refine ⟨_, rfl, .inl ⟨as ++ bs, rfl, fun l hl => ?_, by rw [List.length_append]; exact hn, k_dat hP⟩⟩
  rcases List.mem_append.mp hl with h | h
  · exact sa.z l h
  · exact sb.z l h
theorem pr_Sheet_and (C : AD) : ∀ ds P, q_Sheet_and C ds P → p_Sheet_and C { nx := fun _ => P .non, rt := P } (startD n_Sheet_and ds) := by
  rintro ds P ⟨as, bs, rfl, sa, sb, hP⟩
  rw [st_Sheet_and]
  unfold p_Sheet_and
  repeat fail
  refine ⟨bs, rfl, _, rfl, ?_⟩
  repeat fail
  refine k_lcF as enc enc (fun l => decide (l ∈ bs)) (by have := sa.n; omega) (fun l hl Q0 Q h1 h2 => ?_) ?_
  · repeat fail
    refine o_inO rfl (okE _) (okLs _) ?_
    rw [enc_mem_dec]
    repeat fail
    refine k_ifb (fun h => ?_) (fun h => ?_)
    · repeat fail
      exact h1 h
    · exact h2 h
  · repeat fail
    refine ⟨_, rfl, .inl ⟨_, rfl, shs_siz sa fun l hl => (List.mem_filter.mp hl).1, Nat.le_trans (List.length_filter_le _ _) sa.n, ?_⟩⟩
    rw [cn_self (filter_ssrt sa.s)]
    exact k_dat hP
theorem pr_Sheet_sub (C : AD) : ∀ ds P, q_Sheet_sub C ds P → p_Sheet_sub C { nx := fun _ => P .non, rt := P } (startD n_Sheet_sub ds) := by
  rintro ds P ⟨as, bs, rfl, sa, sb, hP⟩
  rw [st_Sheet_sub]
  unfold p_Sheet_sub
  repeat fail
  refine ⟨bs, rfl, _, rfl, ?_⟩
  repeat fail
  refine k_lcF as enc enc (fun l => !decide (l ∈ bs)) (by have := sa.n; omega) (fun l hl Q0 Q h1 h2 => ?_) ?_
  · repeat fail
    refine o_inO rfl (okE _) (okLs _) ?_
    rw [enc_mem_dec]
    repeat fail
    refine k_ifb (fun h => ?_) (fun h => ?_)
    · repeat fail
      exact h1 h
    · exact h2 h
  · repeat fail
    refine ⟨_, rfl, .inl ⟨_, rfl, shs_siz sa fun l hl => (List.mem_filter.mp hl).1, Nat.le_trans (List.length_filter_le _ _) sa.n, ?_⟩⟩
    rw [cn_self (filter_ssrt sa.s)]
    exact k_dat hP
theorem pr_Sheet_le (C : AD) : ∀ ds P, q_Sheet_le C ds P → p_Sheet_le C { nx := fun _ => P .non, rt := P } (startD n_Sheet_le ds) := by
  rintro ds P ⟨as, bs, rfl, sa, sb, hP⟩
  rw [st_Sheet_le]
  unfold p_Sheet_le
  repeat fail
  refine ⟨bs, rfl, _, rfl, ?_⟩
  repeat fail
  refine k_lcM as enc (fun l => .bl (decide (l ∈ bs))) (by have := sa.n; omega) (fun l hl Q h1 => ?_) ?_
  · repeat fail
    refine o_inO rfl (okE _) (okLs _) ?_
    rw [enc_mem_dec]
    repeat fail
    exact h1
  · repeat fail
    refine b_all (bs := as.map fun l => decide (l ∈ bs)) (by rw [List.map_map]; rfl) ?_
    repeat fail
    rw [List.all_map]
    exact hP
theorem pr_Sheet_eq (C : AD) : ∀ ds P, q_Sheet_eq C ds P → p_Sheet_eq C { nx := fun _ => P .non, rt := P } (startD n_Sheet_eq ds) := by
  rintro ds P ⟨as, d, rfl, h⟩
  rw [st_Sheet_eq]
  unfold p_Sheet_eq
  rcases h with ⟨bs, rfl, hP⟩ | ⟨hd, hP⟩
  · repeat fail
    refine k_isC (if_pos rfl) ?_
    repeat fail
    refine o_eqO rfl rfl (okLD _) (okLD _) ?_
    repeat fail
    rw [show dec (limsD as = limsD bs) = decide (as = bs) from lst_eq as bs]
    exact hP
  · repeat fail
    refine k_isC hd ?_
    repeat fail
    exact hP
end My


/-! K25g: draws of names, numbers, texts. -/
namespace My
open PySem PySem.Spec PyProof.Rows L2 TL
theorem at_some {α : Type} {xs : List α} {k : Int} (h0 : 0 ≤ k) (h1 : k < (xs.length : Int)) : ∃ v, v ∈ xs ∧ atI xs k = some v := by
  obtain ⟨n, rfl⟩ := Int.eq_ofNat_of_zero_le h0
  have hn : n < xs.length := by omega
  exact ⟨xs[n], List.getElem_mem hn, atI_nat (List.getElem?_eq_getElem hn)⟩
/-! ### names by their signs -/
def lnm (l : List Nat) : Bool := match l with
  | [] => false
  | c :: cs => decide ((c :: cs).length ≤ 12) && (decide (c ∈ letters) && (c :: cs).all fun x => decide (x ∈ letters) || decide (x ∈ digits))
theorem isNm_tl (z : Str) : isNm z = lnm (tl z) := by
  unfold isNm lnm
  show (match tl z with | [] => false | c :: cs => decide (z.length ≤ 12) && (decide (c ∈ letters) && (c :: cs).all fun x => decide (x ∈ letters) || decide (x ∈ digits))) = _
  cases h : tl z with
  | nil => rfl
  | cons c cs => rw [show z.length = (c :: cs).length by rw [len_tl, h]]
def nmC (x : Nat) : Prop := x ∈ letters ∨ x ∈ digits
structure Lnm (l : List Nat) : Prop where
  few : l.length ≤ 12
  hd : ∃ c cs, l = c :: cs ∧ c ∈ letters
  all : ∀ x ∈ l, nmC x
theorem lnm_iff {l : List Nat} : lnm l = true ↔ Lnm l := by
  cases l with
  | nil => exact ⟨fun h => (by cases h), fun h => by obtain ⟨_, _, e, _⟩ := h.hd; cases e⟩
  | cons c cs =>
    unfold lnm
    simp only [Bool.and_eq_true, decide_eq_true_eq, List.all_eq_true, Bool.or_eq_true]
    exact ⟨fun ⟨a, b, d⟩ => ⟨a, ⟨c, cs, rfl, b⟩, d⟩, fun h => ⟨h.few, by obtain ⟨_, _, e, q⟩ := h.hd; cases e; exact q, h.all⟩⟩
theorem nm_iff {z : Str} : isNm z = true ↔ Lnm (tl z) := by rw [isNm_tl, lnm_iff]
theorem tl_one (c : Nat) : tl ⟨#[c]⟩ = [c] := rfl
theorem nm_len {z : Str} (h : isNm z = true) : 1 ≤ z.length ∧ z.length ≤ 12 := by
  have q := nm_iff.mp h
  obtain ⟨c, cs, e, _⟩ := q.hd
  have := q.few
  rw [len_tl]
  refine ⟨?_, this⟩
  rw [e]
  simp
theorem nm_one {c : Nat} (h : c ∈ letters) : isNm ⟨#[c]⟩ = true := nm_iff.mpr ⟨by rw [tl_one]; exact Nat.succ_le_succ (Nat.zero_le _), ⟨c, [], rfl, h⟩, fun x hx => by rw [tl_one, List.mem_singleton] at hx; exact .inl (hx ▸ h)⟩
theorem nm_more {z : Str} {c : Nat} (h : isNm z = true) (hl : z.length < 12) (hc : nmC c) : isNm (z ++ ⟨#[c]⟩) = true := by
  have q := nm_iff.mp h
  refine nm_iff.mpr ?_
  rw [tl_append, tl_one]
  rw [len_tl] at hl
  refine ⟨by rw [List.length_append, List.length_singleton]; omega, ?_, fun x hx => ?_⟩
  · obtain ⟨a, as, e, ha⟩ := q.hd
    exact ⟨a, as ++ [c], by rw [e]; rfl, ha⟩
  · rcases List.mem_append.mp hx with h | h
    · exact q.all x h
    · rw [List.mem_singleton.mp h]; exact hc
theorem nm_cut {z : Str} (h : isNm z = true) : isNm (cutS z none (some 11)) = true ∧ (cutS z none (some 11)).length ≤ 11 := by
  have q := nm_iff.mp h
  have e : tl (cutS z none (some 11)) = (tl z).take 11 := tl_cutT z 11
  refine ⟨nm_iff.mpr ?_, by rw [len_tl, e, List.length_take]; omega⟩
  rw [e]
  refine ⟨by rw [List.length_take]; omega, ?_, fun x hx => q.all x (List.mem_of_mem_take hx)⟩
  obtain ⟨a, as, e, ha⟩ := q.hd
  exact ⟨a, as.take 10, by rw [e]; rfl, ha⟩
theorem nm_var {z : Str} {c : Nat} (h : isNm z = true) (hc : nmC c) : isNm (cutS z none (some 11) ++ ⟨#[c]⟩) = true := nm_more (nm_cut h).1 (by have := (nm_cut h).2; omega) hc
theorem len_cat (x y : Str) : (x ++ y).length = x.length + y.length := by rw [len_tl, tl_append, List.length_append, ← len_tl, ← len_tl]
local macro_rules | `(tactic| fail) => `(tactic| first
  | ((with_reducible apply e_var); (· exact rfl))
  | (with_reducible (first | refine e_c ?_ | refine e_op ?_ | refine e_cons ?_ | refine e_nil ?_ | refine k_dat ?_ | refine g_name ?_ | refine s_asg ?_ | refine e_call ?_ | refine e_test ?_ | refine k_b ?_ | refine s_ifS ?_ | refine s_next ?_ | refine e_cb ?_ | refine s_ret ?_ | refine e_newL ?_ | refine e_frz ?_ | refine e_lst ?_ | refine e_tup ?_))
  | ((with_reducible apply s_seqN); · first | (dsimp only [List.set]; done) | (dsimp only [List.set]; exact rfl) | exact rfl)
  | ((with_reducible apply k_dats); (· exact rfl))
  | (with_reducible (first | refine o_eqI ?_ | refine o_eqS ?_ | refine o_neI ?_ | refine o_neS ?_ | refine o_I ?_ | refine o_IB ?_ | refine o_SB ?_ | refine o_neg ?_ | refine o_inSign ?_ | refine o_isB ?_))
  | ((with_reducible apply o_ixT); (· exact rfl); (· exact rfl))
  | ((with_reducible apply o_ixL); (· exact rfl); (· exact rfl))
  | ((with_reducible apply b_lenQ); (· exact rfl))
  | ((with_reducible apply k_seq); (· exact rfl); (· exact Nat.le_of_ble_eq_true rfl))
  | (with_reducible (first | refine e_opN ?_ | refine e_un ?_ | refine e_noPart ?_ | refine e_part ?_ | refine k_i ?_ | refine e_slS ?_ | refine e_slL ?_ | refine e_slA ?_ | refine e_and ?_ | refine e_or ?_ | refine e_not ?_ | refine e_yes ?_ | refine e_if ?_ | refine e_andV ?_ | refine e_orV ?_ | refine e_notV ?_ | refine e_chain ?_ | refine e_cbn ?_ | refine e_join ?_ | refine k_str ?_ | refine e_rev ?_ | refine e_IL ?_ | refine e_IT ?_ | refine e_IS ?_ | refine e_IR ?_ | refine e_IE ?_ | refine k_par ?_ | refine k_par3 ?_ | refine s_brk ?_ | refine s_cont ?_ | refine s_drop ?_ | refine s_new ?_ | refine s_par ?_ | refine s_par3 ?_ | refine s_for ?_ | refine s_forX ?_ | refine s_retNw ?_ | refine s_setL ?_ | refine s_self ?_ | refine g_cons ?_ | refine g_nil ?_ | refine b_int ?_ | refine b_strS ?_ | refine b_max2 ?_ | refine k_id ?_ | refine e_lc ?_ | refine s_ifX ?_ | refine s_lift ?_ | refine s_raise ?_ | refine m_E1 ?_ | refine s_dropX ?_ | refine e_makeC ?_ | refine e_callC ?_ | refine e_make0 ?_ | refine s_try ?_ | refine e_fld' ?_ | refine e_methL ?_ | refine e_isC ?_ | refine e_getKd ?_ | refine k_getKd ?_))
  | ((with_reducible apply s_app); (· exact rfl))
  | ((with_reducible apply s_frzC); (· exact rfl); (· exact rfl))
  | ((with_reducible apply k_lst); (· exact rfl))
  | ((with_reducible apply k_tup); (· exact rfl))
  | ((with_reducible apply k_enum); (· exact rfl))
  | ((with_reducible apply k_slA); (· exact rfl))
  | ((with_reducible apply g_tup); (· exact rfl))
  | ((with_reducible apply k_seqL); (· exact rfl))
  | ((with_reducible apply k_slL); (· exact rfl))
  | ((with_reducible apply b_tuple); (· exact rfl))
  | ((with_reducible apply b_list); (· exact rfl))
  | ((with_reducible apply k_setB); (· exact rfl))
  | ((with_reducible apply s_clear); (· exact rfl))
  | ((with_reducible apply k_ifT); (· first | exact rfl | decide))
  | ((with_reducible apply k_ifF); (· first | exact rfl | decide))
  | ((with_reducible apply k_rng); (· decide); (· decide))
  | ((with_reducible apply q_take); (· decide); (· decide))
  | ((with_reducible apply s_seqX); (· first | (dsimp only [List.set]; done) | (dsimp only [List.set]; exact rfl) | exact rfl))
  | ((with_reducible apply k_args); (· exact rfl))
  | ((with_reducible apply e_ISV); (· exact rfl); (· assumption))
  | ((with_reducible apply k_fld'); (· exact rfl); (· exact rfl))
  | ((with_reducible apply k_methL); (· exact rfl); (· exact rfl)))
theorem pr_law_size (C : AD) : ∀ ds P, q_law_size ds P → p_law_size C { nx := fun _ => P .non, rt := P } (startD n_law_size ds) := by
  rintro ds P ⟨a, b, rfl, ha, hb, hn, hP⟩
  rw [st_law_size]
  unfold p_law_size
  repeat fail
  intro d d0 d1
  repeat fail
  refine k_if (fun h => ?_) (fun h => ?_)
  · repeat fail
    refine q_take (by omega) (by omega) fun k k0 k1 => ?_
    repeat fail
    have := hP (a + 1 + k.toNat) (by omega) (by omega)
    rw [show ((a + 1 + k.toNat : Nat) : Int) = (a : Int) + 1 + k by omega] at this
    exact this
  · repeat fail
    refine q_take (by omega) (by omega) fun k k0 k1 => ?_
    repeat fail
    have := hP (1 + k.toNat) (by omega) (by omega)
    rw [show ((1 + k.toNat : Nat) : Int) = (1 : Int) + k by omega] at this
    exact this
theorem rng_at {n i : Nat} {d : D} (h : (rangeD (n : Int))[i]? = some d) : d = .int (i : Int) ∧ i < n := by
  rw [rng_nat, List.getElem?_map] at h
  obtain ⟨j, h1, rfl⟩ := Option.map_eq_some_iff.mp h
  obtain ⟨h2, h3⟩ := List.getElem?_eq_some_iff.mp h1
  rw [List.length_range] at h2
  rw [List.getElem_range] at h3
  exact ⟨by rw [h3], h2⟩
theorem rng_len (n : Nat) : (rangeD (n : Int)).length = n := by rw [rng_nat, List.length_map, List.length_range]
theorem nat_of {k : Int} (h : 0 ≤ k) : ∃ n : Nat, k = (n : Int) := Int.eq_ofNat_of_zero_le h
theorem nmC_of {c : Nat} (h : c ∈ letters ++ digits) : nmC c := List.mem_append.mp h
theorem tl_abc : tl (("abcdefghijklmnopqrstuvwxyz" : Str) ++ ("0123456789" : Str)) = letters ++ digits := tl_append _ _
theorem len_ld : (letters ++ digits).length = 36 := by decide +kernel
theorem pr_law_word (C : AD) : ∀ ds P, q_law_word ds P → p_law_word C { nx := fun _ => P .non, rt := P } (startD n_law_word ds) := by
  rintro ds P ⟨rfl, hP⟩
  rw [st_law_word]
  unfold p_law_word
  repeat fail
  intro d d0 d1
  repeat fail
  obtain ⟨c, hc, hat⟩ := at_some (xs := letters) d0 (by exact d1)
  refine o_ixS (by decide +kernel) hat ?_
  repeat fail
  intro k k0 k1
  repeat fail
  refine k_if (fun h => ?ga) (fun h => ?gb)
  case' ga =>
    repeat fail
    intro k k0 k1
    obtain ⟨n, rfl⟩ := nat_of k0
    have hn : n ≤ 11 := by omega
    repeat fail
  case' gb =>
    repeat fail
    obtain ⟨n, hk⟩ := nat_of (show 0 ≤ (if k - 3 > 0 then k - 3 else 0) by split <;> omega)
    have hn : n ≤ 11 := by split at hk <;> omega
    rw [hk]
  all_goals
    refine k_rng (by omega) (by omega) ?_
    refine ⟨fun i σ => ∃ z a, σ = [some (.dat .src), some (cS "abcdefghijklmnopqrstuvwxyz"), some (cS z), some (cI n), a] ∧ isNm z = true ∧ z.length ≤ 1 + i, ⟨_, _, rfl, nm_one hc, by rw [len_tl]; exact Nat.le_refl _⟩, ?_, ?_⟩
    · rintro i d σ hd ⟨z, a, rfl, h1, h2⟩
      obtain ⟨rfl, hi⟩ := rng_at hd
      repeat fail
      refine o_catS (by decide +kernel) ?_
      repeat fail
      intro k k0 k1
      obtain ⟨e, he, hat⟩ := at_some (xs := letters ++ digits) k0 (by rw [len_ld]; exact k1)
      rw [← tl_abc] at hat
      refine o_ixS (by decide +kernel) hat ?_
      have e1 : (⟨#[e]⟩ : Str).length = 1 := rfl
      refine o_catS (by rw [e1]; omega) ?_
      repeat fail
      exact ⟨_, _, rfl, nm_more h1 (by omega) (nmC_of he), by rw [len_cat, e1]; omega⟩
    · rintro σ ⟨z, a, rfl, h1, h2⟩
      repeat fail
      exact hP z h1
theorem pr_law_times (C : AD) : ∀ ds P, q_law_times ds P → p_law_times C { nx := fun _ => P .non, rt := P } (startD n_law_times ds) := by
  rintro ds P ⟨rfl, hP⟩
  rw [st_law_times]
  unfold p_law_times
  repeat fail
  refine ⟨rfl, fun i => ?_⟩
  repeat fail
  refine k_if (fun h => ?_) (fun h => ?_)
  · repeat fail
    exact hP 1 (by decide)
  · repeat fail
    exact hP i h
theorem log2_lt {n k : Nat} (h : n < 2 ^ k) : n.log2 ≤ k := by
  by_cases c : n = 0
  · subst c
    exact Nat.zero_le _
  · exact Nat.le_of_lt ((Nat.log2_lt c).mpr h)
theorem mulW {i j : Int} (h1 : i.natAbs < 2 ^ 1000) (h2 : j.natAbs < 2 ^ 1000) : CMulW i j := by
  have a := log2_lt h1
  have b := log2_lt h2
  show i.natAbs.log2 + j.natAbs.log2 < 1000000
  omega
theorem big6 : 10000000000 ^ 6 < 2 ^ 999 := by decide +kernel
theorem big_le {i : Nat} (h : i ≤ 6) : 10000000000 ^ i ≤ 10000000000 ^ 6 := Nat.pow_le_pow_right (by decide) h
theorem pr_law_number (C : AD) : ∀ ds P, q_law_number ds P → p_law_number C { nx := fun _ => P .non, rt := P } (startD n_law_number ds) := by
  rintro ds P ⟨rfl, hP⟩
  rw [st_law_number]
  unfold p_law_number
  repeat fail
  intro k k0 k1
  repeat fail
  refine k_if (fun h => ?_) (fun h => ?_)
  · repeat fail
    intro d d0 d1
    repeat fail
    exact hP _
  · repeat fail
    refine o_IC (mulW (by decide +kernel) (by
      have : (k - 6).natAbs < 2 ^ 2 := by omega
      exact Nat.lt_of_lt_of_le this (Nat.pow_le_pow_right (by decide) (by decide)))) ?_
    repeat fail
    obtain ⟨n, hk⟩ := nat_of (show 0 ≤ 1 + 5 * (k - 6) by omega)
    have hn : n ≤ 6 := by omega
    rw [hk]
    refine k_rng (by omega) (by omega) ?_
    refine ⟨fun i σ => ∃ (x : Nat) (a : Option Cell), σ = [some (.dat .src), some (cI k), some (cI (x : Int)), a] ∧ x < 10000000000 ^ i, ⟨0, _, rfl, by decide⟩, ?_, ?_⟩
    · rintro i d σ hd ⟨x, a, rfl, hx⟩
      obtain ⟨rfl, hi⟩ := rng_at hd
      have b6 := big6
      have bl := big_le (show i ≤ 6 by omega)
      repeat fail
      refine o_IC (mulW (by
        have e : (x : Int).natAbs = x := Int.natAbs_natCast x
        rw [e]
        exact Nat.lt_of_lt_of_le (Nat.lt_of_lt_of_le hx bl) (Nat.le_of_lt (Nat.lt_of_lt_of_le b6 (Nat.pow_le_pow_right (by decide) (by decide))))) (by decide +kernel)) ?_
      repeat fail
      intro d d0 d1
      obtain ⟨y, rfl⟩ := nat_of d0
      repeat fail
      refine ⟨x * 10000000000 + y, _, rfl, ?_⟩
      rw [Nat.pow_succ]
      have hy : y < 10000000000 := by omega
      have : (x + 1) * 10000000000 ≤ 10000000000 ^ i * 10000000000 := Nat.mul_le_mul_right _ hx
      omega
    · rintro σ ⟨x, a, rfl, hx⟩
      rw [rng_len] at hx
      have b6 := big6
      have bl := big_le hn
      have hx : x < 2 ^ 999 := Nat.lt_of_lt_of_le (Nat.lt_of_lt_of_le hx bl) (Nat.le_of_lt b6)
      repeat fail
      refine o_IC (mulW (by decide +kernel) (by
        rw [Int.natAbs_natCast x]
        exact Nat.lt_of_lt_of_le hx (Nat.pow_le_pow_right (by decide) (by decide)))) ?_
      repeat fail
      intro d d0 d1
      refine o_IC (mulW (by
        rw [show (2 * (x : Int)) = ((2 * x : Nat) : Int) by omega, Int.natAbs_natCast, show 1000 = 999 + 1 from rfl, Nat.pow_succ]
        omega) (by
        have : d.natAbs < 2 ^ 1 := by omega
        exact Nat.lt_of_lt_of_le this (Nat.pow_le_pow_right (by decide) (by decide)))) ?_
      repeat fail
      exact hP _
theorem tx_iff {z : Str} : isTx z = true ↔ ∀ c ∈ tl z, c ∈ charsL := by
  unfold isTx
  rw [List.all_eq_true]
  exact ⟨fun h c hc => of_decide_eq_true (h c hc), fun h c hc => decide_eq_true (h c hc)⟩
theorem tx_more {z : Str} {c : Nat} (h : isTx z = true) (hc : c ∈ charsL) : isTx (z ++ ⟨#[c]⟩) = true := by
  rw [tx_iff] at h ⊢
  intro x hx
  rw [tl_append, tl_one] at hx
  rcases List.mem_append.mp hx with q | q
  · exact h x q
  · rw [List.mem_singleton.mp q]; exact hc
theorem len_chars : charsS.length = 93 := by decide +kernel
theorem len_charsL : charsL.length = 93 := by decide +kernel
theorem pr_law_stack (C : AD) : ∀ ds P, q_law_stack ds P → p_law_stack C { nx := fun _ => P .non, rt := P } (startD n_law_stack ds) := by
  rintro ds P ⟨rfl, hP⟩
  rw [st_law_stack]
  unfold p_law_stack
  repeat fail
  intro k k0 k1
  repeat fail
  refine k_if (fun h => ?ga) (fun h => ?gb)
  case' ga =>
    repeat fail
    intro k k0 k1
    obtain ⟨n, rfl⟩ := nat_of k0
    have hn : n ≤ 40 := by omega
    repeat fail
  case' gb =>
    repeat fail
    obtain ⟨n, hk⟩ := nat_of (show 0 ≤ (if k - 2 > 0 then k - 2 else 0) by split <;> omega)
    have hn : n ≤ 40 := by split at hk <;> omega
    rw [hk]
  all_goals
    refine k_rng (by omega) (by omega) ?_
    refine ⟨fun i σ => ∃ z a, σ = [some (.dat .src), some (cS charsS), some (cI n), some (cS z), a] ∧ isTx z = true ∧ z.length ≤ i, ⟨_, _, rfl, rfl, Nat.le_refl _⟩, ?_, ?_⟩
    · rintro i d σ hd ⟨z, a, rfl, h1, h2⟩
      obtain ⟨rfl, hi⟩ := rng_at hd
      repeat fail
      refine b_lenS (by decide +kernel) ?_
      rw [len_chars]
      repeat fail
      intro k k0 k1
      obtain ⟨e, he, hat⟩ := at_some (xs := charsL) k0 (by rw [len_charsL]; exact k1)
      refine o_ixS (by decide +kernel) hat ?_
      have e1 : (⟨#[e]⟩ : Str).length = 1 := rfl
      refine o_catS (by rw [e1]; omega) ?_
      repeat fail
      exact ⟨_, _, rfl, tx_more h1 he, by rw [len_cat, e1]; omega⟩
    · rintro σ ⟨z, a, rfl, h1, h2⟩
      rw [rng_len] at h2
      repeat fail
      exact hP z h1 (by omega)
end My


/-! K25h: _law_names. -/
namespace My
open PySem PySem.Spec PyProof.Rows L2 TL
def var (z : Str) (c : Nat) : Str := cutS z none (some 11) ++ ⟨#[c]⟩
def vars (z : Str) : List Str := digits.map (var z)
def othersN (z : Str) : List Str := z :: vars z
theorem tl_var (z : Str) (c : Nat) : tl (var z c) = (tl z).take 11 ++ [c] := by
  unfold var
  rw [tl_append, tl_one]
  exact congrArg (· ++ [c]) (tl_cutT z 11)
theorem var_inj {z : Str} {a b : Nat} (h : var z a = var z b) : a = b := by
  have h := congrArg tl h
  rw [tl_var, tl_var] at h
  exact List.cons.inj (List.append_cancel_left h) |>.1
theorem nodup_map {α β : Type} {f : α → β} (hf : ∀ x y, f x = f y → x = y) : ∀ {l : List α}, l.Nodup → (l.map f).Nodup
  | [], _ => List.nodup_nil
  | x :: l, h => by
    obtain ⟨h1, h2⟩ := List.nodup_cons.mp h
    rw [List.map_cons, List.nodup_cons]
    refine ⟨fun hm => ?_, nodup_map hf h2⟩
    obtain ⟨y, hy, e⟩ := List.mem_map.mp hm
    exact h1 (hf _ _ e ▸ hy)
theorem vars_nd (z : Str) : (vars z).Nodup := nodup_map (fun _ _ => var_inj) (by decide +kernel)
theorem vars_len (z : Str) : (vars z).length = 10 := by rw [vars, List.length_map]; decide +kernel
theorem frame_tl : tl ("frame" : Str) = [102, 114, 97, 109, 101] := by decide +kernel
theorem not_frame {z : Str} {c : Nat} (h : c ∈ digits) : var z c ≠ "frame" := fun e => by
  have q := congrArg tl e
  rw [tl_var, frame_tl] at q
  have l1 := congrArg List.getLast? q
  rw [List.getLast?_concat] at l1
  have : c = 101 := Option.some.inj l1
  subst this
  revert h
  decide +kernel
theorem pick {z : Str} {ns : List Str} (h : ns.length < 10) : ∃ y ∈ vars z, y ∉ ns := by
  refine Classical.byContradiction fun q => ?_
  have : ∀ y ∈ vars z, y ∈ ns := fun y hy => Classical.byContradiction fun w => q ⟨y, hy, w⟩
  have := nodup_le (vars_nd z) this
  rw [vars_len] at this
  omega
theorem st_of {z : Str} (h : isNm z = true) (h2 : z ≠ "frame") : isSt z = true := by
  unfold isSt
  rw [h, decide_eq_false h2]
  rfl
theorem nm_of_st {z : Str} (h : isSt z = true) : isNm z = true ∧ z ≠ "frame" := by
  unfold isSt at h
  obtain ⟨a, b⟩ := Bool.and_eq_true_iff.mp h
  exact ⟨a, fun e => by rw [decide_eq_true e] at b; cases b⟩
def keepN (ns : List Str) (y : Str) : Bool := !decide (y ∈ ns) && !decide (y = "frame")
theorem first {z : Str} {ns : List Str} (hz : isNm z = true) (h : ns.length < 10) : ∃ y r, (othersN z).filter (keepN ns) = y :: r ∧ isSt y = true ∧ y ∉ ns := by
  cases e : (othersN z).filter (keepN ns) with
  | nil =>
    obtain ⟨y, hy, hn⟩ := pick (z := z) h
    obtain ⟨c, hc, rfl⟩ := List.mem_map.mp hy
    have := List.filter_eq_nil_iff.mp e (var z c) (List.mem_cons_of_mem _ hy)
    unfold keepN at this
    rw [decide_eq_false hn, decide_eq_false (not_frame hc)] at this
    exact absurd rfl this
  | cons y r =>
    have hm : y ∈ (othersN z).filter (keepN ns) := by rw [e]; exact List.mem_cons_self
    obtain ⟨h1, h2⟩ := List.mem_filter.mp hm
    unfold keepN at h2
    simp only [Bool.and_eq_true, Bool.not_eq_true', decide_eq_false_iff_not] at h2
    refine ⟨y, r, rfl, st_of ?_ h2.2, h2.1⟩
    rcases List.mem_cons.mp h1 with rfl | h1
    · exact hz
    · obtain ⟨c, hc, rfl⟩ := List.mem_map.mp h1
      exact nm_var hz (.inr hc)
theorem get_str {zs : List Str} {i : Nat} {z : Str} (h : zs[i]? = some z) : atI (zs.map D.str) (i : Int) = some (.str z) := atI_nat (by rw [List.getElem?_map, h]; rfl)
theorem nd_more {ns : List Str} {y : Str} (h : ns.Nodup) (hy : y ∉ ns) : (ns ++ [y]).Nodup := by
  rw [List.nodup_append]
  refine ⟨h, List.nodup_cons.mpr ⟨fun h => (by cases h), List.nodup_nil⟩, fun a ha b hb => ?_⟩
  rw [List.mem_singleton.mp hb]
  exact fun e => hy (e ▸ ha)
local macro_rules | `(tactic| fail) => `(tactic| first
  | ((with_reducible apply e_var); (· exact rfl))
  | (with_reducible (first | refine e_c ?_ | refine e_op ?_ | refine e_cons ?_ | refine e_nil ?_ | refine k_dat ?_ | refine g_name ?_ | refine s_asg ?_ | refine e_call ?_ | refine e_test ?_ | refine k_b ?_ | refine s_ifS ?_ | refine s_next ?_ | refine e_cb ?_ | refine s_ret ?_ | refine e_newL ?_ | refine e_frz ?_ | refine e_lst ?_ | refine e_tup ?_))
  | ((with_reducible apply s_seqN); · first | (dsimp only [List.set]; done) | (dsimp only [List.set]; exact rfl) | exact rfl)
  | ((with_reducible apply k_dats); (· exact rfl))
  | (with_reducible (first | refine o_eqI ?_ | refine o_eqS ?_ | refine o_neI ?_ | refine o_neS ?_ | refine o_I ?_ | refine o_IB ?_ | refine o_SB ?_ | refine o_neg ?_ | refine o_inSign ?_ | refine o_isB ?_))
  | ((with_reducible apply o_ixT); (· exact rfl); (· exact rfl))
  | ((with_reducible apply o_ixL); (· exact rfl); (· exact rfl))
  | ((with_reducible apply b_lenQ); (· exact rfl))
  | ((with_reducible apply k_seq); (· exact rfl); (· exact Nat.le_of_ble_eq_true rfl))
  | (with_reducible (first | refine e_opN ?_ | refine e_un ?_ | refine e_noPart ?_ | refine e_part ?_ | refine k_i ?_ | refine e_slS ?_ | refine e_slL ?_ | refine e_slA ?_ | refine e_and ?_ | refine e_or ?_ | refine e_not ?_ | refine e_yes ?_ | refine e_if ?_ | refine e_andV ?_ | refine e_orV ?_ | refine e_notV ?_ | refine e_chain ?_ | refine e_cbn ?_ | refine e_join ?_ | refine k_str ?_ | refine e_rev ?_ | refine e_IL ?_ | refine e_IT ?_ | refine e_IS ?_ | refine e_IR ?_ | refine e_IE ?_ | refine k_par ?_ | refine k_par3 ?_ | refine s_brk ?_ | refine s_cont ?_ | refine s_drop ?_ | refine s_new ?_ | refine s_par ?_ | refine s_par3 ?_ | refine s_for ?_ | refine s_forX ?_ | refine s_retNw ?_ | refine s_setL ?_ | refine s_self ?_ | refine g_cons ?_ | refine g_nil ?_ | refine b_int ?_ | refine b_strS ?_ | refine b_max2 ?_ | refine k_id ?_ | refine e_lc ?_ | refine s_ifX ?_ | refine s_lift ?_ | refine s_raise ?_ | refine m_E1 ?_ | refine s_dropX ?_ | refine e_makeC ?_ | refine e_callC ?_ | refine e_make0 ?_ | refine s_try ?_ | refine e_fld' ?_ | refine e_methL ?_ | refine e_isC ?_ | refine e_getKd ?_ | refine k_getKd ?_))
  | ((with_reducible apply s_app); (· exact rfl))
  | ((with_reducible apply s_frzC); (· exact rfl); (· exact rfl))
  | ((with_reducible apply k_lst); (· exact rfl))
  | ((with_reducible apply k_tup); (· exact rfl))
  | ((with_reducible apply k_enum); (· exact rfl))
  | ((with_reducible apply k_slA); (· exact rfl))
  | ((with_reducible apply g_tup); (· exact rfl))
  | ((with_reducible apply k_seqL); (· exact rfl))
  | ((with_reducible apply k_slL); (· exact rfl))
  | ((with_reducible apply b_tuple); (· exact rfl))
  | ((with_reducible apply b_list); (· exact rfl))
  | ((with_reducible apply k_setB); (· exact rfl))
  | ((with_reducible apply s_clear); (· exact rfl))
  | ((with_reducible apply k_ifT); (· first | exact rfl | decide))
  | ((with_reducible apply k_ifF); (· first | exact rfl | decide))
  | ((with_reducible apply k_rng); (· decide); (· decide))
  | ((with_reducible apply q_take); (· decide); (· decide))
  | ((with_reducible apply s_seqX); (· first | (dsimp only [List.set]; done) | (dsimp only [List.set]; exact rfl) | exact rfl))
  | ((with_reducible apply k_args); (· exact rfl))
  | ((with_reducible apply e_ISV); (· exact rfl); (· assumption))
  | ((with_reducible apply k_fld'); (· exact rfl); (· exact rfl))
  | ((with_reducible apply k_methL); (· exact rfl); (· exact rfl)))
theorem pr_law_names (C : AD) : ∀ ds P, q_law_names ds P → p_law_names C { nx := fun _ => P .non, rt := P } (startD n_law_names ds) := by
  rintro ds P ⟨m, rfl, hm, hP⟩
  rw [st_law_names]
  unfold p_law_names
  repeat fail
  refine k_rng (by omega) (by omega) ?_
  refine ⟨fun i σ => ∃ (ns : List Str) (a3 a4 a5 a6 a7 a8 : Option Cell), σ = [some (.dat .src), some (cI m), some (.lm (ns.map .str)), a3, a4, a5, a6, a7, a8] ∧ ns.length = i ∧ (∀ z ∈ ns, isSt z = true) ∧ ns.Nodup, ⟨[], _, _, _, _, _, _, rfl, rfl, fun z hz => (by cases hz), List.nodup_nil⟩, ?_, ?_⟩
  · rintro i d σ hd ⟨ns, a3, a4, a5, a6, a7, a8, rfl, hl, hs, nd⟩
    obtain ⟨rfl, hi⟩ := rng_at hd
    repeat fail
    refine ⟨rfl, fun z hz => ?_⟩
    repeat fail
    refine k_if (fun h => ?ga) (fun h => ?gb)
    case' ga =>
      repeat fail
      intro d d0 d1
      repeat fail
      refine k_if (fun h2 => ?gc) (fun h2 => ?gd)
      case' gc =>
        repeat fail
        refine q_takeN (by omega) (by omega) fun d hd => ?_
        have hdn : d < ns.length := by omega
        refine o_ixL rfl (get_str (List.getElem?_eq_getElem hdn)) ?_
        repeat fail
        have hq := (nm_of_st (hs _ (List.getElem_mem hdn))).1
        refine k_slS (by have := nm_len hq; omega) ?_
        repeat fail
        refine b_lenS (by have := nm_len hz; omega) ?_
        repeat fail
        have hzl := nm_len hz
        obtain ⟨c, hc, hat⟩ := at_some (xs := tl z) (k := (z.length : Int) - 1) (by omega) (by rw [← len_tl]; omega)
        refine o_ixS (by omega) hat ?_
        have hc := (nm_iff.mp hz).all c hc
        have e1 : (⟨#[c]⟩ : Str).length = 1 := rfl
        refine o_catS (by have := (nm_cut hq).2; rw [e1]; omega) ?_
        have hy := nm_var hq hc
        generalize (cutS ns[d] none (some 11) ++ (⟨#[c]⟩ : Str)) = y at hy ⊢
        repeat fail
      case' gd =>
        repeat fail
        obtain ⟨y, hy, rfl⟩ : ∃ y, isNm y = true ∧ y = z := ⟨z, hz, rfl⟩
    case' gb =>
      repeat fail
      obtain ⟨y, hy, rfl⟩ : ∃ y, isNm y = true ∧ y = z := ⟨z, hz, rfl⟩
    all_goals
      refine k_lcM digits _ (fun c => .str (var y c)) (by decide +kernel) (fun c hc Q hQ => ?_) ?_
      · repeat fail
        refine k_slS (by have := nm_len hy; omega) ?_
        repeat fail
        have e1 : (⟨#[c]⟩ : Str).length = 1 := rfl
        refine o_catS (by have := (nm_cut hy).2; rw [e1]; omega) ?_
        repeat fail
        exact hQ
      · repeat fail
        refine o_catL rfl rfl (by rw [List.length_map, show digits.length = 10 from by decide +kernel, List.length_singleton]; decide) ?_
        rw [show [D.str y] ++ digits.map (fun c => D.str (var y c)) = (othersN y).map D.str by unfold othersN vars; rw [List.map_cons, List.map_map]; rfl]
        repeat fail
        refine k_lcF (othersN y) .str .str (keepN ns) (by unfold othersN; rw [List.length_cons, vars_len]; decide) (fun w hw Q0 Q h1 h2 => ?_) ?_
        · unfold keepN at h1 h2
          repeat fail
          refine o_inS rfl ?_
          repeat fail
          refine k_ifn (fun n1 => ?_) (fun n1 => ?_)
          · repeat fail
            rw [decide_eq_false n1] at h1 h2
            refine k_ifb (fun n2 => ?_) (fun n2 => ?_)
            · repeat fail
              exact h1 (by rw [n2]; rfl)
            · exact h2 (by rw [n2]; rfl)
          · repeat fail
            exact h2 (by rw [decide_eq_true n1]; rfl)
        · obtain ⟨w, r, e, hw1, hw2⟩ := first hy (show ns.length < 10 by omega)
          rw [e, List.map_cons]
          repeat fail
          refine o_ixL rfl (at0 _ _) ?_
          refine k_app (show (ns.map D.str).length ≤ 100000 by rw [List.length_map]; omega) ?_
          refine ⟨ns ++ [w], _, _, _, _, _, _, by rw [List.map_append]; rfl, by rw [List.length_append, hl]; rfl, fun z hz => ?_, nd_more nd hw2⟩
          rcases List.mem_append.mp hz with q | q
          · exact hs z q
          · rw [List.mem_singleton.mp q]
            exact hw1
  · rintro σ ⟨ns, a3, a4, a5, a6, a7, a8, rfl, hl, hs, nd⟩
    rw [rng_len] at hl
    repeat fail
    exact hP ns hl hs nd
end My


/-! K25i: draws of limits. -/
namespace My
open PySem PySem.Spec PyProof.Rows L2 TL
/-! ### sums -/
theorem ltS_iff {a b : Str} : ltS a b = true ↔ tl a < tl b := by
  unfold ltS
  exact decide_eq_true_iff
theorem ltS_tr {a b c : Str} (h1 : ltS a b = true) (h2 : ltS b c = true) : ltS a c = true := ltS_iff.mpr (List.lt_trans (ltS_iff.mp h1) (ltS_iff.mp h2))
theorem ltS_irr (a : Str) : ltS a a = false := by
  cases h : ltS a a with
  | false => rfl
  | true => exact absurd (ltS_iff.mp h) (List.lt_irrefl _)
theorem ltS_nil {z : Str} (h : isSt z = true) : ltS "" z = true := by
  rw [ltS_iff]
  obtain ⟨c, cs, e, _⟩ := (nm_iff.mp (nm_of_st h).1).hd
  rw [e]
  exact List.Lex.nil
theorem sumB_iff : ∀ {b : Str} {ts : List (Str × Int)}, sumB b ts = true ↔ (∀ p ∈ ts, isSt p.1 = true ∧ p.2 ≠ 0) ∧ (b :: ts.map (·.1)).Pairwise fun a c => ltS a c = true
  | b, [] => ⟨fun _ => ⟨fun _ h => (by cases h), List.pairwise_singleton _ _⟩, fun _ => rfl⟩
  | b, (n, t) :: r => by
    rw [sumB]
    simp only [Bool.and_eq_true, Bool.not_eq_true', decide_eq_false_iff_not]
    rw [sumB_iff (b := n) (ts := r)]
    constructor
    · rintro ⟨h1, h2, h3, h4, h5⟩
      refine ⟨fun p hp => ?_, ?_⟩
      · rcases List.mem_cons.mp hp with rfl | hp
        · exact ⟨h1, h3⟩
        · exact h4 p hp
      · refine List.pairwise_cons.mpr ⟨fun z hz => ?_, h5⟩
        rcases List.mem_cons.mp hz with rfl | hz
        · exact h2
        · exact ltS_tr h2 ((List.pairwise_cons.mp h5).1 z hz)
    · rintro ⟨h1, h2⟩
      obtain ⟨q1, q2⟩ := List.pairwise_cons.mp h2
      exact ⟨(h1 _ List.mem_cons_self).1, q1 _ List.mem_cons_self, (h1 _ List.mem_cons_self).2, fun p hp => h1 p (List.mem_cons_of_mem _ hp), q2⟩
theorem sum_iff {ts : List (Str × Int)} : sumB "" ts = true ↔ (∀ p ∈ ts, isSt p.1 = true ∧ p.2 ≠ 0) ∧ (ts.map (·.1)).Pairwise fun a c => ltS a c = true := by
  rw [sumB_iff, List.pairwise_cons]
  exact ⟨fun ⟨a, _, b⟩ => ⟨a, b⟩, fun ⟨a, b⟩ => ⟨a, fun z hz => by obtain ⟨p, hp, rfl⟩ := List.mem_map.mp hz; exact ltS_nil (a p hp).1, b⟩⟩
theorem sum_neg {ts : List (Str × Int)} {n : Str} {t : Int} (h : sumB "" (ts ++ [(n, t)]) = true) : sumB "" (ts ++ [(n, -t)]) = true := by
  rw [sum_iff] at h ⊢
  obtain ⟨h1, h2⟩ := h
  refine ⟨fun p hp => ?_, by rw [List.map_append] at h2 ⊢; exact h2⟩
  rcases List.mem_append.mp hp with q | q
  · exact h1 p (List.mem_append_left _ q)
  · rw [List.mem_singleton.mp q]
    have := h1 (n, t) (List.mem_append_right _ List.mem_cons_self)
    exact ⟨this.1, fun e => this.2 (by have e : -t = 0 := e; show t = 0; omega)⟩
/-! ### limits in order -/
structure Oks (n : Nat) (u w z : Str) (ts : List (Str × Int)) : Prop where
  hu : isNm u = true
  hw : isNm w = true
  ne : u ≠ w
  hz : isTx z = true
  zl : z.length ≤ n
  s : sumB "" ts = true
  few : ts.length ≤ 10
theorem Oks.fit {n : Nat} {u w z : Str} {ts : List (Str × Int)} (h : Oks n u w z ts) (c : Int) (k : Str) : Fit n ⟨u, w, if k = "reach" then none else some z, c, ts⟩ := by
  refine ⟨?_, ?_, h.few⟩
  · unfold Lim.ok
    rw [h.hu, h.hw, h.s, decide_eq_false h.ne]
    by_cases e : k = "reach"
    · rw [if_pos e]; rfl
    · rw [if_neg e]
      show (true && (true && (true && (isTx z && true)))) = true
      rw [h.hz]; rfl
  · unfold Lim.len
    by_cases e : k = "reach"
    · rw [if_pos e]; exact Nat.zero_le _
    · rw [if_neg e]; exact h.zl
theorem Fit.oksS {n : Nat} {u w z : Str} {c : Int} {ts : List (Str × Int)} (h : Fit n ⟨u, w, some z, c, ts⟩) : Oks n u w z ts := by
  obtain ⟨h1, h2, h3⟩ := h
  unfold Lim.ok at h1
  simp only [Bool.and_eq_true, Bool.not_eq_true', decide_eq_false_iff_not] at h1
  exact ⟨h1.1, h1.2.1, h1.2.2.1, h1.2.2.2.1, h2, h1.2.2.2.2, h3⟩
theorem Fit.oksN {n : Nat} {u w : Str} {c : Int} {ts : List (Str × Int)} (h : Fit n ⟨u, w, none, c, ts⟩) : Oks n u w "" ts := by
  obtain ⟨h1, h2, h3⟩ := h
  unfold Lim.ok at h1
  simp only [Bool.and_eq_true, Bool.not_eq_true', decide_eq_false_iff_not] at h1
  exact ⟨h1.1, h1.2.1, h1.2.2.1, rfl, Nat.zero_le _, h1.2.2.2.2, h3⟩
theorem Oks.more {n m : Nat} {u w z : Str} {ts : List (Str × Int)} (h : Oks n u w z ts) (hm : n ≤ m) : Oks m u w z ts := ⟨h.hu, h.hw, h.ne, h.hz, Nat.le_trans h.zl hm, h.s, h.few⟩
theorem Fit.more {n m : Nat} {l : Lim} (h : Fit n l) (hm : n ≤ m) : Fit m l := ⟨h.ok, Nat.le_trans h.st hm, h.few⟩
theorem sum_names {ts : List (Str × Int)} (h : sumB "" ts = true) : ∀ p ∈ ts, p.1.length ≤ 12 := fun p hp => (nm_len (nm_of_st ((sum_iff.mp h).1 p hp).1).1).2
theorem Fit.siz {n : Nat} {l : Lim} (h : Fit n l) (hn : n ≤ 1000) : Siz l := by
  obtain ⟨u, w, st, c, ts⟩ := l
  cases st with
  | none =>
    have q := h.oksN
    exact ⟨by have := nm_len q.hu; show u.length ≤ 1000; omega, by have := nm_len q.hw; show w.length ≤ 1000; omega, Nat.zero_le _, fun p hp => by have := sum_names q.s p hp; omega⟩
  | some z =>
    have q := h.oksS
    exact ⟨by have := nm_len q.hu; show u.length ≤ 1000; omega, by have := nm_len q.hw; show w.length ≤ 1000; omega, Nat.le_trans q.zl hn, fun p hp => by have := sum_names q.s p hp; omega⟩
theorem built {k u w z : Str} {c : Int} {ts : List (Str × Int)} {P : D → Prop} (h : P (enc ⟨u, w, if k = "reach" then none else some z, c, ts⟩)) : q_law_built [.str k, .str u, .str w, .str z, .tup [.int c, .tup (ts.map termD)]] P := ⟨k, u, w, z, c, ts, rfl, h⟩
theorem nd_inj {α : Type} {xs : List α} (h : xs.Nodup) {i j : Nat} (hi : i < xs.length) (hj : j < xs.length) (e : xs[i] = xs[j]) : i = j := by
  have q := List.pairwise_iff_getElem.mp h
  rcases Nat.lt_trichotomy i j with c | c | c
  · exact absurd e (q i j hi hj c)
  · exact c
  · exact absurd e.symm (q j i hj hi c)
theorem at_ok {α : Type} {xs : List α} {n : Nat} (h : n < xs.length) : ∃ v, v ∈ xs ∧ atI xs (n : Int) = some v := at_some (by omega) (by omega)
local macro_rules | `(tactic| fail) => `(tactic| first
  | ((with_reducible apply e_var); (· exact rfl))
  | (with_reducible (first | refine e_c ?_ | refine e_op ?_ | refine e_cons ?_ | refine e_nil ?_ | refine k_dat ?_ | refine g_name ?_ | refine s_asg ?_ | refine e_call ?_ | refine e_test ?_ | refine k_b ?_ | refine s_ifS ?_ | refine s_next ?_ | refine e_cb ?_ | refine s_ret ?_ | refine e_newL ?_ | refine e_frz ?_ | refine e_lst ?_ | refine e_tup ?_))
  | ((with_reducible apply s_seqN); · first | (dsimp only [List.set]; done) | (dsimp only [List.set]; exact rfl) | exact rfl)
  | ((with_reducible apply k_dats); (· exact rfl))
  | (with_reducible (first | refine o_eqI ?_ | refine o_eqS ?_ | refine o_neI ?_ | refine o_neS ?_ | refine o_I ?_ | refine o_IB ?_ | refine o_SB ?_ | refine o_neg ?_ | refine o_inSign ?_ | refine o_isB ?_))
  | ((with_reducible apply o_ixT); (· exact rfl); (· exact rfl))
  | ((with_reducible apply o_ixL); (· exact rfl); (· exact rfl))
  | ((with_reducible apply b_lenQ); (· exact rfl))
  | ((with_reducible apply k_seq); (· exact rfl); (· exact Nat.le_of_ble_eq_true rfl))
  | (with_reducible (first | refine e_opN ?_ | refine e_un ?_ | refine e_noPart ?_ | refine e_part ?_ | refine k_i ?_ | refine e_slS ?_ | refine e_slL ?_ | refine e_slA ?_ | refine e_and ?_ | refine e_or ?_ | refine e_not ?_ | refine e_yes ?_ | refine e_if ?_ | refine e_andV ?_ | refine e_orV ?_ | refine e_notV ?_ | refine e_chain ?_ | refine e_cbn ?_ | refine e_join ?_ | refine k_str ?_ | refine e_rev ?_ | refine e_IL ?_ | refine e_IT ?_ | refine e_IS ?_ | refine e_IR ?_ | refine e_IE ?_ | refine k_par ?_ | refine k_par3 ?_ | refine s_brk ?_ | refine s_cont ?_ | refine s_drop ?_ | refine s_new ?_ | refine s_par ?_ | refine s_par3 ?_ | refine s_for ?_ | refine s_forX ?_ | refine s_retNw ?_ | refine s_setL ?_ | refine s_self ?_ | refine g_cons ?_ | refine g_nil ?_ | refine b_int ?_ | refine b_strS ?_ | refine b_max2 ?_ | refine k_id ?_ | refine e_lc ?_ | refine s_ifX ?_ | refine s_lift ?_ | refine s_raise ?_ | refine m_E1 ?_ | refine s_dropX ?_ | refine e_makeC ?_ | refine e_callC ?_ | refine e_make0 ?_ | refine s_try ?_ | refine e_fld' ?_ | refine e_methL ?_ | refine e_isC ?_ | refine e_getKd ?_ | refine k_getKd ?_))
  | ((with_reducible apply s_app); (· exact rfl))
  | ((with_reducible apply s_frzC); (· exact rfl); (· exact rfl))
  | ((with_reducible apply k_lst); (· exact rfl))
  | ((with_reducible apply k_tup); (· exact rfl))
  | ((with_reducible apply k_enum); (· exact rfl))
  | ((with_reducible apply k_slA); (· exact rfl))
  | ((with_reducible apply g_tup); (· exact rfl))
  | ((with_reducible apply k_seqL); (· exact rfl))
  | ((with_reducible apply k_slL); (· exact rfl))
  | ((with_reducible apply b_tuple); (· exact rfl))
  | ((with_reducible apply b_list); (· exact rfl))
  | ((with_reducible apply k_setB); (· exact rfl))
  | ((with_reducible apply s_clear); (· exact rfl))
  | ((with_reducible apply k_ifT); (· first | exact rfl | decide))
  | ((with_reducible apply k_ifF); (· first | exact rfl | decide))
  | ((with_reducible apply k_rng); (· decide); (· decide))
  | ((with_reducible apply q_take); (· decide); (· decide))
  | ((with_reducible apply s_seqX); (· first | (dsimp only [List.set]; done) | (dsimp only [List.set]; exact rfl) | exact rfl))
  | ((with_reducible apply k_args); (· exact rfl))
  | ((with_reducible apply e_ISV); (· exact rfl); (· assumption))
  | ((with_reducible apply k_fld'); (· exact rfl); (· exact rfl))
  | ((with_reducible apply k_methL); (· exact rfl); (· exact rfl)))
theorem pr_law_built (C : AD) : ∀ ds P, q_law_built ds P → p_law_built C { nx := fun _ => P .non, rt := P } (startD n_law_built ds) := by
  rintro ds P ⟨k, u, w, z, c, ts, rfl, hP⟩
  rw [st_law_built]
  unfold p_law_built
  repeat fail
  refine k_if (fun h => ?_) (fun h => ?_)
  · repeat fail
    rw [if_pos h] at hP
    exact hP
  · repeat fail
    rw [if_neg h] at hP
    exact hP
theorem get_strE {zs : List Str} {i : Nat} {d : D} (h : (zs.map D.str)[i]? = some d) : ∃ z, zs[i]? = some z ∧ d = .str z := by
  rw [List.getElem?_map] at h
  obtain ⟨z, h1, rfl⟩ := Option.map_eq_some_iff.mp h
  exact ⟨z, h1, rfl⟩
theorem pr_law_fresh (C : AD) : ∀ ds P, q_law_fresh ds P → p_law_fresh C { nx := fun _ => P .non, rt := P } (startD n_law_fresh ds) := by
  rintro ds P ⟨ps, ms, rfl, hp, hm, hP⟩
  have p2 := hp.two
  have p3 := hp.few
  rw [st_law_fresh]
  unfold p_law_fresh strsD
  repeat fail
  rw [List.length_map]
  refine q_takeN (by omega) (by omega) fun i hi => ?_
  refine o_ixL rfl (get_str (List.getElem?_eq_getElem hi)) ?_
  have hu := List.getElem_mem hi
  generalize hue : ps[i] = u at hu ⊢
  repeat fail
  refine k_lcF ps .str .str (fun z => !decide (z = u)) (by omega) (fun z hz Q0 Q h1 h2 => ?_) ?_
  · repeat fail
    refine k_ifb (fun h => ?_) (fun h => ?_)
    · repeat fail
      exact h1 h
    · exact h2 h
  generalize hos : ps.filter (fun z => !decide (z = u)) = os
  have o1 : ∀ z ∈ os, z ∈ ps ∧ z ≠ u := fun z hz => by
    rw [← hos] at hz
    obtain ⟨a, b⟩ := List.mem_filter.mp hz
    exact ⟨a, fun e => by rw [decide_eq_true e] at b; cases b⟩
  have o2 : 0 < os.length := by
    rw [← hos, List.length_filter_pos_iff]
    have : ∃ j, ∃ (h : j < ps.length), j ≠ i := by
      by_cases c : i = 0
      · exact ⟨1, by omega, by omega⟩
      · exact ⟨0, by omega, by omega⟩
    obtain ⟨j, hj, ne⟩ := this
    refine ⟨ps[j], List.getElem_mem hj, ?_⟩
    have : ps[j] ≠ u := fun e => ne (nd_inj hp.nd hj hi (e.trans hue.symm))
    rw [decide_eq_false this]
    rfl
  have o3 : os.length ≤ 10 := Nat.le_trans (by rw [← hos]; exact List.length_filter_le _ _) hp.few
  repeat fail
  rw [List.length_map]
  refine q_takeN (by omega) (by omega) fun j hj => ?_
  refine o_ixL rfl (get_str (List.getElem?_eq_getElem hj)) ?_
  have hw := o1 _ (List.getElem_mem hj)
  generalize os[j] = w at hw ⊢
  repeat fail
  intro s s0 s1
  repeat fail
  refine ⟨fun i σ => ∃ (ts : List (Str × Int)) (a : Option Cell), σ = [some (.dat .src), some (.dat (.lst (ps.map .str))), some (.dat (.lst (ms.map .str))), some (cS u), some (.lm (os.map .str)), some (cS w), some (cI (2 + s)), some (.lm (ts.map termD)), a, none] ∧ List.Sublist (ts.map (·.1)) (ms.take i) ∧ ∀ p ∈ ts, p.2 ≠ 0, ⟨[], _, rfl, List.nil_sublist _, fun p hp => (by cases hp)⟩, ?_, ?_⟩
  · rintro i d σ hd ⟨ts, a, rfl, h1, h2⟩
    obtain ⟨n, hn, rfl⟩ := get_strE hd
    repeat fail
    refine q_take (by omega) (by omega) fun k k0 k1 => ?_
    repeat fail
    refine k_if (fun h => ?_) (fun h => ?_)
    · repeat fail
      refine ⟨rfl, fun t ht => ?_⟩
      repeat fail
      refine k_app ?_ ?_
      · rw [List.length_map, ← List.length_map (f := (·.1))]
        have := h1.length_le
        rw [List.length_take] at this
        have := hm.few
        omega
      · refine ⟨ts ++ [(n, t)], _, by rw [List.map_append]; rfl, ?_, fun p hp => ?_⟩
        · rw [List.map_append, take_snoc hn]
          exact h1.append (List.Sublist.refl _)
        · rcases List.mem_append.mp hp with q | q
          · exact h2 p q
          · rw [List.mem_singleton.mp q]; exact ht
    · repeat fail
      refine ⟨ts, _, rfl, ?_, h2⟩
      rw [take_snoc hn]
      exact h1.trans (List.sublist_append_left _ _)
  · rintro σ ⟨ts, a, rfl, h1, h2⟩
    rw [List.length_map, List.take_length] at h1
    have hf : ts.length ≤ 10 := by rw [← List.length_map (f := (·.1))]; exact Nat.le_trans h1.length_le hm.few
    have hs : sumB "" ts = true := sum_iff.mpr ⟨fun p hp => ⟨hm.nm _ (h1.subset (List.mem_map_of_mem hp)), h2 p hp⟩, hm.so.sublist h1⟩
    repeat fail
    refine ⟨rfl, fun c => ?_⟩
    repeat fail
    intro k k0 k1
    repeat fail
    refine k_if (fun h => ?_) (fun h => ?_)
    · repeat fail
      exact hP ⟨u, w, none, c, ts⟩ (Oks.fit (z := "") ⟨hp.nm _ hu, hp.nm _ hw.1, fun e => hw.2 e.symm, rfl, Nat.zero_le _, hs, hf⟩ c "reach")
    · repeat fail
      refine ⟨rfl, fun z hz1 hz2 => ?_⟩
      repeat fail
      exact hP ⟨u, w, some z, c, ts⟩ (Oks.fit (z := z) ⟨hp.nm _ hu, hp.nm _ hw.1, fun e => hw.2 e.symm, hz1, hz2, hs, hf⟩ c "room")
end My


/-! K25j: _law_near, _law_ordered, _law_pool. -/
namespace My
open PySem PySem.Spec PyProof.Rows L2 TL
theorem way8 {d : Int} (h0 : 0 ≤ d) (h1 : d < 8) : d = 0 ∨ d = 1 ∨ d = 2 ∨ d = 3 ∨ d = 4 ∨ d = 5 ∨ d = 6 ∨ d = 7 := by omega
theorem last_of (ts : List (Str × Int)) : ts = [] ∨ ∃ r n t, ts = r ++ [(n, t)] := by
  rcases List.eq_nil_or_concat ts with h | ⟨r, ⟨n, t⟩, h⟩
  · exact .inl h
  · exact .inr ⟨r, n, t, by rw [h, List.concat_eq_append]⟩
theorem at_last (r : List (Str × Int)) (n : Str) (t : Int) : atI ((r ++ [(n, t)]).map termD) ((((r ++ [(n, t)]).map termD).length : Nat) - 1 : Int) = some (.tup [.str n, .int t]) := by
  rw [List.length_map, List.length_append, List.length_singleton, show ((r.length + 1 : Nat) : Int) - 1 = (r.length : Nat) by omega]
  refine atI_nat ?_
  rw [List.map_append, List.getElem?_append_right (by rw [List.length_map]; exact Nat.le_refl _), List.length_map, Nat.sub_self]
  rfl
theorem cut_last (r : List (Str × Int)) (n : Str) (t : Int) : cutL ((r ++ [(n, t)]).map termD) none (some ((((r ++ [(n, t)]).map termD).length : Nat) - 1 : Int)) = r.map termD := by
  rw [List.length_map, List.length_append, List.length_singleton, show ((r.length + 1 : Nat) : Int) - 1 = (r.length : Nat) by omega, cut_head, List.map_append, List.take_left' (by rw [List.length_map])]
theorem tl_bang : tl ("!" : Str) = [33] := by decide +kernel
theorem tx_bang {z : Str} (h : isTx z = true) : isTx (z ++ "!") = true := by
  rw [tx_iff] at h ⊢
  intro x hx
  rw [tl_append, tl_bang] at hx
  rcases List.mem_append.mp hx with q | q
  · exact h x q
  · rw [List.mem_singleton.mp q]; decide +kernel
theorem len_bang (z : Str) : (z ++ "!").length = z.length + 1 := by rw [len_cat, show ("!" : Str).length = 1 from by decide +kernel]
theorem map_neg (r : List (Str × Int)) (n : Str) (t : Int) : r.map termD ++ [D.tup [.str n, .int (-t)]] = (r ++ [(n, -t)]).map termD := by rw [List.map_append]; rfl
local macro_rules | `(tactic| fail) => `(tactic| first
  | ((with_reducible apply e_var); (· exact rfl))
  | (with_reducible (first | refine e_c ?_ | refine e_op ?_ | refine e_cons ?_ | refine e_nil ?_ | refine k_dat ?_ | refine g_name ?_ | refine s_asg ?_ | refine e_call ?_ | refine e_test ?_ | refine k_b ?_ | refine s_ifS ?_ | refine s_next ?_ | refine e_cb ?_ | refine s_ret ?_ | refine e_newL ?_ | refine e_frz ?_ | refine e_lst ?_ | refine e_tup ?_))
  | ((with_reducible apply s_seqN); · first | (dsimp only [List.set]; done) | (dsimp only [List.set]; exact rfl) | exact rfl)
  | ((with_reducible apply k_dats); (· exact rfl))
  | (with_reducible (first | refine o_eqI ?_ | refine o_eqS ?_ | refine o_neI ?_ | refine o_neS ?_ | refine o_I ?_ | refine o_IB ?_ | refine o_SB ?_ | refine o_neg ?_ | refine o_inSign ?_ | refine o_isB ?_))
  | ((with_reducible apply o_ixT); (· exact rfl); (· exact rfl))
  | ((with_reducible apply o_ixL); (· exact rfl); (· exact rfl))
  | ((with_reducible apply b_lenQ); (· exact rfl))
  | ((with_reducible apply k_seq); (· exact rfl); (· exact Nat.le_of_ble_eq_true rfl))
  | (with_reducible (first | refine e_opN ?_ | refine e_un ?_ | refine e_noPart ?_ | refine e_part ?_ | refine k_i ?_ | refine e_slS ?_ | refine e_slL ?_ | refine e_slA ?_ | refine e_and ?_ | refine e_or ?_ | refine e_not ?_ | refine e_yes ?_ | refine e_if ?_ | refine e_andV ?_ | refine e_orV ?_ | refine e_notV ?_ | refine e_chain ?_ | refine e_cbn ?_ | refine e_join ?_ | refine k_str ?_ | refine e_rev ?_ | refine e_IL ?_ | refine e_IT ?_ | refine e_IS ?_ | refine e_IR ?_ | refine e_IE ?_ | refine k_par ?_ | refine k_par3 ?_ | refine s_brk ?_ | refine s_cont ?_ | refine s_drop ?_ | refine s_new ?_ | refine s_par ?_ | refine s_par3 ?_ | refine s_for ?_ | refine s_forX ?_ | refine s_retNw ?_ | refine s_setL ?_ | refine s_self ?_ | refine g_cons ?_ | refine g_nil ?_ | refine b_int ?_ | refine b_strS ?_ | refine b_max2 ?_ | refine k_id ?_ | refine e_lc ?_ | refine s_ifX ?_ | refine s_lift ?_ | refine s_raise ?_ | refine m_E1 ?_ | refine s_dropX ?_ | refine e_makeC ?_ | refine e_callC ?_ | refine e_make0 ?_ | refine s_try ?_ | refine e_fld' ?_ | refine e_methL ?_ | refine e_isC ?_ | refine e_getKd ?_ | refine k_getKd ?_))
  | ((with_reducible apply s_app); (· exact rfl))
  | ((with_reducible apply s_frzC); (· exact rfl); (· exact rfl))
  | ((with_reducible apply k_lst); (· exact rfl))
  | ((with_reducible apply k_tup); (· exact rfl))
  | ((with_reducible apply k_enum); (· exact rfl))
  | ((with_reducible apply k_slA); (· exact rfl))
  | ((with_reducible apply g_tup); (· exact rfl))
  | ((with_reducible apply k_seqL); (· exact rfl))
  | ((with_reducible apply k_slL); (· exact rfl))
  | ((with_reducible apply b_tuple); (· exact rfl))
  | ((with_reducible apply b_list); (· exact rfl))
  | ((with_reducible apply k_setB); (· exact rfl))
  | ((with_reducible apply s_clear); (· exact rfl))
  | ((with_reducible apply k_ifT); (· first | exact rfl | decide))
  | ((with_reducible apply k_ifF); (· first | exact rfl | decide))
  | ((with_reducible apply k_rng); (· decide); (· decide))
  | ((with_reducible apply q_take); (· decide); (· decide))
  | ((with_reducible apply s_seqX); (· first | (dsimp only [List.set]; done) | (dsimp only [List.set]; exact rfl) | exact rfl))
  | ((with_reducible apply k_args); (· exact rfl))
  | ((with_reducible apply e_ISV); (· exact rfl); (· assumption))
  | ((with_reducible apply k_fld'); (· exact rfl); (· exact rfl))
  | ((with_reducible apply k_methL); (· exact rfl); (· exact rfl)))
theorem pr_law_near (C : AD) : ∀ ds P, q_law_near ds P → p_law_near C { nx := fun _ => P .non, rt := P } (startD n_law_near ds) := by
  rintro ds P ⟨n, ⟨u, w, st, c, ts⟩, ⟨u', w', st', c', ts'⟩, rfl, fa, fb, hn, hP⟩
  rw [st_law_near]
  unfold p_law_near
  have fin : ∀ {k u w z : Str} {c : Int} {ts : List (Str × Int)}, Oks (n + 1) u w z ts → q_law_built [.str k, .str u, .str w, .str z, .tup [.int c, .tup (ts.map termD)]] (fun d => kDat P (.dat d)) := fun o => built (k_dat (hP _ (o.fit _ _)))
  cases st with
  | none =>
    have oa := fa.oksN.more (Nat.le_succ n)
    have ol : ("" : Str).length ≤ n := fa.oksN.zl
    cases st' with
    | none =>
      have ob := fb.oksN.more (Nat.le_succ n)
      show pSeq _ _ _ [some (.dat .src), some (.dat (.tup [.str "reach", .str u, .str w, encS c ts])), some (.dat (.tup [.str "reach", .str u', .str w', encS c' ts'])), none, none, none, none, none, none, none, none, none]
      unfold encS encT
      repeat fail
      intro d d0 d1
      rcases way8 d0 d1 with rfl | rfl | rfl | rfl | rfl | rfl | rfl | rfl
      · repeat fail
        exact fin oa
      · repeat fail
        exact fin ⟨oa.hw, oa.hu, fun e => oa.ne e.symm, oa.hz, oa.zl, oa.s, oa.few⟩
      · repeat fail
        exact fin ⟨ob.hu, ob.hw, ob.ne, oa.hz, oa.zl, oa.s, oa.few⟩
      · repeat fail
        refine o_catS (by rw [show ("!" : Str).length = 1 from by decide +kernel]; omega) ?_
        repeat fail
        exact fin ⟨oa.hu, oa.hw, oa.ne, tx_bang oa.hz, by rw [len_bang]; omega, oa.s, oa.few⟩
      · repeat fail
        refine k_if (fun h => ?_) (fun h => ?_)
        · repeat fail
          exact fin oa
        · repeat fail
          exact fin oa
      · repeat fail
        exact fin oa
      · repeat fail
        exact fin ⟨oa.hu, oa.hw, oa.ne, oa.hz, oa.zl, ob.s, ob.few⟩
      · rcases last_of ts with rfl | ⟨r, m, t, rfl⟩
        · repeat fail
          exact fin (ts := []) oa
        · repeat fail
          refine k_ifT (decide_eq_true (by rw [List.length_map, List.length_append, List.length_singleton]; omega)) ?_
          repeat fail
          refine o_ixT rfl (at_last r m t) ?_
          repeat fail
          rw [cut_last]
          refine o_catA rfl rfl ?_ ?_
          · have := oa.few
            rw [List.length_append] at this
            rw [List.length_map]
            exact Nat.le_trans this (by decide)
          · rw [map_neg]
            repeat fail
            exact fin ⟨oa.hu, oa.hw, oa.ne, oa.hz, oa.zl, sum_neg oa.s, by have := oa.few; rw [List.length_append] at this ⊢; exact this⟩
    | some z' =>
      have ob := fb.oksS.more (Nat.le_succ n)
      show pSeq _ _ _ [some (.dat .src), some (.dat (.tup [.str "reach", .str u, .str w, encS c ts])), some (.dat (.tup [.str "room", .str u', .str w', .str z', encS c' ts'])), none, none, none, none, none, none, none, none, none]
      unfold encS encT
      repeat fail
      intro d d0 d1
      rcases way8 d0 d1 with rfl | rfl | rfl | rfl | rfl | rfl | rfl | rfl
      · repeat fail
        exact fin oa
      · repeat fail
        exact fin ⟨oa.hw, oa.hu, fun e => oa.ne e.symm, oa.hz, oa.zl, oa.s, oa.few⟩
      · repeat fail
        exact fin ⟨ob.hu, ob.hw, ob.ne, oa.hz, oa.zl, oa.s, oa.few⟩
      · repeat fail
        exact fin ⟨oa.hu, oa.hw, oa.ne, ob.hz, ob.zl, oa.s, oa.few⟩
      · repeat fail
        refine k_if (fun h => ?_) (fun h => ?_)
        · repeat fail
          exact fin oa
        · repeat fail
          exact fin oa
      · repeat fail
        exact fin oa
      · repeat fail
        exact fin ⟨oa.hu, oa.hw, oa.ne, oa.hz, oa.zl, ob.s, ob.few⟩
      · rcases last_of ts with rfl | ⟨r, m, t, rfl⟩
        · repeat fail
          exact fin (ts := []) oa
        · repeat fail
          refine k_ifT (decide_eq_true (by rw [List.length_map, List.length_append, List.length_singleton]; omega)) ?_
          repeat fail
          refine o_ixT rfl (at_last r m t) ?_
          repeat fail
          rw [cut_last]
          refine o_catA rfl rfl ?_ ?_
          · have := oa.few
            rw [List.length_append] at this
            rw [List.length_map]
            exact Nat.le_trans this (by decide)
          · rw [map_neg]
            repeat fail
            exact fin ⟨oa.hu, oa.hw, oa.ne, oa.hz, oa.zl, sum_neg oa.s, by have := oa.few; rw [List.length_append] at this ⊢; exact this⟩
  | some z =>
    have oa := fa.oksS.more (Nat.le_succ n)
    have ol : z.length ≤ n := fa.oksS.zl
    cases st' with
    | none =>
      have ob := fb.oksN.more (Nat.le_succ n)
      show pSeq _ _ _ [some (.dat .src), some (.dat (.tup [.str "room", .str u, .str w, .str z, encS c ts])), some (.dat (.tup [.str "reach", .str u', .str w', encS c' ts'])), none, none, none, none, none, none, none, none, none]
      unfold encS encT
      repeat fail
      intro d d0 d1
      rcases way8 d0 d1 with rfl | rfl | rfl | rfl | rfl | rfl | rfl | rfl
      · repeat fail
        exact fin oa
      · repeat fail
        exact fin ⟨oa.hw, oa.hu, fun e => oa.ne e.symm, oa.hz, oa.zl, oa.s, oa.few⟩
      · repeat fail
        exact fin ⟨ob.hu, ob.hw, ob.ne, oa.hz, oa.zl, oa.s, oa.few⟩
      · repeat fail
        refine o_catS (by rw [show ("!" : Str).length = 1 from by decide +kernel]; omega) ?_
        repeat fail
        exact fin ⟨oa.hu, oa.hw, oa.ne, tx_bang oa.hz, by rw [len_bang]; omega, oa.s, oa.few⟩
      · repeat fail
        refine k_if (fun h => ?_) (fun h => ?_)
        · repeat fail
          exact fin oa
        · repeat fail
          exact fin oa
      · repeat fail
        exact fin oa
      · repeat fail
        exact fin ⟨oa.hu, oa.hw, oa.ne, oa.hz, oa.zl, ob.s, ob.few⟩
      · rcases last_of ts with rfl | ⟨r, m, t, rfl⟩
        · repeat fail
          exact fin (ts := []) oa
        · repeat fail
          refine k_ifT (decide_eq_true (by rw [List.length_map, List.length_append, List.length_singleton]; omega)) ?_
          repeat fail
          refine o_ixT rfl (at_last r m t) ?_
          repeat fail
          rw [cut_last]
          refine o_catA rfl rfl ?_ ?_
          · have := oa.few
            rw [List.length_append] at this
            rw [List.length_map]
            exact Nat.le_trans this (by decide)
          · rw [map_neg]
            repeat fail
            exact fin ⟨oa.hu, oa.hw, oa.ne, oa.hz, oa.zl, sum_neg oa.s, by have := oa.few; rw [List.length_append] at this ⊢; exact this⟩
    | some z' =>
      have ob := fb.oksS.more (Nat.le_succ n)
      show pSeq _ _ _ [some (.dat .src), some (.dat (.tup [.str "room", .str u, .str w, .str z, encS c ts])), some (.dat (.tup [.str "room", .str u', .str w', .str z', encS c' ts'])), none, none, none, none, none, none, none, none, none]
      unfold encS encT
      repeat fail
      intro d d0 d1
      rcases way8 d0 d1 with rfl | rfl | rfl | rfl | rfl | rfl | rfl | rfl
      · repeat fail
        exact fin oa
      · repeat fail
        exact fin ⟨oa.hw, oa.hu, fun e => oa.ne e.symm, oa.hz, oa.zl, oa.s, oa.few⟩
      · repeat fail
        exact fin ⟨ob.hu, ob.hw, ob.ne, oa.hz, oa.zl, oa.s, oa.few⟩
      · repeat fail
        exact fin ⟨oa.hu, oa.hw, oa.ne, ob.hz, ob.zl, oa.s, oa.few⟩
      · repeat fail
        refine k_if (fun h => ?_) (fun h => ?_)
        · repeat fail
          exact fin oa
        · repeat fail
          exact fin oa
      · repeat fail
        exact fin oa
      · repeat fail
        exact fin ⟨oa.hu, oa.hw, oa.ne, oa.hz, oa.zl, ob.s, ob.few⟩
      · rcases last_of ts with rfl | ⟨r, m, t, rfl⟩
        · repeat fail
          exact fin (ts := []) oa
        · repeat fail
          refine k_ifT (decide_eq_true (by rw [List.length_map, List.length_append, List.length_singleton]; omega)) ?_
          repeat fail
          refine o_ixT rfl (at_last r m t) ?_
          repeat fail
          rw [cut_last]
          refine o_catA rfl rfl ?_ ?_
          · have := oa.few
            rw [List.length_append] at this
            rw [List.length_map]
            exact Nat.le_trans this (by decide)
          · rw [map_neg]
            repeat fail
            exact fin ⟨oa.hu, oa.hw, oa.ne, oa.hz, oa.zl, sum_neg oa.s, by have := oa.few; rw [List.length_append] at this ⊢; exact this⟩
end My


/-! K25k: _law_ordered, _law_pool. -/
namespace My
open PySem PySem.Spec PyProof.Rows L2 TL
/-- where x goes -/
structure At (ls : List Lim) (x : Lim) (j a : Nat) : Prop where
  le : a ≤ j
  lo : ∀ y ∈ ls.take a, lt y x = true
  hi : ∀ y ∈ (ls.take j).drop a, lt y x = false
theorem ssrt_at {ls : List Lim} (h : SSrt ls) {i j : Nat} {x y : Lim} (hij : i < j) (hx : ls[i]? = some x) (hy : ls[j]? = some y) : lt x y = true := by
  obtain ⟨h1, e1⟩ := List.getElem?_eq_some_iff.mp hx
  obtain ⟨h2, e2⟩ := List.getElem?_eq_some_iff.mp hy
  rw [← e1, ← e2]
  exact List.pairwise_iff_getElem.mp h i j h1 h2 hij
theorem At.yes {ls : List Lim} {x y : Lim} {j a : Nat} (q : At ls x j a) (h : SSrt ls) (hy : ls[j]? = some y) (hl : lt y x = true) : At ls x (j + 1) (j + 1) := by
  refine ⟨Nat.le_refl _, fun w hw => ?_, fun w hw => ?_⟩
  · rw [take_snoc hy] at hw
    rcases List.mem_append.mp hw with c | c
    · obtain ⟨i, hi, e⟩ := List.mem_iff_getElem.mp c
      rw [List.length_take] at hi
      have : ls[i]? = some w := by
        rw [← e, List.getElem_take]
        exact List.getElem?_eq_getElem (by omega)
      exact lt_tr (ssrt_at h (by omega) this hy) hl
    · rw [List.mem_singleton.mp c]; exact hl
  · rw [List.drop_eq_nil_of_le (by rw [List.length_take]; omega)] at hw
    cases hw
theorem At.no {ls : List Lim} {x y : Lim} {j a : Nat} (q : At ls x j a) (hy : ls[j]? = some y) (hl : lt y x = false) : At ls x (j + 1) a := by
  refine ⟨Nat.le_succ_of_le q.le, q.lo, fun w hw => ?_⟩
  have hj := (List.getElem?_eq_some_iff.mp hy).1
  have := q.le
  rw [take_snoc hy, List.drop_append_of_le_length (by rw [List.length_take]; omega)] at hw
  rcases List.mem_append.mp hw with c | c
  · exact q.hi w c
  · rw [List.mem_singleton.mp c]; exact hl
theorem At.ins {ls : List Lim} {x : Lim} {a : Nat} (q : At ls x ls.length a) (h : SSrt ls) (hx : x ∉ ls) : SSrt (ls.take a ++ [x] ++ ls.drop a) ∧ ∀ y, y ∈ ls.take a ++ [x] ++ ls.drop a ↔ y ∈ ls ∨ y = x := by
  have hi := q.hi
  rw [List.take_length] at hi
  have h' : SSrt (ls.take a ++ ls.drop a) := by rw [List.take_append_drop]; exact h
  obtain ⟨p1, p2, p3⟩ := List.pairwise_append.mp h'
  have up : ∀ y ∈ ls.drop a, lt x y = true := fun y hy => by
    cases e : lt x y with
    | true => rfl
    | false => exact absurd (lt_tot e (hi y hy)) fun e => hx (e ▸ List.mem_of_mem_drop hy)
  constructor
  · rw [List.append_assoc]
    refine List.pairwise_append.mpr ⟨p1, List.pairwise_cons.mpr ⟨up, p2⟩, fun y hy w hw => ?_⟩
    rcases List.mem_cons.mp hw with rfl | hw
    · exact q.lo y hy
    · exact p3 y hy w hw
  · intro y
    rw [List.append_assoc, List.mem_append, List.singleton_append, List.mem_cons]
    have := List.take_append_drop a ls
    constructor
    · rintro (c | c | c)
      · exact .inl (List.mem_of_mem_take c)
      · exact .inr c
      · exact .inl (List.mem_of_mem_drop c)
    · rintro (c | c)
      · rw [← this] at c
        rcases List.mem_append.mp c with c | c
        · exact .inl c
        · exact .inr (.inr c)
      · exact .inr (.inl c)
theorem mem_take_snoc {α : Type} {xs : List α} {i : Nat} {x : α} (h : xs[i]? = some x) (y : α) : y ∈ xs.take (i + 1) ↔ y ∈ xs.take i ∨ y = x := by
  rw [take_snoc h, List.mem_append, List.mem_singleton]
local macro_rules | `(tactic| fail) => `(tactic| first
  | ((with_reducible apply e_var); (· exact rfl))
  | (with_reducible (first | refine e_c ?_ | refine e_op ?_ | refine e_cons ?_ | refine e_nil ?_ | refine k_dat ?_ | refine g_name ?_ | refine s_asg ?_ | refine e_call ?_ | refine e_test ?_ | refine k_b ?_ | refine s_ifS ?_ | refine s_next ?_ | refine e_cb ?_ | refine s_ret ?_ | refine e_newL ?_ | refine e_frz ?_ | refine e_lst ?_ | refine e_tup ?_))
  | ((with_reducible apply s_seqN); · first | (dsimp only [List.set]; done) | (dsimp only [List.set]; exact rfl) | exact rfl)
  | ((with_reducible apply k_dats); (· exact rfl))
  | (with_reducible (first | refine o_eqI ?_ | refine o_eqS ?_ | refine o_neI ?_ | refine o_neS ?_ | refine o_I ?_ | refine o_IB ?_ | refine o_SB ?_ | refine o_neg ?_ | refine o_inSign ?_ | refine o_isB ?_))
  | ((with_reducible apply o_ixT); (· exact rfl); (· exact rfl))
  | ((with_reducible apply o_ixL); (· exact rfl); (· exact rfl))
  | ((with_reducible apply b_lenQ); (· exact rfl))
  | ((with_reducible apply k_seq); (· exact rfl); (· exact Nat.le_of_ble_eq_true rfl))
  | (with_reducible (first | refine e_opN ?_ | refine e_un ?_ | refine e_noPart ?_ | refine e_part ?_ | refine k_i ?_ | refine e_slS ?_ | refine e_slL ?_ | refine e_slA ?_ | refine e_and ?_ | refine e_or ?_ | refine e_not ?_ | refine e_yes ?_ | refine e_if ?_ | refine e_andV ?_ | refine e_orV ?_ | refine e_notV ?_ | refine e_chain ?_ | refine e_cbn ?_ | refine e_join ?_ | refine k_str ?_ | refine e_rev ?_ | refine e_IL ?_ | refine e_IT ?_ | refine e_IS ?_ | refine e_IR ?_ | refine e_IE ?_ | refine k_par ?_ | refine k_par3 ?_ | refine s_brk ?_ | refine s_cont ?_ | refine s_drop ?_ | refine s_new ?_ | refine s_par ?_ | refine s_par3 ?_ | refine s_for ?_ | refine s_forX ?_ | refine s_retNw ?_ | refine s_setL ?_ | refine s_self ?_ | refine g_cons ?_ | refine g_nil ?_ | refine b_int ?_ | refine b_strS ?_ | refine b_max2 ?_ | refine k_id ?_ | refine e_lc ?_ | refine s_ifX ?_ | refine s_lift ?_ | refine s_raise ?_ | refine m_E1 ?_ | refine s_dropX ?_ | refine e_makeC ?_ | refine e_callC ?_ | refine e_make0 ?_ | refine s_try ?_ | refine e_fld' ?_ | refine e_methL ?_ | refine e_isC ?_ | refine e_getKd ?_ | refine k_getKd ?_))
  | ((with_reducible apply s_app); (· exact rfl))
  | ((with_reducible apply s_frzC); (· exact rfl); (· exact rfl))
  | ((with_reducible apply k_lst); (· exact rfl))
  | ((with_reducible apply k_tup); (· exact rfl))
  | ((with_reducible apply k_enum); (· exact rfl))
  | ((with_reducible apply k_slA); (· exact rfl))
  | ((with_reducible apply g_tup); (· exact rfl))
  | ((with_reducible apply k_seqL); (· exact rfl))
  | ((with_reducible apply k_slL); (· exact rfl))
  | ((with_reducible apply b_tuple); (· exact rfl))
  | ((with_reducible apply b_list); (· exact rfl))
  | ((with_reducible apply k_setB); (· exact rfl))
  | ((with_reducible apply s_clear); (· exact rfl))
  | ((with_reducible apply k_ifT); (· first | exact rfl | decide))
  | ((with_reducible apply k_ifF); (· first | exact rfl | decide))
  | ((with_reducible apply k_rng); (· decide); (· decide))
  | ((with_reducible apply q_take); (· decide); (· decide))
  | ((with_reducible apply s_seqX); (· first | (dsimp only [List.set]; done) | (dsimp only [List.set]; exact rfl) | exact rfl))
  | ((with_reducible apply k_args); (· exact rfl))
  | ((with_reducible apply e_ISV); (· exact rfl); (· assumption))
  | ((with_reducible apply k_fld'); (· exact rfl); (· exact rfl))
  | ((with_reducible apply k_methL); (· exact rfl); (· exact rfl)))
theorem pr_law_ordered (C : AD) : ∀ ds P, q_law_ordered ds P → p_law_ordered C { nx := fun _ => P .non, rt := P } (startD n_law_ordered ds) := by
  rintro ds P ⟨ls, rfl, hn, hP⟩
  rw [st_law_ordered]
  unfold p_law_ordered
  repeat fail
  refine ⟨fun i σ => ∃ (rs : List Lim) (a2 a3 a4 : Option Cell), σ = [some (.dat (limsD ls)), some (.dat (.lst (rs.map enc))), a2, a3, a4] ∧ SSrt rs ∧ (∀ y, y ∈ rs ↔ y ∈ ls.take i) ∧ rs.length ≤ i, ⟨[], _, _, _, rfl, List.Pairwise.nil, fun y => Iff.rfl, Nat.le_refl _⟩, ?_, ?_⟩
  · rintro i d σ hd ⟨rs, a2, a3, a4, rfl, hs, hm, hl⟩
    obtain ⟨x, hx, rfl⟩ := get_enc hd
    have hi := (List.getElem?_eq_some_iff.mp hx).1
    repeat fail
    rw [List.length_map]
    refine k_rng (by omega) (by omega) ?_
    refine ⟨fun j σ => ∃ (a : Nat) (a4 : Option Cell), σ = [some (.dat (limsD ls)), some (.dat (.lst (rs.map enc))), some (.dat (enc x)), some (cI a), a4] ∧ At rs x j a, ⟨0, _, rfl, Nat.le_refl _, fun y hy => (by cases hy), fun y hy => (by cases hy)⟩, ?_, ?_⟩
    · rintro j d σ hd ⟨a, a4, rfl, q⟩
      obtain ⟨rfl, hj⟩ := rng_at hd
      have hy := List.getElem?_eq_getElem hj
      generalize rs[j] = y at hy
      repeat fail
      refine o_ixL rfl (at_enc hy) ?_
      repeat fail
      refine o_ltO (okE _) (okE _) (ltE _ _) ?_
      repeat fail
      refine k_ifb (fun h => ?_) (fun h => ?_)
      · repeat fail
        exact ⟨j + 1, _, rfl, q.yes hs hy h⟩
      · repeat fail
        exact ⟨a, _, rfl, q.no hy h⟩
    · rintro σ ⟨a, a4, rfl, q⟩
      rw [rng_len] at q
      repeat fail
      refine o_inO rfl (okE _) (okLs _) ?_
      rw [enc_mem_dec]
      repeat fail
      refine k_ifn (fun h => ?_) (fun h => ?_)
      · repeat fail
        rw [cut_head, ← List.map_take]
        refine o_catL rfl rfl ?_ ?_
        · rw [List.length_map, List.length_take]
          show _ + 1 ≤ _
          omega
        repeat fail
        rw [cut_tail _ _ (by rw [List.length_map]; exact q.le), ← List.map_drop]
        refine o_catL rfl rfl ?_ ?_
        · rw [List.length_append, List.length_map, List.length_map, List.length_take, List.length_drop]
          show _ + 1 + _ ≤ _
          omega
        repeat fail
        obtain ⟨s1, s2⟩ := q.ins hs h
        refine ⟨rs.take a ++ [x] ++ rs.drop a, _, _, _, by rw [List.map_append, List.map_append]; rfl, s1, fun y => by rw [s2, hm, mem_take_snoc hx], ?_⟩
        rw [List.length_append, List.length_append, List.length_take, List.length_drop]
        show _ + 1 + _ ≤ _
        omega
      · repeat fail
        refine ⟨rs, _, _, _, rfl, hs, fun y => ?_, by omega⟩
        rw [mem_take_snoc hx, hm]
        exact ⟨.inl, fun c => c.elim id fun e => e ▸ (hm x).mp h⟩
  · rintro σ ⟨rs, a2, a3, a4, rfl, hs, hm, hl⟩
    rw [List.length_map, List.take_length] at hm
    repeat fail
    rw [cn_of hs hm]
    exact hP
theorem pr_law_pool (C : AD) : ∀ ds P, q_law_pool ds P → p_law_pool C { nx := fun _ => P .non, rt := P } (startD n_law_pool ds) := by
  rintro ds P ⟨ps, ms, m, rfl, hp, hm, m1, m2, hP⟩
  rw [st_law_pool]
  unfold p_law_pool
  repeat fail
  refine k_rng (by omega) (by omega) ?_
  refine ⟨fun i σ => ∃ (ls : List Lim) (a5 a6 : Option Cell), σ = [some (.dat .src), some (.dat (strsD ps)), some (.dat (strsD ms)), some (cI m), some (.lm (ls.map enc)), a5, a6] ∧ ls.length ≤ i ∧ (0 < i → ls ≠ []) ∧ ∀ l ∈ ls, Fit (40 + i) l, ⟨[], _, _, rfl, Nat.le_refl _, fun h => absurd h (by decide), fun l h => (by cases h)⟩, ?_, ?_⟩
  · rintro i d σ hd ⟨ls, a5, a6, rfl, h1, h2, h3⟩
    obtain ⟨rfl, hi⟩ := rng_at hd
    repeat fail
    refine ⟨ps, ms, rfl, hp, hm, fun l hl => ?_⟩
    repeat fail
    rw [List.length_map]
    refine k_if (fun h => ?ga) (fun h => ?gb)
    case' ga =>
      repeat fail
      intro d d0 d1
      repeat fail
      refine k_if (fun h2 => ?gc) (fun h2 => ?gd)
      case' gc =>
        repeat fail
        rw [List.length_map]
        refine q_takeN (by omega) (by omega) fun j hj => ?_
        refine o_ixL rfl (at_enc (List.getElem?_eq_getElem hj)) ?_
        repeat fail
        refine ⟨40 + i, _, _, rfl, h3 _ (List.getElem_mem hj), hl.more (by omega), by omega, fun y hy => ?_⟩
        repeat fail
      case' gd =>
        have hy := hl.more (show 40 ≤ 40 + i + 1 by omega)
        generalize l = y at hy ⊢
        repeat fail
    case' gb =>
      have hy := hl.more (show 40 ≤ 40 + i + 1 by omega)
      generalize l = y at hy ⊢
      repeat fail
    all_goals
      refine o_inO rfl (okE _) (okLs _) ?_
      rw [enc_mem_dec]
      repeat fail
      refine k_ifn (fun h => ?_) (fun h => ?_)
      · repeat fail
        refine k_app (by rw [List.length_map]; omega) ?_
        refine ⟨ls ++ [y], _, _, by rw [List.map_append]; rfl, by rw [List.length_append]; exact Nat.succ_le_succ h1, fun _ e => ?_, fun l h => ?_⟩
        · have := congrArg List.length e
          rw [List.length_append] at this
          cases this
        · rcases List.mem_append.mp h with c | c
          · exact (h3 l c).more (by omega)
          · rw [List.mem_singleton.mp c]; exact hy
      · repeat fail
        exact ⟨ls, _, _, rfl, Nat.le_succ_of_le h1, fun _ e => (by rw [e] at h; cases h), fun l h => (h3 l h).more (by omega)⟩
  · rintro σ ⟨ls, a5, a6, rfl, h1, h2, h3⟩
    rw [rng_len] at h1 h2 h3
    repeat fail
    refine ⟨ls, rfl, by omega, ?_⟩
    repeat fail
    refine hP (cn ls) ⟨ssrt_cn ls, fun l h => (h3 l (mem_cn.mp h)).more (by omega), fun e => ?_, Nat.le_trans cn_len (by omega)⟩
    obtain ⟨x, hx⟩ := List.exists_mem_of_ne_nil ls (h2 (by omega))
    have := mem_cn.mpr hx
    rw [e] at this
    cases this
end My


/-! K25l: _law_bad_name. -/
namespace My
open PySem PySem.Spec PyProof.Rows L2 TL
theorem nm_false {z : Str} (h : ¬ Lnm (tl z)) : isNm z = false := by
  cases e : isNm z with
  | false => rfl
  | true => exact absurd (nm_iff.mp e) h
def badS : Str := " !\"#$&'()*+,-./:;<=>?@ABCDEFGHIJKLMNOPQRSTUVWXYZ[\\]^_`{|}~\n	"
theorem len_bad : badS.length = 60 := by decide +kernel
theorem bad_no : (tl badS).all (fun c => !decide (c ∈ letters) && !decide (c ∈ digits)) = true := by decide +kernel
theorem bad_sign {c : Nat} (h : c ∈ tl badS) : ¬ nmC c := by
  have := List.all_eq_true.mp bad_no c h
  simp only [Bool.and_eq_true, Bool.not_eq_true', decide_eq_false_iff_not] at this
  exact fun q => q.elim this.1 this.2
theorem dig_no {c : Nat} (h : c ∈ digits) : c ∉ letters := by
  have : digits.all (fun c => !decide (c ∈ letters)) = true := by decide +kernel
  have := List.all_eq_true.mp this c h
  simpa using this
theorem bad_mem {z : Str} {c : Nat} (h : c ∈ tl z) (hc : ¬ nmC c) : isNm z = false := nm_false fun q => hc (q.all c h)
theorem way5 {d : Int} (h0 : 0 ≤ d) (h1 : d < 5) : d = 0 ∨ d = 1 ∨ d = 2 ∨ d = 3 ∨ d = 4 := by omega
theorem tl_one' (c : Nat) : (⟨#[c]⟩ : Str).length = 1 := rfl
theorem e_ILk {a : PEx} {σd : Sd} {Pn : List D → Prop} (h : a σd (kSeqL Pn)) : pILk a σd Pn := h
local macro_rules | `(tactic| fail) => `(tactic| first
  | ((with_reducible apply e_var); (· exact rfl))
  | (with_reducible (first | refine e_c ?_ | refine e_op ?_ | refine e_cons ?_ | refine e_nil ?_ | refine k_dat ?_ | refine g_name ?_ | refine s_asg ?_ | refine e_call ?_ | refine e_test ?_ | refine k_b ?_ | refine s_ifS ?_ | refine s_next ?_ | refine e_cb ?_ | refine s_ret ?_ | refine e_newL ?_ | refine e_frz ?_ | refine e_lst ?_ | refine e_tup ?_))
  | ((with_reducible apply s_seqN); · first | (dsimp only [List.set]; done) | (dsimp only [List.set]; exact rfl) | exact rfl)
  | ((with_reducible apply k_dats); (· exact rfl))
  | (with_reducible (first | refine o_eqI ?_ | refine o_eqS ?_ | refine o_neI ?_ | refine o_neS ?_ | refine o_I ?_ | refine o_IB ?_ | refine o_SB ?_ | refine o_neg ?_ | refine o_inSign ?_ | refine o_isB ?_))
  | ((with_reducible apply o_ixT); (· exact rfl); (· exact rfl))
  | ((with_reducible apply o_ixL); (· exact rfl); (· exact rfl))
  | ((with_reducible apply b_lenQ); (· exact rfl))
  | ((with_reducible apply k_seq); (· exact rfl); (· exact Nat.le_of_ble_eq_true rfl))
  | (with_reducible (first | refine e_opN ?_ | refine e_un ?_ | refine e_noPart ?_ | refine e_part ?_ | refine k_i ?_ | refine e_slS ?_ | refine e_slL ?_ | refine e_slA ?_ | refine e_and ?_ | refine e_or ?_ | refine e_not ?_ | refine e_yes ?_ | refine e_if ?_ | refine e_andV ?_ | refine e_orV ?_ | refine e_notV ?_ | refine e_chain ?_ | refine e_cbn ?_ | refine e_join ?_ | refine k_str ?_ | refine e_rev ?_ | refine e_IL ?_ | refine e_ILk ?_ | refine e_IT ?_ | refine e_IS ?_ | refine e_IR ?_ | refine e_IE ?_ | refine k_par ?_ | refine k_par3 ?_ | refine s_brk ?_ | refine s_cont ?_ | refine s_drop ?_ | refine s_new ?_ | refine s_par ?_ | refine s_par3 ?_ | refine s_for ?_ | refine s_forX ?_ | refine s_retNw ?_ | refine s_setL ?_ | refine s_self ?_ | refine g_cons ?_ | refine g_nil ?_ | refine b_int ?_ | refine b_strS ?_ | refine b_max2 ?_ | refine k_id ?_ | refine e_lc ?_ | refine s_ifX ?_ | refine s_lift ?_ | refine s_raise ?_ | refine m_E1 ?_ | refine s_dropX ?_ | refine e_makeC ?_ | refine e_callC ?_ | refine e_make0 ?_ | refine s_try ?_ | refine e_fld' ?_ | refine e_methL ?_ | refine e_isC ?_ | refine e_getKd ?_ | refine k_getKd ?_))
  | ((with_reducible apply s_app); (· exact rfl))
  | ((with_reducible apply s_frzC); (· exact rfl); (· exact rfl))
  | ((with_reducible apply k_lst); (· exact rfl))
  | ((with_reducible apply k_tup); (· exact rfl))
  | ((with_reducible apply k_enum); (· exact rfl))
  | ((with_reducible apply k_slA); (· exact rfl))
  | ((with_reducible apply g_tup); (· exact rfl))
  | ((with_reducible apply k_seqL); (· exact rfl))
  | ((with_reducible apply k_slL); (· exact rfl))
  | ((with_reducible apply b_tuple); (· exact rfl))
  | ((with_reducible apply b_list); (· exact rfl))
  | ((with_reducible apply k_setB); (· exact rfl))
  | ((with_reducible apply s_clear); (· exact rfl))
  | ((with_reducible apply k_ifT); (· first | exact rfl | decide))
  | ((with_reducible apply k_ifF); (· first | exact rfl | decide))
  | ((with_reducible apply k_rng); (· decide); (· decide))
  | ((with_reducible apply q_take); (· decide); (· decide))
  | ((with_reducible apply s_seqX); (· first | (dsimp only [List.set]; done) | (dsimp only [List.set]; exact rfl) | exact rfl))
  | ((with_reducible apply k_args); (· exact rfl))
  | ((with_reducible apply e_ISV); (· exact rfl); (· assumption))
  | ((with_reducible apply k_fld'); (· exact rfl); (· exact rfl))
  | ((with_reducible apply k_methL); (· exact rfl); (· exact rfl)))
theorem pr_law_bad_name (C : AD) : ∀ ds P, q_law_bad_name ds P → p_law_bad_name C { nx := fun _ => P .non, rt := P } (startD n_law_bad_name ds) := by
  rintro ds P ⟨z, rfl, hz, hP⟩
  have hl := nm_len hz
  rw [st_law_bad_name]
  unfold p_law_bad_name
  repeat fail
  intro d d0 d1
  repeat fail
  refine b_lenS (by omega) ?_
  repeat fail
  refine q_takeN (by omega) (by omega) fun k hk => ?_
  repeat fail
  refine b_lenS (by decide +kernel) ?_
  rw [show (Str.length " !\"#$&'()*+,-./:;<=>?@ABCDEFGHIJKLMNOPQRSTUVWXYZ[\\]^_`{|}~\n	") = 60 from len_bad]
  repeat fail
  intro e e0 e1
  obtain ⟨c, hc, hat⟩ := at_some (xs := tl badS) e0 (by rw [← len_tl, len_bad]; exact e1)
  refine o_ixS (by decide +kernel) hat ?_
  have hc := bad_sign hc
  repeat fail
  rcases way5 d0 d1 with rfl | rfl | rfl | rfl | rfl
  · repeat fail
    exact hP "" rfl (by decide)
  · repeat fail
    have e12 : ("abcdefghijkl" : Str).length = 12 := by decide +kernel
    refine o_catS (by rw [e12]; omega) ?_
    repeat fail
    refine k_slS (by rw [len_cat, e12]; omega) ?_
    repeat fail
    have tc : tl (cutS (z ++ "abcdefghijkl") none (some 13)) = (tl (z ++ "abcdefghijkl")).take 13 := tl_cutT _ 13
    have lc : (cutS (z ++ "abcdefghijkl") none (some 13)).length = 13 := by
      rw [len_tl, tc, List.length_take, ← len_tl, len_cat, e12]
      omega
    refine hP _ (nm_false fun q => ?_) (by rw [lc]; decide)
    have := q.few
    rw [← len_tl, lc] at this
    exact absurd this (by decide)
  · repeat fail
    intro f f0 f1
    obtain ⟨g, hg, hat⟩ := at_some (xs := digits) f0 (by exact f1)
    refine o_ixS (by decide +kernel) hat ?_
    repeat fail
    refine k_slS (by omega) ?_
    have tc : tl (cutS z (some 1) none) = (tl z).drop 1 := tl_cutD z 1
    have lc : (cutS z (some 1) none).length ≤ 12 := by
      rw [len_tl, tc, List.length_drop, ← len_tl]
      omega
    refine o_catS (by rw [tl_one']; omega) ?_
    repeat fail
    refine hP _ (nm_false fun q => ?_) (by rw [len_cat, tl_one']; omega)
    obtain ⟨a, as, ea, ha⟩ := q.hd
    rw [tl_append, tl_one] at ea
    cases ea
    exact dig_no hg ha
  · repeat fail
    refine k_slS (by omega) ?_
    repeat fail
    have t1 : tl (cutS z none (some (k : Int))) = (tl z).take k := tl_cutT z k
    have l1 : (cutS z none (some (k : Int))).length ≤ 12 := by
      rw [len_tl, t1, List.length_take, ← len_tl]
      omega
    refine o_catS (by rw [tl_one']; omega) ?_
    repeat fail
    refine k_slS (by omega) ?_
    have t2 : tl (cutS z (some ((k : Int) + 1)) none) = (tl z).drop (k + 1) := tl_cutD z (k + 1)
    have l2 : (cutS z (some ((k : Int) + 1)) none).length ≤ 12 := by
      rw [len_tl, t2, List.length_drop, ← len_tl]
      omega
    refine o_catS (by rw [len_cat, tl_one']; omega) ?_
    repeat fail
    refine hP _ (bad_mem (c := c) ?_ hc) (by rw [len_cat, len_cat, tl_one']; omega)
    rw [tl_append, tl_append, tl_one]
    simp
  · repeat fail
    refine k_slS (by omega) ?_
    repeat fail
    have l1 := (nm_cut hz).2
    refine o_catS (by rw [tl_one']; omega) ?_
    repeat fail
    refine hP _ (bad_mem (c := c) ?_ hc) (by rw [len_cat, tl_one']; omega)
    rw [tl_append, tl_one]
    simp
end My


/-! K25m: _law_bad_terms. -/
namespace My
open PySem PySem.Spec PyProof.Rows L2 TL
theorem way7 {d : Int} (h0 : 0 ≤ d) (h1 : d < 7) : d = 0 ∨ d = 1 ∨ d = 2 ∨ d = 3 ∨ d = 4 ∨ d = 5 ∨ d = 6 := by omega
abbrev Tms := List (Str × Int)
theorem sum_bad {ts : Tms} {p : Str × Int} (hp : p ∈ ts) (h : isSt p.1 = false ∨ p.2 = 0) : sumB "" ts = false := by
  cases e : sumB "" ts with
  | false => rfl
  | true =>
    have q := (sum_iff.mp e).1 p hp
    rcases h with h | h
    · rw [h] at q
      cases q.1
    · exact absurd h q.2
theorem st_bad {z : Str} (h : isNm z = false) : isSt z = false := by unfold isSt; rw [h]; rfl
theorem st_frame : isSt "frame" = false := by decide +kernel
theorem sum_pair {ts : Tms} {xs ys : List Str} {a b : Str} (e : ts.map (·.1) = xs ++ a :: b :: ys) (h : ltS a b = false) : sumB "" ts = false := by
  cases q : sumB "" ts with
  | false => rfl
  | true =>
    have q := (sum_iff.mp q).2
    rw [e] at q
    have := (List.pairwise_cons.mp (List.pairwise_append.mp q).2.1).1 b List.mem_cons_self
    rw [h] at this
    cases this
theorem set_map (ts : Tms) (i : Nat) (p : Str × Int) : (ts.map termD).set i (termD p) = (ts.set i p).map termD := by rw [List.map_set]
theorem at_term {ts : Tms} {i : Nat} {p : Str × Int} (h : ts[i]? = some p) : atI (ts.map termD) (i : Int) = some (.tup [.str p.1, .int p.2]) := atI_nat (by rw [List.getElem?_map, h]; rfl)
theorem ixN_nat {n i : Nat} (h : i < n) : ixN n (i : Int) = some i := by
  unfold ixN
  rw [if_pos (by omega), if_pos (by omega)]
  rfl
theorem bad5 {v : D} (h : v ∈ [D.str "", .str "0", .str "7a", .str "A", .str "Za"]) : ∃ w, v = .str w ∧ isSt w = false ∧ w.length ≤ 30 := by
  simp only [List.mem_cons, List.not_mem_nil, or_false] at h
  rcases h with rfl | rfl | rfl | rfl | rfl <;> exact ⟨_, rfl, by decide +kernel, by decide +kernel⟩
theorem bad4 {v : D} (h : v ∈ [D.str "z~", .str "{", .str "~", .str "zzzzzzzzzzzzz"]) : ∃ w, v = .str w ∧ isSt w = false ∧ w.length ≤ 30 := by
  simp only [List.mem_cons, List.not_mem_nil, or_false] at h
  rcases h with rfl | rfl | rfl | rfl <;> exact ⟨_, rfl, by decide +kernel, by decide +kernel⟩
theorem asy {a b : Str} (h : ltS a b = true) : ltS b a = false := by
  cases e : ltS b a with
  | false => rfl
  | true => exact (by have := ltS_tr h e; rw [ltS_irr] at this; cases this)
local macro_rules | `(tactic| fail) => `(tactic| first
  | ((with_reducible apply e_var); (· exact rfl))
  | (with_reducible (first | refine e_c ?_ | refine e_op ?_ | refine e_cons ?_ | refine e_nil ?_ | refine k_dat ?_ | refine g_name ?_ | refine s_asg ?_ | refine e_call ?_ | refine e_test ?_ | refine k_b ?_ | refine s_ifS ?_ | refine s_next ?_ | refine e_cb ?_ | refine s_ret ?_ | refine e_newL ?_ | refine e_frz ?_ | refine e_lst ?_ | refine e_tup ?_))
  | ((with_reducible apply s_seqN); · first | (dsimp only [List.set]; done) | (dsimp only [List.set]; exact rfl) | exact rfl)
  | ((with_reducible apply k_dats); (· exact rfl))
  | (with_reducible (first | refine o_eqI ?_ | refine o_eqS ?_ | refine o_neI ?_ | refine o_neS ?_ | refine o_I ?_ | refine o_IB ?_ | refine o_SB ?_ | refine o_neg ?_ | refine o_inSign ?_ | refine o_isB ?_))
  | ((with_reducible apply o_ixT); (· exact rfl); (· exact rfl))
  | ((with_reducible apply o_ixL); (· exact rfl); (· exact rfl))
  | ((with_reducible apply b_lenQ); (· exact rfl))
  | ((with_reducible apply k_seq); (· exact rfl); (· exact Nat.le_of_ble_eq_true rfl))
  | (with_reducible (first | refine e_opN ?_ | refine e_un ?_ | refine e_noPart ?_ | refine e_part ?_ | refine k_i ?_ | refine e_slS ?_ | refine e_slL ?_ | refine e_slA ?_ | refine e_and ?_ | refine e_or ?_ | refine e_not ?_ | refine e_yes ?_ | refine e_if ?_ | refine e_andV ?_ | refine e_orV ?_ | refine e_notV ?_ | refine e_chain ?_ | refine e_cbn ?_ | refine e_join ?_ | refine k_str ?_ | refine e_rev ?_ | refine e_IL ?_ | refine e_ILk ?_ | refine e_IT ?_ | refine e_IS ?_ | refine e_IR ?_ | refine e_IE ?_ | refine k_par ?_ | refine k_par3 ?_ | refine s_brk ?_ | refine s_cont ?_ | refine s_drop ?_ | refine s_new ?_ | refine s_par ?_ | refine s_par3 ?_ | refine s_for ?_ | refine s_forX ?_ | refine s_retNw ?_ | refine s_setL ?_ | refine s_self ?_ | refine g_cons ?_ | refine g_nil ?_ | refine b_int ?_ | refine b_strS ?_ | refine b_max2 ?_ | refine k_id ?_ | refine e_lc ?_ | refine s_ifX ?_ | refine s_lift ?_ | refine s_raise ?_ | refine m_E1 ?_ | refine s_dropX ?_ | refine e_makeC ?_ | refine e_callC ?_ | refine e_make0 ?_ | refine s_try ?_ | refine e_fld' ?_ | refine e_methL ?_ | refine e_isC ?_ | refine e_getKd ?_ | refine k_getKd ?_))
  | ((with_reducible apply s_app); (· exact rfl))
  | ((with_reducible apply s_frzC); (· exact rfl); (· exact rfl))
  | ((with_reducible apply k_lst); (· exact rfl))
  | ((with_reducible apply k_tup); (· exact rfl))
  | ((with_reducible apply k_enum); (· exact rfl))
  | ((with_reducible apply k_slA); (· exact rfl))
  | ((with_reducible apply g_tup); (· exact rfl))
  | ((with_reducible apply k_seqL); (· exact rfl))
  | ((with_reducible apply k_slL); (· exact rfl))
  | ((with_reducible apply b_tuple); (· exact rfl))
  | ((with_reducible apply b_list); (· exact rfl))
  | ((with_reducible apply k_setB); (· exact rfl))
  | ((with_reducible apply s_clear); (· exact rfl))
  | ((with_reducible apply k_ifT); (· first | exact rfl | decide))
  | ((with_reducible apply k_ifF); (· first | exact rfl | decide))
  | ((with_reducible apply k_rng); (· decide); (· decide))
  | ((with_reducible apply q_take); (· decide); (· decide))
  | ((with_reducible apply s_seqX); (· first | (dsimp only [List.set]; done) | (dsimp only [List.set]; exact rfl) | exact rfl))
  | ((with_reducible apply k_args); (· exact rfl))
  | ((with_reducible apply e_ISV); (· exact rfl); (· assumption))
  | ((with_reducible apply k_fld'); (· exact rfl); (· exact rfl))
  | ((with_reducible apply k_methL); (· exact rfl); (· exact rfl)))
theorem pr_law_bad_terms (C : AD) : ∀ ds P, q_law_bad_terms ds P → p_law_bad_terms C { nx := fun _ => P .non, rt := P } (startD n_law_bad_terms ds) := by
  rintro ds P ⟨ts0, ms, rfl, hs0, hn0, hm, hP⟩
  have m2 := hm.two
  rw [st_law_bad_terms]
  unfold p_law_bad_terms encT strsD
  repeat fail
  rw [List.length_map]
  refine k_if (fun h => ?ga) (fun h => ?gb)
  case' ga =>
    repeat fail
    have a0 := List.getElem?_eq_getElem (show 0 < ms.length by omega)
    have a1 := List.getElem?_eq_getElem (show 1 < ms.length by omega)
    have c0 := List.getElem_mem (show 0 < ms.length by omega)
    have c1 := List.getElem_mem (show 1 < ms.length by omega)
    have c2 := List.pairwise_iff_getElem.mp hm.so 0 1 (by omega) (by omega) (by omega)
    generalize ms[0] = x0 at a0 c0 c2
    generalize ms[1] = x1 at a1 c1 c2
    refine o_ixL rfl (get_str a0) ?_
    repeat fail
    refine ⟨rfl, fun t0 ht0 => ?_⟩
    repeat fail
    refine o_ixL rfl (get_str a1) ?_
    repeat fail
    refine ⟨rfl, fun t1 ht1 => ?_⟩
    repeat fail
    have hs : sumB "" [(x0, t0), (x1, t1)] = true := by
      refine sum_iff.mpr ⟨fun p hp => ?_, ?_⟩
      · rcases List.mem_cons.mp hp with rfl | hp
        · exact ⟨hm.nm _ c0, ht0⟩
        · rw [List.mem_singleton.mp hp]
          exact ⟨hm.nm _ c1, ht1⟩
      · exact List.pairwise_cons.mpr ⟨fun z hz => by rw [List.mem_singleton.mp hz]; exact c2, List.pairwise_singleton _ _⟩
    have hn : [(x0, t0), (x1, t1)].length ≤ 1000 := by show 2 ≤ 1000; omega
    have h2 : 2 ≤ [(x0, t0), (x1, t1)].length := Nat.le_refl 2
    rw [show ([D.tup [.str x0, .int t0], .tup [.str x1, .int t1]] : List D) = [(x0, t0), (x1, t1)].map termD from rfl]
    generalize ([(x0, t0), (x1, t1)] : Tms) = ts at hs hn h2 ⊢
  case' gb =>
    have hs := hs0
    have hn := hn0
    have h2 : 2 ≤ ts0.length := by omega
    generalize ts0 = ts at hs hn h2 ⊢
    repeat fail
  all_goals
    have nl := sum_names hs
    have fin : ∀ ts' : Tms, sumB "" ts' = false → (∀ p ∈ ts', p.1.length ≤ 30) → P (.tup (ts'.map termD)) := hP
    rw [List.length_map]
    refine q_takeN (by omega) (by omega) fun k hk => ?_
    repeat fail
    have hk1 := List.getElem?_eq_getElem hk
    have hk2 := List.getElem_mem hk
    generalize ts[k] = pk at hk1 hk2
    obtain ⟨n, t⟩ := pk
    refine o_ixL rfl (at_term hk1) ?_
    repeat fail
    intro d d0 d1
    rcases way7 d0 d1 with rfl | rfl | rfl | rfl | rfl | rfl | rfl
    · repeat fail
      refine k_setC (ixN_nat (by rw [List.length_map]; exact hk)) ?_
      rw [show ((ts.map termD).set k (D.tup [.str n, .int 0])) = (ts.set k (n, 0)).map termD from set_map ts k (n, 0)]
      repeat fail
      refine fin _ (sum_bad (p := (n, 0)) (List.mem_set hk _) (.inr rfl)) fun p hp => ?_
      rcases List.mem_or_eq_of_mem_set hp with q | rfl
      · have := nl p q; omega
      · have := nl _ hk2; exact Nat.le_trans this (by decide)
    · repeat fail
      refine ⟨n, rfl, (nm_of_st ((sum_iff.mp hs).1 _ hk2).1).1, fun w hw1 hw2 => ?_⟩
      repeat fail
      refine k_setC (ixN_nat (by rw [List.length_map]; exact hk)) ?_
      rw [show ((ts.map termD).set k (D.tup [.str w, .int t])) = (ts.set k (w, t)).map termD from set_map ts k (w, t)]
      repeat fail
      refine fin _ (sum_bad (p := (w, t)) (List.mem_set hk _) (.inl (st_bad hw1))) fun p hp => ?_
      rcases List.mem_or_eq_of_mem_set hp with q | rfl
      · have := nl p q; omega
      · exact hw2
    · repeat fail
      rw [cut_head]
      repeat fail
      refine ⟨rfl, fun t' ht' => ?_⟩
      repeat fail
      refine o_catL rfl rfl (by rw [List.length_take, List.length_map]; show _ + 1 ≤ _; omega) ?_
      repeat fail
      rw [cut_tail _ _ (by rw [List.length_map]; omega)]
      repeat fail
      refine o_catL rfl rfl (by rw [List.length_append, List.length_take, List.length_drop, List.length_map]; show _ + 1 + _ ≤ _; omega) ?_
      repeat fail
      rw [show (ts.map termD).take k ++ [D.tup [.str n, .int t']] ++ (ts.map termD).drop k = (ts.take k ++ [(n, t')] ++ ts.drop k).map termD by rw [List.map_append, List.map_append, List.map_take, List.map_drop]; rfl]
      repeat fail
      refine fin _ (sum_pair (xs := (ts.take k).map (·.1)) (ys := (ts.drop (k + 1)).map (·.1)) (a := n) (b := n) ?_ (ltS_irr n)) fun p hp => ?_
      · rw [drop_cons hk1, List.map_append, List.map_append, List.append_assoc]
        rfl
      · rcases List.mem_append.mp hp with hp | hp
        · rcases List.mem_append.mp hp with hp | hp
          · have := nl p (List.mem_of_mem_take hp); omega
          · rw [List.mem_singleton.mp hp]
            have := nl _ hk2; exact Nat.le_trans this (by decide)
        · have := nl p (List.mem_of_mem_drop hp); omega
    · repeat fail
      rw [List.length_map]
      refine q_take (by omega) (by omega) fun e e0 e1 => ?_
      obtain ⟨j, rfl⟩ := nat_of e0
      repeat fail
      have j0 := List.getElem?_eq_getElem (show j < ts.length by omega)
      have j1 := List.getElem?_eq_getElem (show j + 1 < ts.length by omega)
      have j2 := List.pairwise_iff_getElem.mp (sum_iff.mp hs).2 j (j + 1) (by rw [List.length_map]; omega) (by rw [List.length_map]; omega) (by omega)
      rw [List.getElem_map, List.getElem_map] at j2
      generalize ts[j] = p0 at j0 j2
      generalize ts[j + 1] = p1 at j1 j2
      have j2 := asy j2
      obtain ⟨n0, t0⟩ := p0
      obtain ⟨n1, t1⟩ := p1
      rw [cut_head]
      repeat fail
      refine o_ixL rfl (at_term j1) ?_
      repeat fail
      refine o_ixL rfl (at_term j0) ?_
      repeat fail
      refine o_catL rfl rfl (by rw [List.length_take, List.length_map]; show _ + 2 ≤ _; omega) ?_
      repeat fail
      rw [show ((j : Int) + 2) = ((j + 2 : Nat) : Int) from rfl, cut_tail _ _ (by rw [List.length_map]; omega)]
      repeat fail
      refine o_catL rfl rfl (by rw [List.length_append, List.length_take, List.length_drop, List.length_map]; show _ + 2 + _ ≤ _; omega) ?_
      repeat fail
      rw [show (ts.map termD).take j ++ [D.tup [.str n1, .int t1], .tup [.str n0, .int t0]] ++ (ts.map termD).drop (j + 2) = (ts.take j ++ [(n1, t1), (n0, t0)] ++ ts.drop (j + 2)).map termD by rw [List.map_append, List.map_append, List.map_take, List.map_drop]; rfl]
      repeat fail
      refine fin _ (sum_pair (xs := (ts.take j).map (·.1)) (ys := (ts.drop (j + 2)).map (·.1)) (a := n1) (b := n0) ?_ j2) fun p hp => ?_
      · rw [List.map_append, List.map_append, List.append_assoc]
        rfl
      · rcases List.mem_append.mp hp with hp | hp
        · rcases List.mem_append.mp hp with hp | hp
          · have := nl p (List.mem_of_mem_take hp); omega
          · rcases List.mem_cons.mp hp with rfl | hp
            · have := nl _ (List.mem_of_getElem? j1); show n1.length ≤ 30; exact Nat.le_trans this (by decide)
            · rw [List.mem_singleton.mp hp]
              have := nl _ (List.mem_of_getElem? j0); show n0.length ≤ 30; exact Nat.le_trans this (by decide)
        · have := nl p (List.mem_of_mem_drop hp); omega
    · repeat fail
      refine k_lcF ts termD termD (fun p => decide (p.1.cps.toList < ("frame" : Str).cps.toList)) (by omega) (fun p hp Q0 Q h1 h2 => ?_) ?_
      · repeat fail
        refine k_ifb (fun h => ?_) (fun h => ?_)
        · repeat fail
          exact h1 h
        · exact h2 h
      have f1 := List.length_filter_le (fun p : Str × Int => decide (p.1.cps.toList < ("frame" : Str).cps.toList)) ts
      have f2 := List.length_filter_le (fun p : Str × Int => decide (("frame" : Str).cps.toList < p.1.cps.toList)) ts
      repeat fail
      refine o_catL rfl rfl (by rw [List.length_map]; show _ + 1 ≤ _; omega) ?_
      repeat fail
      refine k_lcF ts termD termD (fun p => decide (("frame" : Str).cps.toList < p.1.cps.toList)) (by omega) (fun p hp Q0 Q h1 h2 => ?_) ?_
      · repeat fail
        refine k_ifb (fun h => ?_) (fun h => ?_)
        · repeat fail
          exact h1 h
        · exact h2 h
      repeat fail
      refine o_catL rfl rfl (by rw [List.length_append, List.length_map, List.length_map]; show _ + 1 + _ ≤ _; omega) ?_
      rw [show ((ts.filter (fun p : Str × Int => decide (p.1.cps.toList < ("frame" : Str).cps.toList))).map termD ++ [D.tup [.str "frame", .int t]]) ++ (ts.filter (fun p : Str × Int => decide (("frame" : Str).cps.toList < p.1.cps.toList))).map termD = (ts.filter (fun p : Str × Int => decide (p.1.cps.toList < ("frame" : Str).cps.toList)) ++ [(("frame" : Str), t)] ++ ts.filter (fun p : Str × Int => decide (("frame" : Str).cps.toList < p.1.cps.toList))).map termD by rw [List.map_append, List.map_append]; rfl]
      repeat fail
      refine fin _ (sum_bad (p := ("frame", t)) (List.mem_append_left _ (List.mem_append_right _ List.mem_cons_self)) (.inl st_frame)) fun p hp => ?_
      rcases List.mem_append.mp hp with hp | hp
      · rcases List.mem_append.mp hp with hp | hp
        · have := nl p (List.mem_filter.mp hp).1; omega
        · rw [List.mem_singleton.mp hp]
          show ("frame" : Str).length ≤ 30
          decide +kernel
      · have := nl p (List.mem_filter.mp hp).1; omega
    · repeat fail
      intro e e0 e1
      obtain ⟨v, hv, hat⟩ := at_some (xs := [D.str "", .str "0", .str "7a", .str "A", .str "Za"]) e0 (by exact e1)
      obtain ⟨w, rfl, w1, w2⟩ := bad5 hv
      refine o_ixL rfl hat ?_
      repeat fail
      refine o_catL rfl rfl (by rw [List.length_map]; show 1 + _ ≤ _; omega) ?_
      repeat fail
      refine fin ((w, t) :: ts) (sum_bad (p := (w, t)) List.mem_cons_self (.inl w1)) fun p hp => ?_
      rcases List.mem_cons.mp hp with rfl | hp
      · exact w2
      · have := nl p hp; omega
    · repeat fail
      intro e e0 e1
      obtain ⟨v, hv, hat⟩ := at_some (xs := [D.str "z~", .str "{", .str "~", .str "zzzzzzzzzzzzz"]) e0 (by exact e1)
      obtain ⟨w, rfl, w1, w2⟩ := bad4 hv
      refine o_ixL rfl hat ?_
      repeat fail
      refine o_catL rfl rfl (by rw [List.length_map]; show _ + 1 ≤ _; omega) ?_
      repeat fail
      rw [show ts.map termD ++ [D.tup [.str w, .int t]] = (ts ++ [(w, t)]).map termD by rw [List.map_append]; rfl]
      refine fin (ts ++ [(w, t)]) (sum_bad (p := (w, t)) (List.mem_append_right _ List.mem_cons_self) (.inl w1)) fun p hp => ?_
      rcases List.mem_append.mp hp with hp | hp
      · have := nl p hp; omega
      · rw [List.mem_singleton.mp hp]
        exact w2
end My


/-! K25n: _law_spoilt. -/
namespace My
open PySem PySem.Spec PyProof.Rows L2 TL
def oddB (ds : List D) : Bool := match ds with
  | [] => true
  | .str k :: _ => !decide ((tb_ITEM_COUNTS.lookup k).getD 0 = (ds.length : Int))
  | _ => false
section
variable {P : D → Prop} (hP : ∀ v : Val, v.Sz → v.ok = false → P v.d)
include hP
theorem odd_fin {ds : List D} (h1 : oddB ds = true) (h2 : Nat.ble ds.length 100 = true) (h3 : ds.all (okN 20) = true) : P (.tup ds) := by
  refine hP (.odd ds) ⟨h3, Nat.le_of_ble_eq_true h2, ?_⟩ rfl
  cases ds with
  | nil => exact .inl rfl
  | cons d r =>
    cases d with
    | str k =>
      refine .inr ⟨k, r, rfl, ?_⟩
      unfold oddB at h1
      simpa using h1
    | _ => cases h1
theorem odd_word {k : Str} {r : List D} (hk : tb_ITEM_COUNTS.lookup k = none) (h2 : Nat.ble r.length 99 = true) (h3 : r.all (okN 20) = true) : P (.tup (.str k :: r)) := by
  have h2 := Nat.le_of_ble_eq_true h2
  refine hP (.odd (.str k :: r)) ⟨?_, ?_, .inr ⟨k, r, rfl, ?_⟩⟩ rfl
  · rw [List.all_cons, h3]; rfl
  · rw [List.length_cons]; omega
  · rw [hk, List.length_cons]
    show (0 : Int) ≠ _
    omega
theorem spo {k u w z : Str} {c : Int} {ts : List (Str × Int)} (hu : u.length ≤ 1000) (hw : w.length ≤ 1000) (hz : z.length ≤ 1000) (hts : ∀ p ∈ ts, p.1.length ≤ 1000)
    (hb : isNm u = false ∨ isNm w = false ∨ u = w ∨ (k ≠ "reach" ∧ isTx z = false) ∨ sumB "" ts = false) : q_law_built [.str k, .str u, .str w, .str z, .tup [.int c, .tup (ts.map termD)]] (fun d => kDat P (.dat d)) := by
  refine built (k_dat (hP (.lim ⟨u, w, if k = "reach" then none else some z, c, ts⟩) ⟨hu, hw, ?_, hts⟩ ?_))
  · unfold Lim.len
    by_cases e : k = "reach"
    · rw [if_pos e]; exact Nat.zero_le _
    · rw [if_neg e]; exact hz
  · show Lim.ok _ = false
    unfold Lim.ok
    rcases hb with h | h | h | ⟨h0, h⟩ | h
    · rw [h]; rfl
    · rw [h]; simp
    · rw [decide_eq_true h]; simp
    · rw [if_neg h0]
      show (_ && (_ && (_ && (isTx z && _)))) = false
      rw [h]; simp
    · rw [h]; simp
end
theorem all_cut {xs : List D} {f : D → Bool} (l u : Option Int) (h : xs.all f = true) : (cutL xs l u).all f = true := by
  rw [List.all_eq_true] at h ⊢
  intro x hx
  unfold cutL at hx
  exact h x (List.mem_of_mem_drop (List.mem_of_mem_take hx))
theorem all_app {xs ys : List D} {f : D → Bool} (h1 : xs.all f = true) (h2 : ys.all f = true) : (xs ++ ys).all f = true := by rw [List.all_append, h1, h2]; rfl
theorem len_cutL {α : Type} (xs : List α) (l u : Option Int) : (cutL xs l u).length ≤ xs.length := by
  unfold cutL
  rw [List.length_take, List.length_drop]
  omega
theorem all_one {d : D} {f : D → Bool} (h : f d = true) : [d].all f = true := by rw [List.all_cons, h]; rfl
def oddWs : List Str := ["", "rooms", "roo", "Room", "reaches", "reac", "REACH", "room ", " reach", "roomreach", "rule", "frame"]
theorem odd_ws : oddWs.all (fun w => (tb_ITEM_COUNTS.lookup w).isNone) = true := by decide +kernel
theorem odd_look {w : Str} (h : w ∈ oddWs) : tb_ITEM_COUNTS.lookup w = none := by
  have := List.all_eq_true.mp odd_ws w h
  simpa using this
theorem way14 {d : Int} (h0 : 0 ≤ d) (h1 : d < 14) : d = 0 ∨ d = 1 ∨ d = 2 ∨ d = 3 ∨ d = 4 ∨ d = 5 ∨ d = 6 ∨ d = 7 ∨ d = 8 ∨ d = 9 ∨ d = 10 ∨ d = 11 ∨ d = 12 ∨ d = 13 := by omega
theorem way3 {d : Int} (h0 : 0 ≤ d) (h1 : d < 3) : d = 0 ∨ d = 1 ∨ d = 2 := by omega
theorem way4 {d : Int} (h0 : 0 ≤ d) (h1 : d < 4) : d = 0 ∨ d = 1 ∨ d = 2 ∨ d = 3 := by omega
theorem ws3 {v : D} (h : v ∈ [D.str " ", .str "\n", .str "	"]) : ∃ c, v = .str ⟨#[c]⟩ ∧ c ∉ charsL := by
  simp only [List.mem_cons, List.not_mem_nil, or_false] at h
  rcases h with rfl | rfl | rfl
  · exact ⟨32, rfl, by decide +kernel⟩
  · exact ⟨10, rfl, by decide +kernel⟩
  · exact ⟨9, rfl, by decide +kernel⟩
theorem tx_bad {z : Str} {c : Nat} (h : c ∈ tl z) (hc : c ∉ charsL) : isTx z = false := by
  cases e : isTx z with
  | false => rfl
  | true => exact absurd (tx_iff.mp e c h) hc
theorem len_cutS (z : Str) (l u : Option Int) : (cutS z l u).length ≤ z.length := by
  have : (cutS z l u).cps.toList = cutL z.cps.toList l u := rfl
  rw [len_tl, len_tl]
  show (cutS z l u).cps.toList.length ≤ _
  rw [this]
  exact len_cutL _ _ _
theorem ok20S (c : Int) (ts : List (Str × Int)) : okN 20 (.tup [.int c, .tup (ts.map termD)]) = true := ok_encS (n := 17) c ts
theorem okE20 (l : Lim) : okN 20 (enc l) = true := ok_enc (n := 16) l
theorem ok20T (ts : List (Str × Int)) : okN 20 (.tup (ts.map termD)) = true := ok_encT (n := 18) ts
local macro_rules | `(tactic| fail) => `(tactic| first
  | ((with_reducible apply e_var); (· exact rfl))
  | (with_reducible (first | refine e_c ?_ | refine e_op ?_ | refine e_cons ?_ | refine e_nil ?_ | refine k_dat ?_ | refine g_name ?_ | refine s_asg ?_ | refine e_call ?_ | refine e_test ?_ | refine k_b ?_ | refine s_ifS ?_ | refine s_next ?_ | refine e_cb ?_ | refine s_ret ?_ | refine e_newL ?_ | refine e_frz ?_ | refine e_lst ?_ | refine e_tup ?_))
  | ((with_reducible apply s_seqN); · first | (dsimp only [List.set]; done) | (dsimp only [List.set]; exact rfl) | exact rfl)
  | ((with_reducible apply k_dats); (· exact rfl))
  | (with_reducible (first | refine o_eqI ?_ | refine o_eqS ?_ | refine o_neI ?_ | refine o_neS ?_ | refine o_I ?_ | refine o_IB ?_ | refine o_SB ?_ | refine o_neg ?_ | refine o_inSign ?_ | refine o_isB ?_))
  | ((with_reducible apply o_ixT); (· exact rfl); (· exact rfl))
  | ((with_reducible apply o_ixL); (· exact rfl); (· exact rfl))
  | ((with_reducible apply b_lenQ); (· exact rfl))
  | ((with_reducible apply k_seq); (· exact rfl); (· exact Nat.le_of_ble_eq_true rfl))
  | (with_reducible (first | refine e_opN ?_ | refine e_un ?_ | refine e_noPart ?_ | refine e_part ?_ | refine k_i ?_ | refine e_slS ?_ | refine e_slL ?_ | refine e_slA ?_ | refine e_and ?_ | refine e_or ?_ | refine e_not ?_ | refine e_yes ?_ | refine e_if ?_ | refine e_andV ?_ | refine e_orV ?_ | refine e_notV ?_ | refine e_chain ?_ | refine e_cbn ?_ | refine e_join ?_ | refine k_str ?_ | refine e_rev ?_ | refine e_IL ?_ | refine e_ILk ?_ | refine e_IT ?_ | refine e_IS ?_ | refine e_IR ?_ | refine e_IE ?_ | refine k_par ?_ | refine k_par3 ?_ | refine s_brk ?_ | refine s_cont ?_ | refine s_drop ?_ | refine s_new ?_ | refine s_par ?_ | refine s_par3 ?_ | refine s_for ?_ | refine s_forX ?_ | refine s_retNw ?_ | refine s_setL ?_ | refine s_self ?_ | refine g_cons ?_ | refine g_nil ?_ | refine b_int ?_ | refine b_strS ?_ | refine b_max2 ?_ | refine k_id ?_ | refine e_lc ?_ | refine s_ifX ?_ | refine s_lift ?_ | refine s_raise ?_ | refine m_E1 ?_ | refine s_dropX ?_ | refine e_makeC ?_ | refine e_callC ?_ | refine e_make0 ?_ | refine s_try ?_ | refine e_fld' ?_ | refine e_methL ?_ | refine e_isC ?_ | refine e_getKd ?_ | refine k_getKd ?_))
  | ((with_reducible apply s_app); (· exact rfl))
  | ((with_reducible apply s_frzC); (· exact rfl); (· exact rfl))
  | ((with_reducible apply k_lst); (· exact rfl))
  | ((with_reducible apply k_tup); (· exact rfl))
  | ((with_reducible apply k_enum); (· exact rfl))
  | ((with_reducible apply k_slA); (· exact rfl))
  | ((with_reducible apply g_tup); (· exact rfl))
  | ((with_reducible apply k_seqL); (· exact rfl))
  | ((with_reducible apply k_slL); (· exact rfl))
  | ((with_reducible apply b_tuple); (· exact rfl))
  | ((with_reducible apply b_list); (· exact rfl))
  | ((with_reducible apply k_setB); (· exact rfl))
  | ((with_reducible apply s_clear); (· exact rfl))
  | ((with_reducible apply k_ifT); (· first | exact rfl | decide))
  | ((with_reducible apply k_ifF); (· first | exact rfl | decide))
  | ((with_reducible apply k_rng); (· decide); (· decide))
  | ((with_reducible apply q_take); (· decide); (· decide))
  | ((with_reducible apply s_seqX); (· first | (dsimp only [List.set]; done) | (dsimp only [List.set]; exact rfl) | exact rfl))
  | ((with_reducible apply k_args); (· exact rfl))
  | ((with_reducible apply e_ISV); (· exact rfl); (· assumption))
  | ((with_reducible apply k_fld'); (· exact rfl); (· exact rfl))
  | ((with_reducible apply k_methL); (· exact rfl); (· exact rfl)))
theorem pr_law_spoilt (C : AD) : ∀ ds P, q_law_spoilt ds P → p_law_spoilt C { nx := fun _ => P .non, rt := P } (startD n_law_spoilt ds) := by
  rintro ds P ⟨⟨u, w, st, c, ts⟩, ms, rfl, fa, hm, hP⟩
  rw [st_law_spoilt]
  unfold p_law_spoilt
  cases st with
  | none =>
    have oa := fa.oksN
    have lu : u.length ≤ 1000 := Nat.le_trans (nm_len oa.hu).2 (by decide)
    have lw : w.length ≤ 1000 := Nat.le_trans (nm_len oa.hw).2 (by decide)
    have lz : ("" : Str).length ≤ 1000 := Nat.le_trans oa.zl (by decide)
    have lt : ∀ p ∈ ts, p.1.length ≤ 1000 := fun p hp => Nat.le_trans (sum_names oa.s p hp) (by decide)
    have aold : ([D.str "reach", .str u, .str w, .tup [.int c, .tup (ts.map termD)]]).all (okN 20) = true := by
      have := ok20S c ts
      show (true && (true && (true && (okN 20 (D.tup [.int c, .tup (ts.map termD)]) && true)))) = true
      rw [this]
      rfl
    show pSeq _ _ _ [some (.dat .src), some (.dat (.tup [.str "reach", .str u, .str w, encS c ts])), some (.dat (strsD ms)), none, none, none, none, none, none, none, none, none, none, none, none, none]
    unfold encS encT
    repeat fail
    intro e e0 e1
    obtain ⟨v, hv, hat⟩ := at_some (xs := oddWs.map D.str) e0 (by exact e1)
    obtain ⟨wd, hwd, rfl⟩ := List.mem_map.mp hv
    have hwd := odd_look hwd
    refine o_ixL rfl hat ?_
    repeat fail
    refine q_take (m := 3) (by decide) (by decide) fun e e0 e1 => ?_
    repeat fail
    intro d d0 d1
    rcases way14 d0 d1 with rfl | rfl | rfl | rfl | rfl | rfl | rfl | rfl | rfl | rfl | rfl | rfl | rfl | rfl
    · repeat fail
      refine o_catA rfl rfl (by exact Nat.le_of_ble_eq_true rfl) ?_
      repeat fail
      exact odd_word hP (r := cutL [D.str "reach", .str u, .str w, .tup [.int c, .tup (ts.map termD)]] (some 1) none) hwd rfl (all_cut _ _ aold)
    · repeat fail
      refine q_take (m := 4) (by decide) (by decide) fun f f0 f1 => ?_
      rcases way4 f0 f1 with rfl | rfl | rfl | rfl
      all_goals
        repeat fail
        exact odd_fin hP rfl rfl (all_cut _ _ aold)
    · rcases way3 e0 e1 with rfl | rfl | rfl
      all_goals
        repeat fail
        refine o_catA rfl rfl (by exact Nat.le_of_ble_eq_true rfl) ?_
        repeat fail
        exact odd_fin hP rfl rfl (all_app (all_cut _ _ aold) (all_cut _ _ aold))
    · repeat fail
      intro f f0 f1
      obtain ⟨v, hv, hat⟩ := at_some (xs := [D.str "", .int c, .tup (ts.map termD), .str u, .tup [.str "reach", .str u, .str w, .tup [.int c, .tup (ts.map termD)]]]) f0 (by exact f1)
      have hv : okN 20 v = true := by
        simp only [List.mem_cons, List.not_mem_nil, or_false] at hv
        rcases hv with rfl | rfl | rfl | rfl | rfl
        · rfl
        · rfl
        · exact ok20T ts
        · rfl
        · exact okE20 ⟨u, w, none, c, ts⟩
      refine o_ixL rfl hat ?_
      rcases way3 e0 e1 with rfl | rfl | rfl
      all_goals
        repeat fail
        refine o_catA rfl rfl (by exact Nat.le_of_ble_eq_true rfl) ?_
        repeat fail
        refine o_catA rfl rfl (by exact Nat.le_of_ble_eq_true rfl) ?_
        repeat fail
        exact odd_fin hP rfl rfl (all_app (all_app (all_cut _ _ aold) (all_one hv)) (all_cut _ _ aold))
    · repeat fail
      refine o_catA rfl rfl (by exact Nat.le_of_ble_eq_true rfl) ?_
      repeat fail
      exact odd_fin hP rfl rfl (all_app rfl (all_cut _ _ aold))
    · repeat fail
      refine o_catA rfl rfl (by exact Nat.le_of_ble_eq_true rfl) ?_
      repeat fail
      refine q_take (m := 5) (by decide) (by decide) fun f f0 f1 => ?_
      rcases way5 f0 f1 with rfl | rfl | rfl | rfl | rfl
      · repeat fail
        exact odd_word hP (r := []) hwd rfl rfl
      · repeat fail
        exact odd_word hP (r := [.int c, .tup (ts.map termD)]) hwd rfl (by show (true && (okN 20 (.tup (ts.map termD)) && true)) = true; rw [ok20T ts]; rfl)
      · repeat fail
        exact odd_fin hP rfl rfl rfl
      · repeat fail
        exact odd_fin hP rfl rfl (by show (true && (okN 20 (.tup (ts.map termD)) && true)) = true; rw [ok20T ts]; rfl)
      · repeat fail
        exact odd_fin hP rfl rfl (all_app aold rfl)
    · repeat fail
      refine ⟨u, rfl, oa.hu, fun y hy1 hy2 => ?_⟩
      repeat fail
      exact spo hP (Nat.le_trans hy2 (by decide)) lw lz lt (.inl hy1)
    · repeat fail
      refine ⟨w, rfl, oa.hw, fun y hy1 hy2 => ?_⟩
      repeat fail
      exact spo hP lu (Nat.le_trans hy2 (by decide)) lz lt (.inr (.inl hy1))
    · repeat fail
      exact spo hP lw lw lz lt (.inr (.inr (.inl rfl)))
    · repeat fail
      refine b_lenS (by exact Nat.le_trans lz (by decide)) ?_
      repeat fail
      intro f f0 f1
      repeat fail
      refine k_slS (by exact Nat.le_trans lz (by decide)) ?_
      repeat fail
      intro g g0 g1
      obtain ⟨v, hv, hat⟩ := at_some (xs := [D.str " ", .str "\n", .str "	"]) g0 (by exact g1)
      obtain ⟨x, rfl, hx⟩ := ws3 hv
      have b1 := Nat.le_trans (len_cutS ("" : Str) none (some f)) oa.zl
      have b2 := Nat.le_trans (len_cutS ("" : Str) (some f) none) oa.zl
      refine o_ixL rfl hat ?_
      refine o_catS (by rw [tl_one']; omega) ?_
      repeat fail
      refine k_slS (by exact Nat.le_trans lz (by decide)) ?_
      refine o_catS (by rw [len_cat, tl_one']; omega) ?_
      repeat fail
      exact spo hP lu lw (by rw [len_cat, len_cat, tl_one']; omega) lt (.inr (.inr (.inr (.inl ⟨by decide +kernel, tx_bad (c := x) (by rw [tl_append, tl_append, tl_one]; simp) hx⟩))))
    · repeat fail
      refine ⟨ts, ms, rfl, oa.s, Nat.le_trans oa.few (by decide), hm, fun ts' h1 h2 => ?_⟩
      repeat fail
      exact spo hP lu lw lz (fun p hp => Nat.le_trans (h2 p hp) (by decide)) (.inr (.inr (.inr (.inr h1))))
    · repeat fail
      refine ⟨ts, ms, rfl, oa.s, Nat.le_trans oa.few (by decide), hm, fun ts' h1 h2 => ?_⟩
      repeat fail
      exact spo hP lu lw lz (fun p hp => Nat.le_trans (h2 p hp) (by decide)) (.inr (.inr (.inr (.inr h1))))
    · repeat fail
      refine ⟨ts, ms, rfl, oa.s, Nat.le_trans oa.few (by decide), hm, fun ts' h1 h2 => ?_⟩
      repeat fail
      exact spo hP lu lw lz (fun p hp => Nat.le_trans (h2 p hp) (by decide)) (.inr (.inr (.inr (.inr h1))))
    · repeat fail
      refine ⟨ts, ms, rfl, oa.s, Nat.le_trans oa.few (by decide), hm, fun ts' h1 h2 => ?_⟩
      repeat fail
      exact spo hP lu lw lz (fun p hp => Nat.le_trans (h2 p hp) (by decide)) (.inr (.inr (.inr (.inr h1))))
  | some z =>
    have oa := fa.oksS
    have lu : u.length ≤ 1000 := Nat.le_trans (nm_len oa.hu).2 (by decide)
    have lw : w.length ≤ 1000 := Nat.le_trans (nm_len oa.hw).2 (by decide)
    have lz : z.length ≤ 1000 := Nat.le_trans oa.zl (by decide)
    have lt : ∀ p ∈ ts, p.1.length ≤ 1000 := fun p hp => Nat.le_trans (sum_names oa.s p hp) (by decide)
    have aold : ([D.str "room", .str u, .str w, .str z, .tup [.int c, .tup (ts.map termD)]]).all (okN 20) = true := by
      have := ok20S c ts
      show (true && (true && (true && (true && (okN 20 (D.tup [.int c, .tup (ts.map termD)]) && true))))) = true
      rw [this]
      rfl
    show pSeq _ _ _ [some (.dat .src), some (.dat (.tup [.str "room", .str u, .str w, .str z, encS c ts])), some (.dat (strsD ms)), none, none, none, none, none, none, none, none, none, none, none, none, none]
    unfold encS encT
    repeat fail
    intro e e0 e1
    obtain ⟨v, hv, hat⟩ := at_some (xs := oddWs.map D.str) e0 (by exact e1)
    obtain ⟨wd, hwd, rfl⟩ := List.mem_map.mp hv
    have hwd := odd_look hwd
    refine o_ixL rfl hat ?_
    repeat fail
    refine q_take (m := 4) (by decide) (by decide) fun e e0 e1 => ?_
    repeat fail
    intro d d0 d1
    rcases way14 d0 d1 with rfl | rfl | rfl | rfl | rfl | rfl | rfl | rfl | rfl | rfl | rfl | rfl | rfl | rfl
    · repeat fail
      refine o_catA rfl rfl (by exact Nat.le_of_ble_eq_true rfl) ?_
      repeat fail
      exact odd_word hP (r := cutL [D.str "room", .str u, .str w, .str z, .tup [.int c, .tup (ts.map termD)]] (some 1) none) hwd rfl (all_cut _ _ aold)
    · repeat fail
      refine q_take (m := 5) (by decide) (by decide) fun f f0 f1 => ?_
      rcases way5 f0 f1 with rfl | rfl | rfl | rfl | rfl
      all_goals
        repeat fail
        exact odd_fin hP rfl rfl (all_cut _ _ aold)
    · rcases way4 e0 e1 with rfl | rfl | rfl | rfl
      all_goals
        repeat fail
        refine o_catA rfl rfl (by exact Nat.le_of_ble_eq_true rfl) ?_
        repeat fail
        exact odd_fin hP rfl rfl (all_app (all_cut _ _ aold) (all_cut _ _ aold))
    · repeat fail
      intro f f0 f1
      obtain ⟨v, hv, hat⟩ := at_some (xs := [D.str z, .int c, .tup (ts.map termD), .str u, .tup [.str "room", .str u, .str w, .str z, .tup [.int c, .tup (ts.map termD)]]]) f0 (by exact f1)
      have hv : okN 20 v = true := by
        simp only [List.mem_cons, List.not_mem_nil, or_false] at hv
        rcases hv with rfl | rfl | rfl | rfl | rfl
        · rfl
        · rfl
        · exact ok20T ts
        · rfl
        · exact okE20 ⟨u, w, some z, c, ts⟩
      refine o_ixL rfl hat ?_
      rcases way4 e0 e1 with rfl | rfl | rfl | rfl
      all_goals
        repeat fail
        refine o_catA rfl rfl (by exact Nat.le_of_ble_eq_true rfl) ?_
        repeat fail
        refine o_catA rfl rfl (by exact Nat.le_of_ble_eq_true rfl) ?_
        repeat fail
        exact odd_fin hP rfl rfl (all_app (all_app (all_cut _ _ aold) (all_one hv)) (all_cut _ _ aold))
    · repeat fail
      refine o_catA rfl rfl (by exact Nat.le_of_ble_eq_true rfl) ?_
      repeat fail
      exact odd_fin hP rfl rfl (all_app rfl (all_cut _ _ aold))
    · repeat fail
      refine o_catA rfl rfl (by exact Nat.le_of_ble_eq_true rfl) ?_
      repeat fail
      refine q_take (m := 5) (by decide) (by decide) fun f f0 f1 => ?_
      rcases way5 f0 f1 with rfl | rfl | rfl | rfl | rfl
      · repeat fail
        exact odd_word hP (r := []) hwd rfl rfl
      · repeat fail
        exact odd_word hP (r := [.int c, .tup (ts.map termD)]) hwd rfl (by show (true && (okN 20 (.tup (ts.map termD)) && true)) = true; rw [ok20T ts]; rfl)
      · repeat fail
        exact odd_fin hP rfl rfl rfl
      · repeat fail
        exact odd_fin hP rfl rfl (by show (true && (okN 20 (.tup (ts.map termD)) && true)) = true; rw [ok20T ts]; rfl)
      · repeat fail
        exact odd_fin hP rfl rfl (all_app aold rfl)
    · repeat fail
      refine ⟨u, rfl, oa.hu, fun y hy1 hy2 => ?_⟩
      repeat fail
      exact spo hP (Nat.le_trans hy2 (by decide)) lw lz lt (.inl hy1)
    · repeat fail
      refine ⟨w, rfl, oa.hw, fun y hy1 hy2 => ?_⟩
      repeat fail
      exact spo hP lu (Nat.le_trans hy2 (by decide)) lz lt (.inr (.inl hy1))
    · repeat fail
      exact spo hP lw lw lz lt (.inr (.inr (.inl rfl)))
    · repeat fail
      refine b_lenS (by exact Nat.le_trans lz (by decide)) ?_
      repeat fail
      refine q_take (m := (z.length : Int) + 1) (by omega) (by omega) fun f f0 f1 => ?_
      repeat fail
      refine k_slS (by exact Nat.le_trans lz (by decide)) ?_
      repeat fail
      intro g g0 g1
      obtain ⟨v, hv, hat⟩ := at_some (xs := [D.str " ", .str "\n", .str "	"]) g0 (by exact g1)
      obtain ⟨x, rfl, hx⟩ := ws3 hv
      have b1 := Nat.le_trans (len_cutS z none (some f)) oa.zl
      have b2 := Nat.le_trans (len_cutS z (some f) none) oa.zl
      refine o_ixL rfl hat ?_
      refine o_catS (by rw [tl_one']; omega) ?_
      repeat fail
      refine k_slS (by exact Nat.le_trans lz (by decide)) ?_
      refine o_catS (by rw [len_cat, tl_one']; omega) ?_
      repeat fail
      exact spo hP lu lw (by rw [len_cat, len_cat, tl_one']; omega) lt (.inr (.inr (.inr (.inl ⟨by decide +kernel, tx_bad (c := x) (by rw [tl_append, tl_append, tl_one]; simp) hx⟩))))
    · repeat fail
      refine ⟨ts, ms, rfl, oa.s, Nat.le_trans oa.few (by decide), hm, fun ts' h1 h2 => ?_⟩
      repeat fail
      exact spo hP lu lw lz (fun p hp => Nat.le_trans (h2 p hp) (by decide)) (.inr (.inr (.inr (.inr h1))))
    · repeat fail
      refine ⟨ts, ms, rfl, oa.s, Nat.le_trans oa.few (by decide), hm, fun ts' h1 h2 => ?_⟩
      repeat fail
      exact spo hP lu lw lz (fun p hp => Nat.le_trans (h2 p hp) (by decide)) (.inr (.inr (.inr (.inr h1))))
    · repeat fail
      refine ⟨ts, ms, rfl, oa.s, Nat.le_trans oa.few (by decide), hm, fun ts' h1 h2 => ?_⟩
      repeat fail
      exact spo hP lu lw lz (fun p hp => Nat.le_trans (h2 p hp) (by decide)) (.inr (.inr (.inr (.inr h1))))
    · repeat fail
      refine ⟨ts, ms, rfl, oa.s, Nat.le_trans oa.few (by decide), hm, fun ts' h1 h2 => ?_⟩
      repeat fail
      exact spo hP lu lw lz (fun p hp => Nat.le_trans (h2 p hp) (by decide)) (.inr (.inr (.inr (.inr h1))))
end My


/-! K25o: sheets looked at. -/
namespace My
open PySem PySem.Spec PyProof.Rows L2 TL
theorem toPys_bl : ∀ bs : List Bool, toPys (bs.map D.bl) = some (bs.map PyData.bool)
  | [] => rfl
  | b :: r => by
    rw [List.map_cons, toPys, toPys_bl r]
    rfl
theorem lay_bl : ∀ bs : List Bool, PyData.canLayAll0 (bs.map PyData.bool) = true
  | [] => rfl
  | b :: r => by
    rw [List.map_cons, PyData.canLayAll0, lay_bl r]
    rfl
theorem depth_bl : ∀ bs : List Bool, PyData.depthAll (bs.map PyData.bool) = 0
  | [] => rfl
  | b :: r => by
    rw [List.map_cons, PyData.depthAll, depth_bl r]
    rfl
theorem o_eqBs {bs : List Bool} {P : Cell → Prop} (h : P (cB true)) : fEqD id (.lm (bs.map D.bl)) (.lm (bs.map D.bl)) P := by
  have e : toPyC (.lm (bs.map D.bl)) = some (.list (bs.map PyData.bool)) := by
    show (toPys (bs.map D.bl)).map PyData.list = _
    rw [toPys_bl]
    rfl
  have l : (PyData.list (bs.map PyData.bool)).canLay0 = true := by rw [PyData.canLay0]; exact lay_bl bs
  have s : SeqAt.shaped (.list (bs.map PyData.bool)) = true := by
    unfold SeqAt.shaped
    rw [l, PyData.depth, depth_bl]
    decide
  exact ⟨_, _, e, e, s, s, by rw [SeqAt.eqv_refl _ l]; exact h⟩
theorem isC_sheet (C : AD) (ls : List Lim) : isC C.Sheet (sheet C ls) = some true := if_pos rfl
theorem lims_eq (a b : List Lim) : dec ((D.lst (a.map enc)) = limsD b) = decide (a = b) := lst_eq a b
theorem all_less (as bs : List Lim) : (as.all fun l => decide (l ∈ bs)) = decide (as.filter (fun l => !decide (l ∈ bs)) = []) := by
  rw [Bool.eq_iff_iff, decide_eq_true_iff, List.filter_eq_nil_iff, List.all_eq_true]
  simp
local macro_rules | `(tactic| fail) => `(tactic| first
  | ((with_reducible apply e_var); (· exact rfl))
  | (with_reducible (first | refine e_c ?_ | refine e_op ?_ | refine e_cons ?_ | refine e_nil ?_ | refine k_dat ?_ | refine g_name ?_ | refine s_asg ?_ | refine e_call ?_ | refine e_test ?_ | refine k_b ?_ | refine s_ifS ?_ | refine s_next ?_ | refine e_cb ?_ | refine s_ret ?_ | refine e_newL ?_ | refine e_frz ?_ | refine e_lst ?_ | refine e_tup ?_))
  | ((with_reducible apply s_seqN); · first | (dsimp only [List.set]; done) | (dsimp only [List.set]; exact rfl) | exact rfl)
  | ((with_reducible apply k_dats); (· exact rfl))
  | (with_reducible (first | refine o_eqI ?_ | refine o_eqS ?_ | refine o_neI ?_ | refine o_neS ?_ | refine o_I ?_ | refine o_IB ?_ | refine o_SB ?_ | refine o_neg ?_ | refine o_inSign ?_ | refine o_isB ?_))
  | ((with_reducible apply o_ixT); (· exact rfl); (· exact rfl))
  | ((with_reducible apply o_ixL); (· exact rfl); (· exact rfl))
  | ((with_reducible apply b_lenQ); (· exact rfl))
  | ((with_reducible apply k_seq); (· exact rfl); (· exact Nat.le_of_ble_eq_true rfl))
  | (with_reducible (first | refine e_opN ?_ | refine e_un ?_ | refine e_noPart ?_ | refine e_part ?_ | refine k_i ?_ | refine e_slS ?_ | refine e_slL ?_ | refine e_slA ?_ | refine e_and ?_ | refine e_or ?_ | refine e_not ?_ | refine e_yes ?_ | refine e_if ?_ | refine e_andV ?_ | refine e_orV ?_ | refine e_notV ?_ | refine e_chain ?_ | refine e_cbn ?_ | refine e_join ?_ | refine k_str ?_ | refine e_rev ?_ | refine e_IL ?_ | refine e_ILk ?_ | refine e_IT ?_ | refine e_IS ?_ | refine e_IR ?_ | refine e_IE ?_ | refine k_par ?_ | refine k_par3 ?_ | refine s_brk ?_ | refine s_cont ?_ | refine s_drop ?_ | refine s_new ?_ | refine s_par ?_ | refine s_par3 ?_ | refine s_for ?_ | refine s_forX ?_ | refine s_retNw ?_ | refine s_setL ?_ | refine s_self ?_ | refine g_cons ?_ | refine g_nil ?_ | refine b_int ?_ | refine b_strS ?_ | refine b_max2 ?_ | refine k_id ?_ | refine e_lc ?_ | refine s_ifX ?_ | refine s_lift ?_ | refine s_raise ?_ | refine m_E1 ?_ | refine s_dropX ?_ | refine e_makeC ?_ | refine e_callC ?_ | refine e_make0 ?_ | refine s_try ?_ | refine e_fld' ?_ | refine e_methL ?_ | refine e_isC ?_ | refine e_getKd ?_ | refine k_getKd ?_))
  | ((with_reducible apply s_app); (· exact rfl))
  | ((with_reducible apply s_frzC); (· exact rfl); (· exact rfl))
  | ((with_reducible apply k_lst); (· exact rfl))
  | ((with_reducible apply k_tup); (· exact rfl))
  | ((with_reducible apply k_enum); (· exact rfl))
  | ((with_reducible apply k_slA); (· exact rfl))
  | ((with_reducible apply g_tup); (· exact rfl))
  | ((with_reducible apply k_seqL); (· exact rfl))
  | ((with_reducible apply k_slL); (· exact rfl))
  | ((with_reducible apply b_tuple); (· exact rfl))
  | ((with_reducible apply b_list); (· exact rfl))
  | ((with_reducible apply k_setB); (· exact rfl))
  | ((with_reducible apply s_clear); (· exact rfl))
  | ((with_reducible apply k_ifT); (· first | exact rfl | decide))
  | ((with_reducible apply k_ifF); (· first | exact rfl | decide))
  | ((with_reducible apply k_rng); (· decide); (· decide))
  | ((with_reducible apply q_take); (· decide); (· decide))
  | ((with_reducible apply s_seqX); (· first | (dsimp only [List.set]; done) | (dsimp only [List.set]; exact rfl) | exact rfl))
  | ((with_reducible apply k_args); (· exact rfl))
  | ((with_reducible apply e_ISV); (· exact rfl); (· assumption))
  | ((with_reducible apply k_fld'); (· exact rfl); (· exact rfl))
  | ((with_reducible apply k_methL); (· exact rfl); (· exact rfl)))
theorem pr_law_truth (C : AD) : ∀ ds P, q_law_truth ds P → p_law_truth C { nx := fun _ => P .non, rt := P } (startD n_law_truth ds) := by
  rintro ds P ⟨a, b, rfl, hP⟩
  rw [st_law_truth]
  unfold p_law_truth
  repeat fail
  refine k_ifb (fun h => ?_) (fun h => ?_)
  · repeat fail
    rw [h] at hP
    exact hP
  · repeat fail
    rw [h] at hP
    exact hP
theorem pr_law_shows (C : AD) : ∀ ds P, q_law_shows C ds P → p_law_shows C { nx := fun _ => P .non, rt := P } (startD n_law_shows ds) := by
  rintro ds P ⟨ls, pool, rfl, hl, hp, hP⟩
  rw [st_law_shows]
  unfold p_law_shows
  repeat fail
  refine k_isC (isC_sheet C ls) ?_
  repeat fail
  refine b_lenF rfl ?_
  repeat fail
  refine k_ifF (by simp) ?_
  repeat fail
  refine b_listOwn rfl ?_
  repeat fail
  refine o_eqO rfl rfl (okLD _) (okLD _) ?_
  repeat fail
  refine k_ifF (by rw [lims_eq]; simp) ?_
  repeat fail
  refine k_lcM pool enc (fun l => .bl (decide (l ∈ ls))) (by omega) (fun l hl Q h1 => ?_) ?_
  · repeat fail
    refine o_ownIn rfl ⟨ls, l, rfl, _, rfl, ?_⟩
    repeat fail
    exact h1
  repeat fail
  refine k_lcM pool enc (fun l => .bl (decide (l ∈ ls))) (by omega) (fun l hl Q h1 => ?_) ?_
  · repeat fail
    refine o_inO rfl (okE _) (okLs _) ?_
    rw [enc_mem_dec]
    repeat fail
    exact h1
  rw [show (pool.map fun l => D.bl (decide (l ∈ ls))) = (pool.map fun l => decide (l ∈ ls)).map D.bl by rw [List.map_map]; rfl]
  refine o_eqBs ?_
  repeat fail
  exact hP
theorem pr_law_apart (C : AD) : ∀ ds P, q_law_apart C ds P → p_law_apart C { nx := fun _ => P .non, rt := P } (startD n_law_apart ds) := by
  rintro ds P ⟨ls, rfl, hP⟩
  rw [st_law_apart]
  unfold p_law_apart
  repeat fail
  refine o_ownEq rfl (show isC C.Sheet (limsD ls) = some false from rfl) ⟨ls, _, rfl, .inr ⟨rfl, ?_⟩⟩
  repeat fail
  refine ⟨false, false, rfl, ?_⟩
  repeat fail
  refine o_ownEqR rfl rfl ⟨ls, _, rfl, .inr ⟨rfl, ?_⟩⟩
  repeat fail
  refine ⟨false, false, rfl, ?_⟩
  repeat fail
  refine o_ownEq rfl (show isC C.Sheet (.tup _) = some false from rfl) ⟨ls, _, rfl, .inr ⟨rfl, ?_⟩⟩
  repeat fail
  refine ⟨false, false, rfl, ?_⟩
  repeat fail
  refine o_ownEq rfl (show isC C.Sheet (.int _) = some false from rfl) ⟨ls, _, rfl, .inr ⟨rfl, ?_⟩⟩
  repeat fail
  refine ⟨false, false, rfl, ?_⟩
  repeat fail
  refine o_oneNo rfl ⟨ls, _, rfl, .inr ⟨rfl, rfl, ?_⟩⟩
  repeat fail
  refine ⟨false, false, rfl, ?_⟩
  repeat fail
  exact hP
theorem pr_law_operators (C : AD) : ∀ ds P, q_law_operators C ds P → p_law_operators C { nx := fun _ => P .non, rt := P } (startD n_law_operators ds) := by
  rintro ds P ⟨as, bs, pool, rfl, sa, sb, hn, hp, hP⟩
  have na := sa.n
  have nb := sb.n
  have f1 := List.length_filter_le (fun l => decide (l ∈ bs)) as
  have f2 := List.length_filter_le (fun l => !decide (l ∈ bs)) as
  have f3 := List.length_filter_le (fun l => !decide (l ∈ as)) bs
  rw [st_law_operators]
  unfold p_law_operators
  repeat fail
  refine k_lcF as enc enc (fun l => decide (l ∈ bs)) (by omega) (fun l hl Q0 Q h1 h2 => ?_) ?_
  · repeat fail
    refine o_inO rfl (okE _) (okLs _) ?_
    rw [enc_mem_dec]
    repeat fail
    refine k_ifb (fun h => ?_) (fun h => ?_)
    · repeat fail
      exact h1 h
    · exact h2 h
  repeat fail
  refine k_lcF as enc enc (fun l => !decide (l ∈ bs)) (by omega) (fun l hl Q0 Q h1 h2 => ?_) ?_
  · repeat fail
    refine o_inO rfl (okE _) (okLs _) ?_
    rw [enc_mem_dec]
    repeat fail
    refine k_ifb (fun h => ?_) (fun h => ?_)
    · repeat fail
      exact h1 h
    · exact h2 h
  repeat fail
  refine k_lcF bs enc enc (fun l => !decide (l ∈ as)) (by omega) (fun l hl Q0 Q h1 h2 => ?_) ?_
  · repeat fail
    refine o_inO rfl (okE _) (okLs _) ?_
    rw [enc_mem_dec]
    repeat fail
    refine k_ifb (fun h => ?_) (fun h => ?_)
    · repeat fail
      exact h1 h
    · exact h2 h
  repeat fail
  refine o_own rfl rfl ⟨as, bs, rfl, sa, sb, hn, ?_⟩
  repeat fail
  rw [List.length_append] at hn
  refine o_catL rfl rfl (by rw [List.length_map, List.length_map]; omega) ?_
  rw [← List.map_append]
  repeat fail
  refine ⟨as ++ bs, rfl, by rw [List.length_append]; exact hn, ?_⟩
  repeat fail
  refine ⟨cn (as ++ bs), pool, rfl, Nat.le_trans cn_len (by rw [List.length_append]; omega), hp, ?_⟩
  repeat fail
  refine o_own rfl rfl ⟨as, bs, rfl, sa, sb, ?_⟩
  repeat fail
  refine ⟨_, pool, rfl, by omega, hp, ?_⟩
  repeat fail
  refine o_own rfl rfl ⟨as, bs, rfl, sa, sb, ?_⟩
  repeat fail
  refine ⟨_, pool, rfl, by omega, hp, ?_⟩
  repeat fail
  refine o_own rfl rfl ⟨bs, as, rfl, sb, sa, ?_⟩
  repeat fail
  refine ⟨_, pool, rfl, by omega, hp, ?_⟩
  repeat fail
  refine o_own rfl rfl ⟨as, bs, rfl, sa, sb, ?_⟩
  repeat fail
  refine o_eqO rfl rfl (okLD _) rfl ?_
  rw [show dec (D.lst ((as.filter fun l => !decide (l ∈ bs)).map enc) = D.lst []) = decide (as.filter (fun l => !decide (l ∈ bs)) = []) from lst_eq _ []]
  repeat fail
  refine ⟨_, _, rfl, ?_⟩
  repeat fail
  refine k_ifF (by rw [all_less]; simp) ?_
  repeat fail
  refine o_own rfl rfl ⟨bs, as, rfl, sb, sa, ?_⟩
  repeat fail
  refine o_eqO rfl rfl (okLD _) rfl ?_
  rw [show dec (D.lst ((bs.filter fun l => !decide (l ∈ as)).map enc) = D.lst []) = decide (bs.filter (fun l => !decide (l ∈ as)) = []) from lst_eq _ []]
  repeat fail
  refine ⟨_, _, rfl, ?_⟩
  repeat fail
  refine k_ifF (by rw [all_less]; simp) ?_
  repeat fail
  refine o_ownEq rfl (isC_sheet C bs) ⟨as, _, rfl, .inl ⟨bs, rfl, ?_⟩⟩
  repeat fail
  refine o_eqO rfl rfl (okLD _) (okLD _) ?_
  rw [show dec (limsD as = limsD bs) = decide (as = bs) from lst_eq as bs]
  repeat fail
  refine ⟨_, _, rfl, ?_⟩
  repeat fail
  refine ret_bl hP ?_
  simp
end My


/-! K25p: _law_drawn_rows, _law_sheets_agree. -/
namespace My
open PySem PySem.Spec PyProof.Rows L2 TL
/-- rows drawn from a pool -/
theorem rows_of {pool : List Lim} : ∀ {ys : List D}, (∀ y ∈ ys, ∃ l ∈ pool, y = enc l) → ∃ ls : List Lim, ys = ls.map enc ∧ ∀ l ∈ ls, l ∈ pool
  | [], _ => ⟨[], rfl, fun _ h => (by cases h)⟩
  | y :: r, h => by
    obtain ⟨l, hl, rfl⟩ := h y List.mem_cons_self
    obtain ⟨ls, rfl, h2⟩ := rows_of (ys := r) fun y hy => h y (List.mem_cons_of_mem _ hy)
    exact ⟨l :: ls, rfl, fun x hx => by rcases List.mem_cons.mp hx with rfl | hx; exact hl; exact h2 x hx⟩
theorem all_R {α : Type} {xs : List α} {ys : List D} {p : D → Prop} (hl : ys.length = xs.length) (h : ∀ (i : Nat) (x : α) (y : D), xs[i]? = some x → ys[i]? = some y → p y) : ∀ y ∈ ys, p y := fun y hy => by
  obtain ⟨i, hi, e⟩ := List.mem_iff_getElem.mp hy
  exact h i xs[i] y (List.getElem?_eq_getElem (by omega)) (by rw [← e]; exact List.getElem?_eq_getElem hi)
theorem Pool.one {ls : List Lim} (h : Pool ls) : 0 < ls.length := List.length_pos_iff.mpr h.n
theorem Pool.good {pool ls : List Lim} (h : Pool pool) (hs : ∀ l ∈ ls, l ∈ pool) : ∀ l ∈ ls, Siz l ∧ l.ok = true := fun l hl => ⟨(h.f l (hs l hl)).siz (by decide), (h.f l (hs l hl)).ok⟩
theorem shs_cn {pool ls : List Lim} (h : Pool pool) (hs : ∀ l ∈ ls, l ∈ pool) (hn : ls.length ≤ 100) : Shs (cn ls) := ⟨ssrt_cn ls, fun l hl => h.good hs l (mem_cn.mp hl), Nat.le_trans cn_len hn⟩
local macro_rules | `(tactic| fail) => `(tactic| first
  | ((with_reducible apply e_var); (· exact rfl))
  | (with_reducible (first | refine e_c ?_ | refine e_op ?_ | refine e_cons ?_ | refine e_nil ?_ | refine k_dat ?_ | refine g_name ?_ | refine s_asg ?_ | refine e_call ?_ | refine e_test ?_ | refine k_b ?_ | refine s_ifS ?_ | refine s_next ?_ | refine e_cb ?_ | refine s_ret ?_ | refine e_newL ?_ | refine e_frz ?_ | refine e_lst ?_ | refine e_tup ?_))
  | ((with_reducible apply s_seqN); · first | (dsimp only [List.set]; done) | (dsimp only [List.set]; exact rfl) | exact rfl)
  | ((with_reducible apply k_dats); (· exact rfl))
  | (with_reducible (first | refine o_eqI ?_ | refine o_eqS ?_ | refine o_neI ?_ | refine o_neS ?_ | refine o_I ?_ | refine o_IB ?_ | refine o_SB ?_ | refine o_neg ?_ | refine o_inSign ?_ | refine o_isB ?_))
  | ((with_reducible apply o_ixT); (· exact rfl); (· exact rfl))
  | ((with_reducible apply o_ixL); (· exact rfl); (· exact rfl))
  | ((with_reducible apply b_lenQ); (· exact rfl))
  | ((with_reducible apply k_seq); (· exact rfl); (· exact Nat.le_of_ble_eq_true rfl))
  | (with_reducible (first | refine e_opN ?_ | refine e_un ?_ | refine e_noPart ?_ | refine e_part ?_ | refine k_i ?_ | refine e_slS ?_ | refine e_slL ?_ | refine e_slA ?_ | refine e_and ?_ | refine e_or ?_ | refine e_not ?_ | refine e_yes ?_ | refine e_if ?_ | refine e_andV ?_ | refine e_orV ?_ | refine e_notV ?_ | refine e_chain ?_ | refine e_cbn ?_ | refine e_join ?_ | refine k_str ?_ | refine e_rev ?_ | refine e_IL ?_ | refine e_ILk ?_ | refine e_IT ?_ | refine e_IS ?_ | refine e_IR ?_ | refine e_IE ?_ | refine k_par ?_ | refine k_par3 ?_ | refine s_brk ?_ | refine s_cont ?_ | refine s_drop ?_ | refine s_new ?_ | refine s_par ?_ | refine s_par3 ?_ | refine s_for ?_ | refine s_forX ?_ | refine s_retNw ?_ | refine s_setL ?_ | refine s_self ?_ | refine g_cons ?_ | refine g_nil ?_ | refine b_int ?_ | refine b_strS ?_ | refine b_max2 ?_ | refine k_id ?_ | refine e_lc ?_ | refine s_ifX ?_ | refine s_lift ?_ | refine s_raise ?_ | refine m_E1 ?_ | refine s_dropX ?_ | refine e_makeC ?_ | refine e_callC ?_ | refine e_make0 ?_ | refine s_try ?_ | refine e_fld' ?_ | refine e_methL ?_ | refine e_isC ?_ | refine e_getKd ?_ | refine k_getKd ?_))
  | ((with_reducible apply s_app); (· exact rfl))
  | ((with_reducible apply s_frzC); (· exact rfl); (· exact rfl))
  | ((with_reducible apply k_lst); (· exact rfl))
  | ((with_reducible apply k_tup); (· exact rfl))
  | ((with_reducible apply k_enum); (· exact rfl))
  | ((with_reducible apply k_slA); (· exact rfl))
  | ((with_reducible apply g_tup); (· exact rfl))
  | ((with_reducible apply k_seqL); (· exact rfl))
  | ((with_reducible apply k_slL); (· exact rfl))
  | ((with_reducible apply b_tuple); (· exact rfl))
  | ((with_reducible apply b_list); (· exact rfl))
  | ((with_reducible apply k_setB); (· exact rfl))
  | ((with_reducible apply s_clear); (· exact rfl))
  | ((with_reducible apply k_ifT); (· first | exact rfl | decide))
  | ((with_reducible apply k_ifF); (· first | exact rfl | decide))
  | ((with_reducible apply k_rng); (· decide); (· decide))
  | ((with_reducible apply q_take); (· decide); (· decide))
  | ((with_reducible apply s_seqX); (· first | (dsimp only [List.set]; done) | (dsimp only [List.set]; exact rfl) | exact rfl))
  | ((with_reducible apply k_args); (· exact rfl))
  | ((with_reducible apply e_ISV); (· exact rfl); (· assumption))
  | ((with_reducible apply k_fld'); (· exact rfl); (· exact rfl))
  | ((with_reducible apply k_methL); (· exact rfl); (· exact rfl)))
theorem pr_law_drawn_rows (C : AD) : ∀ ds P, q_law_drawn_rows ds P → p_law_drawn_rows C { nx := fun _ => P .non, rt := P } (startD n_law_drawn_rows ds) := by
  rintro ds P ⟨pool, rfl, hp, hP⟩
  have p1 := hp.one
  have p2 := hp.few
  rw [st_law_drawn_rows]
  unfold p_law_drawn_rows limsD
  repeat fail
  rw [List.length_map]
  refine q_take (by omega) (by omega) fun e e0 e1 => ?_
  obtain ⟨n, rfl⟩ := nat_of e0
  refine k_rng (by omega) (by omega) ?_
  rw [rng_nat]
  refine k_lcR (List.range n) _ (fun _ d => ∃ l ∈ pool, d = enc l) (by rw [List.length_range]; omega) (fun i hi Q hQ => ?_) fun ys h1 h2 => ?_
  · repeat fail
    rw [List.length_map]
    refine q_takeN (by omega) (by omega) fun k hk => ?_
    refine o_ixL rfl (at_enc (List.getElem?_eq_getElem hk)) ?_
    repeat fail
    exact hQ _ ⟨_, List.getElem_mem hk, rfl⟩
  · obtain ⟨ls, rfl, h3⟩ := rows_of (all_R h1 h2)
    rw [List.length_map, List.length_range] at h1
    repeat fail
    exact hP ls h3 (by omega)
theorem cutD1 {α : Type} (xs : List α) : cutL xs (some 1) none = xs.drop 1 := by
  cases xs with
  | nil => rfl
  | cons x r => exact cut_tail (x :: r) 1 (by rw [List.length_cons]; omega)
theorem cutT1 {α : Type} (xs : List α) : cutL xs none (some 1) = xs.take 1 := cut_head xs 1
theorem cutT2 {α : Type} (xs : List α) : cutL xs none (some 2) = xs.take 2 := cut_head xs 2
theorem mem_app_pool {pool as bs : List Lim} (h1 : ∀ l ∈ as, l ∈ pool) (h2 : ∀ l ∈ bs, l ∈ pool) : ∀ l ∈ as ++ bs, l ∈ pool := fun l hl => (List.mem_append.mp hl).elim (h1 l) (h2 l)
theorem pr_law_sheets_agree (C : AD) : ∀ ds P, q_law_sheets_agree ds P → p_law_sheets_agree C { nx := fun _ => P .non, rt := P } (startD n_law_sheets_agree ds) := by
  rintro ds P ⟨pool, rfl, hp, hP⟩
  have p1 := hp.one
  have p2 := hp.few
  rw [st_law_sheets_agree]
  unfold p_law_sheets_agree
  repeat fail
  refine ⟨pool, rfl, hp, fun as ha na => ?_⟩
  repeat fail
  refine ⟨pool, rfl, hp, fun bs0 hb0 nb0 => ?_⟩
  repeat fail
  intro d d0 d1
  repeat fail
  rw [List.length_map]
  refine k_rng (by omega) (by omega) ?_
  rw [rng_nat]
  refine k_lcR (List.range as.length) _ (fun _ d => ∃ l ∈ pool, d = enc l) (by rw [List.length_range]; omega) (fun i hi Q hQ => ?_) fun ys h1 h2 => ?_
  · have hi := List.mem_range.mp hi
    repeat fail
    rw [List.length_map]
    have hj : as.length - 1 - i < as.length := by omega
    have := at_enc (List.getElem?_eq_getElem hj)
    rw [show ((as.length - 1 - i : Nat) : Int) = (as.length : Int) - 1 - (i : Int) by omega] at this
    refine o_ixL rfl this ?_
    repeat fail
    exact hQ _ ⟨_, ha _ (List.getElem_mem hj), rfl⟩
  obtain ⟨ts, rfl, ht⟩ := rows_of (all_R h1 h2)
  rw [List.length_map, List.length_range] at h1
  repeat fail
  rcases way4 d0 d1 with rfl | rfl | rfl | rfl
  case' inl =>
    repeat fail
    have hb := hb0
    have nb : bs0.length ≤ 50 := by omega
    generalize bs0 = bs at hb nb ⊢
  case' inr.inl =>
    repeat fail
    rw [cutT1, ← List.map_take]
    refine o_catL rfl rfl (by rw [List.length_map, List.length_map, List.length_take]; omega) ?_
    rw [← List.map_append]
    have hb := mem_app_pool (bs := bs0.take 1) ht (fun l hl => hb0 l (List.mem_of_mem_take hl))
    have nb : (ts ++ bs0.take 1).length ≤ 50 := by rw [List.length_append, List.length_take]; omega
    generalize ts ++ bs0.take 1 = bs at hb nb ⊢
    repeat fail
  case' inr.inr.inl =>
    repeat fail
    rw [cutT2, ← List.map_take]
    refine o_catL rfl rfl (by rw [List.length_map, List.length_map, List.length_take]; omega) ?_
    rw [← List.map_append]
    have hb := mem_app_pool (bs := as.take 2) ht (fun l hl => ha l (List.mem_of_mem_take hl))
    have nb : (ts ++ as.take 2).length ≤ 50 := by rw [List.length_append, List.length_take]; omega
    generalize ts ++ as.take 2 = bs at hb nb ⊢
    repeat fail
  case' inr.inr.inr =>
    repeat fail
    rw [cutD1, ← List.map_drop]
    have hb := (fun (l : Lim) (hl : l ∈ as.drop 1) => ha l (List.mem_of_mem_drop hl))
    have nb : (as.drop 1).length ≤ 50 := by rw [List.length_drop]; omega
    generalize as.drop 1 = bs at hb nb ⊢
    repeat fail
  all_goals
    refine ⟨_, rfl, .inl ⟨as, rfl, hp.good ha, by omega, ?_⟩⟩
    repeat fail
    refine ⟨_, rfl, .inl ⟨bs, rfl, hp.good hb, by omega, ?_⟩⟩
    repeat fail
    refine o_eqO rfl rfl (okLD as) (okLD as) ?_
    repeat fail
    refine k_ifF (by rw [lims_eq as as]; simp) ?_
    repeat fail
    refine o_eqO rfl rfl (okLD as) rfl ?_
    repeat fail
    refine k_ifb (fun h => ?_) (fun h => ?_)
    all_goals
      repeat fail
      try
        refine o_ixL rfl (at_enc (k := 0) (List.getElem?_eq_getElem p1)) ?_
        refine k_app (Nat.zero_le _) ?_
        repeat fail
      have sa := shs_cn hp ha (by omega)
      have sb := shs_cn hp hb (by omega)
      have la : (cn as).length ≤ 42 := Nat.le_trans cn_len na
      have lb : (cn bs).length ≤ 50 := Nat.le_trans cn_len nb
      refine ⟨as, rfl, by omega, ?_⟩
      repeat fail
      refine ⟨bs, rfl, by omega, ?_⟩
      repeat fail
      refine ⟨cn as, pool, rfl, by omega, by omega, ?_⟩
      repeat fail
      refine ⟨cn bs, pool, rfl, by omega, by omega, ?_⟩
      repeat fail
      refine ⟨cn as, cn bs, pool, rfl, sa, sb, by rw [List.length_append]; omega, by omega, ?_⟩
      repeat fail
      refine ⟨cn bs, cn as, pool, rfl, sb, sa, by rw [List.length_append]; omega, by omega, ?_⟩
      repeat fail
      refine ⟨cn as, cn as, pool, rfl, sa, sa, by rw [List.length_append]; omega, by omega, ?_⟩
      repeat fail
      refine ⟨cn as, rfl, ?_⟩
      repeat fail
      refine ⟨cn bs, rfl, ?_⟩
      repeat fail
      refine ⟨cn as, pool, rfl, by omega, by omega, ?_⟩
      repeat fail
      refine ⟨cn bs, pool, rfl, by omega, by omega, ?_⟩
      repeat fail
      exact hP
end My


/-! K25q: _law_refused, _law_refusals, law. -/
namespace My
open PySem PySem.Spec PyProof.Rows L2 TL
theorem seqV_cases {x : Cell} {ds : List D} (h : seqV x = some ds) : x = .dat (.lst ds) ∨ x = .dat (.tup ds) ∨ x = .rl ds := by
  unfold seqV at h
  split at h
  · cases h; exact .inl rfl
  · cases h; exact .inr (.inl rfl)
  · cases h; exact .inr (.inr rfl)
  · cases h
theorem val_ok {v : Val} (h : v.Sz) : okN 30 v.d = true := by
  cases v with
  | lim l => exact okE l
  | odd ds =>
    have h : Odd ds := h
    exact okN_mono (n := 21) (m := 30) (show ds.all (okN 20) = true from h.1) (by decide)
theorem dec_self (d : D) : dec (d = d) = true := (dec_congr ⟨fun _ => trivial, fun _ => rfl⟩).trans (dec_decide (p := True))
local macro_rules | `(tactic| fail) => `(tactic| first
  | ((with_reducible apply e_var); (· exact rfl))
  | (with_reducible (first | refine e_c ?_ | refine e_op ?_ | refine e_cons ?_ | refine e_nil ?_ | refine k_dat ?_ | refine g_name ?_ | refine s_asg ?_ | refine e_call ?_ | refine e_test ?_ | refine k_b ?_ | refine s_ifS ?_ | refine s_next ?_ | refine e_cb ?_ | refine s_ret ?_ | refine e_newL ?_ | refine e_frz ?_ | refine e_lst ?_ | refine e_tup ?_))
  | ((with_reducible apply s_seqN); · first | (dsimp only [List.set]; done) | (dsimp only [List.set]; exact rfl) | exact rfl)
  | ((with_reducible apply k_dats); (· exact rfl))
  | (with_reducible (first | refine o_eqI ?_ | refine o_eqS ?_ | refine o_neI ?_ | refine o_neS ?_ | refine o_I ?_ | refine o_IB ?_ | refine o_SB ?_ | refine o_neg ?_ | refine o_inSign ?_ | refine o_isB ?_))
  | ((with_reducible apply o_ixT); (· exact rfl); (· exact rfl))
  | ((with_reducible apply o_ixL); (· exact rfl); (· exact rfl))
  | ((with_reducible apply b_lenQ); (· exact rfl))
  | ((with_reducible apply k_seq); (· exact rfl); (· exact Nat.le_of_ble_eq_true rfl))
  | (with_reducible (first | refine e_opN ?_ | refine e_un ?_ | refine e_noPart ?_ | refine e_part ?_ | refine k_i ?_ | refine e_slS ?_ | refine e_slL ?_ | refine e_slA ?_ | refine e_and ?_ | refine e_or ?_ | refine e_not ?_ | refine e_yes ?_ | refine e_if ?_ | refine e_andV ?_ | refine e_orV ?_ | refine e_notV ?_ | refine e_chain ?_ | refine e_cbn ?_ | refine e_join ?_ | refine k_str ?_ | refine e_rev ?_ | refine e_IL ?_ | refine e_ILk ?_ | refine e_IT ?_ | refine e_IS ?_ | refine e_IR ?_ | refine e_IE ?_ | refine k_par ?_ | refine k_par3 ?_ | refine s_brk ?_ | refine s_cont ?_ | refine s_drop ?_ | refine s_new ?_ | refine s_par ?_ | refine s_par3 ?_ | refine s_for ?_ | refine s_forX ?_ | refine s_retNw ?_ | refine s_setL ?_ | refine s_self ?_ | refine g_cons ?_ | refine g_nil ?_ | refine b_int ?_ | refine b_strS ?_ | refine b_max2 ?_ | refine k_id ?_ | refine e_lc ?_ | refine s_ifX ?_ | refine s_lift ?_ | refine s_raise ?_ | refine m_E1 ?_ | refine s_dropX ?_ | refine e_makeC ?_ | refine e_callC ?_ | refine e_make0 ?_ | refine s_try ?_ | refine e_fld' ?_ | refine e_methL ?_ | refine e_isC ?_ | refine e_getKd ?_ | refine k_getKd ?_))
  | ((with_reducible apply s_app); (· exact rfl))
  | ((with_reducible apply s_frzC); (· exact rfl); (· exact rfl))
  | ((with_reducible apply k_lst); (· exact rfl))
  | ((with_reducible apply k_tup); (· exact rfl))
  | ((with_reducible apply k_enum); (· exact rfl))
  | ((with_reducible apply k_slA); (· exact rfl))
  | ((with_reducible apply g_tup); (· exact rfl))
  | ((with_reducible apply k_seqL); (· exact rfl))
  | ((with_reducible apply k_slL); (· exact rfl))
  | ((with_reducible apply b_tuple); (· exact rfl))
  | ((with_reducible apply b_list); (· exact rfl))
  | ((with_reducible apply k_setB); (· exact rfl))
  | ((with_reducible apply s_clear); (· exact rfl))
  | ((with_reducible apply k_ifT); (· first | exact rfl | decide))
  | ((with_reducible apply k_ifF); (· first | exact rfl | decide))
  | ((with_reducible apply k_rng); (· decide); (· decide))
  | ((with_reducible apply q_take); (· decide); (· decide))
  | ((with_reducible apply s_seqX); (· first | (dsimp only [List.set]; done) | (dsimp only [List.set]; exact rfl) | exact rfl))
  | ((with_reducible apply k_args); (· exact rfl))
  | ((with_reducible apply e_ISV); (· exact rfl); (· assumption))
  | ((with_reducible apply k_fld'); (· exact rfl); (· exact rfl))
  | ((with_reducible apply k_methL); (· exact rfl); (· exact rfl)))
theorem pr_law_refused (C : AD) (nd : (xcs C).Nodup) : ∀ xs P, q_law_refused xs P → p_law_refused C { nx := fun _ => P .non, rt := P } (startC n_law_refused xs) := by
  rintro xs P ⟨x, ls, v, rest, rfl, hx, hl, hv, hb, hP⟩
  rw [st_law_refused]
  unfold p_law_refused
  have m1 : C.BadLimit ∈ xcs C := by simp [xcs]
  have n1 : C.BadLimit ≠ C.BadChange := fun e => by simp [xcs, e] at nd
  have n2 : C.BadLimit ≠ C.DoesNotGo := fun e => by simp [xcs, e] at nd
  rcases seqV_cases hx with rfl | rfl | rfl
  all_goals
    repeat fail
    refine ⟨_, rfl, .inr ⟨ls, v, rest, rfl, hl, hv, hb, m1, fun a cls d => ?_⟩⟩
    repeat fail
    refine e_isX rfl (if_pos m1) ?_
    repeat fail
    refine k_ifF (decide_eq_false n1) ?_
    repeat fail
    refine e_isX rfl (if_pos m1) ?_
    repeat fail
    refine k_ifF (decide_eq_false n2) ?_
    repeat fail
    refine e_isX rfl (if_pos m1) ?_
    repeat fail
    refine k_ifT (decide_eq_true rfl) ?_
    refine e_andV ?_
    refine e_isX rfl (if_pos m1) ?_
    repeat fail
    refine e_xf rfl rfl rfl ?_
    repeat fail
    refine o_eqO rfl rfl (val_ok hv) (val_ok hv) ?_
    repeat fail
    rw [dec_self]
    exact hP
/-! ### spoilt rows -/
theorem val_apart {l : Lim} {b : Val} (hl : l.ok = true) (hb : b.Sz) (hk : b.ok = false) : enc l ≠ b.d := by
  intro e
  cases b with
  | lim l' =>
    have := enc_inj e
    subst this
    have hk : l.ok = false := hk
    rw [hl] at hk
    cases hk
  | odd ds =>
    have hb : Odd ds := hb
    obtain ⟨u, w, st, c, ts⟩ := l
    obtain ⟨_, _, h | ⟨k, r, h, h2⟩⟩ := hb
    · rw [show (Val.odd ds).d = .tup ds from rfl, h] at e
      cases st <;> cases e
    · rw [show (Val.odd ds).d = .tup ds from rfl] at e
      cases st with
      | none =>
        have e := D.tup.inj (show D.tup [.str "reach", .str u, .str w, encS c ts] = .tup ds from e)
        rw [← e] at h h2
        cases h
        exact h2 rfl
      | some z =>
        have e := D.tup.inj (show D.tup [.str "room", .str u, .str w, .str z, encS c ts] = .tup ds from e)
        rw [← e] at h h2
        cases h
        exact h2 rfl
/-- the rows, some of them spoilt -/
structure Mix (pool : List Lim) (vs bs : List Val) : Prop where
  v : ∀ v ∈ vs, (∃ l ∈ pool, v = .lim l) ∨ v ∈ bs
  b : ∀ b ∈ bs, b ∈ vs ∧ b.Sz ∧ b.ok = false
section
variable {pool : List Lim} {vs bs : List Val} (M : Mix pool vs bs) (hp : Pool pool)
include M hp
theorem Mix.sz : ∀ v ∈ vs, v.Sz := fun v hv => by
  rcases M.v v hv with ⟨l, hl, rfl⟩ | h
  · exact (hp.f l hl).siz (by decide)
  · exact (M.b v h).2.1
theorem Mix.mem {v : Val} (hv : v ∈ vs) : dec (v.d ∈ bs.map Val.d) = !v.ok := by
  cases e : v.ok with
  | false =>
    refine (dec_congr (q := True) ⟨fun _ => trivial, fun _ => ?_⟩).trans dec_decide
    rcases M.v v hv with ⟨l, hl, rfl⟩ | h
    · have := (hp.f l hl).ok
      have e : l.ok = false := e
      rw [this] at e
      cases e
    · exact List.mem_map_of_mem h
  | true =>
    refine (dec_congr (q := False) ⟨fun h => ?_, fun h => h.elim⟩).trans dec_decide
    obtain ⟨b, hb, h⟩ := List.mem_map.mp h
    have q := M.b b hb
    rcases M.v v hv with ⟨l, hl, rfl⟩ | h2
    · exact val_apart e q.2.1 q.2.2 h.symm
    · rw [(M.b v h2).2.2] at e
      cases e
end
theorem lims_of {pool : List Lim} : ∀ {vs : List Val}, (∀ v ∈ vs, ∃ l ∈ pool, v = Val.lim l) → ∃ ls : List Lim, vs.map Val.d = ls.map enc ∧ (∀ l ∈ ls, l ∈ pool) ∧ ls.length = vs.length
  | [], _ => ⟨[], rfl, fun _ h => (by cases h), rfl⟩
  | v :: r, h => by
    obtain ⟨l, hl, rfl⟩ := h v List.mem_cons_self
    obtain ⟨ls, e, h2, h3⟩ := lims_of (vs := r) fun y hy => h y (List.mem_cons_of_mem _ hy)
    exact ⟨l :: ls, by rw [List.map_cons, List.map_cons, e]; rfl, fun x hx => by rcases List.mem_cons.mp hx with rfl | hx; exact hl; exact h2 x hx, by rw [List.length_cons, List.length_cons, h3]⟩
theorem split_bad : ∀ {vs : List Val}, (∃ v ∈ vs, v.ok = false) → ∃ pre f post, vs = pre ++ f :: post ∧ (∀ v ∈ pre, v.ok = true) ∧ f.ok = false
  | [], ⟨_, h, _⟩ => (by cases h)
  | v :: r, h => by
    cases e : v.ok with
    | false => exact ⟨[], v, r, rfl, fun _ h => (by cases h), e⟩
    | true =>
      obtain ⟨w, hw, h2⟩ := h
      rcases List.mem_cons.mp hw with rfl | hw
      · rw [e] at h2; cases h2
      · obtain ⟨pre, f, post, rfl, h3, h4⟩ := split_bad ⟨w, hw, h2⟩
        exact ⟨v :: pre, f, post, rfl, fun x hx => by rcases List.mem_cons.mp hx with rfl | hx; exact e; exact h3 x hx, h4⟩
theorem ok_vals {vs : List Val} (h : ∀ v ∈ vs, v.Sz) : (vs.map Val.d).all (okN 30) = true := by
  rw [List.all_eq_true]
  intro d hd
  obtain ⟨v, hv, rfl⟩ := List.mem_map.mp hd
  exact val_ok (h v hv)
theorem ok_valD {vs : List Val} (h : ∀ v ∈ vs, v.Sz) : okN 30 (.lst (vs.map Val.d)) = true := by
  show (vs.map Val.d).all (okN 29) = true
  rw [List.all_eq_true]
  intro d hd
  obtain ⟨v, hv, rfl⟩ := List.mem_map.mp hd
  cases v with
  | lim l => exact ok_enc (n := 25) l
  | odd ds =>
    have h : Odd ds := h _ hv
    exact okN_mono (n := 21) (m := 29) (show ds.all (okN 20) = true from h.1) (by decide)
theorem pr_law_refusals (C : AD) : ∀ ds P, q_law_refusals ds P → p_law_refusals C { nx := fun _ => P .non, rt := P } (startD n_law_refusals ds) := by
  rintro ds P ⟨pool, ms, rfl, hp, hm, hP⟩
  have p1 := hp.one
  have p2 := hp.few
  rw [st_law_refusals]
  unfold p_law_refusals
  repeat fail
  refine ⟨pool, rfl, hp, fun as ha na => ?_⟩
  repeat fail
  intro e e0 e1
  repeat fail
  obtain ⟨n, hn⟩ := nat_of (show 0 ≤ 1 + e by omega)
  rw [hn]
  refine k_rng (by omega) (by omega) ?_
  refine ⟨fun i σ => ∃ (vs bs : List Val) (a5 a9 a10 : Option Cell), σ = [some (.dat .src), some (.dat (limsD pool)), some (.dat (strsD ms)), some (.dat (.lst (vs.map Val.d))), some (.lm (bs.map Val.d)), a5, none, none, none, a9, a10, none] ∧ Mix pool vs bs ∧ vs.length ≤ 42 + i ∧ bs.length = i, ⟨as.map .lim, [], none, none, none, by rw [List.map_map]; rfl, ⟨fun v hv => ?_, fun b hb => (by cases hb)⟩, by rw [List.length_map]; exact na, rfl⟩, ?_, ?_⟩
  · obtain ⟨l, hl, rfl⟩ := List.mem_map.mp hv
    exact .inl ⟨l, ha l hl, rfl⟩
  · rintro i d σ hd ⟨vs, bs, a5, a9, a10, rfl, M, lv, lb⟩
    obtain ⟨rfl, hi⟩ := rng_at hd
    repeat fail
    rw [List.length_map]
    refine q_takeN (by omega) (by omega) fun k hk => ?_
    refine o_ixL rfl (at_enc (List.getElem?_eq_getElem hk)) ?_
    repeat fail
    refine ⟨_, ms, rfl, hp.f _ (List.getElem_mem hk), hm, fun y hy1 hy2 => ?_⟩
    repeat fail
    rw [List.length_map]
    refine q_take (by omega) (by omega) fun f f0 f1 => ?_
    obtain ⟨j, rfl⟩ := nat_of f0
    repeat fail
    rw [cut_head, ← List.map_take]
    refine o_catL rfl rfl (by rw [List.length_map, List.length_take]; show _ + 1 ≤ _; omega) ?_
    repeat fail
    rw [cut_tail _ _ (by rw [List.length_map]; omega), ← List.map_drop]
    refine o_catL rfl rfl (by rw [List.length_append, List.length_map, List.length_map, List.length_take, List.length_drop]; show _ + 1 + _ ≤ _; omega) ?_
    rw [show (vs.take j).map Val.d ++ [y.d] ++ (vs.drop j).map Val.d = (vs.take j ++ [y] ++ vs.drop j).map Val.d by rw [List.map_append, List.map_append]; rfl]
    repeat fail
    refine k_app (show (bs.map Val.d).length ≤ 100000 by rw [List.length_map]; omega) ?_
    have mm : ∀ v, v ∈ vs.take j ++ [y] ++ vs.drop j ↔ v ∈ vs ∨ v = y := fun v => by
      rw [List.mem_append, List.mem_append, List.mem_singleton]
      have := List.take_append_drop j vs
      constructor
      · rintro ((c | c) | c)
        · exact .inl (List.mem_of_mem_take c)
        · exact .inr c
        · exact .inl (List.mem_of_mem_drop c)
      · rintro (c | c)
        · rw [← this] at c
          rcases List.mem_append.mp c with c | c
          · exact .inl (.inl c)
          · exact .inr c
        · exact .inl (.inr c)
    refine ⟨vs.take j ++ [y] ++ vs.drop j, bs ++ [y], _, _, _, by rw [map_snoc]; rfl, ⟨fun v hv => ?_, fun b hb => ?_⟩, ?_, by rw [List.length_append, lb]; rfl⟩
    · rcases (mm v).mp hv with h | h
      · exact (M.v v h).imp id fun h => List.mem_append_left _ h
      · exact .inr (by rw [h]; exact List.mem_append_right _ List.mem_cons_self)
    · rcases List.mem_append.mp hb with h | h
      · obtain ⟨q1, q2, q3⟩ := M.b b h
        exact ⟨(mm b).mpr (.inl q1), q2, q3⟩
      · rw [List.mem_singleton.mp h]
        exact ⟨(mm y).mpr (.inr rfl), hy1, hy2⟩
    · rw [List.length_append, List.length_append, List.length_take, List.length_drop]
      show _ + 1 + _ ≤ _
      omega
  · rintro σ ⟨vs, bs, a5, a9, a10, rfl, M, lv, lb⟩
    rw [rng_len] at lv lb
    have sz := M.sz hp
    have bsz : ∀ b ∈ bs, b.Sz := fun b hb => (M.b b hb).2.1
    have bad : ∃ v ∈ vs, v.ok = false := by
      obtain ⟨b, hb⟩ := List.exists_mem_of_ne_nil bs (fun e => by rw [e] at lb; simp at lb; omega)
      exact ⟨b, (M.b b hb).1, (M.b b hb).2.2⟩
    obtain ⟨pre, f, post, ev, hpre, hf⟩ := split_bad bad
    repeat fail
    refine k_lcF vs Val.d Val.d (fun v => !v.ok) (by omega) (fun v hv Q0 Q h1 h2 => ?_) ?_
    · repeat fail
      refine o_inO rfl (val_ok (sz v hv)) (ok_vals bsz) ?_
      rw [M.mem hp hv]
      repeat fail
      refine k_ifb (fun h => ?_) (fun h => ?_)
      · repeat fail
        exact h1 h
      · exact h2 h
    repeat fail
    refine k_lcF vs Val.d Val.d (fun v => v.ok) (by omega) (fun v hv Q0 Q h1 h2 => ?_) ?_
    · repeat fail
      refine o_inO rfl (val_ok (sz v hv)) (ok_vals bsz) ?_
      rw [M.mem hp hv, Bool.not_not]
      repeat fail
      refine k_ifb (fun h => ?_) (fun h => ?_)
      · repeat fail
        exact h1 h
      · exact h2 h
    repeat fail
    have e1 : vs.filter (fun v => !v.ok) = f :: post.filter (fun v => !v.ok) := by
      rw [ev, List.filter_append, List.filter_cons_of_pos (by rw [hf]; rfl), List.filter_eq_nil_iff.mpr fun v hv => by rw [hpre v hv]; simp]
      rfl
    rw [e1, List.map_cons]
    refine o_ixL rfl (at0 _ _) ?_
    obtain ⟨ls, e2, l1, l2⟩ := lims_of (pool := pool) (vs := pre) fun v hv => by
      rcases M.v v (by rw [ev]; exact List.mem_append_left _ hv) with h | h
      · exact h
      · have := (M.b v h).2.2
        rw [hpre v hv] at this
        cases this
    have fv : f ∈ vs := by rw [ev]; exact List.mem_append_right _ List.mem_cons_self
    have e3 : vs.map Val.d = ls.map enc ++ f.d :: post.map Val.d := by rw [ev, List.map_append, List.map_cons, e2]
    have rf : ∀ {x : Cell} {P : D → Prop}, seqV x = some (vs.map Val.d) → P (.bl true) → q_law_refused [x, .dat f.d] P := fun h h2 => ⟨_, ls, f, post.map Val.d, rfl, by rw [h, e3], hp.good l1, sz f fv, hf, h2⟩
    repeat fail
    refine rf rfl ?_
    repeat fail
    refine o_eqO rfl rfl (ok_valD sz) (ok_valD sz) ?_
    repeat fail
    refine k_ifF (by rw [dec_self]; rfl) ?_
    obtain ⟨gs, e4, g1, g2⟩ := lims_of (pool := pool) (vs := vs.filter fun v => v.ok) fun v hv => by
      obtain ⟨q1, q2⟩ := List.mem_filter.mp hv
      rcases M.v v q1 with h | h
      · exact h
      · have := (M.b v h).2.2
        rw [show v.ok = true from q2] at this
        cases this
    have g3 : gs.length ≤ 100 := by
      rw [g2]
      have := List.length_filter_le (fun v : Val => v.ok) vs
      omega
    rw [e4]
    repeat fail
    refine ⟨_, rfl, .inl ⟨gs, rfl, hp.good g1, g3, ?_⟩⟩
    repeat fail
    refine ⟨gs, rfl, g3, ?_⟩
    repeat fail
    refine ⟨cn gs, pool, rfl, Nat.le_trans cn_len (by omega), by omega, ?_⟩
    repeat fail
    refine o_ixL rfl (at0 _ _) ?_
    repeat fail
    refine rf rfl ?_
    repeat fail
    exact hP
end My


/-! K25s: the law itself. -/
namespace My
open PySem PySem.Spec PyProof.Rows L2 TL
theorem leS_iff {a b : Str} : leS a b = true ↔ tl a ≤ tl b := decide_eq_true_iff
theorem leS_trans (a b c : Str) (h1 : leS a b = true) (h2 : leS b c = true) : leS a c = true := leS_iff.mpr (List.le_trans (leS_iff.mp h1) (leS_iff.mp h2))
theorem leS_total (a b : Str) : (leS a b || leS b a) = true := by
  rcases List.le_total (tl a) (tl b) with h | h
  · rw [leS_iff.mpr h]; rfl
  · rw [leS_iff.mpr h, Bool.or_true]
theorem leS_ltS {a b : Str} (h : leS a b = true) (ne : a ≠ b) : ltS a b = true := by
  rw [ltS_iff]
  rw [leS_iff] at h
  rcases List.le_iff_lt_or_eq.mp h with q | q
  · exact q
  · exact absurd (ext_tl q) ne
theorem meas_of {ns : List Str} (h1 : ∀ z ∈ ns, isSt z = true) (nd : ns.Nodup) (h2 : 2 ≤ ns.length) (h3 : ns.length ≤ 10) : Meas (ns.mergeSort leS) := by
  have p := List.mergeSort_perm ns leS
  refine ⟨fun z hz => h1 z (p.mem_iff.mp hz), ?_, by rw [p.length_eq]; exact h2, by rw [p.length_eq]; exact h3⟩
  have q := List.pairwise_mergeSort leS_trans leS_total ns
  have d : (ns.mergeSort leS).Nodup := p.nodup_iff.mpr nd
  exact (List.pairwise_and_iff.mpr ⟨q, d⟩).imp fun ⟨a, b⟩ => leS_ltS a b
theorem nm_frame : isNm "frame" = true := by decide +kernel
theorem prts_of {ns : List Str} (h1 : ∀ z ∈ ns, isSt z = true) (nd : ns.Nodup) {k : Nat} (k1 : 1 ≤ k) (k2 : k ≤ 3) (h2 : 3 ≤ ns.length) : Prts (ns.take k ++ [("frame" : Str)]) := by
  have l : (ns.take k).length = k := by rw [List.length_take]; omega
  refine ⟨fun z hz => ?_, ?_, ?_, ?_⟩
  · rcases List.mem_append.mp hz with h | h
    · exact (nm_of_st (h1 z (List.mem_of_mem_take h))).1
    · rw [List.mem_singleton.mp h]; exact nm_frame
  · refine nd_more ((List.take_sublist k ns).nodup nd) fun h => ?_
    exact (nm_of_st (h1 _ (List.mem_of_mem_take h))).2 rfl
  · rw [List.length_append, l]; show 2 ≤ k + 1; omega
  · rw [List.length_append, l]; show k + 1 ≤ 10; omega
theorem get_val {vs : List Val} {i : Nat} {d : D} (h : (vs.map Val.d)[i]? = some d) : ∃ v ∈ vs, d = v.d := by
  rw [List.getElem?_map] at h
  obtain ⟨z, h1, rfl⟩ := Option.map_eq_some_iff.mp h
  exact ⟨z, List.mem_of_getElem? h1, rfl⟩
theorem vals_of : ∀ {ys : List D}, (∀ y ∈ ys, ∃ v : Val, v.Sz ∧ v.ok = false ∧ y = v.d) → ∃ vs : List Val, ys = vs.map Val.d ∧ ∀ v ∈ vs, v.Sz ∧ v.ok = false
  | [], _ => ⟨[], rfl, fun _ h => (by cases h)⟩
  | y :: r, h => by
    obtain ⟨v, h1, h2, rfl⟩ := h y List.mem_cons_self
    obtain ⟨vs, rfl, h3⟩ := vals_of (ys := r) fun y hy => h y (List.mem_cons_of_mem _ hy)
    exact ⟨v :: vs, rfl, fun x hx => by rcases List.mem_cons.mp hx with rfl | hx; exact ⟨h1, h2⟩; exact h3 x hx⟩
local macro_rules | `(tactic| fail) => `(tactic| first
  | ((with_reducible apply e_var); (· exact rfl))
  | (with_reducible (first | refine e_c ?_ | refine e_op ?_ | refine e_cons ?_ | refine e_nil ?_ | refine k_dat ?_ | refine g_name ?_ | refine s_asg ?_ | refine e_call ?_ | refine e_test ?_ | refine k_b ?_ | refine s_ifS ?_ | refine s_next ?_ | refine e_cb ?_ | refine s_ret ?_ | refine e_newL ?_ | refine e_frz ?_ | refine e_lst ?_ | refine e_tup ?_))
  | ((with_reducible apply s_seqN); · first | (dsimp only [List.set]; done) | (dsimp only [List.set]; exact rfl) | exact rfl)
  | ((with_reducible apply k_dats); (· exact rfl))
  | (with_reducible (first | refine o_eqI ?_ | refine o_eqS ?_ | refine o_neI ?_ | refine o_neS ?_ | refine o_I ?_ | refine o_IB ?_ | refine o_SB ?_ | refine o_neg ?_ | refine o_inSign ?_ | refine o_isB ?_))
  | ((with_reducible apply o_ixT); (· exact rfl); (· exact rfl))
  | ((with_reducible apply o_ixL); (· exact rfl); (· exact rfl))
  | ((with_reducible apply b_lenQ); (· exact rfl))
  | ((with_reducible apply k_seq); (· exact rfl); (· exact Nat.le_of_ble_eq_true rfl))
  | (with_reducible (first | refine e_opN ?_ | refine e_un ?_ | refine e_noPart ?_ | refine e_part ?_ | refine k_i ?_ | refine e_slS ?_ | refine e_slL ?_ | refine e_slA ?_ | refine e_and ?_ | refine e_or ?_ | refine e_not ?_ | refine e_yes ?_ | refine e_if ?_ | refine e_andV ?_ | refine e_orV ?_ | refine e_notV ?_ | refine e_chain ?_ | refine e_cbn ?_ | refine e_join ?_ | refine k_str ?_ | refine e_rev ?_ | refine e_IL ?_ | refine e_ILk ?_ | refine e_IT ?_ | refine e_IS ?_ | refine e_IR ?_ | refine e_IE ?_ | refine k_par ?_ | refine k_par3 ?_ | refine s_brk ?_ | refine s_cont ?_ | refine s_drop ?_ | refine s_new ?_ | refine s_par ?_ | refine s_par3 ?_ | refine s_for ?_ | refine s_forX ?_ | refine s_retNw ?_ | refine s_setL ?_ | refine s_self ?_ | refine g_cons ?_ | refine g_nil ?_ | refine b_int ?_ | refine b_strS ?_ | refine b_max2 ?_ | refine k_id ?_ | refine e_lc ?_ | refine s_ifX ?_ | refine s_lift ?_ | refine s_raise ?_ | refine m_E1 ?_ | refine s_dropX ?_ | refine e_makeC ?_ | refine e_callC ?_ | refine e_make0 ?_ | refine s_try ?_ | refine e_fld' ?_ | refine e_methL ?_ | refine e_isC ?_ | refine e_getKd ?_ | refine k_getKd ?_))
  | ((with_reducible apply s_app); (· exact rfl))
  | ((with_reducible apply s_frzC); (· exact rfl); (· exact rfl))
  | ((with_reducible apply k_lst); (· exact rfl))
  | ((with_reducible apply k_tup); (· exact rfl))
  | ((with_reducible apply k_enum); (· exact rfl))
  | ((with_reducible apply k_slA); (· exact rfl))
  | ((with_reducible apply g_tup); (· exact rfl))
  | ((with_reducible apply k_seqL); (· exact rfl))
  | ((with_reducible apply k_slL); (· exact rfl))
  | ((with_reducible apply b_tuple); (· exact rfl))
  | ((with_reducible apply b_list); (· exact rfl))
  | ((with_reducible apply k_setB); (· exact rfl))
  | ((with_reducible apply s_clear); (· exact rfl))
  | ((with_reducible apply k_ifT); (· first | exact rfl | decide))
  | ((with_reducible apply k_ifF); (· first | exact rfl | decide))
  | ((with_reducible apply k_rng); (· decide); (· decide))
  | ((with_reducible apply q_take); (· decide); (· decide))
  | ((with_reducible apply s_seqX); (· first | (dsimp only [List.set]; done) | (dsimp only [List.set]; exact rfl) | exact rfl))
  | ((with_reducible apply k_args); (· exact rfl))
  | ((with_reducible apply e_ISV); (· exact rfl); (· assumption))
  | ((with_reducible apply k_fld'); (· exact rfl); (· exact rfl))
  | ((with_reducible apply k_methL); (· exact rfl); (· exact rfl)))
theorem pr_law (C : AD) : p_law C { nx := fun _ => False, rt := fun d => d = .bl true } (([some Cell.un] ++ List.replicate 10 none).set 1 (some (.dat .src))) := by
  show p_law C _ [some Cell.un, some (.dat .src), none, none, none, none, none, none, none, none, none]
  unfold p_law
  repeat fail
  intro e e0 e1
  obtain ⟨n, rfl⟩ := nat_of e0
  repeat fail
  rw [show (5 : Int) + (n : Int) = ((5 + n : Nat) : Int) by omega]
  refine ⟨5 + n, rfl, by omega, fun ns hl hs nd => ?_⟩
  repeat fail
  intro e e0 e1
  obtain ⟨k, rfl⟩ := nat_of e0
  repeat fail
  rw [show (1 : Int) + (k : Int) = ((1 + k : Nat) : Int) by omega, cut_head, ← List.map_take]
  refine o_catL rfl rfl (by rw [List.length_map, List.length_take]; show _ + 1 ≤ _; omega) ?_
  have hp := prts_of hs nd (k := 1 + k) (by omega) (by omega) (by omega)
  rw [show (ns.take (1 + k)).map D.str ++ [D.str "frame"] = (ns.take (1 + k) ++ [("frame" : Str)]).map D.str by rw [List.map_append]; rfl]
  generalize ns.take (1 + k) ++ [("frame" : Str)] = ps at hp ⊢
  repeat fail
  rw [show (3 : Int) = ((3 : Nat) : Int) from rfl, cut_tail _ _ (by rw [List.length_map]; omega), ← List.map_drop]
  refine k_lcM (ns.drop 3) .str .str (by rw [List.length_drop]; omega) (fun z hz Q hQ => ?_) ?_
  · repeat fail
    exact hQ
  repeat fail
  refine b_sortedL rfl ?_
  have hm := meas_of (ns := ns.drop 3) (fun z hz => hs z (List.mem_of_mem_drop hz)) ((List.drop_sublist 3 ns).nodup nd) (by rw [List.length_drop]; omega) (by rw [List.length_drop]; omega)
  generalize (ns.drop 3).mergeSort leS = ms at hm ⊢
  repeat fail
  refine ⟨6, 40, rfl, by decide, by decide, by decide, fun m m1 m2 => ?_⟩
  repeat fail
  refine ⟨ps, ms, m, rfl, hp, hm, m1, m2, fun pool hpool => ?_⟩
  have p1 := hpool.one
  have p2 := hpool.few
  repeat fail
  intro e e0 e1
  repeat fail
  obtain ⟨j, hj⟩ := nat_of (show 0 ≤ 1 + e by omega)
  rw [hj]
  refine k_rng (by omega) (by omega) ?_
  rw [rng_nat]
  refine k_lcR (List.range j) _ (fun _ d => ∃ v : Val, v.Sz ∧ v.ok = false ∧ d = v.d) (by rw [List.length_range]; omega) (fun i hi Q hQ => ?_) fun ys h1 h2 => ?_
  · repeat fail
    rw [List.length_map]
    refine q_takeN (by omega) (by omega) fun k hk => ?_
    refine o_ixL rfl (at_enc (List.getElem?_eq_getElem hk)) ?_
    repeat fail
    refine ⟨_, ms, rfl, hpool.f _ (List.getElem_mem hk), hm, fun y hy1 hy2 => ?_⟩
    repeat fail
    exact hQ _ ⟨y, hy1, hy2, rfl⟩
  obtain ⟨vs, rfl, h3⟩ := vals_of (all_R h1 h2)
  rw [List.length_map, List.length_range] at h1
  repeat fail
  refine o_catL rfl rfl (by rw [List.length_map]; show _ + 1 ≤ _; omega) ?_
  rw [show vs.map Val.d ++ [D.tup []] = (vs ++ [Val.odd []]).map Val.d by rw [List.map_append]; rfl]
  have h4 : ∀ v ∈ vs ++ [Val.odd []], v.Sz ∧ v.ok = false := fun v hv => by
    rcases List.mem_append.mp hv with h | h
    · exact h3 v h
    · rw [List.mem_singleton.mp h]
      exact ⟨⟨rfl, Nat.zero_le _, .inl rfl⟩, rfl⟩
  generalize vs ++ [Val.odd []] = ws at h4 ⊢
  repeat fail
  refine ⟨fun i σ => ∃ a7 : Option Cell, σ = [some Cell.un, some (.dat .src), some (.dat (.lst (ns.map .str))), some (.dat (.lst (ps.map .str))), some (.dat (.lst (ms.map .str))), some (.dat (limsD pool)), some (.lm (vs.map Val.d)), a7, none, none, none], ⟨none, rfl⟩, ?_, ?_⟩
  · rintro i d σ hd ⟨a7, rfl⟩
    obtain ⟨v, hv, rfl⟩ := get_val hd
    obtain ⟨v1, v2⟩ := h4 v hv
    repeat fail
    refine ⟨v, rfl, v1, ?_⟩
    rw [v2]
    repeat fail
    exact ⟨_, rfl⟩
  rintro σ ⟨a7, rfl⟩
  repeat fail
  refine ⟨fun i σ => ∃ a8 : Option Cell, σ = [some Cell.un, some (.dat .src), some (.dat (.lst (ns.map .str))), some (.dat (.lst (ps.map .str))), some (.dat (.lst (ms.map .str))), some (.dat (limsD pool)), some (.lm (vs.map Val.d)), a7, a8, none, none], ⟨none, rfl⟩, ?_, ?_⟩
  · rintro i d σ hd ⟨a8, rfl⟩
    obtain ⟨l, hl, rfl⟩ := get_enc hd
    have fl := hpool.f l (List.mem_of_getElem? hl)
    repeat fail
    refine ⟨.lim l, rfl, fl.siz (by decide), ?_⟩
    rw [show (Val.lim l).ok = true from fl.ok]
    repeat fail
    exact ⟨_, rfl⟩
  rintro σ ⟨a8, rfl⟩
  repeat fail
  refine ⟨pool, rfl, hpool, ?_⟩
  repeat fail
  refine ⟨pool, ms, rfl, hpool, hm, ?_⟩
  repeat fail
  rfl
end My


namespace My
open PySem PySem.Spec PyProof.Rows L2 TL
theorem u1 {k : Nat} {A : Around} (r : Room k A) : A.units + 1 < cLine := by have := r.units; omega
theorem u2 {k : Nat} {A : Around} (r : Room k A) : A.units + 2 < cLine := by have := r.units; omega
structure Txt (w : World) (K : PySem.W.Frag) (mg : Str → Option Value) (C : AD) : Prop where
  ValueError_ : mg "ValueError" = none
  abs_ : mg "abs" = none
  all_ : mg "all" = none
  enumerate : mg "enumerate" = none
  int_ : mg "int" = none
  isinstance : mg "isinstance" = none
  iter_ : mg "iter" = none
  len : mg "len" = none
  list_ : mg "list" = none
  max_ : mg "max" = none
  range : mg "range" = none
  sorted : mg "sorted" = none
  str_ : mg "str" = none
  tuple_ : mg "tuple" = none
  g_Sheet : mg "Sheet" = some (.ref C.Sheet)
  g_OfficeError : mg "OfficeError" = some (.ref C.OfficeError)
  g_BadLimit : mg "BadLimit" = some (.ref C.BadLimit)
  g_BadChange : mg "BadChange" = some (.ref C.BadChange)
  g_DoesNotGo : mg "DoesNotGo" = some (.ref C.DoesNotGo)
  c_LETTERS : ∃ t, mg "LETTERS" = some (.str "abcdefghijklmnopqrstuvwxyz" t)
  c_DIGITS : ∃ t, mg "DIGITS" = some (.str "0123456789" t)
  c_LONGEST_NAME : ∃ t, mg "LONGEST_NAME" = some (.int 12 t)
  c_FRAME : ∃ t, mg "FRAME" = some (.str "frame" t)
  c_CHARACTERS : ∃ t, mg "CHARACTERS" = some (.str "!\"#$&'()*+,-./0123456789:;<=>?@ABCDEFGHIJKLMNOPQRSTUVWXYZ[\\]^_`abcdefghijklmnopqrstuvwxyz{|}~" t)
  g_ITEM_COUNTS : mg "ITEM_COUNTS" = some (.ref C.ITEM_COUNTS)
  d_ITEM_COUNTS : IsKD K w C.ITEM_COUNTS
theorem sc_law_mixed : FnScope n_law_mixed ["_law_cell", "_law_place"] (defScope s_law_mixed) := ⟨rfl, rfl, rfl, by decide +kernel, rfl, by decide +kernel, by decide +kernel⟩
theorem sc_law_source : FnScope n_law_source ["_law_script"] (defScope s_law_source) := ⟨rfl, rfl, rfl, by decide +kernel, rfl, by decide +kernel, by decide +kernel⟩
theorem sc_law_take : FnScope n_law_take ["_law_source_here", "_law_many"] (defScope s_law_take) := ⟨rfl, rfl, rfl, by decide +kernel, rfl, by decide +kernel, by decide +kernel⟩
theorem sc_is_nameR : FnScope n_is_nameR ["text"] (defScope s_is_nameR) := ⟨rfl, rfl, rfl, by decide +kernel, rfl, by decide +kernel, by decide +kernel⟩
theorem sc_is_step_nameR : FnScope n_is_step_nameR ["text"] (defScope s_is_step_nameR) := ⟨rfl, rfl, rfl, by decide +kernel, rfl, by decide +kernel, by decide +kernel⟩
theorem sc_is_textR : FnScope n_is_textR ["text"] (defScope s_is_textR) := ⟨rfl, rfl, rfl, by decide +kernel, rfl, by decide +kernel, by decide +kernel⟩
theorem sc_joined_rows : FnScope n_joined_rows ["first", "second"] (defScope s_joined_rows) := ⟨rfl, rfl, rfl, by decide +kernel, rfl, by decide +kernel, by decide +kernel⟩
theorem sc_in_order : FnScope n_in_order ["rows"] (defScope s_in_order) := ⟨rfl, rfl, rfl, by decide +kernel, rfl, by decide +kernel, by decide +kernel⟩
theorem sc_distinct : FnScope n_distinct ["rows"] (defScope s_distinct) := ⟨rfl, rfl, rfl, by decide +kernel, rfl, by decide +kernel, by decide +kernel⟩
theorem sc_is_sum : FnScope n_is_sum ["value"] (defScope s_is_sum) := ⟨rfl, rfl, rfl, by decide +kernel, rfl, by decide +kernel, by decide +kernel⟩
theorem sc_is_limit : FnScope n_is_limit ["value"] (defScope s_is_limit) := ⟨rfl, rfl, rfl, by decide +kernel, rfl, by decide +kernel, by decide +kernel⟩
theorem sc_Sheet_init : FnScope n_Sheet_init ["self", "limits"] (defScope s_Sheet_init) := ⟨rfl, rfl, rfl, by decide +kernel, rfl, by decide +kernel, by decide +kernel⟩
theorem sc_Sheet_listed : FnScope n_Sheet_listed ["self"] (defScope s_Sheet_listed) := ⟨rfl, rfl, rfl, by decide +kernel, rfl, by decide +kernel, by decide +kernel⟩
theorem sc_Sheet_contains : FnScope n_Sheet_contains ["self", "limit"] (defScope s_Sheet_contains) := ⟨rfl, rfl, rfl, by decide +kernel, rfl, by decide +kernel, by decide +kernel⟩
theorem sc_Sheet_or : FnScope n_Sheet_or ["self", "other"] (defScope s_Sheet_or) := ⟨rfl, rfl, rfl, by decide +kernel, rfl, by decide +kernel, by decide +kernel⟩
theorem sc_Sheet_and : FnScope n_Sheet_and ["self", "other"] (defScope s_Sheet_and) := ⟨rfl, rfl, rfl, by decide +kernel, rfl, by decide +kernel, by decide +kernel⟩
theorem sc_Sheet_sub : FnScope n_Sheet_sub ["self", "other"] (defScope s_Sheet_sub) := ⟨rfl, rfl, rfl, by decide +kernel, rfl, by decide +kernel, by decide +kernel⟩
theorem sc_Sheet_le : FnScope n_Sheet_le ["self", "other"] (defScope s_Sheet_le) := ⟨rfl, rfl, rfl, by decide +kernel, rfl, by decide +kernel, by decide +kernel⟩
theorem sc_Sheet_eq : FnScope n_Sheet_eq ["self", "other"] (defScope s_Sheet_eq) := ⟨rfl, rfl, rfl, by decide +kernel, rfl, by decide +kernel, by decide +kernel⟩
theorem sc_law_size : FnScope n_law_size ["_law_source_here", "_law_small", "_law_large"] (defScope s_law_size) := ⟨rfl, rfl, rfl, by decide +kernel, rfl, by decide +kernel, by decide +kernel⟩
theorem sc_law_word : FnScope n_law_word ["_law_source_here"] (defScope s_law_word) := ⟨rfl, rfl, rfl, by decide +kernel, rfl, by decide +kernel, by decide +kernel⟩
theorem sc_law_names : FnScope n_law_names ["_law_source_here", "_law_many"] (defScope s_law_names) := ⟨rfl, rfl, rfl, by decide +kernel, rfl, by decide +kernel, by decide +kernel⟩
theorem sc_law_number : FnScope n_law_number ["_law_source_here"] (defScope s_law_number) := ⟨rfl, rfl, rfl, by decide +kernel, rfl, by decide +kernel, by decide +kernel⟩
theorem sc_law_times : FnScope n_law_times ["_law_source_here"] (defScope s_law_times) := ⟨rfl, rfl, rfl, by decide +kernel, rfl, by decide +kernel, by decide +kernel⟩
theorem sc_law_stack : FnScope n_law_stack ["_law_source_here"] (defScope s_law_stack) := ⟨rfl, rfl, rfl, by decide +kernel, rfl, by decide +kernel, by decide +kernel⟩
theorem sc_law_fresh : FnScope n_law_fresh ["_law_source_here", "_law_parts", "_law_measures"] (defScope s_law_fresh) := ⟨rfl, rfl, rfl, by decide +kernel, rfl, by decide +kernel, by decide +kernel⟩
theorem sc_law_built : FnScope n_law_built ["_law_kind", "_law_upper", "_law_lower", "_law_stack_here", "_law_whole"] (defScope s_law_built) := ⟨rfl, rfl, rfl, by decide +kernel, rfl, by decide +kernel, by decide +kernel⟩
theorem sc_law_near : FnScope n_law_near ["_law_source_here", "_law_old", "_law_other"] (defScope s_law_near) := ⟨rfl, rfl, rfl, by decide +kernel, rfl, by decide +kernel, by decide +kernel⟩
theorem sc_law_ordered : FnScope n_law_ordered ["_law_rows"] (defScope s_law_ordered) := ⟨rfl, rfl, rfl, by decide +kernel, rfl, by decide +kernel, by decide +kernel⟩
theorem sc_law_pool : FnScope n_law_pool ["_law_source_here", "_law_parts", "_law_measures", "_law_many"] (defScope s_law_pool) := ⟨rfl, rfl, rfl, by decide +kernel, rfl, by decide +kernel, by decide +kernel⟩
theorem sc_law_bad_name : FnScope n_law_bad_name ["_law_source_here", "_law_word_here"] (defScope s_law_bad_name) := ⟨rfl, rfl, rfl, by decide +kernel, rfl, by decide +kernel, by decide +kernel⟩
theorem sc_law_bad_terms : FnScope n_law_bad_terms ["_law_source_here", "_law_terms", "_law_measures"] (defScope s_law_bad_terms) := ⟨rfl, rfl, rfl, by decide +kernel, rfl, by decide +kernel, by decide +kernel⟩
theorem sc_law_spoilt : FnScope n_law_spoilt ["_law_source_here", "_law_old", "_law_measures"] (defScope s_law_spoilt) := ⟨rfl, rfl, rfl, by decide +kernel, rfl, by decide +kernel, by decide +kernel⟩
theorem sc_law_truth : FnScope n_law_truth ["_law_value", "_law_due"] (defScope s_law_truth) := ⟨rfl, rfl, rfl, by decide +kernel, rfl, by decide +kernel, by decide +kernel⟩
theorem sc_law_shows : FnScope n_law_shows ["_law_sheet", "_law_due", "_law_pool_here"] (defScope s_law_shows) := ⟨rfl, rfl, rfl, by decide +kernel, rfl, by decide +kernel, by decide +kernel⟩
theorem sc_law_drawn_rows : FnScope n_law_drawn_rows ["_law_source_here", "_law_pool_here"] (defScope s_law_drawn_rows) := ⟨rfl, rfl, rfl, by decide +kernel, rfl, by decide +kernel, by decide +kernel⟩
theorem sc_law_apart : FnScope n_law_apart ["_law_sheet", "_law_rows"] (defScope s_law_apart) := ⟨rfl, rfl, rfl, by decide +kernel, rfl, by decide +kernel, by decide +kernel⟩
theorem sc_law_operators : FnScope n_law_operators ["_law_a", "_law_b", "_law_left", "_law_right", "_law_pool_here"] (defScope s_law_operators) := ⟨rfl, rfl, rfl, by decide +kernel, rfl, by decide +kernel, by decide +kernel⟩
theorem sc_law_sheets_agree : FnScope n_law_sheets_agree ["_law_source_here", "_law_pool_here"] (defScope s_law_sheets_agree) := ⟨rfl, rfl, rfl, by decide +kernel, rfl, by decide +kernel, by decide +kernel⟩
theorem sc_law_refused : FnScope n_law_refused ["_law_values", "_law_due"] (defScope s_law_refused) := ⟨rfl, rfl, rfl, by decide +kernel, rfl, by decide +kernel, by decide +kernel⟩
theorem sc_law_refusals : FnScope n_law_refusals ["_law_source_here", "_law_pool_here", "_law_measures"] (defScope s_law_refusals) := ⟨rfl, rfl, rfl, by decide +kernel, rfl, by decide +kernel, by decide +kernel⟩
theorem sc_law : FnScope n_law ["_law_script"] (defScope s_law) := ⟨rfl, rfl, rfl, by decide +kernel, rfl, by decide +kernel, by decide +kernel⟩
abbrev n_BadLimit_init : List Str := ["self", "limit"]
theorem sc_BadLimit_init : FnScope n_BadLimit_init ["self", "limit"] (defScope s_BadLimit_init) := ⟨rfl, rfl, rfl, by decide +kernel, rfl, by decide +kernel, by decide +kernel⟩
abbrev n_BadChange_init : List Str := ["self", "limit"]
theorem sc_BadChange_init : FnScope n_BadChange_init ["self", "limit"] (defScope s_BadChange_init) := ⟨rfl, rfl, rfl, by decide +kernel, rfl, by decide +kernel, by decide +kernel⟩
abbrev n_DoesNotGo_init : List Str := ["self", "limit"]
theorem sc_DoesNotGo_init : FnScope n_DoesNotGo_init ["self", "limit"] (defScope s_DoesNotGo_init) := ⟨rfl, rfl, rfl, by decide +kernel, rfl, by decide +kernel, by decide +kernel⟩
abbrev n_Sheet_iter : List Str := ["self"]
theorem sc_Sheet_iter : FnScope n_Sheet_iter ["self"] (defScope s_Sheet_iter) := ⟨rfl, rfl, rfl, by decide +kernel, rfl, by decide +kernel, by decide +kernel⟩
abbrev n_Sheet_len : List Str := ["self"]
theorem sc_Sheet_len : FnScope n_Sheet_len ["self"] (defScope s_Sheet_len) := ⟨rfl, rfl, rfl, by decide +kernel, rfl, by decide +kernel, by decide +kernel⟩
section
variable {P : Program} {w : World} {K : PySem.W.Frag} {mg : Str → Option Value} {base : Heap} {f : Addr} {C : AD} {fd : FuncData}
theorem ok_law_mixed (B : Txt w K mg C) (F : FnP K "_law_mixed" s_law_mixed f fd) (hm : mg "_law_mixed" = some (.ref f)) : OkF P w K mg base "_law_mixed" 1 ["_law_cell", "_law_place"] (sp_law_mixed K) := by
  refine ⟨f, fd, hm, F.kp, F.bindsN (fun _ _ _ _ _ _ us hl => match us, hl with | [_, _], _ => rfl), ?_⟩
  refine F.ok sc_law_mixed (fun vs H Q E h => len_law_mixed h) (fun cdv A outer s H vs Q E hr h => ⟨t_law_mixed K, PSs.nox ?_, run_law_mixed h⟩)
  exact (pss_cons (ps_set (i := 2) sc_law_mixed.nd rfl (Or.inl rfl) (pe_op op_mod (pe_callTy call_int1 rfl B.int_ (by decide +kernel) (pa_cons (pe_op op_add (pe_op op_add (pe_op op_mul (pe_callB call_abs rfl B.abs_ (by decide +kernel) (pa_cons (pv 0) pa_nil)) pe_int) (pe_op op_mul (pv 1) pe_int)) pe_int) pa_nil)) pe_int))
      (pss_cons (ps_set (i := 3) sc_law_mixed.nd rfl (Or.inl rfl) (pe_op op_mod (pe_callTy call_int1 rfl B.int_ (by decide +kernel) (pa_cons (pe_op op_add (pe_op op_add (pe_op op_add (pe_op op_mul (pv 2) (pv 2)) (pe_op op_mul (pe_callB call_abs rfl B.abs_ (by decide +kernel) (pa_cons (pv 0) pa_nil)) pe_int)) (pe_op op_mul (pv 1) pe_int)) pe_int) pa_nil)) pe_int))
      (pss_cons (ps_set (i := 4) sc_law_mixed.nd rfl (Or.inl rfl) (pe_op op_mod (pe_callTy call_int1 rfl B.int_ (by decide +kernel) (pa_cons (pe_op op_add (pe_op op_add (pe_op op_mul (pv 3) pe_int) (pe_op op_mul (pv 2) pe_int)) pe_int) pa_nil)) pe_int))
      (pss_one (ps_ret (pe_op op_add (pv 4) pe_int))))))
theorem ok_law_source (B : Txt w K mg C) (F : FnP K "_law_source" s_law_source f fd) (hm : mg "_law_source" = some (.ref f)) : OkF P w K mg base "_law_source" 1 ["_law_script"] (sp_law_source K) := by
  refine ⟨f, fd, hm, F.kp, F.bindsN (fun _ _ _ _ _ _ us hl => match us, hl with | [_], _ => rfl), ?_⟩
  refine F.ok sc_law_source (fun vs H Q E h => len_law_source h) (fun cdv A outer s H vs Q E hr h => ⟨t_law_source K, PSs.nox ?_, run_law_source h⟩)
  exact (pss_one (ps_ret (pe_lst (pa_cons pe_int (pa_cons pe_int (pa_cons (pe_callTy call_list_of rfl B.list_ (by decide +kernel) (pa_cons (pv 0) pa_nil)) pa_nil))))))
theorem ok_law_take (B : Txt w K mg C) (F : FnP K "_law_take" s_law_take f fd) (hm : mg "_law_take" = some (.ref f)) (G_law_mixed : OkF P w K mg base "_law_mixed" 1 ["_law_cell", "_law_place"] (sp_law_mixed K)) : OkF P w K mg base "_law_take" 2 ["_law_source_here", "_law_many"] (sp_law_take K) := by
  refine ⟨f, fd, hm, F.kp, F.bindsN (fun _ _ _ _ _ _ us hl => match us, hl with | [_, _], _ => rfl), ?_⟩
  refine F.ok sc_law_take (fun vs H Q E h => len_law_take h) (fun cdv A outer s H vs Q E hr h => ⟨t_law_take K, PSs.nox ?_, run_law_take h⟩)
  exact (pss_cons (ps_if (pt_cmpR op_lt (pe_ix ix_list (pv 0) pe_int (fun _ _ => rfl)) (pe_op op_mul pe_int (pv 1)) (nomark _)) (pss_cons (ps_set (i := 3) sc_law_take.nd rfl (Or.inl rfl) (pe_ix ix_list (pv 0) pe_int (fun _ _ => rfl)))
      (pss_cons (ps_set (i := 4) sc_law_take.nd rfl (Or.inl rfl) (pe_ix ix_list (pv 0) pe_int (fun _ _ => rfl)))
      (pss_cons (ps_asg (pe_op op_add (pv 4) pe_int) (pg_sub (pv 0) pe_int set_list))
      (pss_one (ps_if (PW.pt (pw_and (pt_cmpR op_lt (pv 4) (pe_callB call_len_seq rfl B.len (by decide +kernel) (pa_cons (pv 3) pa_nil)) (nomark _)) (pw_and1 (pt_cmpR op_ge (pe_callB call_abs rfl B.abs_ (by decide +kernel) (pa_cons (pe_ix ix_list (pv 3) (pv 4) (fun _ _ => rfl)) pa_nil)) (pe_op op_pow pe_int pe_int) (nomark _))))) (pss_one (ps_asg (pe_callB call_abs rfl B.abs_ (by decide +kernel) (pa_cons (pe_ix ix_list (pv 3) (pv 4) (fun _ _ => rfl)) pa_nil)) (pg_sub (pv 0) pe_int set_list))) (pss_one (ps_if (pt_cmpR op_gt (pe_callB call_len_seq rfl B.len (by decide +kernel) (pa_cons (pv 3) pa_nil)) pe_int (nomark _)) (pss_one (ps_asg (pe_fn G_law_mixed (hr.mono (by decide)) rfl (pa_cons (pe_ix ix_list (pv 3) (pe_op op_mod (pe_callTy call_int1 rfl B.int_ (by decide +kernel) (pa_cons (pv 4) pa_nil)) (pe_callB call_len_seq rfl B.len (by decide +kernel) (pa_cons (pv 3) pa_nil))) (fun _ _ => rfl)) (pa_cons (pv 4) pa_nil))) (pg_sub (pv 0) pe_int set_list))) (pss_one (ps_asg (pe_fn G_law_mixed (hr.mono (by decide)) rfl (pa_cons pe_int (pa_cons (pv 4) pa_nil))) (pg_sub (pv 0) pe_int set_list)))))))))) pss_nil)
      (pss_cons (ps_set (i := 2) sc_law_take.nd rfl (Or.inl rfl) (pe_op op_mod (pe_callTy call_int1 rfl B.int_ (by decide +kernel) (pa_cons (pe_ix ix_list (pv 0) pe_int (fun _ _ => rfl)) pa_nil)) (pv 1)))
      (pss_cons (ps_asg (pe_op op_fdivW (pe_callTy call_int1 rfl B.int_ (by decide +kernel) (pa_cons (pe_ix ix_list (pv 0) pe_int (fun _ _ => rfl)) pa_nil)) (pv 1)) (pg_sub (pv 0) pe_int set_list))
      (pss_one (ps_ret (pv 2))))))
theorem okF_weak {x : Str} {k : Nat} {ps : List Str} {sp sp2 : Sp} (G : OkF P w K mg base x k ps sp) (h : ∀ vs H Q E, sp2 vs H Q E → sp vs H Q E) : OkF P w K mg base x k ps sp2 := by
  obtain ⟨f, fd, h1, h2, h3, h4⟩ := G
  exact ⟨f, fd, h1, h2, h3, h4.imp h⟩
theorem ok_BadLimit_init (B : Txt w K mg C) (Y : Fl K C) (T : OexC K C.BadLimit) (h1 : PySem.W.findIn K (.ref C.BadLimit) "__init__" = some (some (.ref f))) (h2 : PySem.W.typeIn K (.ref f) = some (.type "function")) (F : FunD K "__init__" "BadLimit.__init__" (defArgs s_BadLimit_init) (defBody s_BadLimit_init) (defScope s_BadLimit_init) [] [] f fd) : OkE P w K mg base C.BadLimit 1 ["self", "limit"] (sp_exc1 C.BadLimit "limit") := by
  refine ⟨f, fd, T, h1, h2, F.bindsN (fun _ _ _ _ _ _ us hl => match us, hl with | [_, _], _ => rfl), ?_⟩
  refine F.ok sc_BadLimit_init (fun vs H Q E h => len_exc1 h) (fun cdv A outer s H vs Q E hr h => ⟨tOst K "limit" (tVar 0) (tVar 1), PSs.nox ?_, run_exc1 T Y.no_BadLimit_limit rfl h⟩)
  exact pss_one (ps_ost (pv 0) (pv 1))
theorem ok_BadChange_init (B : Txt w K mg C) (Y : Fl K C) (T : OexC K C.BadChange) (h1 : PySem.W.findIn K (.ref C.BadChange) "__init__" = some (some (.ref f))) (h2 : PySem.W.typeIn K (.ref f) = some (.type "function")) (F : FunD K "__init__" "BadChange.__init__" (defArgs s_BadChange_init) (defBody s_BadChange_init) (defScope s_BadChange_init) [] [] f fd) : OkE P w K mg base C.BadChange 1 ["self", "limit"] (sp_exc1 C.BadChange "limit") := by
  refine ⟨f, fd, T, h1, h2, F.bindsN (fun _ _ _ _ _ _ us hl => match us, hl with | [_, _], _ => rfl), ?_⟩
  refine F.ok sc_BadChange_init (fun vs H Q E h => len_exc1 h) (fun cdv A outer s H vs Q E hr h => ⟨tOst K "limit" (tVar 0) (tVar 1), PSs.nox ?_, run_exc1 T Y.no_BadChange_limit rfl h⟩)
  exact pss_one (ps_ost (pv 0) (pv 1))
theorem ok_DoesNotGo_init (B : Txt w K mg C) (Y : Fl K C) (T : OexC K C.DoesNotGo) (h1 : PySem.W.findIn K (.ref C.DoesNotGo) "__init__" = some (some (.ref f))) (h2 : PySem.W.typeIn K (.ref f) = some (.type "function")) (F : FunD K "__init__" "DoesNotGo.__init__" (defArgs s_DoesNotGo_init) (defBody s_DoesNotGo_init) (defScope s_DoesNotGo_init) [] [] f fd) : OkE P w K mg base C.DoesNotGo 1 ["self", "limit"] (sp_exc1 C.DoesNotGo "limit") := by
  refine ⟨f, fd, T, h1, h2, F.bindsN (fun _ _ _ _ _ _ us hl => match us, hl with | [_, _], _ => rfl), ?_⟩
  refine F.ok sc_DoesNotGo_init (fun vs H Q E h => len_exc1 h) (fun cdv A outer s H vs Q E hr h => ⟨tOst K "limit" (tVar 0) (tVar 1), PSs.nox ?_, run_exc1 T Y.no_DoesNotGo_limit rfl h⟩)
  exact pss_one (ps_ost (pv 0) (pv 1))
theorem ok_Sheet_iter (B : Txt w K mg C) (Y : Fl K C) (M : Meth K C.Sheet "__iter__" f) (F : FunD K "__iter__" "Sheet.__iter__" (defArgs s_Sheet_iter) (defBody s_Sheet_iter) (defScope s_Sheet_iter) [] [] f fd) : OkIt P w K mg base C.Sheet "_limits" 1 ["self"] := by
  refine ⟨f, fd, M, F.bindsN (fun _ _ _ _ _ _ us hl => match us, hl with | [_], _ => rfl), ?_⟩
  refine nok_of F sc_Sheet_iter (fun n vs H Q E h => len_itF h) (fun cdv A outer s H vs Q E hr h => ⟨tRet (tCB (ItX.rIterN K s.heap.objs.size) (tCons (tFldR K (tVar 0) "_limits") tNil)), PSs.nox ?_, ?_⟩)
  · exact (pss_one (ps_ret (pe_callB ItX.call_iterN rfl B.iter_ (by decide +kernel) (pa_cons (pe_fldR (pv 0)) pa_nil))))
  · obtain ⟨a, dx, l, fs, xs, rfl, ha, hl, hx, q⟩ := h
    exact ⟨_, rfl, a, C.Sheet, dx, fs, _, rfl, ha, Y.z_Sheet.cls, Y.n_Sheet_limits, hl, l, xs, rfl, hx, fun it h1 h2 => q it h1 h2⟩
theorem ok_Sheet_len (B : Txt w K mg C) (Y : Fl K C) (M : Meth K C.Sheet "__len__" f) (F : FunD K "__len__" "Sheet.__len__" (defArgs s_Sheet_len) (defBody s_Sheet_len) (defScope s_Sheet_len) [] [] f fd) : OkLn P w K mg base C.Sheet "_limits" 1 ["self"] := by
  refine ⟨f, fd, M, F.bindsN (fun _ _ _ _ _ _ us hl => match us, hl with | [_], _ => rfl), ?_⟩
  refine F.ok sc_Sheet_len (fun vs H Q E h => len_lnF h) (fun cdv A outer s H vs Q E hr h => ⟨tRet (tCB (cLenQ K) (tCons (tFldR K (tVar 0) "_limits") tNil)), PSs.nox ?_, ?_⟩)
  · exact (pss_one (ps_ret (pe_callB call_len_seq rfl B.len (by decide +kernel) (pa_cons (pe_fldR (pv 0)) pa_nil))))
  · obtain ⟨a, dx, l, fs, xs, rfl, ha, hl, hx, q⟩ := h
    exact ⟨_, rfl, a, C.Sheet, dx, fs, _, rfl, ha, Y.z_Sheet.cls, Y.n_Sheet_limits, hl, l, xs, rfl, .inl hx, q⟩
theorem ok_is_nameR (B : Txt w K mg C) (Y : Fl K C) (F : FnP K "is_name" s_is_nameR f fd) (hm : mg "is_name" = some (.ref f)) : OkF P w K mg base "is_name" 1 ["text"] (up K (q_is_nameR)) := by
  refine ⟨f, fd, hm, F.kp, F.bindsN (fun _ _ _ _ _ _ us hl => match us, hl with | [_], _ => rfl), ?_⟩
  refine F.ok sc_is_nameR (fun vs H Q E h => len_up (fun _ _ h => ql_is_nameR h) h) (fun cdv A outer s H vs Q E hr h => ⟨t_is_nameR K C, PSs.nox ?_, run_up (fun s c H0 => l_is_nameR Y) (pr_is_nameR C) h⟩)
  exact (pss_cons (ps_if (PW.pt (pw_or (pt_not (pt_chain op_le op_le pe_int (pe_callB call_len_str rfl B.len (by decide +kernel) (pa_cons (pv 0) pa_nil)) (pe_gint B.c_LONGEST_NAME))) (pw_or1 (pt_cmpR op_notIn_sign (pe_ix ix_str (pv 0) pe_int (fun _ _ => rfl)) (pe_gstr B.c_LETTERS) rfl)))) (pss_one (ps_ret pe_bl)) pss_nil)
      (pss_one (ps_ret (pe_callB (cr_all rfl) rfl B.all_ (by decide +kernel) (pa_cons (pe_lc (own := [("char", 1)]) (g := (gName 1)) (tt := tYes) rfl sc_is_nameR.nd (pi_str (pv 0)) (blkOk_by (N := n_is_nameR) (sc := defScope s_is_nameR) (by decide +kernel)) (fun _ _ _ _ _ => (pg_name (i := 1) sc_is_nameR.nd rfl (Or.inl rfl))) (fun _ _ _ _ _ => pts_nil) (fun _ _ _ _ _ => (pe_or (pe_cmpR op_in_sign (pv 1) (pe_gstr B.c_LETTERS) rfl) (pe_one (pe_cmpR op_in_sign (pv 1) (pe_gstr B.c_DIGITS) rfl))))) pa_nil)))))
theorem ok_is_step_nameR (B : Txt w K mg C) (Y : Fl K C) (F : FnP K "is_step_name" s_is_step_nameR f fd) (hm : mg "is_step_name" = some (.ref f)) (G_is_nameR : OkF P w K mg base "is_name" 1 ["text"] (up K (q_is_nameR))) : OkF P w K mg base "is_step_name" 2 ["text"] (up K (q_is_step_nameR)) := by
  refine ⟨f, fd, hm, F.kp, F.bindsN (fun _ _ _ _ _ _ us hl => match us, hl with | [_], _ => rfl), ?_⟩
  refine F.ok sc_is_step_nameR (fun vs H Q E h => len_up (fun _ _ h => ql_is_step_nameR h) h) (fun cdv A outer s H vs Q E hr h => ⟨t_is_step_nameR K C, PSs.nox ?_, run_up (fun s c H0 => l_is_step_nameR Y) (pr_is_step_nameR C) h⟩)
  exact (pss_one (ps_ret (pe_and (pe_fn G_is_nameR (hr.mono (by omega)) rfl (pa_cons (pv 0) pa_nil)) (pe_one (pe_cmpR op_ne (pv 0) (pe_gstr B.c_FRAME) (nomark _))))))
theorem ok_is_textR (B : Txt w K mg C) (Y : Fl K C) (F : FnP K "is_text" s_is_textR f fd) (hm : mg "is_text" = some (.ref f)) : OkF P w K mg base "is_text" 1 ["text"] (up K (q_is_textR)) := by
  refine ⟨f, fd, hm, F.kp, F.bindsN (fun _ _ _ _ _ _ us hl => match us, hl with | [_], _ => rfl), ?_⟩
  refine F.ok sc_is_textR (fun vs H Q E h => len_up (fun _ _ h => ql_is_textR h) h) (fun cdv A outer s H vs Q E hr h => ⟨t_is_textR K C, PSs.nox ?_, run_up (fun s c H0 => l_is_textR Y) (pr_is_textR C) h⟩)
  exact (pss_one (ps_ret (pe_callB (cr_all rfl) rfl B.all_ (by decide +kernel) (pa_cons (pe_lc (own := [("char", 1)]) (g := (gName 1)) (tt := tYes) rfl sc_is_textR.nd (pi_str (pv 0)) (blkOk_by (N := n_is_textR) (sc := defScope s_is_textR) (by decide +kernel)) (fun _ _ _ _ _ => (pg_name (i := 1) sc_is_textR.nd rfl (Or.inl rfl))) (fun _ _ _ _ _ => pts_nil) (fun _ _ _ _ _ => (pe_cmpR op_in_sign (pv 1) (pe_gstr B.c_CHARACTERS) rfl))) pa_nil))))
theorem ok_joined_rows (B : Txt w K mg C) (Y : Fl K C) (F : FnP K "joined_rows" s_joined_rows f fd) (hm : mg "joined_rows" = some (.ref f)) : OkF P w K mg base "joined_rows" 1 ["first", "second"] (up K (q_joined_rows)) := by
  refine ⟨f, fd, hm, F.kp, F.bindsN (fun _ _ _ _ _ _ us hl => match us, hl with | [_, _], _ => rfl), ?_⟩
  refine F.ok sc_joined_rows (fun vs H Q E h => len_up (fun _ _ h => ql_joined_rows h) h) (fun cdv A outer s H vs Q E hr h => ⟨t_joined_rows K C, PSs.nox ?_, run_up (fun s c H0 => l_joined_rows Y) (pr_joined_rows C) h⟩)
  exact (pss_cons (ps_set (i := 2) sc_joined_rows.nd rfl (Or.inl rfl) (pe_lst pa_nil))
      (pss_cons (ps_set (i := 3) sc_joined_rows.nd rfl (Or.inl rfl) pe_int)
      (pss_cons (ps_for PassesOwn.never rfl (pi_list (pv 0)) (pg_name (i := 4) sc_joined_rows.nd rfl (Or.inl rfl)) (pss_cons (ps_while PassesOwn.never (PW.pt (pw_and (pt_cmpR op_lt (pv 3) (pe_callB call_len_seq rfl B.len (by decide +kernel) (pa_cons (pv 1) pa_nil)) (nomark _)) (pw_and1 (pt_cmpR (op_ltD hr.units) (pe_ix ix_list (pv 1) (pv 3) (fun _ _ => rfl)) (pv 4) (nomark _))))) (pss_cons (ps_expr (pe_bm PySem.F.plainAttrs_list PySem.F.slot_list_append PySem.F.type_list_append mt_append (pv 2) (pa_cons (pe_ix ix_list (pv 1) (pv 3) (fun _ _ => rfl)) pa_nil)))
      (pss_one (ps_set (i := 3) sc_joined_rows.nd rfl (Or.inl rfl) (pe_op op_add (pv 3) pe_int)))))
      (pss_one (ps_expr (pe_bm PySem.F.plainAttrs_list PySem.F.slot_list_append PySem.F.type_list_append mt_append (pv 2) (pa_cons (pv 4) pa_nil))))))
      (pss_one (ps_ret (pe_frz (pe_op op_catL (pv 2) (pe_slice sl_list (pv 1) (po_some (pv 3)) po_none))))))))
theorem ok_in_order (B : Txt w K mg C) (Y : Fl K C) (F : FnP K "in_order" s_in_order f fd) (hm : mg "in_order" = some (.ref f)) (G_joined_rows : OkF P w K mg base "joined_rows" 1 ["first", "second"] (up K (q_joined_rows))) : ∀ n : Nat, OkF P w K mg base "in_order" (2 + n) ["rows"] (up K (q_in_order n))
  | 0 => ⟨f, fd, hm, F.kp, F.bindsN (fun _ _ _ _ _ _ us hl => match us, hl with | [_], _ => rfl), F.ok sc_in_order (fun vs H Q E h => len_up (fun _ _ h => ql_in_order h) h) (fun cdv A outer s H vs Q E hr h => (no_in_order h).elim)⟩
  | n + 1 => by
    have G_in_order : OkF P w K mg base "in_order" (2 + n) ["rows"] (up K (q_in_order n)) := ok_in_order B Y F hm G_joined_rows n
    refine ⟨f, fd, hm, F.kp, F.bindsN (fun _ _ _ _ _ _ us hl => match us, hl with | [_], _ => rfl), ?_⟩
    refine F.ok (k := 2 + n) sc_in_order (fun vs H Q E h => len_up (fun _ _ h => ql_in_order h) h) (fun cdv A outer s H vs Q E hr h => ⟨t_in_order K C n, PSs.nox ?_, run_up (fun s c H0 => l_in_order Y) (pr_in_order C n) h⟩)
    exact (pss_cons (ps_if (pt_cmpR op_lt (pe_callB call_len_seq rfl B.len (by decide +kernel) (pa_cons (pv 0) pa_nil)) pe_int (nomark _)) (pss_one (ps_ret (pe_frz (pe_callTy call_list_of rfl B.list_ (by decide +kernel) (pa_cons (pv 0) pa_nil))))) pss_nil)
      (pss_cons (ps_set (i := 1) sc_in_order.nd rfl (Or.inl rfl) (pe_op op_fdivW (pe_callB call_len_seq rfl B.len (by decide +kernel) (pa_cons (pv 0) pa_nil)) pe_int))
      (pss_one (ps_ret (pe_fn G_joined_rows (hr.mono (by omega)) rfl (pa_cons (pe_fn G_in_order (hr.mono (by omega)) rfl (pa_cons (pe_frz (pe_slice sl_list (pv 0) po_none (po_some (pv 1)))) pa_nil)) (pa_cons (pe_fn G_in_order (hr.mono (by omega)) rfl (pa_cons (pe_frz (pe_slice sl_list (pv 0) (po_some (pv 1)) po_none)) pa_nil)) pa_nil)))))))
theorem ok_distinct (B : Txt w K mg C) (Y : Fl K C) (F : FnP K "distinct" s_distinct f fd) (hm : mg "distinct" = some (.ref f)) (G_in_order : OkF P w K mg base "in_order" 10 ["rows"] (up K (q_in_order 8))) : OkF P w K mg base "distinct" 11 ["rows"] (up K (q_distinct)) := by
  refine ⟨f, fd, hm, F.kp, F.bindsN (fun _ _ _ _ _ _ us hl => match us, hl with | [_], _ => rfl), ?_⟩
  refine F.ok sc_distinct (fun vs H Q E h => len_up (fun _ _ h => ql_distinct h) h) (fun cdv A outer s H vs Q E hr h => ⟨t_distinct K C, PSs.nox ?_, run_up (fun s c H0 => l_distinct Y) (pr_distinct C) h⟩)
  exact (pss_cons (ps_set (i := 1) sc_distinct.nd rfl (Or.inr rfl) (pe_fn G_in_order (hr.mono (by omega)) rfl (pa_cons (pv 0) pa_nil)))
      (pss_one (ps_ret (pe_frz (pe_lc (own := [("at", 2), ("row", 3)]) (g := (gTup K 2 (gCons (gName 2) (gCons (gName 3) gNil)))) (tt := (tOr (tTest (tOp rEq (tVar 2) (tC (.int 0)))) (tTest (tOp (rEqP K not) (tOp (rIxL K) (tVar 1) (tOp rSubI (tVar 2) (tC (.int 1)))) (tVar 3))))) rfl sc_distinct.nd (pi_enum rfl B.enumerate (pa_cons (pv 1) pa_nil)) (blkOk_by (N := n_distinct) (sc := defScope s_distinct) (by decide +kernel)) (fun _ _ _ _ _ => (pg_tup rfl (pgs_cons (pg_name (i := 2) sc_distinct.nd rfl (Or.inl rfl)) (pgs_cons (pg_name (i := 3) sc_distinct.nd rfl (Or.inl rfl)) pgs_nil)))) (fun _ _ _ _ _ => (pts_one (PW.pt (pw_or (pt_cmpR op_eq (pv 2) pe_int (nomark _)) (pw_or1 (pt_cmpR (op_neP hr.units) (pe_ix ix_list (pv 1) (pe_op op_sub (pv 2) pe_int) (fun _ _ => rfl)) (pv 3) (nomark _))))))) (fun _ _ _ _ _ => (pv 3)))))))
theorem ok_is_sum (B : Txt w K mg C) (Y : Fl K C) (F : FnP K "is_sum" s_is_sum f fd) (hm : mg "is_sum" = some (.ref f)) (G_is_step_nameR : OkF P w K mg base "is_step_name" 2 ["text"] (up K (q_is_step_nameR))) : OkF P w K mg base "is_sum" 3 ["value"] (up K (q_is_sum)) := by
  refine ⟨f, fd, hm, F.kp, F.bindsN (fun _ _ _ _ _ _ us hl => match us, hl with | [_], _ => rfl), ?_⟩
  refine F.ok sc_is_sum (fun vs H Q E h => len_up (fun _ _ h => ql_is_sum h) h) (fun cdv A outer s H vs Q E hr h => ⟨t_is_sum K C, PSs.nox ?_, run_up (fun s c H0 => l_is_sum Y) (pr_is_sum C) h⟩)
  exact (pss_cons (ps_set (i := 1) sc_is_sum.nd rfl (Or.inl rfl) pe_str)
      (pss_cons (ps_for PassesOwn.never rfl (pi_tup (pe_ix ix_tup (pv 0) pe_int (fun _ _ => rfl))) (pg_tup rfl (pgs_cons (pg_name (i := 2) sc_is_sum.nd rfl (Or.inl rfl)) (pgs_cons (pg_name (i := 3) sc_is_sum.nd rfl (Or.inl rfl)) pgs_nil))) (pss_cons (ps_if (PW.pt (pw_or (pt_not (pt_val (pe_fn G_is_step_nameR (hr.mono (by omega)) rfl (pa_cons (pv 2) pa_nil)))) (pw_or (pt_cmpR op_le_str (pv 2) (pv 1) (nomark _)) (pw_or1 (pt_cmpR op_eq (pv 3) pe_int (nomark _)))))) (pss_one (ps_ret pe_bl)) pss_nil)
      (pss_one (ps_set (i := 1) sc_is_sum.nd rfl (Or.inl rfl) (pv 2)))))
      (pss_one (ps_ret pe_bl))))
theorem ok_is_limit (B : Txt w K mg C) (Y : Fl K C) (F : FnP K "is_limit" s_is_limit f fd) (hm : mg "is_limit" = some (.ref f)) (G_is_nameR : OkF P w K mg base "is_name" 1 ["text"] (up K (q_is_nameR))) (G_is_textR : OkF P w K mg base "is_text" 1 ["text"] (up K (q_is_textR))) (G_is_sum : OkF P w K mg base "is_sum" 3 ["value"] (up K (q_is_sum))) : OkF P w K mg base "is_limit" 4 ["value"] (up K (q_is_limit)) := by
  refine ⟨f, fd, hm, F.kp, F.bindsN (fun _ _ _ _ _ _ us hl => match us, hl with | [_], _ => rfl), ?_⟩
  refine F.ok sc_is_limit (fun vs H Q E h => len_up (fun _ _ h => ql_is_limit h) h) (fun cdv A outer s H vs Q E hr h => ⟨t_is_limit K C, PSs.nox ?_, run_up (fun s c H0 => l_is_limit Y) (pr_is_limit C) h⟩)
  exact (pss_cons (ps_if (PW.pt (pw_or (pt_cmpR op_eq (pe_callB call_len_seq rfl B.len (by decide +kernel) (pa_cons (pv 0) pa_nil)) pe_int (nomark _)) (pw_or1 (pt_cmpR op_ne (pe_getKd B.d_ITEM_COUNTS ⟨rfl, rfl, rfl, rfl⟩ (pe_glob rfl B.g_ITEM_COUNTS rfl) (pe_ix ix_tup (pv 0) pe_int (fun _ _ => rfl)) pe_int) (pe_callB call_len_seq rfl B.len (by decide +kernel) (pa_cons (pv 0) pa_nil)) (nomark _))))) (pss_one (ps_ret pe_bl)) pss_nil)
      (pss_cons (ps_par rfl sc_is_limit.nd rfl rfl (by decide) rfl rfl (pa_cons (pe_ix ix_tup (pv 0) pe_int (fun _ _ => rfl)) (pa_cons (pe_ix ix_tup (pv 0) pe_int (fun _ _ => rfl)) pa_nil)) (by rfl))
      (pss_cons (ps_if (PW.pt (pw_or (pt_not (pt_val (pe_fn G_is_nameR (hr.mono (by omega)) rfl (pa_cons (pv 1) pa_nil)))) (pw_or (pt_not (pt_val (pe_fn G_is_nameR (hr.mono (by omega)) rfl (pa_cons (pv 2) pa_nil)))) (pw_or1 (pt_cmpR op_eq (pv 1) (pv 2) (nomark _)))))) (pss_one (ps_ret pe_bl)) pss_nil)
      (pss_cons (ps_if (PW.pt (pw_and (pt_cmpR op_eq (pe_ix ix_tup (pv 0) pe_int (fun _ _ => rfl)) pe_str (nomark _)) (pw_and1 (pt_not (pt_val (pe_fn G_is_textR (hr.mono (by omega)) rfl (pa_cons (pe_ix ix_tup (pv 0) pe_int (fun _ _ => rfl)) pa_nil))))))) (pss_one (ps_ret pe_bl)) pss_nil)
      (pss_one (ps_ret (pe_fn G_is_sum (hr.mono (by omega)) rfl (pa_cons (pe_ix ix_tup (pv 0) (pe_un un_neg pe_int) (fun _ _ => rfl)) pa_nil))))))))
theorem ok_Sheet_init (B : Txt w K mg C) (Y : Fl K C) (M : Mk K C.Sheet f) (F : FunD K "__init__" "Sheet.__init__" (defArgs s_Sheet_init) (defBody s_Sheet_init) (defScope s_Sheet_init) [] [] f fd) (G_is_limit : OkF P w K mg base "is_limit" 4 ["value"] (up K (q_is_limit))) (G_BadLimit_init : OkE P w K mg base C.BadLimit 1 ["self", "limit"] (sp_exc1 C.BadLimit "limit")) (G_distinct : OkF P w K mg base "distinct" 11 ["rows"] (up K (q_distinct))) : OkIX P w K mg base C.Sheet 12 ["self", "limits"] (upIC K C.Sheet (q_Sheet_init C)) := by
  refine ⟨f, fd, M, F.bindsN (fun _ _ _ _ _ _ us hl => match us, hl with | [_, _], _ => rfl), ?_⟩
  refine F.ok (CX := L2.CX P w) sc_Sheet_init (fun vs H Q E h => len_upIC (fun _ _ _ h => ql_Sheet_init h) h) (fun cdv A outer s H vs Q E hr h => ⟨t_Sheet_init K C (fun cls d _ H => E cls d H), ?_, run_upIC (fun s c H0 => l_Sheet_init Y) (pr_Sheet_init C) h⟩)
  have tk := takes_of (X := cxOf (L2.CX P w) P w K mg base n_Sheet_init "Sheet.__init__" (defScope s_Sheet_init) f cdv A outer s H E) (E := E) rfl rfl rfl rfl
  exact (pss_cons (ps_for (passes_of rfl) rfl (pi_sq (pv 1)) (pg_name (i := 2) sc_Sheet_init.nd rfl (Or.inl rfl)) (pss_one (ps_if (pt_not (pt_val (pe_fn G_is_limit (hr.mono (by omega)) rfl (pa_cons (pv 2) pa_nil)))) (pss_one (ps_raise rfl tk (pmk_E G_BadLimit_init (hr.mono (by omega)) rfl B.g_BadLimit (pa_cons (pv 2) pa_nil)))) pss_nil)))
      (pss_one (ps_fld (pv 0) (pe_fn G_distinct (hr.mono (by omega)) rfl (pa_cons (pe_frz (pe_callTy call_list_of rfl B.list_ (by decide +kernel) (pa_cons (pv 1) pa_nil))) pa_nil)) rfl)))
theorem ok_Sheet_listed (B : Txt w K mg C) (Y : Fl K C) (M : Meth K C.Sheet "listed" f) (hf : PySem.W.fnIn K f = true) (F : FunD K "listed" "Sheet.listed" (defArgs s_Sheet_listed) (defBody s_Sheet_listed) (defScope s_Sheet_listed) [] [] f fd) : OkM P w K mg base C.Sheet "listed" 1 ["self"] (upL K (q_Sheet_listed C)) := by
  refine ⟨f, fd, M, hf, F.bindsN (fun _ _ _ _ _ _ us hl => match us, hl with | [_], _ => rfl), ?_⟩
  refine F.ok sc_Sheet_listed (fun vs H Q E h => len_upL (fun _ _ h => ql_Sheet_listed h) h) (fun cdv A outer s H vs Q E hr h => ⟨t_Sheet_listed K C, PSs.nox ?_, run_upL (fun s c H0 => l_Sheet_listed Y) (pr_Sheet_listed C) h⟩)
  exact (pss_one (ps_ret (pe_callTy call_list_of rfl B.list_ (by decide +kernel) (pa_cons (pe_fldR (pv 0)) pa_nil))))
theorem ok_Sheet_contains (B : Txt w K mg C) (Y : Fl K C) (M : Meth K C.Sheet "__contains__" f) (hf : PySem.W.fnIn K f = true) (F : FunD K "__contains__" "Sheet.__contains__" (defArgs s_Sheet_contains) (defBody s_Sheet_contains) (defScope s_Sheet_contains) [] [] f fd) : OkM P w K mg base C.Sheet "__contains__" 1 ["self", "limit"] (up K (q_Sheet_contains C)) := by
  refine ⟨f, fd, M, hf, F.bindsN (fun _ _ _ _ _ _ us hl => match us, hl with | [_, _], _ => rfl), ?_⟩
  refine F.ok sc_Sheet_contains (fun vs H Q E h => len_up (fun _ _ h => ql_Sheet_contains h) h) (fun cdv A outer s H vs Q E hr h => ⟨t_Sheet_contains K C, PSs.nox ?_, run_up (fun s c H0 => l_Sheet_contains Y) (pr_Sheet_contains C) h⟩)
  exact (pss_one (ps_ret (pe_cmpR (op_inP hr.units) (pv 1) (pe_fldR (pv 0)) rfl)))
theorem ok_Sheet_or (B : Txt w K mg C) (Y : Fl K C) (M : Meth K C.Sheet "__or__" f) (hf : PySem.W.fnIn K f = true) (F : FunD K "__or__" "Sheet.__or__" (defArgs s_Sheet_or) (defBody s_Sheet_or) (defScope s_Sheet_or) [] [] f fd) (G_Sheet_init : OkIX P w K mg base C.Sheet 12 ["self", "limits"] (upIC K C.Sheet (q_Sheet_init C))) (G_Sheet_listed : OkM P w K mg base C.Sheet "listed" 1 ["self"] (upL K (q_Sheet_listed C))) : OkM P w K mg base C.Sheet "__or__" 14 ["self", "other"] (up K (q_Sheet_or C)) := by
  refine ⟨f, fd, M, hf, F.bindsN (fun _ _ _ _ _ _ us hl => match us, hl with | [_, _], _ => rfl), ?_⟩
  refine F.ok sc_Sheet_or (fun vs H Q E h => len_up (fun _ _ h => ql_Sheet_or h) h) (fun cdv A outer s H vs Q E hr h => ⟨t_Sheet_or K C, PSs.nox ?_, run_up (fun s c H0 => l_Sheet_or Y) (pr_Sheet_or C) h⟩)
  exact (pss_one (ps_ret (pe_frz (pe_mkX (E := fun _ => E0) G_Sheet_init (hr.mono (by omega)) rfl B.g_Sheet (fun _ => pass00) (pa_cons (pe_op op_catL (pe_methM0 (pv 0) G_Sheet_listed (hr.mono (by omega)) Y.z_Sheet) (pe_methM0 (pv 1) G_Sheet_listed (hr.mono (by omega)) Y.z_Sheet)) pa_nil)))))
theorem ok_Sheet_and (B : Txt w K mg C) (Y : Fl K C) (M : Meth K C.Sheet "__and__" f) (hf : PySem.W.fnIn K f = true) (F : FunD K "__and__" "Sheet.__and__" (defArgs s_Sheet_and) (defBody s_Sheet_and) (defScope s_Sheet_and) [] [] f fd) (G_Sheet_listed : OkM P w K mg base C.Sheet "listed" 1 ["self"] (upL K (q_Sheet_listed C))) (G_Sheet_init : OkIX P w K mg base C.Sheet 12 ["self", "limits"] (upIC K C.Sheet (q_Sheet_init C))) : OkM P w K mg base C.Sheet "__and__" 14 ["self", "other"] (up K (q_Sheet_and C)) := by
  refine ⟨f, fd, M, hf, F.bindsN (fun _ _ _ _ _ _ us hl => match us, hl with | [_, _], _ => rfl), ?_⟩
  refine F.ok sc_Sheet_and (fun vs H Q E h => len_up (fun _ _ h => ql_Sheet_and h) h) (fun cdv A outer s H vs Q E hr h => ⟨t_Sheet_and K C, PSs.nox ?_, run_up (fun s c H0 => l_Sheet_and Y) (pr_Sheet_and C) h⟩)
  exact (pss_cons (ps_set (i := 2) sc_Sheet_and.nd rfl (Or.inr rfl) (pe_frz (pe_methM0 (pv 1) G_Sheet_listed (hr.mono (by omega)) Y.z_Sheet)))
      (pss_one (ps_ret (pe_frz (pe_mkX (E := fun _ => E0) G_Sheet_init (hr.mono (by omega)) rfl B.g_Sheet (fun _ => pass00) (pa_cons (pe_lc (own := [("limit", 3)]) (g := (gName 3)) (tt := (tTest (tOp (rInP K id) (tVar 3) (tVar 2)))) rfl sc_Sheet_and.nd (pi_list (pe_fldR (pv 0))) (blkOk_by (N := n_Sheet_and) (sc := defScope s_Sheet_and) (by decide +kernel)) (fun _ _ _ _ _ => (pg_name (i := 3) sc_Sheet_and.nd rfl (Or.inl rfl))) (fun _ _ _ _ _ => (pts_one (pt_cmpR (op_inP hr.units) (pv 3) (pv 2) rfl))) (fun _ _ _ _ _ => (pv 3))) pa_nil))))))
theorem ok_Sheet_sub (B : Txt w K mg C) (Y : Fl K C) (M : Meth K C.Sheet "__sub__" f) (hf : PySem.W.fnIn K f = true) (F : FunD K "__sub__" "Sheet.__sub__" (defArgs s_Sheet_sub) (defBody s_Sheet_sub) (defScope s_Sheet_sub) [] [] f fd) (G_Sheet_listed : OkM P w K mg base C.Sheet "listed" 1 ["self"] (upL K (q_Sheet_listed C))) (G_Sheet_init : OkIX P w K mg base C.Sheet 12 ["self", "limits"] (upIC K C.Sheet (q_Sheet_init C))) : OkM P w K mg base C.Sheet "__sub__" 14 ["self", "other"] (up K (q_Sheet_sub C)) := by
  refine ⟨f, fd, M, hf, F.bindsN (fun _ _ _ _ _ _ us hl => match us, hl with | [_, _], _ => rfl), ?_⟩
  refine F.ok sc_Sheet_sub (fun vs H Q E h => len_up (fun _ _ h => ql_Sheet_sub h) h) (fun cdv A outer s H vs Q E hr h => ⟨t_Sheet_sub K C, PSs.nox ?_, run_up (fun s c H0 => l_Sheet_sub Y) (pr_Sheet_sub C) h⟩)
  exact (pss_cons (ps_set (i := 2) sc_Sheet_sub.nd rfl (Or.inr rfl) (pe_frz (pe_methM0 (pv 1) G_Sheet_listed (hr.mono (by omega)) Y.z_Sheet)))
      (pss_one (ps_ret (pe_frz (pe_mkX (E := fun _ => E0) G_Sheet_init (hr.mono (by omega)) rfl B.g_Sheet (fun _ => pass00) (pa_cons (pe_lc (own := [("limit", 3)]) (g := (gName 3)) (tt := (tTest (tOp (rInP K not) (tVar 3) (tVar 2)))) rfl sc_Sheet_sub.nd (pi_list (pe_fldR (pv 0))) (blkOk_by (N := n_Sheet_sub) (sc := defScope s_Sheet_sub) (by decide +kernel)) (fun _ _ _ _ _ => (pg_name (i := 3) sc_Sheet_sub.nd rfl (Or.inl rfl))) (fun _ _ _ _ _ => (pts_one (pt_cmpR (op_notInP hr.units) (pv 3) (pv 2) rfl))) (fun _ _ _ _ _ => (pv 3))) pa_nil))))))
theorem ok_Sheet_le (B : Txt w K mg C) (Y : Fl K C) (M : Meth K C.Sheet "__le__" f) (hf : PySem.W.fnIn K f = true) (F : FunD K "__le__" "Sheet.__le__" (defArgs s_Sheet_le) (defBody s_Sheet_le) (defScope s_Sheet_le) [] [] f fd) (G_Sheet_listed : OkM P w K mg base C.Sheet "listed" 1 ["self"] (upL K (q_Sheet_listed C))) : OkM P w K mg base C.Sheet "__le__" 2 ["self", "other"] (up K (q_Sheet_le C)) := by
  refine ⟨f, fd, M, hf, F.bindsN (fun _ _ _ _ _ _ us hl => match us, hl with | [_, _], _ => rfl), ?_⟩
  refine F.ok sc_Sheet_le (fun vs H Q E h => len_up (fun _ _ h => ql_Sheet_le h) h) (fun cdv A outer s H vs Q E hr h => ⟨t_Sheet_le K C, PSs.nox ?_, run_up (fun s c H0 => l_Sheet_le Y) (pr_Sheet_le C) h⟩)
  exact (pss_cons (ps_set (i := 2) sc_Sheet_le.nd rfl (Or.inr rfl) (pe_frz (pe_methM0 (pv 1) G_Sheet_listed (hr.mono (by omega)) Y.z_Sheet)))
      (pss_one (ps_ret (pe_callB (cr_all rfl) rfl B.all_ (by decide +kernel) (pa_cons (pe_lc (own := [("limit", 3)]) (g := (gName 3)) (tt := tYes) rfl sc_Sheet_le.nd (pi_list (pe_fldR (pv 0))) (blkOk_by (N := n_Sheet_le) (sc := defScope s_Sheet_le) (by decide +kernel)) (fun _ _ _ _ _ => (pg_name (i := 3) sc_Sheet_le.nd rfl (Or.inl rfl))) (fun _ _ _ _ _ => pts_nil) (fun _ _ _ _ _ => (pe_cmpR (op_inP hr.units) (pv 3) (pv 2) rfl))) pa_nil)))))
theorem ok_Sheet_eq (B : Txt w K mg C) (Y : Fl K C) (M : Meth K C.Sheet "__eq__" f) (hf : PySem.W.fnIn K f = true) (F : FunD K "__eq__" "Sheet.__eq__" (defArgs s_Sheet_eq) (defBody s_Sheet_eq) (defScope s_Sheet_eq) [] [] f fd) : OkM P w K mg base C.Sheet "__eq__" 1 ["self", "other"] (up K (q_Sheet_eq C)) := by
  refine ⟨f, fd, M, hf, F.bindsN (fun _ _ _ _ _ _ us hl => match us, hl with | [_, _], _ => rfl), ?_⟩
  refine F.ok sc_Sheet_eq (fun vs H Q E h => len_up (fun _ _ h => ql_Sheet_eq h) h) (fun cdv A outer s H vs Q E hr h => ⟨t_Sheet_eq K C, PSs.nox ?_, run_up (fun s c H0 => l_Sheet_eq Y) (pr_Sheet_eq C) h⟩)
  exact (pss_one (ps_ret (pe_and (pe_callB call_isiD rfl B.isinstance (by decide +kernel) (pa_cons (pv 1) (pa_cons (pe_glob rfl B.g_Sheet rfl) pa_nil))) (pe_one (pe_cmpR (op_eqP hr.units) (pe_fldR (pv 0)) (pe_fldR (pv 1)) (nomark _))))))
theorem ok_law_size (B : Txt w K mg C) (Y : Fl K C) (F : FnP K "_law_size" s_law_size f fd) (hm : mg "_law_size" = some (.ref f)) (G_law_take : OkF P w K mg base "_law_take" 2 ["_law_source_here", "_law_many"] (up K q_law_take)) : OkF P w K mg base "_law_size" 3 ["_law_source_here", "_law_small", "_law_large"] (up K (q_law_size)) := by
  refine ⟨f, fd, hm, F.kp, F.bindsN (fun _ _ _ _ _ _ us hl => match us, hl with | [_, _, _], _ => rfl), ?_⟩
  refine F.ok sc_law_size (fun vs H Q E h => len_up (fun _ _ h => ql_law_size h) h) (fun cdv A outer s H vs Q E hr h => ⟨t_law_size K C, PSs.nox ?_, run_up (fun s c H0 => l_law_size Y) (pr_law_size C) h⟩)
  exact (pss_cons (ps_if (pt_cmpR op_eq (pe_fn G_law_take (hr.mono (by omega)) rfl (pa_cons (pv 0) (pa_cons pe_int pa_nil))) pe_int (nomark _)) (pss_one (ps_ret (pe_op op_add (pe_op op_add (pv 1) pe_int) (pe_fn G_law_take (hr.mono (by omega)) rfl (pa_cons (pv 0) (pa_cons (pe_op op_sub (pv 2) (pv 1)) pa_nil)))))) pss_nil)
      (pss_one (ps_ret (pe_op op_add pe_int (pe_fn G_law_take (hr.mono (by omega)) rfl (pa_cons (pv 0) (pa_cons (pv 1) pa_nil)))))))
theorem ok_law_word (B : Txt w K mg C) (Y : Fl K C) (F : FnP K "_law_word" s_law_word f fd) (hm : mg "_law_word" = some (.ref f)) (G_law_take : OkF P w K mg base "_law_take" 2 ["_law_source_here", "_law_many"] (up K q_law_take)) : OkF P w K mg base "_law_word" 3 ["_law_source_here"] (up K (q_law_word)) := by
  refine ⟨f, fd, hm, F.kp, F.bindsN (fun _ _ _ _ _ _ us hl => match us, hl with | [_], _ => rfl), ?_⟩
  refine F.ok sc_law_word (fun vs H Q E h => len_up (fun _ _ h => ql_law_word h) h) (fun cdv A outer s H vs Q E hr h => ⟨t_law_word K C, PSs.nox ?_, run_up (fun s c H0 => l_law_word Y) (pr_law_word C) h⟩)
  exact (pss_cons (ps_set (i := 1) sc_law_word.nd rfl (Or.inl rfl) pe_str)
      (pss_cons (ps_set (i := 2) sc_law_word.nd rfl (Or.inl rfl) (pe_ix ix_str (pv 1) (pe_fn G_law_take (hr.mono (by omega)) rfl (pa_cons (pv 0) (pa_cons pe_int pa_nil))) (fun _ _ => rfl)))
      (pss_cons (ps_set (i := 3) sc_law_word.nd rfl (Or.inl rfl) (pe_fn G_law_take (hr.mono (by omega)) rfl (pa_cons (pv 0) (pa_cons pe_int pa_nil))))
      (pss_cons (ps_if (pt_cmpR op_eq (pv 3) pe_int (nomark _)) (pss_one (ps_set (i := 3) sc_law_word.nd rfl (Or.inl rfl) (pe_fn G_law_take (hr.mono (by omega)) rfl (pa_cons (pv 0) (pa_cons pe_int pa_nil))))) (pss_one (ps_set (i := 3) sc_law_word.nd rfl (Or.inl rfl) (pe_callB (call_max2 rfl) rfl B.max_ (by decide +kernel) (pa_cons pe_int (pa_cons (pe_op op_sub (pv 3) pe_int) pa_nil))))))
      (pss_cons (ps_for PassesOwn.never rfl (pi_range1 rfl B.range (pa_cons (pv 3) pa_nil)) (pg_name (i := 4) sc_law_word.nd rfl (Or.inl rfl)) (pss_one (ps_set (i := 2) sc_law_word.nd rfl (Or.inl rfl) (pe_op op_add_str (pv 2) (pe_ix ix_str (pe_op op_add_str (pv 1) pe_str) (pe_fn G_law_take (hr.mono (by omega)) rfl (pa_cons (pv 0) (pa_cons pe_int pa_nil))) (fun _ _ => rfl))))))
      (pss_one (ps_ret (pv 2))))))))
theorem ok_law_names (B : Txt w K mg C) (Y : Fl K C) (F : FnP K "_law_names" s_law_names f fd) (hm : mg "_law_names" = some (.ref f)) (G_law_word : OkF P w K mg base "_law_word" 3 ["_law_source_here"] (up K (q_law_word))) (G_law_take : OkF P w K mg base "_law_take" 2 ["_law_source_here", "_law_many"] (up K q_law_take)) : OkF P w K mg base "_law_names" 4 ["_law_source_here", "_law_many"] (up K (q_law_names)) := by
  refine ⟨f, fd, hm, F.kp, F.bindsN (fun _ _ _ _ _ _ us hl => match us, hl with | [_, _], _ => rfl), ?_⟩
  refine F.ok sc_law_names (fun vs H Q E h => len_up (fun _ _ h => ql_law_names h) h) (fun cdv A outer s H vs Q E hr h => ⟨t_law_names K C, PSs.nox ?_, run_up (fun s c H0 => l_law_names Y) (pr_law_names C) h⟩)
  exact (pss_cons (ps_set (i := 2) sc_law_names.nd rfl (Or.inr rfl) (pe_lst pa_nil))
      (pss_cons (ps_for PassesOwn.never rfl (pi_range1 rfl B.range (pa_cons (pv 1) pa_nil)) (pg_name (i := 3) sc_law_names.nd rfl (Or.inl rfl)) (pss_cons (ps_set (i := 4) sc_law_names.nd rfl (Or.inr rfl) (pe_fn G_law_word (hr.mono (by omega)) rfl (pa_cons (pv 0) pa_nil)))
      (pss_cons (ps_if (PW.pt (pw_and (pt_cmpR op_gt (pv 3) pe_int (nomark _)) (pw_and1 (pt_cmpR op_eq (pe_fn G_law_take (hr.mono (by omega)) rfl (pa_cons (pv 0) (pa_cons pe_int pa_nil))) pe_int (nomark _))))) (pss_one (ps_set (i := 4) sc_law_names.nd rfl (Or.inr rfl) (pe_op op_add_str (pe_slice sl_str (pe_ix ix_list (pv 2) (pe_fn G_law_take (hr.mono (by omega)) rfl (pa_cons (pv 0) (pa_cons (pv 3) pa_nil))) (fun _ _ => rfl)) po_none (po_some pe_int)) (pe_ix ix_str (pv 4) (pe_op op_sub (pe_callB call_len_str rfl B.len (by decide +kernel) (pa_cons (pv 4) pa_nil)) pe_int) (fun _ _ => rfl))))) pss_nil)
      (pss_cons (ps_set (i := 5) sc_law_names.nd rfl (Or.inl rfl) (pe_frz (pe_op op_catL (pe_lst (pa_cons (pv 4) pa_nil)) (pe_lc (own := [("_law_digit", 8)]) (g := (gName 8)) (tt := tYes) rfl sc_law_names.nd (pi_str pe_str) (blkOk_by (N := n_law_names) (sc := defScope s_law_names) (by decide +kernel)) (fun _ _ _ _ _ => (pg_name (i := 8) sc_law_names.nd rfl (Or.inl rfl))) (fun _ _ _ _ _ => pts_nil) (fun _ _ _ _ _ => (pe_op op_add_str (pe_slice sl_str (pv 4) po_none (po_some pe_int)) (pv 8)))))))
      (pss_cons (ps_setLc (i := 6) (own := [("_law_one", 7)]) (g := (gName 7)) (tt := (tAnd (tTest (tOp (rIn K true) (tVar 7) (tVar 2))) (tTest (tOp rNe (tVar 7) (tC (.str "frame")))))) rfl sc_law_names.nd rfl rfl (sw_true rfl rfl rfl (by decide +kernel)) (pi_list (pv 5)) (blkOk_by (N := n_law_names) (sc := defScope s_law_names) (by decide +kernel)) (fun _ _ _ _ _ => (pg_name (i := 7) sc_law_names.nd rfl (Or.inl rfl))) (fun _ _ _ _ _ => (pts_one (PW.pt (pw_and (pt_cmpR op_notIn_seq (pv 7) (pv 2) rfl) (pw_and1 (pt_cmpR op_ne (pv 7) pe_str (nomark _))))))) (fun _ _ _ _ _ => (pv 7)))
      (pss_one (ps_expr (pe_bm PySem.F.plainAttrs_list PySem.F.slot_list_append PySem.F.type_list_append mt_append (pv 2) (pa_cons (pe_ix ix_list (pv 6) pe_int (fun _ _ => rfl)) pa_nil)))))))))
      (pss_one (ps_frz 2 (ps_ret (pv 2))))))
theorem ok_law_number (B : Txt w K mg C) (Y : Fl K C) (F : FnP K "_law_number" s_law_number f fd) (hm : mg "_law_number" = some (.ref f)) (G_law_take : OkF P w K mg base "_law_take" 2 ["_law_source_here", "_law_many"] (up K q_law_take)) : OkF P w K mg base "_law_number" 3 ["_law_source_here"] (up K (q_law_number)) := by
  refine ⟨f, fd, hm, F.kp, F.bindsN (fun _ _ _ _ _ _ us hl => match us, hl with | [_], _ => rfl), ?_⟩
  refine F.ok sc_law_number (fun vs H Q E h => len_up (fun _ _ h => ql_law_number h) h) (fun cdv A outer s H vs Q E hr h => ⟨t_law_number K C, PSs.nox ?_, run_up (fun s c H0 => l_law_number Y) (pr_law_number C) h⟩)
  exact (pss_cons (ps_set (i := 1) sc_law_number.nd rfl (Or.inl rfl) (pe_fn G_law_take (hr.mono (by omega)) rfl (pa_cons (pv 0) (pa_cons pe_int pa_nil))))
      (pss_cons (ps_if (pt_cmpR op_lt (pv 1) pe_int (nomark _)) (pss_one (ps_ret (pe_op op_sub (pe_fn G_law_take (hr.mono (by omega)) rfl (pa_cons (pv 0) (pa_cons pe_int pa_nil))) pe_int))) pss_nil)
      (pss_cons (ps_set (i := 2) sc_law_number.nd rfl (Or.inl rfl) pe_int)
      (pss_cons (ps_for PassesOwn.never rfl (pi_range1 rfl B.range (pa_cons (pe_op op_add pe_int (pe_op op_mulW pe_int (pe_op op_sub (pv 1) pe_int))) pa_nil)) (pg_name (i := 3) sc_law_number.nd rfl (Or.inl rfl)) (pss_one (ps_set (i := 2) sc_law_number.nd rfl (Or.inl rfl) (pe_op op_add (pe_op op_mulW (pv 2) pe_int) (pe_fn G_law_take (hr.mono (by omega)) rfl (pa_cons (pv 0) (pa_cons pe_int pa_nil)))))))
      (pss_one (ps_ret (pe_op op_sub (pv 2) (pe_op op_mulW (pe_op op_mulW pe_int (pv 2)) (pe_fn G_law_take (hr.mono (by omega)) rfl (pa_cons (pv 0) (pa_cons pe_int pa_nil)))))))))))
theorem ok_law_times (B : Txt w K mg C) (Y : Fl K C) (F : FnP K "_law_times" s_law_times f fd) (hm : mg "_law_times" = some (.ref f)) (G_law_number : OkF P w K mg base "_law_number" 3 ["_law_source_here"] (up K (q_law_number))) : OkF P w K mg base "_law_times" 4 ["_law_source_here"] (up K (q_law_times)) := by
  refine ⟨f, fd, hm, F.kp, F.bindsN (fun _ _ _ _ _ _ us hl => match us, hl with | [_], _ => rfl), ?_⟩
  refine F.ok sc_law_times (fun vs H Q E h => len_up (fun _ _ h => ql_law_times h) h) (fun cdv A outer s H vs Q E hr h => ⟨t_law_times K C, PSs.nox ?_, run_up (fun s c H0 => l_law_times Y) (pr_law_times C) h⟩)
  exact (pss_cons (ps_set (i := 1) sc_law_times.nd rfl (Or.inl rfl) (pe_fn G_law_number (hr.mono (by omega)) rfl (pa_cons (pv 0) pa_nil)))
      (pss_cons (ps_if (pt_cmpR op_eq (pv 1) pe_int (nomark _)) (pss_one (ps_ret pe_int)) pss_nil)
      (pss_one (ps_ret (pv 1)))))
theorem ok_law_stack (B : Txt w K mg C) (Y : Fl K C) (F : FnP K "_law_stack" s_law_stack f fd) (hm : mg "_law_stack" = some (.ref f)) (G_law_take : OkF P w K mg base "_law_take" 2 ["_law_source_here", "_law_many"] (up K q_law_take)) : OkF P w K mg base "_law_stack" 3 ["_law_source_here"] (up K (q_law_stack)) := by
  refine ⟨f, fd, hm, F.kp, F.bindsN (fun _ _ _ _ _ _ us hl => match us, hl with | [_], _ => rfl), ?_⟩
  refine F.ok sc_law_stack (fun vs H Q E h => len_up (fun _ _ h => ql_law_stack h) h) (fun cdv A outer s H vs Q E hr h => ⟨t_law_stack K C, PSs.nox ?_, run_up (fun s c H0 => l_law_stack Y) (pr_law_stack C) h⟩)
  exact (pss_cons (ps_set (i := 1) sc_law_stack.nd rfl (Or.inl rfl) pe_str)
      (pss_cons (ps_set (i := 2) sc_law_stack.nd rfl (Or.inl rfl) (pe_fn G_law_take (hr.mono (by omega)) rfl (pa_cons (pv 0) (pa_cons pe_int pa_nil))))
      (pss_cons (ps_if (pt_cmpR op_eq (pv 2) pe_int (nomark _)) (pss_one (ps_set (i := 2) sc_law_stack.nd rfl (Or.inl rfl) (pe_fn G_law_take (hr.mono (by omega)) rfl (pa_cons (pv 0) (pa_cons pe_int pa_nil))))) (pss_one (ps_set (i := 2) sc_law_stack.nd rfl (Or.inl rfl) (pe_callB (call_max2 rfl) rfl B.max_ (by decide +kernel) (pa_cons pe_int (pa_cons (pe_op op_sub (pv 2) pe_int) pa_nil))))))
      (pss_cons (ps_set (i := 3) sc_law_stack.nd rfl (Or.inl rfl) pe_str)
      (pss_cons (ps_for PassesOwn.never rfl (pi_range1 rfl B.range (pa_cons (pv 2) pa_nil)) (pg_name (i := 4) sc_law_stack.nd rfl (Or.inl rfl)) (pss_one (ps_set (i := 3) sc_law_stack.nd rfl (Or.inl rfl) (pe_op op_add_str (pv 3) (pe_ix ix_str (pv 1) (pe_fn G_law_take (hr.mono (by omega)) rfl (pa_cons (pv 0) (pa_cons (pe_callB call_len_str rfl B.len (by decide +kernel) (pa_cons (pv 1) pa_nil)) pa_nil))) (fun _ _ => rfl))))))
      (pss_one (ps_ret (pv 3))))))))
theorem ok_law_fresh (B : Txt w K mg C) (Y : Fl K C) (F : FnP K "_law_fresh" s_law_fresh f fd) (hm : mg "_law_fresh" = some (.ref f)) (G_law_take : OkF P w K mg base "_law_take" 2 ["_law_source_here", "_law_many"] (up K q_law_take)) (G_law_times : OkF P w K mg base "_law_times" 4 ["_law_source_here"] (up K (q_law_times))) (G_law_number : OkF P w K mg base "_law_number" 3 ["_law_source_here"] (up K (q_law_number))) (G_law_stack : OkF P w K mg base "_law_stack" 3 ["_law_source_here"] (up K (q_law_stack))) : OkF P w K mg base "_law_fresh" 5 ["_law_source_here", "_law_parts", "_law_measures"] (up K (q_law_fresh)) := by
  refine ⟨f, fd, hm, F.kp, F.bindsN (fun _ _ _ _ _ _ us hl => match us, hl with | [_, _, _], _ => rfl), ?_⟩
  refine F.ok sc_law_fresh (fun vs H Q E h => len_up (fun _ _ h => ql_law_fresh h) h) (fun cdv A outer s H vs Q E hr h => ⟨t_law_fresh K C, PSs.nox ?_, run_up (fun s c H0 => l_law_fresh Y) (pr_law_fresh C) h⟩)
  exact (pss_cons (ps_set (i := 3) sc_law_fresh.nd rfl (Or.inr rfl) (pe_ix ix_list (pv 1) (pe_fn G_law_take (hr.mono (by omega)) rfl (pa_cons (pv 0) (pa_cons (pe_callB call_len_seq rfl B.len (by decide +kernel) (pa_cons (pv 1) pa_nil)) pa_nil))) (fun _ _ => rfl)))
      (pss_cons (ps_setLc (i := 4) (own := [("_law_name", 8)]) (g := (gName 8)) (tt := (tTest (tOp rNe (tVar 8) (tVar 3)))) rfl sc_law_fresh.nd rfl rfl (sw_true rfl rfl rfl (by decide +kernel)) (pi_list (pv 1)) (blkOk_by (N := n_law_fresh) (sc := defScope s_law_fresh) (by decide +kernel)) (fun _ _ _ _ _ => (pg_name (i := 8) sc_law_fresh.nd rfl (Or.inl rfl))) (fun _ _ _ _ _ => (pts_one (pt_cmpR op_ne (pv 8) (pv 3) (nomark _)))) (fun _ _ _ _ _ => (pv 8)))
      (pss_cons (ps_set (i := 5) sc_law_fresh.nd rfl (Or.inl rfl) (pe_ix ix_list (pv 4) (pe_fn G_law_take (hr.mono (by omega)) rfl (pa_cons (pv 0) (pa_cons (pe_callB call_len_seq rfl B.len (by decide +kernel) (pa_cons (pv 4) pa_nil)) pa_nil))) (fun _ _ => rfl)))
      (pss_cons (ps_set (i := 6) sc_law_fresh.nd rfl (Or.inl rfl) (pe_op op_add pe_int (pe_fn G_law_take (hr.mono (by omega)) rfl (pa_cons (pv 0) (pa_cons pe_int pa_nil)))))
      (pss_cons (ps_set (i := 7) sc_law_fresh.nd rfl (Or.inl rfl) (pe_lst pa_nil))
      (pss_cons (ps_for PassesOwn.never rfl (pi_list (pv 2)) (pg_name (i := 8) sc_law_fresh.nd rfl (Or.inl rfl)) (pss_one (ps_if (pt_cmpR op_eq (pe_fn G_law_take (hr.mono (by omega)) rfl (pa_cons (pv 0) (pa_cons (pv 6) pa_nil))) pe_int (nomark _)) (pss_one (ps_expr (pe_bm PySem.F.plainAttrs_list PySem.F.slot_list_append PySem.F.type_list_append mt_append (pv 7) (pa_cons (pe_tup (pa_cons (pv 8) (pa_cons (pe_fn G_law_times (hr.mono (by omega)) rfl (pa_cons (pv 0) pa_nil)) pa_nil))) pa_nil)))) pss_nil)))
      (pss_cons (ps_set (i := 9) sc_law_fresh.nd rfl (Or.inl rfl) (pe_tup (pa_cons (pe_fn G_law_number (hr.mono (by omega)) rfl (pa_cons (pv 0) pa_nil)) (pa_cons (pe_callTy call_tuple_of rfl B.tuple_ (by decide +kernel) (pa_cons (pv 7) pa_nil)) pa_nil))))
      (pss_cons (ps_if (pt_cmpR op_eq (pe_fn G_law_take (hr.mono (by omega)) rfl (pa_cons (pv 0) (pa_cons pe_int pa_nil))) pe_int (nomark _)) (pss_one (ps_ret (pe_tup (pa_cons pe_str (pa_cons (pv 3) (pa_cons (pv 5) (pa_cons (pv 9) pa_nil))))))) pss_nil)
      (pss_one (ps_ret (pe_tup (pa_cons pe_str (pa_cons (pv 3) (pa_cons (pv 5) (pa_cons (pe_fn G_law_stack (hr.mono (by omega)) rfl (pa_cons (pv 0) pa_nil)) (pa_cons (pv 9) pa_nil))))))))))))))))
theorem ok_law_built (B : Txt w K mg C) (Y : Fl K C) (F : FnP K "_law_built" s_law_built f fd) (hm : mg "_law_built" = some (.ref f)) : OkF P w K mg base "_law_built" 1 ["_law_kind", "_law_upper", "_law_lower", "_law_stack_here", "_law_whole"] (up K (q_law_built)) := by
  refine ⟨f, fd, hm, F.kp, F.bindsN (fun _ _ _ _ _ _ us hl => match us, hl with | [_, _, _, _, _], _ => rfl), ?_⟩
  refine F.ok sc_law_built (fun vs H Q E h => len_up (fun _ _ h => ql_law_built h) h) (fun cdv A outer s H vs Q E hr h => ⟨t_law_built K C, PSs.nox ?_, run_up (fun s c H0 => l_law_built Y) (pr_law_built C) h⟩)
  exact (pss_cons (ps_if (pt_cmpR op_eq (pv 0) pe_str (nomark _)) (pss_one (ps_ret (pe_tup (pa_cons pe_str (pa_cons (pv 1) (pa_cons (pv 2) (pa_cons (pv 4) pa_nil))))))) pss_nil)
      (pss_one (ps_ret (pe_tup (pa_cons pe_str (pa_cons (pv 1) (pa_cons (pv 2) (pa_cons (pv 3) (pa_cons (pv 4) pa_nil)))))))))
theorem ok_law_near (B : Txt w K mg C) (Y : Fl K C) (F : FnP K "_law_near" s_law_near f fd) (hm : mg "_law_near" = some (.ref f)) (G_law_take : OkF P w K mg base "_law_take" 2 ["_law_source_here", "_law_many"] (up K q_law_take)) (G_law_built : OkF P w K mg base "_law_built" 1 ["_law_kind", "_law_upper", "_law_lower", "_law_stack_here", "_law_whole"] (up K (q_law_built))) : OkF P w K mg base "_law_near" 3 ["_law_source_here", "_law_old", "_law_other"] (up K (q_law_near)) := by
  refine ⟨f, fd, hm, F.kp, F.bindsN (fun _ _ _ _ _ _ us hl => match us, hl with | [_, _, _], _ => rfl), ?_⟩
  refine F.ok sc_law_near (fun vs H Q E h => len_up (fun _ _ h => ql_law_near h) h) (fun cdv A outer s H vs Q E hr h => ⟨t_law_near K C, PSs.nox ?_, run_up (fun s c H0 => l_law_near Y) (pr_law_near C) h⟩)
  exact (pss_cons (ps_par3 rfl sc_law_near.nd rfl rfl rfl (by decide) (by decide) (by decide) rfl rfl rfl (pa_cons (pe_ix ix_tup (pv 1) pe_int (fun _ _ => rfl)) (pa_cons (pe_ix ix_tup (pv 1) pe_int (fun _ _ => rfl)) (pa_cons (pe_ix ix_tup (pv 1) pe_int (fun _ _ => rfl)) pa_nil))) (by rfl))
      (pss_cons (ps_set (i := 3) sc_law_near.nd rfl (Or.inl rfl) (pe_ifExp (pt_cmpR op_eq (pv 5) pe_str (nomark _)) (pe_ix ix_tup (pv 1) pe_int (fun _ _ => rfl)) pe_str))
      (pss_cons (ps_asg (pe_ix ix_tup (pv 1) (pe_op op_sub (pe_callB call_len_seq rfl B.len (by decide +kernel) (pa_cons (pv 1) pa_nil)) pe_int) (fun _ _ => rfl)) (pg_tup rfl (pgs_cons (pg_name (i := 8) sc_law_near.nd rfl (Or.inl rfl)) (pgs_cons (pg_name (i := 9) sc_law_near.nd rfl (Or.inl rfl)) pgs_nil))))
      (pss_cons (ps_set (i := 4) sc_law_near.nd rfl (Or.inl rfl) (pe_fn G_law_take (hr.mono (by omega)) rfl (pa_cons (pv 0) (pa_cons pe_int pa_nil))))
      (pss_cons (ps_if (pt_cmpR op_eq (pv 4) pe_int (nomark _)) (pss_one (ps_set (i := 5) sc_law_near.nd rfl (Or.inl rfl) (pe_ix ix_tup (pv 2) pe_int (fun _ _ => rfl)))) pss_nil)
      (pss_cons (ps_if (pt_cmpR op_eq (pv 4) pe_int (nomark _)) (pss_one (ps_par rfl sc_law_near.nd rfl rfl (by decide) rfl rfl (pa_cons (pv 7) (pa_cons (pv 6) pa_nil)) (by rfl))) pss_nil)
      (pss_cons (ps_if (pt_cmpR op_eq (pv 4) pe_int (nomark _)) (pss_one (ps_par rfl sc_law_near.nd rfl rfl (by decide) rfl rfl (pa_cons (pe_ix ix_tup (pv 2) pe_int (fun _ _ => rfl)) (pa_cons (pe_ix ix_tup (pv 2) pe_int (fun _ _ => rfl)) pa_nil)) (by rfl))) pss_nil)
      (pss_cons (ps_if (pt_cmpR op_eq (pv 4) pe_int (nomark _)) (pss_one (ps_par rfl sc_law_near.nd rfl rfl (by decide) rfl rfl (pa_cons pe_str (pa_cons (pe_ifExp (pt_cmpR op_eq (pe_ix ix_tup (pv 2) pe_int (fun _ _ => rfl)) pe_str (nomark _)) (pe_ix ix_tup (pv 2) pe_int (fun _ _ => rfl)) (pe_op op_add_str (pv 3) pe_str)) pa_nil)) (by rfl))) pss_nil)
      (pss_cons (ps_if (pt_cmpR op_eq (pv 4) pe_int (nomark _)) (pss_one (ps_set (i := 8) sc_law_near.nd rfl (Or.inl rfl) (pe_ifExp (pt_cmpR op_gt (pv 8) pe_int (nomark _)) (pe_op op_sub (pv 8) pe_int) (pe_op op_add (pv 8) pe_int)))) pss_nil)
      (pss_cons (ps_if (pt_cmpR op_eq (pv 4) pe_int (nomark _)) (pss_one (ps_set (i := 8) sc_law_near.nd rfl (Or.inl rfl) (pe_ix ix_tup (pe_ix ix_tup (pv 2) (pe_op op_sub (pe_callB call_len_seq rfl B.len (by decide +kernel) (pa_cons (pv 2) pa_nil)) pe_int) (fun _ _ => rfl)) pe_int (fun _ _ => rfl)))) pss_nil)
      (pss_cons (ps_if (pt_cmpR op_eq (pv 4) pe_int (nomark _)) (pss_one (ps_set (i := 9) sc_law_near.nd rfl (Or.inl rfl) (pe_ix ix_tup (pe_ix ix_tup (pv 2) (pe_op op_sub (pe_callB call_len_seq rfl B.len (by decide +kernel) (pa_cons (pv 2) pa_nil)) pe_int) (fun _ _ => rfl)) pe_int (fun _ _ => rfl)))) pss_nil)
      (pss_cons (ps_if (PW.pt (pw_and (pt_cmpR op_eq (pv 4) pe_int (nomark _)) (pw_and1 (pt_cmpR op_gt (pe_callB call_len_seq rfl B.len (by decide +kernel) (pa_cons (pv 9) pa_nil)) pe_int (nomark _))))) (pss_cons (ps_asg (pe_ix ix_tup (pv 9) (pe_op op_sub (pe_callB call_len_seq rfl B.len (by decide +kernel) (pa_cons (pv 9) pa_nil)) pe_int) (fun _ _ => rfl)) (pg_tup rfl (pgs_cons (pg_name (i := 10) sc_law_near.nd rfl (Or.inl rfl)) (pgs_cons (pg_name (i := 11) sc_law_near.nd rfl (Or.inl rfl)) pgs_nil))))
      (pss_one (ps_set (i := 9) sc_law_near.nd rfl (Or.inl rfl) (pe_op op_catA (pe_slice sl_tupA (pv 9) po_none (po_some (pe_op op_sub (pe_callB call_len_seq rfl B.len (by decide +kernel) (pa_cons (pv 9) pa_nil)) pe_int))) (pe_tup (pa_cons (pe_tup (pa_cons (pv 10) (pa_cons (pe_un un_neg (pv 11)) pa_nil))) pa_nil)))))) pss_nil)
      (pss_one (ps_ret (pe_fn G_law_built (hr.mono (by omega)) rfl (pa_cons (pv 5) (pa_cons (pv 6) (pa_cons (pv 7) (pa_cons (pv 3) (pa_cons (pe_tup (pa_cons (pv 8) (pa_cons (pv 9) pa_nil))) pa_nil))))))))))))))))))))
theorem ok_law_ordered (B : Txt w K mg C) (Y : Fl K C) (F : FnP K "_law_ordered" s_law_ordered f fd) (hm : mg "_law_ordered" = some (.ref f)) : OkF P w K mg base "_law_ordered" 1 ["_law_rows"] (up K (q_law_ordered)) := by
  refine ⟨f, fd, hm, F.kp, F.bindsN (fun _ _ _ _ _ _ us hl => match us, hl with | [_], _ => rfl), ?_⟩
  refine F.ok sc_law_ordered (fun vs H Q E h => len_up (fun _ _ h => ql_law_ordered h) h) (fun cdv A outer s H vs Q E hr h => ⟨t_law_ordered K C, PSs.nox ?_, run_up (fun s c H0 => l_law_ordered Y) (pr_law_ordered C) h⟩)
  exact (pss_cons (ps_set (i := 1) sc_law_ordered.nd rfl (Or.inl rfl) (pe_frz (pe_lst pa_nil)))
      (pss_cons (ps_for PassesOwn.never rfl (pi_list (pv 0)) (pg_name (i := 2) sc_law_ordered.nd rfl (Or.inl rfl)) (pss_cons (ps_set (i := 3) sc_law_ordered.nd rfl (Or.inl rfl) pe_int)
      (pss_cons (ps_for PassesOwn.never rfl (pi_range1 rfl B.range (pa_cons (pe_callB call_len_seq rfl B.len (by decide +kernel) (pa_cons (pv 1) pa_nil)) pa_nil)) (pg_name (i := 4) sc_law_ordered.nd rfl (Or.inl rfl)) (pss_one (ps_if (pt_cmpR (op_ltD hr.units) (pe_ix ix_list (pv 1) (pv 4) (fun _ _ => rfl)) (pv 2) (nomark _)) (pss_one (ps_set (i := 3) sc_law_ordered.nd rfl (Or.inl rfl) (pe_op op_add (pv 4) pe_int))) pss_nil)))
      (pss_one (ps_if (pt_cmpR (op_notInP hr.units) (pv 2) (pv 1) rfl) (pss_one (ps_set (i := 1) sc_law_ordered.nd rfl (Or.inl rfl) (pe_frz (pe_op op_catL (pe_op op_catL (pe_slice sl_list (pv 1) po_none (po_some (pv 3))) (pe_lst (pa_cons (pv 2) pa_nil))) (pe_slice sl_list (pv 1) (po_some (pv 3)) po_none))))) pss_nil)))))
      (pss_one (ps_ret (pv 1)))))
theorem ok_law_pool (B : Txt w K mg C) (Y : Fl K C) (F : FnP K "_law_pool" s_law_pool f fd) (hm : mg "_law_pool" = some (.ref f)) (G_law_fresh : OkF P w K mg base "_law_fresh" 5 ["_law_source_here", "_law_parts", "_law_measures"] (up K (q_law_fresh))) (G_law_take : OkF P w K mg base "_law_take" 2 ["_law_source_here", "_law_many"] (up K q_law_take)) (G_law_near : OkF P w K mg base "_law_near" 3 ["_law_source_here", "_law_old", "_law_other"] (up K (q_law_near))) (G_law_ordered : OkF P w K mg base "_law_ordered" 1 ["_law_rows"] (up K (q_law_ordered))) : OkF P w K mg base "_law_pool" 6 ["_law_source_here", "_law_parts", "_law_measures", "_law_many"] (up K (q_law_pool)) := by
  refine ⟨f, fd, hm, F.kp, F.bindsN (fun _ _ _ _ _ _ us hl => match us, hl with | [_, _, _, _], _ => rfl), ?_⟩
  refine F.ok sc_law_pool (fun vs H Q E h => len_up (fun _ _ h => ql_law_pool h) h) (fun cdv A outer s H vs Q E hr h => ⟨t_law_pool K C, PSs.nox ?_, run_up (fun s c H0 => l_law_pool Y) (pr_law_pool C) h⟩)
  exact (pss_cons (ps_set (i := 4) sc_law_pool.nd rfl (Or.inl rfl) (pe_lst pa_nil))
      (pss_cons (ps_for PassesOwn.never rfl (pi_range1 rfl B.range (pa_cons (pv 3) pa_nil)) (pg_name (i := 5) sc_law_pool.nd rfl (Or.inl rfl)) (pss_cons (ps_set (i := 6) sc_law_pool.nd rfl (Or.inl rfl) (pe_fn G_law_fresh (hr.mono (by omega)) rfl (pa_cons (pv 0) (pa_cons (pv 1) (pa_cons (pv 2) pa_nil)))))
      (pss_cons (ps_if (PW.pt (pw_and (pt_cmpR op_gt (pe_callB call_len_seq rfl B.len (by decide +kernel) (pa_cons (pv 4) pa_nil)) pe_int (nomark _)) (pw_and1 (pt_cmpR op_gt (pe_fn G_law_take (hr.mono (by omega)) rfl (pa_cons (pv 0) (pa_cons pe_int pa_nil))) pe_int (nomark _))))) (pss_one (ps_set (i := 6) sc_law_pool.nd rfl (Or.inl rfl) (pe_fn G_law_near (hr.mono (by omega)) rfl (pa_cons (pv 0) (pa_cons (pe_ix ix_list (pv 4) (pe_fn G_law_take (hr.mono (by omega)) rfl (pa_cons (pv 0) (pa_cons (pe_callB call_len_seq rfl B.len (by decide +kernel) (pa_cons (pv 4) pa_nil)) pa_nil))) (fun _ _ => rfl)) (pa_cons (pv 6) pa_nil)))))) pss_nil)
      (pss_one (ps_if (pt_cmpR (op_notInP hr.units) (pv 6) (pv 4) rfl) (pss_one (ps_expr (pe_bm PySem.F.plainAttrs_list PySem.F.slot_list_append PySem.F.type_list_append mt_append (pv 4) (pa_cons (pv 6) pa_nil)))) pss_nil)))))
      (pss_one (ps_frz 4 (ps_ret (pe_fn G_law_ordered (hr.mono (by omega)) rfl (pa_cons (pv 4) pa_nil)))))))
theorem ok_law_bad_name (B : Txt w K mg C) (Y : Fl K C) (F : FnP K "_law_bad_name" s_law_bad_name f fd) (hm : mg "_law_bad_name" = some (.ref f)) (G_law_take : OkF P w K mg base "_law_take" 2 ["_law_source_here", "_law_many"] (up K q_law_take)) : OkF P w K mg base "_law_bad_name" 3 ["_law_source_here", "_law_word_here"] (up K (q_law_bad_name)) := by
  refine ⟨f, fd, hm, F.kp, F.bindsN (fun _ _ _ _ _ _ us hl => match us, hl with | [_, _], _ => rfl), ?_⟩
  refine F.ok sc_law_bad_name (fun vs H Q E h => len_up (fun _ _ h => ql_law_bad_name h) h) (fun cdv A outer s H vs Q E hr h => ⟨t_law_bad_name K C, PSs.nox ?_, run_up (fun s c H0 => l_law_bad_name Y) (pr_law_bad_name C) h⟩)
  exact (pss_cons (ps_set (i := 2) sc_law_bad_name.nd rfl (Or.inl rfl) (pe_fn G_law_take (hr.mono (by omega)) rfl (pa_cons (pv 0) (pa_cons pe_int pa_nil))))
      (pss_cons (ps_set (i := 3) sc_law_bad_name.nd rfl (Or.inl rfl) (pe_fn G_law_take (hr.mono (by omega)) rfl (pa_cons (pv 0) (pa_cons (pe_callB call_len_str rfl B.len (by decide +kernel) (pa_cons (pv 1) pa_nil)) pa_nil))))
      (pss_cons (ps_set (i := 4) sc_law_bad_name.nd rfl (Or.inl rfl) pe_str)
      (pss_cons (ps_set (i := 5) sc_law_bad_name.nd rfl (Or.inl rfl) (pe_ix ix_str (pv 4) (pe_fn G_law_take (hr.mono (by omega)) rfl (pa_cons (pv 0) (pa_cons (pe_callB call_len_str rfl B.len (by decide +kernel) (pa_cons (pv 4) pa_nil)) pa_nil))) (fun _ _ => rfl)))
      (pss_cons (ps_if (pt_cmpR op_eq (pv 2) pe_int (nomark _)) (pss_one (ps_ret pe_str)) pss_nil)
      (pss_cons (ps_if (pt_cmpR op_eq (pv 2) pe_int (nomark _)) (pss_one (ps_ret (pe_slice sl_str (pe_op op_add_str (pv 1) pe_str) po_none (po_some pe_int)))) pss_nil)
      (pss_cons (ps_if (pt_cmpR op_eq (pv 2) pe_int (nomark _)) (pss_one (ps_ret (pe_op op_add_str (pe_ix ix_str pe_str (pe_fn G_law_take (hr.mono (by omega)) rfl (pa_cons (pv 0) (pa_cons pe_int pa_nil))) (fun _ _ => rfl)) (pe_slice sl_str (pv 1) (po_some pe_int) po_none)))) pss_nil)
      (pss_cons (ps_if (pt_cmpR op_eq (pv 2) pe_int (nomark _)) (pss_one (ps_ret (pe_op op_add_str (pe_op op_add_str (pe_slice sl_str (pv 1) po_none (po_some (pv 3))) (pv 5)) (pe_slice sl_str (pv 1) (po_some (pe_op op_add (pv 3) pe_int)) po_none)))) pss_nil)
      (pss_one (ps_ret (pe_op op_add_str (pe_slice sl_str (pv 1) po_none (po_some pe_int)) (pv 5))))))))))))
theorem ok_law_bad_terms (B : Txt w K mg C) (Y : Fl K C) (F : FnP K "_law_bad_terms" s_law_bad_terms f fd) (hm : mg "_law_bad_terms" = some (.ref f)) (G_law_times : OkF P w K mg base "_law_times" 4 ["_law_source_here"] (up K (q_law_times))) (G_law_take : OkF P w K mg base "_law_take" 2 ["_law_source_here", "_law_many"] (up K q_law_take)) (G_law_bad_name : OkF P w K mg base "_law_bad_name" 3 ["_law_source_here", "_law_word_here"] (up K (q_law_bad_name))) : OkF P w K mg base "_law_bad_terms" 5 ["_law_source_here", "_law_terms", "_law_measures"] (up K (q_law_bad_terms)) := by
  refine ⟨f, fd, hm, F.kp, F.bindsN (fun _ _ _ _ _ _ us hl => match us, hl with | [_, _, _], _ => rfl), ?_⟩
  refine F.ok sc_law_bad_terms (fun vs H Q E h => len_up (fun _ _ h => ql_law_bad_terms h) h) (fun cdv A outer s H vs Q E hr h => ⟨t_law_bad_terms K C, PSs.nox ?_, run_up (fun s c H0 => l_law_bad_terms Y) (pr_law_bad_terms C) h⟩)
  exact (pss_cons (ps_set (i := 3) sc_law_bad_terms.nd rfl (Or.inl rfl) (pe_callTy call_list_of rfl B.list_ (by decide +kernel) (pa_cons (pv 1) pa_nil)))
      (pss_cons (ps_if (pt_cmpR op_lt (pe_callB call_len_seq rfl B.len (by decide +kernel) (pa_cons (pv 3) pa_nil)) pe_int (nomark _)) (pss_one (ps_set (i := 3) sc_law_bad_terms.nd rfl (Or.inl rfl) (pe_lst (pa_cons (pe_tup (pa_cons (pe_ix ix_list (pv 2) pe_int (fun _ _ => rfl)) (pa_cons (pe_fn G_law_times (hr.mono (by omega)) rfl (pa_cons (pv 0) pa_nil)) pa_nil))) (pa_cons (pe_tup (pa_cons (pe_ix ix_list (pv 2) pe_int (fun _ _ => rfl)) (pa_cons (pe_fn G_law_times (hr.mono (by omega)) rfl (pa_cons (pv 0) pa_nil)) pa_nil))) pa_nil))))) pss_nil)
      (pss_cons (ps_set (i := 4) sc_law_bad_terms.nd rfl (Or.inl rfl) (pe_fn G_law_take (hr.mono (by omega)) rfl (pa_cons (pv 0) (pa_cons (pe_callB call_len_seq rfl B.len (by decide +kernel) (pa_cons (pv 3) pa_nil)) pa_nil))))
      (pss_cons (ps_asg (pe_ix ix_list (pv 3) (pv 4) (fun _ _ => rfl)) (pg_tup rfl (pgs_cons (pg_name (i := 6) sc_law_bad_terms.nd rfl (Or.inl rfl)) (pgs_cons (pg_name (i := 7) sc_law_bad_terms.nd rfl (Or.inl rfl)) pgs_nil))))
      (pss_cons (ps_set (i := 5) sc_law_bad_terms.nd rfl (Or.inl rfl) (pe_fn G_law_take (hr.mono (by omega)) rfl (pa_cons (pv 0) (pa_cons pe_int pa_nil))))
      (pss_cons (ps_if (pt_cmpR op_eq (pv 5) pe_int (nomark _)) (pss_one (ps_asg (pe_tup (pa_cons (pv 6) (pa_cons pe_int pa_nil))) (pg_sub (pv 3) (pv 4) set_list))) pss_nil)
      (pss_cons (ps_if (pt_cmpR op_eq (pv 5) pe_int (nomark _)) (pss_one (ps_asg (pe_tup (pa_cons (pe_fn G_law_bad_name (hr.mono (by omega)) rfl (pa_cons (pv 0) (pa_cons (pv 6) pa_nil))) (pa_cons (pv 7) pa_nil))) (pg_sub (pv 3) (pv 4) set_list))) pss_nil)
      (pss_cons (ps_if (pt_cmpR op_eq (pv 5) pe_int (nomark _)) (pss_one (ps_set (i := 3) sc_law_bad_terms.nd rfl (Or.inl rfl) (pe_op op_catL (pe_op op_catL (pe_slice sl_list (pv 3) po_none (po_some (pv 4))) (pe_lst (pa_cons (pe_tup (pa_cons (pv 6) (pa_cons (pe_fn G_law_times (hr.mono (by omega)) rfl (pa_cons (pv 0) pa_nil)) pa_nil))) pa_nil))) (pe_slice sl_list (pv 3) (po_some (pv 4)) po_none)))) pss_nil)
      (pss_cons (ps_if (pt_cmpR op_eq (pv 5) pe_int (nomark _)) (pss_cons (ps_set (i := 4) sc_law_bad_terms.nd rfl (Or.inl rfl) (pe_fn G_law_take (hr.mono (by omega)) rfl (pa_cons (pv 0) (pa_cons (pe_op op_sub (pe_callB call_len_seq rfl B.len (by decide +kernel) (pa_cons (pv 3) pa_nil)) pe_int) pa_nil))))
      (pss_one (ps_set (i := 3) sc_law_bad_terms.nd rfl (Or.inl rfl) (pe_op op_catL (pe_op op_catL (pe_slice sl_list (pv 3) po_none (po_some (pv 4))) (pe_lst (pa_cons (pe_ix ix_list (pv 3) (pe_op op_add (pv 4) pe_int) (fun _ _ => rfl)) (pa_cons (pe_ix ix_list (pv 3) (pv 4) (fun _ _ => rfl)) pa_nil)))) (pe_slice sl_list (pv 3) (po_some (pe_op op_add (pv 4) pe_int)) po_none))))) pss_nil)
      (pss_cons (ps_if (pt_cmpR op_eq (pv 5) pe_int (nomark _)) (pss_cons (ps_setLc (i := 8) (own := [("_law_row", 9)]) (g := (gName 9)) (tt := (tTest (tOp rLtS (tOp (rIxT K) (tVar 9) (tC (.int 0))) (tC (.str "frame"))))) rfl sc_law_bad_terms.nd rfl rfl (sw_true rfl rfl rfl (by decide +kernel)) (pi_list (pv 3)) (blkOk_by (N := n_law_bad_terms) (sc := defScope s_law_bad_terms) (by decide +kernel)) (fun _ _ _ _ _ => (pg_name (i := 9) sc_law_bad_terms.nd rfl (Or.inl rfl))) (fun _ _ _ _ _ => (pts_one (pt_cmpR op_lt_str (pe_ix ix_tup (pv 9) pe_int (fun _ _ => rfl)) pe_str (nomark _)))) (fun _ _ _ _ _ => (pv 9)))
      (pss_one (ps_set (i := 3) sc_law_bad_terms.nd rfl (Or.inl rfl) (pe_op op_catL (pe_op op_catL (pv 8) (pe_lst (pa_cons (pe_tup (pa_cons pe_str (pa_cons (pv 7) pa_nil))) pa_nil))) (pe_lc (own := [("_law_row", 9)]) (g := (gName 9)) (tt := (tTest (tOp rGtS (tOp (rIxT K) (tVar 9) (tC (.int 0))) (tC (.str "frame"))))) rfl sc_law_bad_terms.nd (pi_list (pv 3)) (blkOk_by (N := n_law_bad_terms) (sc := defScope s_law_bad_terms) (by decide +kernel)) (fun _ _ _ _ _ => (pg_name (i := 9) sc_law_bad_terms.nd rfl (Or.inl rfl))) (fun _ _ _ _ _ => (pts_one (pt_cmpR op_gt_str (pe_ix ix_tup (pv 9) pe_int (fun _ _ => rfl)) pe_str (nomark _)))) (fun _ _ _ _ _ => (pv 9))))))) pss_nil)
      (pss_cons (ps_if (pt_cmpR op_eq (pv 5) pe_int (nomark _)) (pss_one (ps_set (i := 3) sc_law_bad_terms.nd rfl (Or.inl rfl) (pe_op op_catL (pe_lst (pa_cons (pe_tup (pa_cons (pe_ix ix_list (pe_lst (pa_cons pe_str (pa_cons pe_str (pa_cons pe_str (pa_cons pe_str (pa_cons pe_str pa_nil)))))) (pe_fn G_law_take (hr.mono (by omega)) rfl (pa_cons (pv 0) (pa_cons pe_int pa_nil))) (fun _ _ => rfl)) (pa_cons (pv 7) pa_nil))) pa_nil)) (pv 3)))) pss_nil)
      (pss_cons (ps_if (pt_cmpR op_eq (pv 5) pe_int (nomark _)) (pss_one (ps_set (i := 3) sc_law_bad_terms.nd rfl (Or.inl rfl) (pe_op op_catL (pv 3) (pe_lst (pa_cons (pe_tup (pa_cons (pe_ix ix_list (pe_lst (pa_cons pe_str (pa_cons pe_str (pa_cons pe_str (pa_cons pe_str pa_nil))))) (pe_fn G_law_take (hr.mono (by omega)) rfl (pa_cons (pv 0) (pa_cons pe_int pa_nil))) (fun _ _ => rfl)) (pa_cons (pv 7) pa_nil))) pa_nil))))) pss_nil)
      (pss_one (ps_ret (pe_callTy call_tuple_of rfl B.tuple_ (by decide +kernel) (pa_cons (pv 3) pa_nil))))))))))))))))
theorem ok_law_spoilt (B : Txt w K mg C) (Y : Fl K C) (F : FnP K "_law_spoilt" s_law_spoilt f fd) (hm : mg "_law_spoilt" = some (.ref f)) (G_law_take : OkF P w K mg base "_law_take" 2 ["_law_source_here", "_law_many"] (up K q_law_take)) (G_law_bad_name : OkF P w K mg base "_law_bad_name" 3 ["_law_source_here", "_law_word_here"] (up K (q_law_bad_name))) (G_law_bad_terms : OkF P w K mg base "_law_bad_terms" 5 ["_law_source_here", "_law_terms", "_law_measures"] (up K (q_law_bad_terms))) (G_law_built : OkF P w K mg base "_law_built" 1 ["_law_kind", "_law_upper", "_law_lower", "_law_stack_here", "_law_whole"] (up K (q_law_built))) : OkF P w K mg base "_law_spoilt" 6 ["_law_source_here", "_law_old", "_law_measures"] (up K (q_law_spoilt)) := by
  refine ⟨f, fd, hm, F.kp, F.bindsN (fun _ _ _ _ _ _ us hl => match us, hl with | [_, _, _], _ => rfl), ?_⟩
  refine F.ok sc_law_spoilt (fun vs H Q E h => len_up (fun _ _ h => ql_law_spoilt h) h) (fun cdv A outer s H vs Q E hr h => ⟨t_law_spoilt K C, PSs.nox ?_, run_up (fun s c H0 => l_law_spoilt Y) (pr_law_spoilt C) h⟩)
  exact (pss_cons (ps_par3 rfl sc_law_spoilt.nd rfl rfl rfl (by decide) (by decide) (by decide) rfl rfl rfl (pa_cons (pe_ix ix_tup (pv 1) pe_int (fun _ _ => rfl)) (pa_cons (pe_ix ix_tup (pv 1) pe_int (fun _ _ => rfl)) (pa_cons (pe_ix ix_tup (pv 1) pe_int (fun _ _ => rfl)) pa_nil))) (by rfl))
      (pss_cons (ps_set (i := 3) sc_law_spoilt.nd rfl (Or.inl rfl) (pe_ifExp (pt_cmpR op_eq (pv 8) pe_str (nomark _)) (pe_ix ix_tup (pv 1) pe_int (fun _ _ => rfl)) pe_str))
      (pss_cons (ps_asg (pe_ix ix_tup (pv 1) (pe_op op_sub (pe_callB call_len_seq rfl B.len (by decide +kernel) (pa_cons (pv 1) pa_nil)) pe_int) (fun _ _ => rfl)) (pg_tup rfl (pgs_cons (pg_name (i := 11) sc_law_spoilt.nd rfl (Or.inl rfl)) (pgs_cons (pg_name (i := 12) sc_law_spoilt.nd rfl (Or.inl rfl)) pgs_nil))))
      (pss_cons (ps_set (i := 4) sc_law_spoilt.nd rfl (Or.inl rfl) (pe_frz (pe_lst (pa_cons pe_str (pa_cons pe_str (pa_cons pe_str (pa_cons pe_str (pa_cons pe_str (pa_cons pe_str (pa_cons pe_str (pa_cons pe_str (pa_cons pe_str (pa_cons pe_str (pa_cons pe_str (pa_cons pe_str pa_nil)))))))))))))))
      (pss_cons (ps_set (i := 5) sc_law_spoilt.nd rfl (Or.inl rfl) (pe_ix ix_list (pv 4) (pe_fn G_law_take (hr.mono (by omega)) rfl (pa_cons (pv 0) (pa_cons (pe_callB call_len_seq rfl B.len (by decide +kernel) (pa_cons (pv 4) pa_nil)) pa_nil))) (fun _ _ => rfl)))
      (pss_cons (ps_set (i := 6) sc_law_spoilt.nd rfl (Or.inl rfl) (pe_op op_add pe_int (pe_fn G_law_take (hr.mono (by omega)) rfl (pa_cons (pv 0) (pa_cons (pe_op op_sub (pe_callB call_len_seq rfl B.len (by decide +kernel) (pa_cons (pv 1) pa_nil)) pe_int) pa_nil)))))
      (pss_cons (ps_set (i := 7) sc_law_spoilt.nd rfl (Or.inl rfl) (pe_fn G_law_take (hr.mono (by omega)) rfl (pa_cons (pv 0) (pa_cons pe_int pa_nil))))
      (pss_cons (ps_if (pt_cmpR op_eq (pv 7) pe_int (nomark _)) (pss_one (ps_ret (pe_op op_catA (pe_tup (pa_cons (pv 5) pa_nil)) (pe_slice sl_tupA (pv 1) (po_some pe_int) po_none)))) pss_nil)
      (pss_cons (ps_if (pt_cmpR op_eq (pv 7) pe_int (nomark _)) (pss_one (ps_ret (pe_slice sl_tupA (pv 1) po_none (po_some (pe_fn G_law_take (hr.mono (by omega)) rfl (pa_cons (pv 0) (pa_cons (pe_callB call_len_seq rfl B.len (by decide +kernel) (pa_cons (pv 1) pa_nil)) pa_nil))))))) pss_nil)
      (pss_cons (ps_if (pt_cmpR op_eq (pv 7) pe_int (nomark _)) (pss_one (ps_ret (pe_op op_catA (pe_slice sl_tupA (pv 1) po_none (po_some (pv 6))) (pe_slice sl_tupA (pv 1) (po_some (pe_op op_add (pv 6) pe_int)) po_none)))) pss_nil)
      (pss_cons (ps_if (pt_cmpR op_eq (pv 7) pe_int (nomark _)) (pss_cons (ps_set (i := 13) sc_law_spoilt.nd rfl (Or.inl rfl) (pe_ix ix_list (pe_lst (pa_cons (pv 3) (pa_cons (pv 11) (pa_cons (pv 12) (pa_cons (pv 9) (pa_cons (pv 1) pa_nil)))))) (pe_fn G_law_take (hr.mono (by omega)) rfl (pa_cons (pv 0) (pa_cons pe_int pa_nil))) (fun _ _ => rfl)))
      (pss_one (ps_ret (pe_op op_catA (pe_op op_catA (pe_slice sl_tupA (pv 1) po_none (po_some (pv 6))) (pe_tup (pa_cons (pv 13) pa_nil))) (pe_slice sl_tupA (pv 1) (po_some (pv 6)) po_none))))) pss_nil)
      (pss_cons (ps_if (pt_cmpR op_eq (pv 7) pe_int (nomark _)) (pss_one (ps_ret (pe_op op_catA (pe_tup (pa_cons (pe_ifExp (pt_cmpR op_eq (pv 8) pe_str (nomark _)) pe_str pe_str) pa_nil)) (pe_slice sl_tupA (pv 1) (po_some pe_int) po_none)))) pss_nil)
      (pss_cons (ps_if (pt_cmpR op_eq (pv 7) pe_int (nomark _)) (pss_cons (ps_set (i := 14) sc_law_spoilt.nd rfl (Or.inl rfl) (pe_frz (pe_lst (pa_cons (pe_tup (pa_cons (pv 5) pa_nil)) (pa_cons (pe_tup (pa_cons (pv 5) (pa_cons (pv 11) (pa_cons (pv 12) pa_nil)))) (pa_cons (pe_tup (pa_cons (pv 8) (pa_cons (pv 11) pa_nil))) (pa_cons (pe_tup (pa_cons pe_str (pa_cons (pv 12) (pa_cons (pv 11) (pa_cons (pv 3) pa_nil))))) (pa_cons (pe_op op_catA (pv 1) (pe_tup (pa_cons (pv 11) pa_nil))) pa_nil))))))))
      (pss_one (ps_ret (pe_ix ix_list (pv 14) (pe_fn G_law_take (hr.mono (by omega)) rfl (pa_cons (pv 0) (pa_cons (pe_callB call_len_seq rfl B.len (by decide +kernel) (pa_cons (pv 14) pa_nil)) pa_nil))) (fun _ _ => rfl))))) pss_nil)
      (pss_cons (ps_if (pt_cmpR op_eq (pv 7) pe_int (nomark _)) (pss_one (ps_set (i := 9) sc_law_spoilt.nd rfl (Or.inl rfl) (pe_fn G_law_bad_name (hr.mono (by omega)) rfl (pa_cons (pv 0) (pa_cons (pv 9) pa_nil))))) pss_nil)
      (pss_cons (ps_if (pt_cmpR op_eq (pv 7) pe_int (nomark _)) (pss_one (ps_set (i := 10) sc_law_spoilt.nd rfl (Or.inl rfl) (pe_fn G_law_bad_name (hr.mono (by omega)) rfl (pa_cons (pv 0) (pa_cons (pv 10) pa_nil))))) pss_nil)
      (pss_cons (ps_if (pt_cmpR op_eq (pv 7) pe_int (nomark _)) (pss_one (ps_set (i := 9) sc_law_spoilt.nd rfl (Or.inl rfl) (pv 10))) pss_nil)
      (pss_cons (ps_if (pt_cmpR op_eq (pv 7) pe_int (nomark _)) (pss_cons (ps_set (i := 15) sc_law_spoilt.nd rfl (Or.inl rfl) (pe_fn G_law_take (hr.mono (by omega)) rfl (pa_cons (pv 0) (pa_cons (pe_op op_add (pe_callB call_len_str rfl B.len (by decide +kernel) (pa_cons (pv 3) pa_nil)) pe_int) pa_nil))))
      (pss_one (ps_par rfl sc_law_spoilt.nd rfl rfl (by decide) rfl rfl (pa_cons pe_str (pa_cons (pe_op op_add_str (pe_op op_add_str (pe_slice sl_str (pv 3) po_none (po_some (pv 15))) (pe_ix ix_list (pe_lst (pa_cons pe_str (pa_cons pe_str (pa_cons pe_str pa_nil)))) (pe_fn G_law_take (hr.mono (by omega)) rfl (pa_cons (pv 0) (pa_cons pe_int pa_nil))) (fun _ _ => rfl))) (pe_slice sl_str (pv 3) (po_some (pv 15)) po_none)) pa_nil)) (by rfl)))) pss_nil)
      (pss_cons (ps_if (pt_cmpR op_gt (pv 7) pe_int (nomark _)) (pss_one (ps_set (i := 12) sc_law_spoilt.nd rfl (Or.inl rfl) (pe_fn G_law_bad_terms (hr.mono (by omega)) rfl (pa_cons (pv 0) (pa_cons (pv 12) (pa_cons (pv 2) pa_nil)))))) pss_nil)
      (pss_one (ps_ret (pe_fn G_law_built (hr.mono (by omega)) rfl (pa_cons (pv 8) (pa_cons (pv 9) (pa_cons (pv 10) (pa_cons (pv 3) (pa_cons (pe_tup (pa_cons (pv 11) (pa_cons (pv 12) pa_nil))) pa_nil))))))))))))))))))))))))))
theorem ok_law_truth (B : Txt w K mg C) (Y : Fl K C) (F : FnP K "_law_truth" s_law_truth f fd) (hm : mg "_law_truth" = some (.ref f)) : OkF P w K mg base "_law_truth" 1 ["_law_value", "_law_due"] (up K (q_law_truth)) := by
  refine ⟨f, fd, hm, F.kp, F.bindsN (fun _ _ _ _ _ _ us hl => match us, hl with | [_, _], _ => rfl), ?_⟩
  refine F.ok sc_law_truth (fun vs H Q E h => len_up (fun _ _ h => ql_law_truth h) h) (fun cdv A outer s H vs Q E hr h => ⟨t_law_truth K C, PSs.nox ?_, run_up (fun s c H0 => l_law_truth Y) (pr_law_truth C) h⟩)
  exact (pss_cons (ps_if (pt_val (pv 1)) (pss_one (ps_ret (pe_cmpR op_isBl (pv 0) pe_bl (nomark _)))) pss_nil)
      (pss_one (ps_ret (pe_cmpR op_isBl (pv 0) pe_bl (nomark _)))))
theorem ok_law_shows (B : Txt w K mg C) (Y : Fl K C) (F : FnP K "_law_shows" s_law_shows f fd) (hm : mg "_law_shows" = some (.ref f)) (G_Sheet_len : OkLn P w K mg base C.Sheet "_limits" 1 ["self"]) (G_Sheet_iter : OkIt P w K mg base C.Sheet "_limits" 1 ["self"]) (G_Sheet_contains : OkM P w K mg base C.Sheet "__contains__" 1 ["self", "limit"] (up K (q_Sheet_contains C))) : OkF P w K mg base "_law_shows" 5 ["_law_sheet", "_law_due", "_law_pool_here"] (up K (q_law_shows C)) := by
  refine ⟨f, fd, hm, F.kp, F.bindsN (fun _ _ _ _ _ _ us hl => match us, hl with | [_, _, _], _ => rfl), ?_⟩
  refine F.ok sc_law_shows (fun vs H Q E h => len_up (fun _ _ h => ql_law_shows h) h) (fun cdv A outer s H vs Q E hr h => ⟨t_law_shows K C, PSs.nox ?_, run_up (fun s c H0 => l_law_shows Y) (pr_law_shows C) h⟩)
  exact (pss_cons (ps_if (PW.pt (pw_or (pt_not (pt_val (pe_callB call_isiD rfl B.isinstance (by decide +kernel) (pa_cons (pv 0) (pa_cons (pe_glob rfl B.g_Sheet rfl) pa_nil))))) (pw_or (pt_cmpR op_ne (pe_callB (call_lenF G_Sheet_len (hr.mono (by omega))) rfl B.len (by decide +kernel) (pa_cons (pv 0) pa_nil)) (pe_callB call_len_seq rfl B.len (by decide +kernel) (pa_cons (pv 1) pa_nil)) (nomark _)) (pw_or1 (pt_cmpR (op_neP hr.units) (pe_callTy (call_listLn rfl G_Sheet_iter G_Sheet_len (hr.mono (by omega)) (hr.mono (by omega))) rfl B.list_ (by decide +kernel) (pa_cons (pv 0) pa_nil)) (pv 1) (nomark _)))))) (pss_one (ps_ret pe_bl)) pss_nil)
      (pss_one (ps_ret (pe_cmpR (op_eqD hr.units) (pe_lc (own := [("_law_row", 3)]) (g := (gName 3)) (tt := tYes) rfl sc_law_shows.nd (pi_list (pv 2)) (blkOk_by (N := n_law_shows) (sc := defScope s_law_shows) (by decide +kernel)) (fun _ _ _ _ _ => (pg_name (i := 3) sc_law_shows.nd rfl (Or.inl rfl))) (fun _ _ _ _ _ => pts_nil) (fun _ _ _ _ _ => (pe_cmpR (opM_in G_Sheet_contains (hr.mono (by omega))) (pv 3) (pv 0) rfl))) (pe_lc (own := [("_law_row", 3)]) (g := (gName 3)) (tt := tYes) rfl sc_law_shows.nd (pi_list (pv 2)) (blkOk_by (N := n_law_shows) (sc := defScope s_law_shows) (by decide +kernel)) (fun _ _ _ _ _ => (pg_name (i := 3) sc_law_shows.nd rfl (Or.inl rfl))) (fun _ _ _ _ _ => pts_nil) (fun _ _ _ _ _ => (pe_cmpR (op_inP hr.units) (pv 3) (pv 1) rfl))) (nomark _)))))
theorem ok_law_drawn_rows (B : Txt w K mg C) (Y : Fl K C) (F : FnP K "_law_drawn_rows" s_law_drawn_rows f fd) (hm : mg "_law_drawn_rows" = some (.ref f)) (G_law_take : OkF P w K mg base "_law_take" 2 ["_law_source_here", "_law_many"] (up K q_law_take)) : OkF P w K mg base "_law_drawn_rows" 3 ["_law_source_here", "_law_pool_here"] (up K (q_law_drawn_rows)) := by
  refine ⟨f, fd, hm, F.kp, F.bindsN (fun _ _ _ _ _ _ us hl => match us, hl with | [_, _], _ => rfl), ?_⟩
  refine F.ok sc_law_drawn_rows (fun vs H Q E h => len_up (fun _ _ h => ql_law_drawn_rows h) h) (fun cdv A outer s H vs Q E hr h => ⟨t_law_drawn_rows K C, PSs.nox ?_, run_up (fun s c H0 => l_law_drawn_rows Y) (pr_law_drawn_rows C) h⟩)
  exact (pss_one (ps_ret (pe_frz (pe_lc (own := [("_law_k", 2)]) (g := (gName 2)) (tt := tYes) rfl sc_law_drawn_rows.nd (pi_range1 rfl B.range (pa_cons (pe_fn G_law_take (hr.mono (by omega)) rfl (pa_cons (pv 0) (pa_cons (pe_op op_add (pe_callB call_len_seq rfl B.len (by decide +kernel) (pa_cons (pv 1) pa_nil)) pe_int) pa_nil))) pa_nil)) (blkOk_by (N := n_law_drawn_rows) (sc := defScope s_law_drawn_rows) (by decide +kernel)) (fun _ _ _ _ _ => (pg_name (i := 2) sc_law_drawn_rows.nd rfl (Or.inl rfl))) (fun _ _ _ _ _ => pts_nil) (fun _ _ _ _ _ => (pe_ix ix_list (pv 1) (pe_fn G_law_take (hr.mono (by omega)) rfl (pa_cons (pv 0) (pa_cons (pe_callB call_len_seq rfl B.len (by decide +kernel) (pa_cons (pv 1) pa_nil)) pa_nil))) (fun _ _ => rfl)))))))
theorem ok_law_apart (B : Txt w K mg C) (Y : Fl K C) (F : FnP K "_law_apart" s_law_apart f fd) (hm : mg "_law_apart" = some (.ref f)) (G_law_truth : OkF P w K mg base "_law_truth" 1 ["_law_value", "_law_due"] (up K (q_law_truth))) (G_Sheet_eq : OkM P w K mg base C.Sheet "__eq__" 1 ["self", "other"] (up K (q_Sheet_eq C))) : OkF P w K mg base "_law_apart" 3 ["_law_sheet", "_law_rows"] (up K (q_law_apart C)) := by
  refine ⟨f, fd, hm, F.kp, F.bindsN (fun _ _ _ _ _ _ us hl => match us, hl with | [_, _], _ => rfl), ?_⟩
  refine F.ok sc_law_apart (fun vs H Q E h => len_up (fun _ _ h => ql_law_apart h) h) (fun cdv A outer s H vs Q E hr h => ⟨t_law_apart K C, PSs.nox ?_, run_up (fun s c H0 => l_law_apart Y) (pr_law_apart C) h⟩)
  exact (pss_cons (ps_if (PW.pt (pw_or (pt_not (pt_val (pe_fn G_law_truth (hr.mono (by omega)) rfl (pa_cons (pe_cmpR (opM_eq G_Sheet_eq (hr.mono (by omega))) (pv 0) (pv 1) (nomark _)) (pa_cons pe_bl pa_nil))))) (pw_or1 (pt_not (pt_val (pe_fn G_law_truth (hr.mono (by omega)) rfl (pa_cons (pe_cmpR (opM_eqR G_Sheet_eq (hr.mono (by omega)) Y.z_Sheet) (pv 1) (pv 0) (nomark _)) (pa_cons pe_bl pa_nil)))))))) (pss_one (ps_ret pe_bl)) pss_nil)
      (pss_cons (ps_if (PW.pt (pw_or (pt_not (pt_val (pe_fn G_law_truth (hr.mono (by omega)) rfl (pa_cons (pe_cmpR (opM_eq G_Sheet_eq (hr.mono (by omega))) (pv 0) (pe_callTy call_tuple_of rfl B.tuple_ (by decide +kernel) (pa_cons (pv 1) pa_nil)) (nomark _)) (pa_cons pe_bl pa_nil))))) (pw_or1 (pt_not (pt_val (pe_fn G_law_truth (hr.mono (by omega)) rfl (pa_cons (pe_cmpR (opM_eq G_Sheet_eq (hr.mono (by omega))) (pv 0) (pe_callB call_len_seq rfl B.len (by decide +kernel) (pa_cons (pv 1) pa_nil)) (nomark _)) (pa_cons pe_bl pa_nil)))))))) (pss_one (ps_ret pe_bl)) pss_nil)
      (pss_one (ps_ret (pe_fn G_law_truth (hr.mono (by omega)) rfl (pa_cons (pe_cmpR (op_oneNo G_Sheet_eq (hr.mono (by omega)) Y.z_Sheet hr.units) (pe_lst (pa_cons (pv 0) pa_nil)) (pe_lst (pa_cons pe_non pa_nil)) (nomark _)) (pa_cons pe_bl pa_nil)))))))
theorem ok_law_operators (B : Txt w K mg C) (Y : Fl K C) (F : FnP K "_law_operators" s_law_operators f fd) (hm : mg "_law_operators" = some (.ref f)) (G_law_shows : OkF P w K mg base "_law_shows" 5 ["_law_sheet", "_law_due", "_law_pool_here"] (up K (q_law_shows C))) (G_Sheet_or : OkM P w K mg base C.Sheet "__or__" 14 ["self", "other"] (up K (q_Sheet_or C))) (G_law_ordered : OkF P w K mg base "_law_ordered" 1 ["_law_rows"] (up K (q_law_ordered))) (G_Sheet_and : OkM P w K mg base C.Sheet "__and__" 14 ["self", "other"] (up K (q_Sheet_and C))) (G_Sheet_sub : OkM P w K mg base C.Sheet "__sub__" 14 ["self", "other"] (up K (q_Sheet_sub C))) (G_law_truth : OkF P w K mg base "_law_truth" 1 ["_law_value", "_law_due"] (up K (q_law_truth))) (G_Sheet_le : OkM P w K mg base C.Sheet "__le__" 2 ["self", "other"] (up K (q_Sheet_le C))) (G_Sheet_eq : OkM P w K mg base C.Sheet "__eq__" 1 ["self", "other"] (up K (q_Sheet_eq C))) : OkF P w K mg base "_law_operators" 15 ["_law_a", "_law_b", "_law_left", "_law_right", "_law_pool_here"] (up K (q_law_operators C)) := by
  refine ⟨f, fd, hm, F.kp, F.bindsN (fun _ _ _ _ _ _ us hl => match us, hl with | [_, _, _, _, _], _ => rfl), ?_⟩
  refine F.ok sc_law_operators (fun vs H Q E h => len_up (fun _ _ h => ql_law_operators h) h) (fun cdv A outer s H vs Q E hr h => ⟨t_law_operators K C, PSs.nox ?_, run_up (fun s c H0 => l_law_operators Y) (pr_law_operators C) h⟩)
  exact (pss_cons (ps_setLc (i := 5) (own := [("_law_row", 8)]) (g := (gName 8)) (tt := (tTest (tOp (rInP K id) (tVar 8) (tVar 3)))) rfl sc_law_operators.nd rfl rfl (sw_true rfl rfl rfl (by decide +kernel)) (pi_list (pv 2)) (blkOk_by (N := n_law_operators) (sc := defScope s_law_operators) (by decide +kernel)) (fun _ _ _ _ _ => (pg_name (i := 8) sc_law_operators.nd rfl (Or.inl rfl))) (fun _ _ _ _ _ => (pts_one (pt_cmpR (op_inP hr.units) (pv 8) (pv 3) rfl))) (fun _ _ _ _ _ => (pv 8)))
      (pss_cons (ps_setLc (i := 6) (own := [("_law_row", 8)]) (g := (gName 8)) (tt := (tTest (tOp (rInP K not) (tVar 8) (tVar 3)))) rfl sc_law_operators.nd rfl rfl (sw_true rfl rfl rfl (by decide +kernel)) (pi_list (pv 2)) (blkOk_by (N := n_law_operators) (sc := defScope s_law_operators) (by decide +kernel)) (fun _ _ _ _ _ => (pg_name (i := 8) sc_law_operators.nd rfl (Or.inl rfl))) (fun _ _ _ _ _ => (pts_one (pt_cmpR (op_notInP hr.units) (pv 8) (pv 3) rfl))) (fun _ _ _ _ _ => (pv 8)))
      (pss_cons (ps_setLc (i := 7) (own := [("_law_row", 8)]) (g := (gName 8)) (tt := (tTest (tOp (rInP K not) (tVar 8) (tVar 2)))) rfl sc_law_operators.nd rfl rfl (sw_true rfl rfl rfl (by decide +kernel)) (pi_list (pv 3)) (blkOk_by (N := n_law_operators) (sc := defScope s_law_operators) (by decide +kernel)) (fun _ _ _ _ _ => (pg_name (i := 8) sc_law_operators.nd rfl (Or.inl rfl))) (fun _ _ _ _ _ => (pts_one (pt_cmpR (op_notInP hr.units) (pv 8) (pv 2) rfl))) (fun _ _ _ _ _ => (pv 8)))
      (pss_cons (ps_frz 5 (ps_if (PW.pt (pw_or (pt_not (pt_val (pe_fn G_law_shows (hr.mono (by omega)) rfl (pa_cons (pe_op (opM (op := .BitOr) G_Sheet_or (hr.mono (by omega)) Y.z_Sheet) (pv 0) (pv 1)) (pa_cons (pe_fn G_law_ordered (hr.mono (by omega)) rfl (pa_cons (pe_frz (pe_op op_catL (pv 2) (pv 3))) pa_nil)) (pa_cons (pv 4) pa_nil)))))) (pw_or1 (pt_not (pt_val (pe_fn G_law_shows (hr.mono (by omega)) rfl (pa_cons (pe_op (opM (op := .BitAnd) G_Sheet_and (hr.mono (by omega)) Y.z_Sheet) (pv 0) (pv 1)) (pa_cons (pv 5) (pa_cons (pv 4) pa_nil))))))))) (pss_one (ps_ret pe_bl)) pss_nil))
      (pss_cons (ps_frz 6 (ps_frz 7 (ps_if (PW.pt (pw_or (pt_not (pt_val (pe_fn G_law_shows (hr.mono (by omega)) rfl (pa_cons (pe_op (opM (op := .Sub) G_Sheet_sub (hr.mono (by omega)) Y.z_Sheet) (pv 0) (pv 1)) (pa_cons (pv 6) (pa_cons (pv 4) pa_nil)))))) (pw_or1 (pt_not (pt_val (pe_fn G_law_shows (hr.mono (by omega)) rfl (pa_cons (pe_op (opM (op := .Sub) G_Sheet_sub (hr.mono (by omega)) Y.z_Sheet) (pv 1) (pv 0)) (pa_cons (pv 7) (pa_cons (pv 4) pa_nil))))))))) (pss_one (ps_ret pe_bl)) pss_nil)))
      (pss_cons (ps_if (PW.pt (pw_or (pt_not (pt_val (pe_fn G_law_truth (hr.mono (by omega)) rfl (pa_cons (pe_cmpR (opM_le G_Sheet_le (hr.mono (by omega)) Y.z_Sheet) (pv 0) (pv 1) (nomark _)) (pa_cons (pe_cmpR (op_eqP hr.units) (pv 6) (pe_lst pa_nil) (nomark _)) pa_nil))))) (pw_or1 (pt_not (pt_val (pe_fn G_law_truth (hr.mono (by omega)) rfl (pa_cons (pe_cmpR (opM_le G_Sheet_le (hr.mono (by omega)) Y.z_Sheet) (pv 1) (pv 0) (nomark _)) (pa_cons (pe_cmpR (op_eqP hr.units) (pv 7) (pe_lst pa_nil) (nomark _)) pa_nil)))))))) (pss_one (ps_ret pe_bl)) pss_nil)
      (pss_one (ps_ret (pe_fn G_law_truth (hr.mono (by omega)) rfl (pa_cons (pe_cmpR (opM_eq G_Sheet_eq (hr.mono (by omega))) (pv 0) (pv 1) (nomark _)) (pa_cons (pe_cmpR (op_eqP hr.units) (pv 2) (pv 3) (nomark _)) pa_nil)))))))))))
theorem ok_law_sheets_agree (B : Txt w K mg C) (Y : Fl K C) (F : FnP K "_law_sheets_agree" s_law_sheets_agree f fd) (hm : mg "_law_sheets_agree" = some (.ref f)) (G_law_drawn_rows : OkF P w K mg base "_law_drawn_rows" 3 ["_law_source_here", "_law_pool_here"] (up K (q_law_drawn_rows))) (G_law_take : OkF P w K mg base "_law_take" 2 ["_law_source_here", "_law_many"] (up K q_law_take)) (G_Sheet_init : OkIX P w K mg base C.Sheet 12 ["self", "limits"] (upIC K C.Sheet (q_Sheet_init C))) (G_law_ordered : OkF P w K mg base "_law_ordered" 1 ["_law_rows"] (up K (q_law_ordered))) (G_law_shows : OkF P w K mg base "_law_shows" 5 ["_law_sheet", "_law_due", "_law_pool_here"] (up K (q_law_shows C))) (G_law_operators : OkF P w K mg base "_law_operators" 15 ["_law_a", "_law_b", "_law_left", "_law_right", "_law_pool_here"] (up K (q_law_operators C))) (G_law_apart : OkF P w K mg base "_law_apart" 3 ["_law_sheet", "_law_rows"] (up K (q_law_apart C))) : OkF P w K mg base "_law_sheets_agree" 16 ["_law_source_here", "_law_pool_here"] (up K (q_law_sheets_agree)) := by
  refine ⟨f, fd, hm, F.kp, F.bindsN (fun _ _ _ _ _ _ us hl => match us, hl with | [_, _], _ => rfl), ?_⟩
  refine F.ok sc_law_sheets_agree (fun vs H Q E h => len_up (fun _ _ h => ql_law_sheets_agree h) h) (fun cdv A outer s H vs Q E hr h => ⟨t_law_sheets_agree K C, PSs.nox ?_, run_up (fun s c H0 => l_law_sheets_agree Y) (pr_law_sheets_agree C) h⟩)
  exact (pss_cons (ps_set (i := 2) sc_law_sheets_agree.nd rfl (Or.inr rfl) (pe_fn G_law_drawn_rows (hr.mono (by omega)) rfl (pa_cons (pv 0) (pa_cons (pv 1) pa_nil))))
      (pss_cons (ps_set (i := 3) sc_law_sheets_agree.nd rfl (Or.inl rfl) (pe_fn G_law_drawn_rows (hr.mono (by omega)) rfl (pa_cons (pv 0) (pa_cons (pv 1) pa_nil))))
      (pss_cons (ps_set (i := 4) sc_law_sheets_agree.nd rfl (Or.inl rfl) (pe_fn G_law_take (hr.mono (by omega)) rfl (pa_cons (pv 0) (pa_cons pe_int pa_nil))))
      (pss_cons (ps_setLc (i := 5) (own := [("_law_k", 11)]) (g := (gName 11)) (tt := tYes) rfl sc_law_sheets_agree.nd rfl rfl (sw_true rfl rfl rfl (by decide +kernel)) (pi_range1 rfl B.range (pa_cons (pe_callB call_len_seq rfl B.len (by decide +kernel) (pa_cons (pv 2) pa_nil)) pa_nil)) (blkOk_by (N := n_law_sheets_agree) (sc := defScope s_law_sheets_agree) (by decide +kernel)) (fun _ _ _ _ _ => (pg_name (i := 11) sc_law_sheets_agree.nd rfl (Or.inl rfl))) (fun _ _ _ _ _ => pts_nil) (fun _ _ _ _ _ => (pe_ix ix_list (pv 2) (pe_op op_sub (pe_op op_sub (pe_callB call_len_seq rfl B.len (by decide +kernel) (pa_cons (pv 2) pa_nil)) pe_int) (pv 11)) (fun _ _ => rfl))))
      (pss_cons (ps_if (pt_cmpR op_eq (pv 4) pe_int (nomark _)) (pss_one (ps_set (i := 3) sc_law_sheets_agree.nd rfl (Or.inl rfl) (pe_frz (pe_op op_catL (pv 5) (pe_slice sl_list (pv 3) po_none (po_some pe_int)))))) pss_nil)
      (pss_cons (ps_if (pt_cmpR op_eq (pv 4) pe_int (nomark _)) (pss_one (ps_set (i := 3) sc_law_sheets_agree.nd rfl (Or.inl rfl) (pe_frz (pe_op op_catL (pv 5) (pe_slice sl_list (pv 2) po_none (po_some pe_int)))))) pss_nil)
      (pss_cons (ps_if (pt_cmpR op_eq (pv 4) pe_int (nomark _)) (pss_one (ps_set (i := 3) sc_law_sheets_agree.nd rfl (Or.inl rfl) (pe_frz (pe_slice sl_list (pv 2) (po_some pe_int) po_none)))) pss_nil)
      (pss_cons (ps_set (i := 6) sc_law_sheets_agree.nd rfl (Or.inl rfl) (pe_callTy call_list_of rfl B.list_ (by decide +kernel) (pa_cons (pv 2) pa_nil)))
      (pss_cons (ps_set (i := 7) sc_law_sheets_agree.nd rfl (Or.inl rfl) (pe_frz (pe_mkX (E := fun _ => E0) G_Sheet_init (hr.mono (by omega)) rfl B.g_Sheet (fun _ => pass00) (pa_cons (pv 6) pa_nil))))
      (pss_cons (ps_set (i := 8) sc_law_sheets_agree.nd rfl (Or.inl rfl) (pe_frz (pe_mkX (E := fun _ => E0) G_Sheet_init (hr.mono (by omega)) rfl B.g_Sheet (fun _ => pass00) (pa_cons (pe_callTy call_tuple_of rfl B.tuple_ (by decide +kernel) (pa_cons (pv 3) pa_nil)) pa_nil))))
      (pss_cons (ps_if (pt_cmpR (op_neP hr.units) (pv 6) (pv 2) (nomark _)) (pss_one (ps_ret pe_bl)) pss_nil)
      (pss_cons (ps_expr (pe_bm0 PySem.F.plainAttrs_list PySem.F.slot_list_clear PySem.F.type_list_clear mt_clear (pv 6)))
      (pss_cons (ps_if (pt_cmpR (op_eqP hr.units) (pv 2) (pe_lst pa_nil) (nomark _)) (pss_one (ps_expr (pe_bm PySem.F.plainAttrs_list PySem.F.slot_list_append PySem.F.type_list_append mt_append (pv 6) (pa_cons (pe_ix ix_list (pv 1) pe_int (fun _ _ => rfl)) pa_nil)))) pss_nil)
      (pss_cons (ps_set (i := 9) sc_law_sheets_agree.nd rfl (Or.inl rfl) (pe_fn G_law_ordered (hr.mono (by omega)) rfl (pa_cons (pv 2) pa_nil)))
      (pss_cons (ps_set (i := 10) sc_law_sheets_agree.nd rfl (Or.inl rfl) (pe_fn G_law_ordered (hr.mono (by omega)) rfl (pa_cons (pv 3) pa_nil)))
      (pss_cons (ps_if (PW.pt (pw_or (pt_not (pt_val (pe_fn G_law_shows (hr.mono (by omega)) rfl (pa_cons (pv 7) (pa_cons (pv 9) (pa_cons (pv 1) pa_nil)))))) (pw_or1 (pt_not (pt_val (pe_fn G_law_shows (hr.mono (by omega)) rfl (pa_cons (pv 8) (pa_cons (pv 10) (pa_cons (pv 1) pa_nil))))))))) (pss_one (ps_ret pe_bl)) pss_nil)
      (pss_cons (ps_if (PW.pt (pw_or (pt_not (pt_val (pe_fn G_law_operators (hr.mono (by omega)) rfl (pa_cons (pv 7) (pa_cons (pv 8) (pa_cons (pv 9) (pa_cons (pv 10) (pa_cons (pv 1) pa_nil)))))))) (pw_or1 (pt_not (pt_val (pe_fn G_law_operators (hr.mono (by omega)) rfl (pa_cons (pv 8) (pa_cons (pv 7) (pa_cons (pv 10) (pa_cons (pv 9) (pa_cons (pv 1) pa_nil))))))))))) (pss_one (ps_ret pe_bl)) pss_nil)
      (pss_cons (ps_if (PW.pt (pw_or (pt_not (pt_val (pe_fn G_law_operators (hr.mono (by omega)) rfl (pa_cons (pv 7) (pa_cons (pv 7) (pa_cons (pv 9) (pa_cons (pv 9) (pa_cons (pv 1) pa_nil)))))))) (pw_or (pt_not (pt_val (pe_fn G_law_apart (hr.mono (by omega)) rfl (pa_cons (pv 7) (pa_cons (pv 9) pa_nil))))) (pw_or1 (pt_not (pt_val (pe_fn G_law_apart (hr.mono (by omega)) rfl (pa_cons (pv 8) (pa_cons (pv 10) pa_nil))))))))) (pss_one (ps_ret pe_bl)) pss_nil)
      (pss_one (ps_ret (pe_and (pe_fn G_law_shows (hr.mono (by omega)) rfl (pa_cons (pv 7) (pa_cons (pv 9) (pa_cons (pv 1) pa_nil)))) (pe_one (pe_fn G_law_shows (hr.mono (by omega)) rfl (pa_cons (pv 8) (pa_cons (pv 10) (pa_cons (pv 1) pa_nil))))))))))))))))))))))))))
theorem ok_law_refused (B : Txt w K mg C) (Y : Fl K C) (F : FnP K "_law_refused" s_law_refused f fd) (hm : mg "_law_refused" = some (.ref f)) (G_Sheet_init : OkIX P w K mg base C.Sheet 12 ["self", "limits"] (upIC K C.Sheet (q_Sheet_init C))) : OkF P w K mg base "_law_refused" 14 ["_law_values", "_law_due"] (upC K (q_law_refused)) := by
  refine ⟨f, fd, hm, F.kp, F.bindsN (fun _ _ _ _ _ _ us hl => match us, hl with | [_, _], _ => rfl), ?_⟩
  refine F.ok sc_law_refused (fun vs H Q E h => len_upC (fun _ _ h => ql_law_refused h) h) (fun cdv A outer s H vs Q E hr h => ⟨t_law_refused K C, PSs.nox ?_, run_upC (fun s c H0 => l_law_refused Y) (pr_law_refused C Y.nd) h⟩)
  exact (pss_cons (ps_tryT rfl rfl sc_law_refused.nd rfl rfl ⟨rfl, by decide, .inl B.g_OfficeError⟩ (fun W pn xe tk po => (pss_one (ps_expr (pe_frz (pe_mkX G_Sheet_init (hr.mono (by omega)) rfl B.g_Sheet (fun σ => passAt tk σ) (pa_cons (pv 0) pa_nil))))))
      (fun a oe cls d pn hz hf => (pss_cons (ps_if (PW.pt (pw_or (pt_val (pe_callB (call_isX hz hf) rfl B.isinstance (by decide +kernel) (pa_cons (pv 2) (pa_cons (pe_glob rfl B.g_BadChange rfl) pa_nil)))) (pw_or1 (pt_val (pe_callB (call_isX hz hf) rfl B.isinstance (by decide +kernel) (pa_cons (pv 2) (pa_cons (pe_glob rfl B.g_DoesNotGo rfl) pa_nil))))))) (pss_one (ps_ret pe_bl)) pss_nil)
      (pss_one (ps_ret (pe_and (pe_callB (call_isX hz hf) rfl B.isinstance (by decide +kernel) (pa_cons (pv 2) (pa_cons (pe_glob rfl B.g_BadLimit rfl) pa_nil))) (pe_and (pe_callB (call_isX hz hf) rfl B.isinstance (by decide +kernel) (pa_cons (pv 2) (pa_cons (pe_bltn (v := .ty "ValueError") rfl B.ValueError_ (by decide +kernel) rfl) pa_nil))) (pe_one (pe_cmpR (op_eqP hr.units) (pe_xf Y.xf_BadLimit Y.no_BadLimit_limit hz hf (pv 2)) (pv 1) (nomark _))))))))))
      (pss_one (ps_ret pe_bl)))
theorem ok_law_refusals (B : Txt w K mg C) (Y : Fl K C) (F : FnP K "_law_refusals" s_law_refusals f fd) (hm : mg "_law_refusals" = some (.ref f)) (G_law_drawn_rows : OkF P w K mg base "_law_drawn_rows" 3 ["_law_source_here", "_law_pool_here"] (up K (q_law_drawn_rows))) (G_law_take : OkF P w K mg base "_law_take" 2 ["_law_source_here", "_law_many"] (up K q_law_take)) (G_law_spoilt : OkF P w K mg base "_law_spoilt" 6 ["_law_source_here", "_law_old", "_law_measures"] (up K (q_law_spoilt))) (G_law_refused : OkF P w K mg base "_law_refused" 14 ["_law_values", "_law_due"] (upC K (q_law_refused))) (G_law_shows : OkF P w K mg base "_law_shows" 5 ["_law_sheet", "_law_due", "_law_pool_here"] (up K (q_law_shows C))) (G_Sheet_init : OkIX P w K mg base C.Sheet 12 ["self", "limits"] (upIC K C.Sheet (q_Sheet_init C))) (G_law_ordered : OkF P w K mg base "_law_ordered" 1 ["_law_rows"] (up K (q_law_ordered))) : OkF P w K mg base "_law_refusals" 15 ["_law_source_here", "_law_pool_here", "_law_measures"] (up K (q_law_refusals)) := by
  refine ⟨f, fd, hm, F.kp, F.bindsN (fun _ _ _ _ _ _ us hl => match us, hl with | [_, _, _], _ => rfl), ?_⟩
  refine F.ok sc_law_refusals (fun vs H Q E h => len_up (fun _ _ h => ql_law_refusals h) h) (fun cdv A outer s H vs Q E hr h => ⟨t_law_refusals K C, PSs.nox ?_, run_up (fun s c H0 => l_law_refusals Y) (pr_law_refusals C) h⟩)
  exact (pss_cons (ps_set (i := 3) sc_law_refusals.nd rfl (Or.inl rfl) (pe_fn G_law_drawn_rows (hr.mono (by omega)) rfl (pa_cons (pv 0) (pa_cons (pv 1) pa_nil))))
      (pss_cons (ps_set (i := 4) sc_law_refusals.nd rfl (Or.inr rfl) (pe_lst pa_nil))
      (pss_cons (ps_for PassesOwn.never rfl (pi_range1 rfl B.range (pa_cons (pe_op op_add pe_int (pe_fn G_law_take (hr.mono (by omega)) rfl (pa_cons (pv 0) (pa_cons pe_int pa_nil)))) pa_nil)) (pg_name (i := 5) sc_law_refusals.nd rfl (Or.inl rfl)) (pss_cons (ps_set (i := 9) sc_law_refusals.nd rfl (Or.inl rfl) (pe_fn G_law_spoilt (hr.mono (by omega)) rfl (pa_cons (pv 0) (pa_cons (pe_ix ix_list (pv 1) (pe_fn G_law_take (hr.mono (by omega)) rfl (pa_cons (pv 0) (pa_cons (pe_callB call_len_seq rfl B.len (by decide +kernel) (pa_cons (pv 1) pa_nil)) pa_nil))) (fun _ _ => rfl)) (pa_cons (pv 2) pa_nil)))))
      (pss_cons (ps_set (i := 10) sc_law_refusals.nd rfl (Or.inl rfl) (pe_fn G_law_take (hr.mono (by omega)) rfl (pa_cons (pv 0) (pa_cons (pe_op op_add (pe_callB call_len_seq rfl B.len (by decide +kernel) (pa_cons (pv 3) pa_nil)) pe_int) pa_nil))))
      (pss_cons (ps_set (i := 3) sc_law_refusals.nd rfl (Or.inl rfl) (pe_frz (pe_op op_catL (pe_op op_catL (pe_slice sl_list (pv 3) po_none (po_some (pv 10))) (pe_lst (pa_cons (pv 9) pa_nil))) (pe_slice sl_list (pv 3) (po_some (pv 10)) po_none))))
      (pss_one (ps_expr (pe_bm PySem.F.plainAttrs_list PySem.F.slot_list_append PySem.F.type_list_append mt_append (pv 4) (pa_cons (pv 9) pa_nil))))))))
      (pss_cons (ps_setLc (i := 6) (own := [("_law_value", 11)]) (g := (gName 11)) (tt := (tTest (tOp (rInP K id) (tVar 11) (tVar 4)))) rfl sc_law_refusals.nd rfl rfl (sw_true rfl rfl rfl (by decide +kernel)) (pi_list (pv 3)) (blkOk_by (N := n_law_refusals) (sc := defScope s_law_refusals) (by decide +kernel)) (fun _ _ _ _ _ => (pg_name (i := 11) sc_law_refusals.nd rfl (Or.inl rfl))) (fun _ _ _ _ _ => (pts_one (pt_cmpR (op_inP hr.units) (pv 11) (pv 4) rfl))) (fun _ _ _ _ _ => (pv 11)))
      (pss_cons (ps_setLc (i := 7) (own := [("_law_value", 11)]) (g := (gName 11)) (tt := (tTest (tOp (rInP K not) (tVar 11) (tVar 4)))) rfl sc_law_refusals.nd rfl rfl (sw_true rfl rfl rfl (by decide +kernel)) (pi_list (pv 3)) (blkOk_by (N := n_law_refusals) (sc := defScope s_law_refusals) (by decide +kernel)) (fun _ _ _ _ _ => (pg_name (i := 11) sc_law_refusals.nd rfl (Or.inl rfl))) (fun _ _ _ _ _ => (pts_one (pt_cmpR (op_notInP hr.units) (pv 11) (pv 4) rfl))) (fun _ _ _ _ _ => (pv 11)))
      (pss_cons (ps_set (i := 8) sc_law_refusals.nd rfl (Or.inl rfl) (pe_frz (pe_callTy call_list_of rfl B.list_ (by decide +kernel) (pa_cons (pv 3) pa_nil))))
      (pss_cons (ps_if (PW.pt (pw_or (pt_not (pt_val (pe_fn G_law_refused (hr.mono (by omega)) rfl (pa_cons (pv 8) (pa_cons (pe_ix ix_list (pv 6) pe_int (fun _ _ => rfl)) pa_nil))))) (pw_or1 (pt_cmpR (op_neP hr.units) (pv 8) (pv 3) (nomark _))))) (pss_one (ps_ret pe_bl)) pss_nil)
      (pss_one (ps_frz 7 (ps_ret (pe_and (pe_fn G_law_shows (hr.mono (by omega)) rfl (pa_cons (pe_frz (pe_mkX (E := fun _ => E0) G_Sheet_init (hr.mono (by omega)) rfl B.g_Sheet (fun _ => pass00) (pa_cons (pv 7) pa_nil))) (pa_cons (pe_fn G_law_ordered (hr.mono (by omega)) rfl (pa_cons (pv 7) pa_nil)) (pa_cons (pv 1) pa_nil)))) (pe_one (pe_fn G_law_refused (hr.mono (by omega)) rfl (pa_cons (pe_callTy call_tuple_of rfl B.tuple_ (by decide +kernel) (pa_cons (pv 3) pa_nil)) (pa_cons (pe_ix ix_list (pv 6) pe_int (fun _ _ => rfl)) pa_nil)))))))))))))))
theorem okAt_law (B : Txt w K mg C) (Y : Fl K C) (F : FnP K "law" s_law f fd) (G_law_source : OkF P w K mg base "_law_source" 1 ["_law_script"] (sp_law_source K)) (G_law_names : OkF P w K mg base "_law_names" 4 ["_law_source_here", "_law_many"] (up K (q_law_names))) (G_law_take : OkF P w K mg base "_law_take" 2 ["_law_source_here", "_law_many"] (up K q_law_take)) (G_law_pool : OkF P w K mg base "_law_pool" 6 ["_law_source_here", "_law_parts", "_law_measures", "_law_many"] (up K (q_law_pool))) (G_law_size : OkF P w K mg base "_law_size" 3 ["_law_source_here", "_law_small", "_law_large"] (up K (q_law_size))) (G_law_spoilt : OkF P w K mg base "_law_spoilt" 6 ["_law_source_here", "_law_old", "_law_measures"] (up K (q_law_spoilt))) (G_is_limit : OkF P w K mg base "is_limit" 4 ["value"] (up K (q_is_limit))) (G_law_sheets_agree : OkF P w K mg base "_law_sheets_agree" 16 ["_law_source_here", "_law_pool_here"] (up K (q_law_sheets_agree))) (G_law_refusals : OkF P w K mg base "_law_refusals" 15 ["_law_source_here", "_law_pool_here", "_law_measures"] (up K (q_law_refusals))) : GOk P w K mg base 17 f fd ["_law_script"] (sp_top K) := by
  refine gok_of F sc_law (fun vs H Q E h => len_top h) (fun cdv A outer s H vs Q E gd hr h => ⟨tSeq (tAsg (tCall (sp_law_source K) [] E0 (tCons (tVar 0) tNil)) (gName 1)) (t_law K C), PSs.nox ?_, run_top (N := n_law) (fun s c H0 => l_law Y) rfl (by decide) (pr_law C) h⟩)
  exact (pss_cons (ps_set (i := 1) sc_law.nd rfl (Or.inr rfl) (pe_fn G_law_source (hr.mono (by omega)) rfl (pa_cons (pv 0) pa_nil)))
      (pss_cons (ps_set (i := 2) sc_law.nd rfl (Or.inl rfl) (pe_fn G_law_names (hr.mono (by omega)) rfl (pa_cons (pv 1) (pa_cons (pe_op op_add pe_int (pe_fn G_law_take (hr.mono (by omega)) rfl (pa_cons (pv 1) (pa_cons pe_int pa_nil)))) pa_nil))))
      (pss_cons (ps_set (i := 3) sc_law.nd rfl (Or.inl rfl) (pe_frz (pe_op op_catL (pe_slice sl_list (pv 2) po_none (po_some (pe_op op_add pe_int (pe_fn G_law_take (hr.mono (by omega)) rfl (pa_cons (pv 1) (pa_cons pe_int pa_nil)))))) (pe_lst (pa_cons pe_str pa_nil)))))
      (pss_cons (ps_set (i := 4) sc_law.nd rfl (Or.inr rfl) (pe_frz (pe_callB (cr_sortedL (u2 hr)) rfl B.sorted (by decide +kernel) (pa_cons (pe_lc (own := [("_law_name", 10)]) (g := (gName 10)) (tt := tYes) rfl sc_law.nd (pi_list (pe_frz (pe_slice sl_list (pv 2) (po_some pe_int) po_none))) (blkOk_by (N := n_law) (sc := defScope s_law) (by decide +kernel)) (fun _ _ _ _ _ => (pg_name (i := 10) sc_law.nd rfl (Or.inl rfl))) (fun _ _ _ _ _ => pts_nil) (fun _ _ _ _ _ => (pe_callTy SkE.call_str_str rfl B.str_ (by decide +kernel) (pa_cons (pv 10) pa_nil)))) pa_nil))))
      (pss_cons (ps_set (i := 5) sc_law.nd rfl (Or.inr rfl) (pe_fn G_law_pool (hr.mono (by omega)) rfl (pa_cons (pv 1) (pa_cons (pv 3) (pa_cons (pv 4) (pa_cons (pe_fn G_law_size (hr.mono (by omega)) rfl (pa_cons (pv 1) (pa_cons pe_int (pa_cons pe_int pa_nil)))) pa_nil))))))
      (pss_cons (ps_setLc (i := 6) (own := [("_law_k", 9)]) (g := (gName 9)) (tt := tYes) rfl sc_law.nd rfl rfl (sw_true rfl rfl rfl (by decide +kernel)) (pi_range1 rfl B.range (pa_cons (pe_op op_add pe_int (pe_fn G_law_take (hr.mono (by omega)) rfl (pa_cons (pv 1) (pa_cons pe_int pa_nil)))) pa_nil)) (blkOk_by (N := n_law) (sc := defScope s_law) (by decide +kernel)) (fun _ _ _ _ _ => (pg_name (i := 9) sc_law.nd rfl (Or.inl rfl))) (fun _ _ _ _ _ => pts_nil) (fun _ _ _ _ _ => (pe_fn G_law_spoilt (hr.mono (by omega)) rfl (pa_cons (pv 1) (pa_cons (pe_ix ix_list (pv 5) (pe_fn G_law_take (hr.mono (by omega)) rfl (pa_cons (pv 1) (pa_cons (pe_callB call_len_seq rfl B.len (by decide +kernel) (pa_cons (pv 5) pa_nil)) pa_nil))) (fun _ _ => rfl)) (pa_cons (pv 4) pa_nil))))))
      (pss_cons (ps_for PassesOwn.never rfl (pi_list (pe_frz (pe_op op_catL (pv 6) (pe_lst (pa_cons (pe_tup pa_nil) pa_nil))))) (pg_name (i := 7) sc_law.nd rfl (Or.inl rfl)) (pss_one (ps_if (pt_cmpR op_notBl (pe_fn G_is_limit (hr.mono (by omega)) rfl (pa_cons (pv 7) pa_nil)) pe_bl (nomark _)) (pss_one (ps_ret pe_bl)) pss_nil)))
      (pss_cons (ps_for PassesOwn.never rfl (pi_list (pv 5)) (pg_name (i := 8) sc_law.nd rfl (Or.inl rfl)) (pss_one (ps_if (pt_cmpR op_notBl (pe_fn G_is_limit (hr.mono (by omega)) rfl (pa_cons (pv 8) pa_nil)) pe_bl (nomark _)) (pss_one (ps_ret pe_bl)) pss_nil)))
      (pss_one (ps_ret (pe_and (pe_fn G_law_sheets_agree (hr.mono (by omega)) rfl (pa_cons (pv 1) (pa_cons (pv 5) pa_nil))) (pe_one (pe_fn G_law_refusals (hr.mono (by omega)) rfl (pa_cons (pv 1) (pa_cons (pv 5) (pa_cons (pv 4) pa_nil))))))))))))))))
end
end My


namespace My
open PySem PySem.Spec PyProof.Rows L2
theorem facts {P : Program} {w : World} {K : PySem.W.Frag} {h : Heap} {mg : Str → Option Value} {f : Addr} (X : K.In h) (G : h.Ns mainGlobals mg) (hfa : mg ("law" : Str) = some (.ref f)) (c0 : obsX facs fns tabs xt K = valX fns tabs w) :
    ∃ fd : FuncData, (∀ (s : Shared) (v : Value), BindsTo s fd ⟨[v], []⟩ [("_law_script", v)]) ∧ ∀ base : Heap, K.In base → base.Ns mainGlobals mg → GOk P w K mg base 17 f fd ["_law_script"] (sp_top K) := by
  have c := sx_d c0
  obtain ⟨y1, x0⟩ := Bool.and_eq_true_iff.mp (sx_x c0)
  obtain ⟨y2, x0⟩ := Bool.and_eq_true_iff.mp x0
  obtain ⟨y3, x0⟩ := Bool.and_eq_true_iff.mp x0
  obtain ⟨y4, x0⟩ := Bool.and_eq_true_iff.mp x0
  obtain ⟨y5, x0⟩ := Bool.and_eq_true_iff.mp x0
  obtain ⟨y6, x0⟩ := Bool.and_eq_true_iff.mp x0
  obtain ⟨x0, tv_ITEM_COUNTS⟩ := Bool.and_eq_true_iff.mp x0
  have ea : ∀ E ∈ xcs (adr K), ExcAll K E := fun E hE => excB_ok (List.all_eq_true.mp y1 E hE)
  have m_BadLimit : (adr K).BadLimit ∈ xcs (adr K) := by simp [xcs]
  have m_BadChange : (adr K).BadChange ∈ xcs (adr K) := by simp [xcs]
  have m_DoesNotGo : (adr K).DoesNotGo ∈ xcs (adr K) := by simp [xcs]
  have B : Txt w K mg (adr K) := ⟨He.free_ok X G (c.fact 0 (f := .free "ValueError") rfl),
    He.free_ok X G (c.fact 1 (f := .free "abs") rfl),
    He.free_ok X G (c.fact 2 (f := .free "all") rfl),
    He.free_ok X G (c.fact 3 (f := .free "enumerate") rfl),
    He.free_ok X G (c.fact 4 (f := .free "int") rfl),
    He.free_ok X G (c.fact 5 (f := .free "isinstance") rfl),
    He.free_ok X G (c.fact 6 (f := .free "iter") rfl),
    He.free_ok X G (c.fact 7 (f := .free "len") rfl),
    He.free_ok X G (c.fact 8 (f := .free "list") rfl),
    He.free_ok X G (c.fact 9 (f := .free "max") rfl),
    He.free_ok X G (c.fact 10 (f := .free "range") rfl),
    He.free_ok X G (c.fact 11 (f := .free "sorted") rfl),
    He.free_ok X G (c.fact 12 (f := .free "str") rfl),
    He.free_ok X G (c.fact 13 (f := .free "tuple") rfl),
    He.glo_ok X G (c.fact 14 (f := .glo "Sheet") rfl),
    He.glo_ok X G (c.fact 15 (f := .glo "OfficeError") rfl),
    He.glo_ok X G (c.fact 16 (f := .glo "BadLimit") rfl),
    He.glo_ok X G (c.fact 17 (f := .glo "BadChange") rfl),
    He.glo_ok X G (c.fact 18 (f := .glo "DoesNotGo") rfl),
    He.str_ok X G (c.fact 19 (f := .str "LETTERS" "abcdefghijklmnopqrstuvwxyz") rfl),
    He.str_ok X G (c.fact 20 (f := .str "DIGITS" "0123456789") rfl),
    He.int_ok X G (c.fact 21 (f := .int "LONGEST_NAME" 12) rfl),
    He.str_ok X G (c.fact 22 (f := .str "FRAME" "frame") rfl),
    He.str_ok X G (c.fact 23 (f := .str "CHARACTERS" "!\"#$&'()*+,-./0123456789:;<=>?@ABCDEFGHIJKLMNOPQRSTUVWXYZ[\\]^_`abcdefghijklmnopqrstuvwxyz{|}~") rfl),
    He.glo_ok X G (c.fact 24 (f := .glo "ITEM_COUNTS") rfl),
    He.SaysT.tab (sx_t c0) 0 (t := tt_ITEM_COUNTS) rfl⟩
  have Z_Sheet : ClsK K (adr K).Sheet := clsB_ok (He.cls_ok (c.fact 25 (f := .cls "Sheet") rfl)) (List.all_eq_true.mp y5 "Sheet" (by decide))
  have Y : Fl K (adr K) := ⟨Z_Sheet, (He.noat_ok (c.fact 27 (f := .noat "Sheet" "_limits") rfl)), tabV_ok (w := w) (sx_k c0 0 (t := tt_ITEM_COUNTS) rfl) tv_ITEM_COUNTS, exmB_ok y3, fun E hE => (ea E hE).exc, kitB2_ok y2, fun E hE => (ea E hE).ve, of_decide_eq_true y4, (ea _ m_BadLimit).xf, (ea _ m_BadChange).xf, (ea _ m_DoesNotGo).xf, (He.noat_ok (c.fact 28 (f := .noat "BadLimit" "limit") rfl)), (He.noat_ok (c.fact 29 (f := .noat "BadChange" "limit") rfl)), (He.noat_ok (c.fact 30 (f := .noat "DoesNotGo" "limit") rfl))⟩
  have fnm : ∀ q ∈ mths, PySem.W.fnIn K (He.ma K (He.ga K q.1) q.2) = true := List.all_eq_true.mp y6
  obtain ⟨fd_law_mixed, F_law_mixed⟩ := c.def_ 0 (d := d_law_mixed) rfl
  obtain ⟨fd_law_source, F_law_source⟩ := c.def_ 1 (d := d_law_source) rfl
  obtain ⟨fd_law_take, F_law_take⟩ := c.def_ 2 (d := d_law_take) rfl
  have G_law_mixed := fun base : Heap => ok_law_mixed (P := P) (base := base) B F_law_mixed (He.glo_ok X G (c.fact 43 (f := .glo "_law_mixed") rfl))
  have G_law_source := fun base : Heap => ok_law_source (P := P) (base := base) B F_law_source (He.glo_ok X G (c.fact 44 (f := .glo "_law_source") rfl))
  have G_law_take := fun base : Heap => okF_weak (ok_law_take (P := P) (base := base) B F_law_take (He.glo_ok X G (c.fact 45 (f := .glo "_law_take") rfl)) (G_law_mixed base)) (sp2 := up K q_law_take) fun _ _ _ _ z => up_take z
  obtain ⟨fd_BadLimit_init, F_BadLimit_init⟩ := c.def_ 3 (d := d_BadLimit_init) rfl
  have G_BadLimit_init : ∀ base : Heap, OkE P w K mg base (adr K).BadLimit 1 ["self", "limit"] (sp_exc1 (adr K).BadLimit "limit") := fun base => ok_BadLimit_init B Y (ea _ m_BadLimit).oex (He.meth_ok (c.fact 31 (f := .meth "BadLimit" "__init__") rfl)).at_ (beq_iff_eq.mp (He.meth_ok (c.fact 31 (f := .meth "BadLimit" "__init__") rfl)).fn) F_BadLimit_init 
  obtain ⟨fd_BadChange_init, F_BadChange_init⟩ := c.def_ 4 (d := d_BadChange_init) rfl
  have G_BadChange_init : ∀ base : Heap, OkE P w K mg base (adr K).BadChange 1 ["self", "limit"] (sp_exc1 (adr K).BadChange "limit") := fun base => ok_BadChange_init B Y (ea _ m_BadChange).oex (He.meth_ok (c.fact 32 (f := .meth "BadChange" "__init__") rfl)).at_ (beq_iff_eq.mp (He.meth_ok (c.fact 32 (f := .meth "BadChange" "__init__") rfl)).fn) F_BadChange_init 
  obtain ⟨fd_DoesNotGo_init, F_DoesNotGo_init⟩ := c.def_ 5 (d := d_DoesNotGo_init) rfl
  have G_DoesNotGo_init : ∀ base : Heap, OkE P w K mg base (adr K).DoesNotGo 1 ["self", "limit"] (sp_exc1 (adr K).DoesNotGo "limit") := fun base => ok_DoesNotGo_init B Y (ea _ m_DoesNotGo).oex (He.meth_ok (c.fact 33 (f := .meth "DoesNotGo" "__init__") rfl)).at_ (beq_iff_eq.mp (He.meth_ok (c.fact 33 (f := .meth "DoesNotGo" "__init__") rfl)).fn) F_DoesNotGo_init 
  obtain ⟨fd_Sheet_iter, F_Sheet_iter⟩ := c.def_ 6 (d := d_Sheet_iter) rfl
  have G_Sheet_iter : ∀ base : Heap, OkIt P w K mg base (adr K).Sheet "_limits" 1 ["self"] := fun base => ok_Sheet_iter B Y (He.meth_ok (c.fact 34 (f := .meth "Sheet" "__iter__") rfl)) F_Sheet_iter 
  obtain ⟨fd_Sheet_len, F_Sheet_len⟩ := c.def_ 7 (d := d_Sheet_len) rfl
  have G_Sheet_len : ∀ base : Heap, OkLn P w K mg base (adr K).Sheet "_limits" 1 ["self"] := fun base => ok_Sheet_len B Y (He.meth_ok (c.fact 35 (f := .meth "Sheet" "__len__") rfl)) F_Sheet_len 
  obtain ⟨fd_is_nameR, F_is_nameR⟩ := c.def_ 8 (d := d_is_nameR) rfl
  have G_is_nameR : ∀ base : Heap, OkF P w K mg base "is_name" 1 ["text"] (up K (q_is_nameR)) := fun base => ok_is_nameR B Y F_is_nameR (He.glo_ok X G (c.fact 46 (f := .glo "is_name") rfl)) 
  obtain ⟨fd_is_step_nameR, F_is_step_nameR⟩ := c.def_ 9 (d := d_is_step_nameR) rfl
  have G_is_step_nameR : ∀ base : Heap, OkF P w K mg base "is_step_name" 2 ["text"] (up K (q_is_step_nameR)) := fun base => ok_is_step_nameR B Y F_is_step_nameR (He.glo_ok X G (c.fact 47 (f := .glo "is_step_name") rfl)) (G_is_nameR base)
  obtain ⟨fd_is_textR, F_is_textR⟩ := c.def_ 10 (d := d_is_textR) rfl
  have G_is_textR : ∀ base : Heap, OkF P w K mg base "is_text" 1 ["text"] (up K (q_is_textR)) := fun base => ok_is_textR B Y F_is_textR (He.glo_ok X G (c.fact 48 (f := .glo "is_text") rfl)) 
  obtain ⟨fd_joined_rows, F_joined_rows⟩ := c.def_ 11 (d := d_joined_rows) rfl
  have G_joined_rows : ∀ base : Heap, OkF P w K mg base "joined_rows" 1 ["first", "second"] (up K (q_joined_rows)) := fun base => ok_joined_rows B Y F_joined_rows (He.glo_ok X G (c.fact 49 (f := .glo "joined_rows") rfl)) 
  obtain ⟨fd_in_order, F_in_order⟩ := c.def_ 12 (d := d_in_order) rfl
  have G_in_order : ∀ base : Heap, OkF P w K mg base "in_order" 10 ["rows"] (up K (q_in_order 8)) := fun base => ok_in_order B Y F_in_order (He.glo_ok X G (c.fact 50 (f := .glo "in_order") rfl)) (G_joined_rows base) 8
  obtain ⟨fd_distinct, F_distinct⟩ := c.def_ 13 (d := d_distinct) rfl
  have G_distinct : ∀ base : Heap, OkF P w K mg base "distinct" 11 ["rows"] (up K (q_distinct)) := fun base => ok_distinct B Y F_distinct (He.glo_ok X G (c.fact 51 (f := .glo "distinct") rfl)) (G_in_order base)
  obtain ⟨fd_is_sum, F_is_sum⟩ := c.def_ 14 (d := d_is_sum) rfl
  have G_is_sum : ∀ base : Heap, OkF P w K mg base "is_sum" 3 ["value"] (up K (q_is_sum)) := fun base => ok_is_sum B Y F_is_sum (He.glo_ok X G (c.fact 52 (f := .glo "is_sum") rfl)) (G_is_step_nameR base)
  obtain ⟨fd_is_limit, F_is_limit⟩ := c.def_ 15 (d := d_is_limit) rfl
  have G_is_limit : ∀ base : Heap, OkF P w K mg base "is_limit" 4 ["value"] (up K (q_is_limit)) := fun base => ok_is_limit B Y F_is_limit (He.glo_ok X G (c.fact 53 (f := .glo "is_limit") rfl)) (G_is_nameR base) (G_is_textR base) (G_is_sum base)
  obtain ⟨fd_Sheet_init, F_Sheet_init⟩ := c.def_ 16 (d := d_Sheet_init) rfl
  have G_Sheet_init : ∀ base : Heap, OkIX P w K mg base (adr K).Sheet 12 ["self", "limits"] (upIC K (adr K).Sheet (q_Sheet_init (adr K))) := fun base => ok_Sheet_init B Y (He.mkr_ok (c.fact 26 (f := .mkr "Sheet") rfl)) F_Sheet_init (G_is_limit base) (G_BadLimit_init base) (G_distinct base)
  obtain ⟨fd_Sheet_listed, F_Sheet_listed⟩ := c.def_ 17 (d := d_Sheet_listed) rfl
  have G_Sheet_listed : ∀ base : Heap, OkM P w K mg base (adr K).Sheet "listed" 1 ["self"] (upL K (q_Sheet_listed (adr K))) := fun base => ok_Sheet_listed B Y (He.meth_ok (c.fact 36 (f := .meth "Sheet" "listed") rfl)) (fnm ("Sheet", "listed") (by decide)) F_Sheet_listed 
  obtain ⟨fd_Sheet_contains, F_Sheet_contains⟩ := c.def_ 18 (d := d_Sheet_contains) rfl
  have G_Sheet_contains : ∀ base : Heap, OkM P w K mg base (adr K).Sheet "__contains__" 1 ["self", "limit"] (up K (q_Sheet_contains (adr K))) := fun base => ok_Sheet_contains B Y (He.meth_ok (c.fact 37 (f := .meth "Sheet" "__contains__") rfl)) (fnm ("Sheet", "__contains__") (by decide)) F_Sheet_contains 
  obtain ⟨fd_Sheet_or, F_Sheet_or⟩ := c.def_ 19 (d := d_Sheet_or) rfl
  have G_Sheet_or : ∀ base : Heap, OkM P w K mg base (adr K).Sheet "__or__" 14 ["self", "other"] (up K (q_Sheet_or (adr K))) := fun base => ok_Sheet_or B Y (He.meth_ok (c.fact 38 (f := .meth "Sheet" "__or__") rfl)) (fnm ("Sheet", "__or__") (by decide)) F_Sheet_or (G_Sheet_init base) (G_Sheet_listed base)
  obtain ⟨fd_Sheet_and, F_Sheet_and⟩ := c.def_ 20 (d := d_Sheet_and) rfl
  have G_Sheet_and : ∀ base : Heap, OkM P w K mg base (adr K).Sheet "__and__" 14 ["self", "other"] (up K (q_Sheet_and (adr K))) := fun base => ok_Sheet_and B Y (He.meth_ok (c.fact 39 (f := .meth "Sheet" "__and__") rfl)) (fnm ("Sheet", "__and__") (by decide)) F_Sheet_and (G_Sheet_listed base) (G_Sheet_init base)
  obtain ⟨fd_Sheet_sub, F_Sheet_sub⟩ := c.def_ 21 (d := d_Sheet_sub) rfl
  have G_Sheet_sub : ∀ base : Heap, OkM P w K mg base (adr K).Sheet "__sub__" 14 ["self", "other"] (up K (q_Sheet_sub (adr K))) := fun base => ok_Sheet_sub B Y (He.meth_ok (c.fact 40 (f := .meth "Sheet" "__sub__") rfl)) (fnm ("Sheet", "__sub__") (by decide)) F_Sheet_sub (G_Sheet_listed base) (G_Sheet_init base)
  obtain ⟨fd_Sheet_le, F_Sheet_le⟩ := c.def_ 22 (d := d_Sheet_le) rfl
  have G_Sheet_le : ∀ base : Heap, OkM P w K mg base (adr K).Sheet "__le__" 2 ["self", "other"] (up K (q_Sheet_le (adr K))) := fun base => ok_Sheet_le B Y (He.meth_ok (c.fact 41 (f := .meth "Sheet" "__le__") rfl)) (fnm ("Sheet", "__le__") (by decide)) F_Sheet_le (G_Sheet_listed base)
  obtain ⟨fd_Sheet_eq, F_Sheet_eq⟩ := c.def_ 23 (d := d_Sheet_eq) rfl
  have G_Sheet_eq : ∀ base : Heap, OkM P w K mg base (adr K).Sheet "__eq__" 1 ["self", "other"] (up K (q_Sheet_eq (adr K))) := fun base => ok_Sheet_eq B Y (He.meth_ok (c.fact 42 (f := .meth "Sheet" "__eq__") rfl)) (fnm ("Sheet", "__eq__") (by decide)) F_Sheet_eq 
  obtain ⟨fd_law_size, F_law_size⟩ := c.def_ 24 (d := d_law_size) rfl
  have G_law_size : ∀ base : Heap, OkF P w K mg base "_law_size" 3 ["_law_source_here", "_law_small", "_law_large"] (up K (q_law_size)) := fun base => ok_law_size B Y F_law_size (He.glo_ok X G (c.fact 54 (f := .glo "_law_size") rfl)) (G_law_take base)
  obtain ⟨fd_law_word, F_law_word⟩ := c.def_ 25 (d := d_law_word) rfl
  have G_law_word : ∀ base : Heap, OkF P w K mg base "_law_word" 3 ["_law_source_here"] (up K (q_law_word)) := fun base => ok_law_word B Y F_law_word (He.glo_ok X G (c.fact 55 (f := .glo "_law_word") rfl)) (G_law_take base)
  obtain ⟨fd_law_names, F_law_names⟩ := c.def_ 26 (d := d_law_names) rfl
  have G_law_names : ∀ base : Heap, OkF P w K mg base "_law_names" 4 ["_law_source_here", "_law_many"] (up K (q_law_names)) := fun base => ok_law_names B Y F_law_names (He.glo_ok X G (c.fact 56 (f := .glo "_law_names") rfl)) (G_law_word base) (G_law_take base)
  obtain ⟨fd_law_number, F_law_number⟩ := c.def_ 27 (d := d_law_number) rfl
  have G_law_number : ∀ base : Heap, OkF P w K mg base "_law_number" 3 ["_law_source_here"] (up K (q_law_number)) := fun base => ok_law_number B Y F_law_number (He.glo_ok X G (c.fact 57 (f := .glo "_law_number") rfl)) (G_law_take base)
  obtain ⟨fd_law_times, F_law_times⟩ := c.def_ 28 (d := d_law_times) rfl
  have G_law_times : ∀ base : Heap, OkF P w K mg base "_law_times" 4 ["_law_source_here"] (up K (q_law_times)) := fun base => ok_law_times B Y F_law_times (He.glo_ok X G (c.fact 58 (f := .glo "_law_times") rfl)) (G_law_number base)
  obtain ⟨fd_law_stack, F_law_stack⟩ := c.def_ 29 (d := d_law_stack) rfl
  have G_law_stack : ∀ base : Heap, OkF P w K mg base "_law_stack" 3 ["_law_source_here"] (up K (q_law_stack)) := fun base => ok_law_stack B Y F_law_stack (He.glo_ok X G (c.fact 59 (f := .glo "_law_stack") rfl)) (G_law_take base)
  obtain ⟨fd_law_fresh, F_law_fresh⟩ := c.def_ 30 (d := d_law_fresh) rfl
  have G_law_fresh : ∀ base : Heap, OkF P w K mg base "_law_fresh" 5 ["_law_source_here", "_law_parts", "_law_measures"] (up K (q_law_fresh)) := fun base => ok_law_fresh B Y F_law_fresh (He.glo_ok X G (c.fact 60 (f := .glo "_law_fresh") rfl)) (G_law_take base) (G_law_times base) (G_law_number base) (G_law_stack base)
  obtain ⟨fd_law_built, F_law_built⟩ := c.def_ 31 (d := d_law_built) rfl
  have G_law_built : ∀ base : Heap, OkF P w K mg base "_law_built" 1 ["_law_kind", "_law_upper", "_law_lower", "_law_stack_here", "_law_whole"] (up K (q_law_built)) := fun base => ok_law_built B Y F_law_built (He.glo_ok X G (c.fact 61 (f := .glo "_law_built") rfl)) 
  obtain ⟨fd_law_near, F_law_near⟩ := c.def_ 32 (d := d_law_near) rfl
  have G_law_near : ∀ base : Heap, OkF P w K mg base "_law_near" 3 ["_law_source_here", "_law_old", "_law_other"] (up K (q_law_near)) := fun base => ok_law_near B Y F_law_near (He.glo_ok X G (c.fact 62 (f := .glo "_law_near") rfl)) (G_law_take base) (G_law_built base)
  obtain ⟨fd_law_ordered, F_law_ordered⟩ := c.def_ 33 (d := d_law_ordered) rfl
  have G_law_ordered : ∀ base : Heap, OkF P w K mg base "_law_ordered" 1 ["_law_rows"] (up K (q_law_ordered)) := fun base => ok_law_ordered B Y F_law_ordered (He.glo_ok X G (c.fact 63 (f := .glo "_law_ordered") rfl)) 
  obtain ⟨fd_law_pool, F_law_pool⟩ := c.def_ 34 (d := d_law_pool) rfl
  have G_law_pool : ∀ base : Heap, OkF P w K mg base "_law_pool" 6 ["_law_source_here", "_law_parts", "_law_measures", "_law_many"] (up K (q_law_pool)) := fun base => ok_law_pool B Y F_law_pool (He.glo_ok X G (c.fact 64 (f := .glo "_law_pool") rfl)) (G_law_fresh base) (G_law_take base) (G_law_near base) (G_law_ordered base)
  obtain ⟨fd_law_bad_name, F_law_bad_name⟩ := c.def_ 35 (d := d_law_bad_name) rfl
  have G_law_bad_name : ∀ base : Heap, OkF P w K mg base "_law_bad_name" 3 ["_law_source_here", "_law_word_here"] (up K (q_law_bad_name)) := fun base => ok_law_bad_name B Y F_law_bad_name (He.glo_ok X G (c.fact 65 (f := .glo "_law_bad_name") rfl)) (G_law_take base)
  obtain ⟨fd_law_bad_terms, F_law_bad_terms⟩ := c.def_ 36 (d := d_law_bad_terms) rfl
  have G_law_bad_terms : ∀ base : Heap, OkF P w K mg base "_law_bad_terms" 5 ["_law_source_here", "_law_terms", "_law_measures"] (up K (q_law_bad_terms)) := fun base => ok_law_bad_terms B Y F_law_bad_terms (He.glo_ok X G (c.fact 66 (f := .glo "_law_bad_terms") rfl)) (G_law_times base) (G_law_take base) (G_law_bad_name base)
  obtain ⟨fd_law_spoilt, F_law_spoilt⟩ := c.def_ 37 (d := d_law_spoilt) rfl
  have G_law_spoilt : ∀ base : Heap, OkF P w K mg base "_law_spoilt" 6 ["_law_source_here", "_law_old", "_law_measures"] (up K (q_law_spoilt)) := fun base => ok_law_spoilt B Y F_law_spoilt (He.glo_ok X G (c.fact 67 (f := .glo "_law_spoilt") rfl)) (G_law_take base) (G_law_bad_name base) (G_law_bad_terms base) (G_law_built base)
  obtain ⟨fd_law_truth, F_law_truth⟩ := c.def_ 38 (d := d_law_truth) rfl
  have G_law_truth : ∀ base : Heap, OkF P w K mg base "_law_truth" 1 ["_law_value", "_law_due"] (up K (q_law_truth)) := fun base => ok_law_truth B Y F_law_truth (He.glo_ok X G (c.fact 68 (f := .glo "_law_truth") rfl)) 
  obtain ⟨fd_law_shows, F_law_shows⟩ := c.def_ 39 (d := d_law_shows) rfl
  have G_law_shows : ∀ base : Heap, OkF P w K mg base "_law_shows" 5 ["_law_sheet", "_law_due", "_law_pool_here"] (up K (q_law_shows (adr K))) := fun base => ok_law_shows B Y F_law_shows (He.glo_ok X G (c.fact 69 (f := .glo "_law_shows") rfl)) (G_Sheet_len base) (G_Sheet_iter base) (G_Sheet_contains base)
  obtain ⟨fd_law_drawn_rows, F_law_drawn_rows⟩ := c.def_ 40 (d := d_law_drawn_rows) rfl
  have G_law_drawn_rows : ∀ base : Heap, OkF P w K mg base "_law_drawn_rows" 3 ["_law_source_here", "_law_pool_here"] (up K (q_law_drawn_rows)) := fun base => ok_law_drawn_rows B Y F_law_drawn_rows (He.glo_ok X G (c.fact 70 (f := .glo "_law_drawn_rows") rfl)) (G_law_take base)
  obtain ⟨fd_law_apart, F_law_apart⟩ := c.def_ 41 (d := d_law_apart) rfl
  have G_law_apart : ∀ base : Heap, OkF P w K mg base "_law_apart" 3 ["_law_sheet", "_law_rows"] (up K (q_law_apart (adr K))) := fun base => ok_law_apart B Y F_law_apart (He.glo_ok X G (c.fact 71 (f := .glo "_law_apart") rfl)) (G_law_truth base) (G_Sheet_eq base)
  obtain ⟨fd_law_operators, F_law_operators⟩ := c.def_ 42 (d := d_law_operators) rfl
  have G_law_operators : ∀ base : Heap, OkF P w K mg base "_law_operators" 15 ["_law_a", "_law_b", "_law_left", "_law_right", "_law_pool_here"] (up K (q_law_operators (adr K))) := fun base => ok_law_operators B Y F_law_operators (He.glo_ok X G (c.fact 72 (f := .glo "_law_operators") rfl)) (G_law_shows base) (G_Sheet_or base) (G_law_ordered base) (G_Sheet_and base) (G_Sheet_sub base) (G_law_truth base) (G_Sheet_le base) (G_Sheet_eq base)
  obtain ⟨fd_law_sheets_agree, F_law_sheets_agree⟩ := c.def_ 43 (d := d_law_sheets_agree) rfl
  have G_law_sheets_agree : ∀ base : Heap, OkF P w K mg base "_law_sheets_agree" 16 ["_law_source_here", "_law_pool_here"] (up K (q_law_sheets_agree)) := fun base => ok_law_sheets_agree B Y F_law_sheets_agree (He.glo_ok X G (c.fact 73 (f := .glo "_law_sheets_agree") rfl)) (G_law_drawn_rows base) (G_law_take base) (G_Sheet_init base) (G_law_ordered base) (G_law_shows base) (G_law_operators base) (G_law_apart base)
  obtain ⟨fd_law_refused, F_law_refused⟩ := c.def_ 44 (d := d_law_refused) rfl
  have G_law_refused : ∀ base : Heap, OkF P w K mg base "_law_refused" 14 ["_law_values", "_law_due"] (upC K (q_law_refused)) := fun base => ok_law_refused B Y F_law_refused (He.glo_ok X G (c.fact 74 (f := .glo "_law_refused") rfl)) (G_Sheet_init base)
  obtain ⟨fd_law_refusals, F_law_refusals⟩ := c.def_ 45 (d := d_law_refusals) rfl
  have G_law_refusals : ∀ base : Heap, OkF P w K mg base "_law_refusals" 15 ["_law_source_here", "_law_pool_here", "_law_measures"] (up K (q_law_refusals)) := fun base => ok_law_refusals B Y F_law_refusals (He.glo_ok X G (c.fact 75 (f := .glo "_law_refusals") rfl)) (G_law_drawn_rows base) (G_law_take base) (G_law_spoilt base) (G_law_refused base) (G_law_shows base) (G_Sheet_init base) (G_law_ordered base)
  obtain ⟨fd, F⟩ := c.def_ 46 (d := d_law) rfl
  have e := hfa.symm.trans (He.glo_ok X G (c.fact 76 (f := .glo "law") rfl))
  cases e
  have b := FunD.bindsA (ps := ["_law_script"]) F fun _ _ _ _ _ _ us hl => match us, hl with | [_], _ => rfl
  refine ⟨fd, fun s v => b s [v] rfl, fun base _ _ => ?_⟩
  exact okAt_law B Y F (G_law_source base) (G_law_names base) (G_law_take base) (G_law_pool base) (G_law_size base) (G_law_spoilt base) (G_is_limit base) (G_law_sheets_agree base) (G_law_refusals base)
end My
open PySem PySem.W PySem.Calls PyProof.Rows
theorem PySem.Challenge.cw_drawingoffice_k25_limits_and_sheets_holds : PySem.Challenge.rw_drawingoffice_k25_limits_and_sheets.Holds :=
  My.early fun P w K h mg f X G hfa c => My.facts X G hfa c
