import PyProof.Rows.All
import Wide.All
import OpenK.AllK
import Wide.FinOn
import KE.KStateDown
import Lean
import PyProof.ReprRoads
import HandS.ForMost
import HandS.More
import HandS.Wide
import HandS.EndBits
import HandS.FStr
import HandS.RaiseMore
import HandS.IsInst
import HandS.Zip
import HandS.Walk
import HandS.Evl
import HandS.Defaults
import HandS.WordsExc
import HandS.Head0
import HandS.Head1
import HandS.Head2
import HandS.HeadEnd
import HandS.HeadHook1
import HandS.HeadHook2
import HandS.HeadHook3
import HandS.Property
import HandS.Iter
import HandS.TupAny
import HandS.Conv
import KE.KOwnIter
import HandS.IterVal
import KE.SortData
import HandS.OwnEq
import HandS.OwnIter
import HandS.DictComp
import HandS.Style
import HandS.Codes
import PySem.Challenge.RW_drawingoffice_k19_catalogs
set_option Elab.async false
set_option linter.all false
set_option maxRecDepth 100000
set_option maxHeartbeats 0
/-! Pre: short words for the readings that gen.py prints; calls by name; a def that knows that no repr is under way; the law's end. -/
namespace My
open PySem PySem.Spec PyProof.Rows L2

/-! ### readings by name -/
abbrev rAddI : R2 := rI0 fun i j => .int (i + j)
abbrev rSubI : R2 := rI0 fun i j => .int (i - j)
abbrev rMulI : R2 := rI CMul fun i j => .int (i * j)
abbrev rModI : R2 := rI (fun _ j => 0 < j) fun i j => .int (i % j)
abbrev rDivI : R2 := rI CDivW fun i j => .int (i / j)
abbrev rPowI : R2 := rI CPow fun i j => .int (i ^ j.toNat)
abbrev rLtI : R2 := rI0 fun i j => .bl (decide (i < j))
abbrev rLeI : R2 := rI0 fun i j => .bl (decide (i ≤ j))
abbrev rGtI : R2 := rI0 fun i j => .bl (decide (j < i))
abbrev rGeI : R2 := rI0 fun i j => .bl (decide (j ≤ i))
def rCatS : R2 := fun x y H Q => ∃ i j, x = .str i ∧ y = .str j ∧ i.length + j.length ≤ sizeLine ∧ Q (.str (i ++ j)) H
def rLtS : R2 := fun x y H Q => ∃ i j, x = .str i ∧ y = .str j ∧ Q (.bl (decide (i.cps.toList < j.cps.toList))) H
def rLeS : R2 := fun x y H Q => ∃ i j, x = .str i ∧ y = .str j ∧ Q (.bl (!decide (j.cps.toList < i.cps.toList))) H
def rInSign : R2 := fun x y H Q => ∃ (c : Nat) (z : Str), x = .str ⟨#[c]⟩ ∧ y = .str z ∧ Q (.bl (decide (c ∈ z.cps.toList))) H
def rNotInSign : R2 := fun x y H Q => ∃ (c : Nat) (z : Str), x = .str ⟨#[c]⟩ ∧ y = .str z ∧ Q (.bl (!decide (c ∈ z.cps.toList))) H
def rIsN : R2 := fun x y H Q => y = .non ∧ Q (.bl (decide (x = .non))) H
def rNotN : R2 := fun x y H Q => y = .non ∧ Q (.bl (!decide (x = .non))) H
def rNotInKd (K : PySem.W.Frag) (d : Addr) : R2 := fun x y H Q => ∃ (z : Str) (r : Option Value), x = .str z ∧ y = .ref d ∧ PySem.W.nsIn K d z = some r ∧ Q (.bl (!r.isSome)) H
def rInKd (K : PySem.W.Frag) (d : Addr) : R2 := fun x y H Q => ∃ (z : Str) (r : Option Value), x = .str z ∧ y = .ref d ∧ PySem.W.nsIn K d z = some r ∧ Q (.bl r.isSome) H
abbrev CR1 := List V → Hp → VK → Prop
def cLenS : CR1 := fun xs H Q => ∃ z, xs = [.str z] ∧ z.length ≤ sizeLine ∧ Q (.int z.length) H
def cLenQ (K : PySem.W.Frag) : CR1 := fun xs H Q => ∃ p ys, xs = [.ref p] ∧ (SqL K H p ys ∨ SqT K H p ys) ∧ Q (.int ys.length) H
def cAbs : CR1 := fun xs H Q => ∃ i, xs = [.int i] ∧ Q (.int (if i < 0 then -i else i)) H
def cInt1 : CR1 := fun xs H Q => (∃ i, xs = [.int i] ∧ Q (.int i) H) ∨ ∃ k, xs = [.bl k] ∧ Q (.int (if k then 1 else 0)) H
def cIntS : CR1 := fun xs H Q => ∃ a n, xs = [.str a] ∧ PySem.intText? a = some n ∧ a.length ≤ 640 ∧ Q (.int n) H
def cStrI : CR1 := fun xs H Q => ∃ i : Int, xs = [.int i] ∧ i.natAbs.log2 < 1920 ∧ Q (.str (toString i)) H
def cStrS : CR1 := fun xs H Q => ∃ a, xs = [.str a] ∧ Q (.str a) H
def cTuple (K : PySem.W.Frag) : CR1 := fun xs H Q => ∃ p ys, xs = [.ref p] ∧ ((SqL K H p ys ∧ ∀ l, H l = none → Q (.ref l) (upd H l (.tup ys))) ∨ (SqT K H p ys ∧ Q (.ref p) H))
def cList (K : PySem.W.Frag) : CR1 := fun xs H Q => ∃ p ys, xs = [.ref p] ∧ (SqL K H p ys ∨ SqT K H p ys) ∧ ∀ l, H l = none → Q (.ref l) (upd H l (.lst ys))
abbrev MR1 := V → List V → Hp → VK → Prop
def mJoin (K : PySem.W.Frag) : MR1 := fun x xs H Q => ∃ a p, ∃ ys : List Str, x = .str a ∧ xs = [.ref p] ∧ (SqL K H p (ys.map V.str) ∨ SqT K H p (ys.map V.str)) ∧ (ys.map (·.length)).sum + ys.length * a.length ≤ 16777216 ∧ Q (.str (Txt.join a ys)) H
def mSplit : MR1 := fun x xs H Q => ∃ a b, x = .str a ∧ xs = [.str b] ∧ (b.length == 0) = false ∧ a.length + 2 ≤ sizeLine ∧ rNewStrs (Txt.split a b) H Q
def mPartition : MR1 := fun x xs H Q => ∃ a b, x = .str a ∧ xs = [.str b] ∧ (b.length == 0) = false ∧ a.length ≤ sizeLine ∧ ∀ p, H p = none → Q (.ref p) (upd H p (.tup [.str (Txt.partition a b).1, .str (Txt.partition a b).2.1, .str (Txt.partition a b).2.2]))
def tJoin (ts : List TE) : TE := fun σ H Q => tJs ts Str.empty σ H fun out H1 => Q (.str out) H1

/-! ### repr of data: the text is a function of the data -/
def cRepr (K : PySem.W.Frag) : CR1 := fun xs H Q => ∃ (a : Addr) (d : PyData), xs = [.ref a] ∧ Dp K H (.ref a) d ∧ PyData.showable d = true ∧ d.hasDict = false ∧ d.depth ≤ 60 ∧ d.shown.length ≤ sizeLine ∧ Q (.str d.shown) H
theorem call_repr_dp {X : Cx} (hg : X.A.guards = some []) (hu : X.A.units + 64 < cLine) : CallR X (.builtin "repr") (cRepr X.K) := by
  intro pins s σ H xs us Q I r h
  obtain ⟨a, d, rfl, hd, h1, h2, h3, h4, q⟩ := h
  obtain ⟨u, rfl, ru⟩ := vals1 r
  cases ru
  obtain ⟨as, rd⟩ := Dp.reads I d (.ref a) (.ref a) hd rfl
  refine repr_of_reads' rd h1 (fun z => ?_) hg (by omega) (fun _ _ z => z) (fun hp t tk hk => ?_) h4
  · rw [h2] at z
    cases z
  · exact ⟨.str d.shown, H, I.kept hk, ⟨t, rfl⟩, q⟩

section
variable {X : Cx}
/-! ### constants of the module -/
theorem pe_gstr {x z : Str} {pos : Pos} (hm : ∃ t, X.mg x = some (.str z t)) (hg : Gl X x := by rfl) (hd : (x == ("__debug__" : Str)) = false := by decide) : PE X (.Name x pos) (tC (.str z)) := by
  obtain ⟨t, e⟩ := hm
  exact pe_glob hg e ⟨t, rfl⟩ hd
theorem pe_gint {x : Str} {i : Int} {pos : Pos} (hm : ∃ t, X.mg x = some (.int i t)) (hg : Gl X x := by rfl) (hd : (x == ("__debug__" : Str)) = false := by decide) : PE X (.Name x pos) (tC (.int i)) := by
  obtain ⟨t, e⟩ := hm
  exact pe_glob hg e ⟨t, rfl⟩ hd
end

/-! ### a written dict with text keys -/
def IsKD (K : PySem.W.Frag) (w : World) (d : Addr) : Prop := ∃ es n, KDict K w d es n
section
variable {X : Cx}
theorem op_kdNotIn {d : Addr} (D : IsKD X.K X.w d) : OpR X (compareOp .NotIn) (rNotInKd X.K d) := by
  obtain ⟨es, n, D⟩ := D
  exact op_notIn_kd D
theorem op_kdIn {d : Addr} (D : IsKD X.K X.w d) : OpR X (compareOp .In) (rInKd X.K d) := by
  obtain ⟨es, n, D⟩ := D
  exact op_in_kd D
def rItemKd (K : PySem.W.Frag) (d : Addr) : R2 := fun x y H Q => ∃ (z : Str) (v : V) (u : Value), x = .ref d ∧ y = .str z ∧ PySem.W.nsIn K d z = some (some u) ∧ RelV v u ∧ Q v H
theorem ix_kd {d : Addr} (D : IsKD X.K X.w d) : IxR X (rItemKd X.K d) := by
  intro value slice pins s σ H x y v u Q I rx ry h hs
  obtain ⟨es, n, D⟩ := D
  obtain ⟨z, v0, u0, ex, ey, e, r, q⟩ := h
  exact ix_kdict value slice pins s σ H x y v u Q I rx ry ⟨d, z, v0, ex, ey, ⟨es, n, u0, D.at_, D.lit, e, r⟩, q⟩ hs
theorem pe_itemKd {d : Addr} {a b : Expr} {ta tb : TE} {pos : Pos} (D : IsKD X.K X.w d) (ha : PE X a ta) (hb : PE X b tb) (hs : PlainIx b := by exact fun _ _ => rfl) : PE X (.Subscript a b pos) (tOp (rItemKd X.K d) ta tb) :=
  pe_ix (ix_kd D) ha hb hs
/-- d.get(k, x) -/
def tGetKd (K : PySem.W.Frag) (d : Addr) (td ty tx : TE) : TE := fun σ H Q => td σ H fun x H1 => x = .ref d ∧ ty σ H1 fun y H2 => tx σ H2 fun z H3 => ∃ (k : Str) (o : Option Value), y = .str k ∧ PySem.W.nsIn K d k = some o ∧
  ((o = none ∧ Q z H3) ∨ ∃ v u, o = some u ∧ RelV v u ∧ Q v H3)
theorem pe_getKd {d : Addr} {o e f : Expr} {apos cpos : Pos} {td ty tx : TE} (D : IsKD X.K X.w d) (m : M2 X o "get" apos e f cpos) (ho : PE X o td) (he : PE X e ty) (hf : PE X f tx) : PE X (.Call (.Attribute o "get" apos) [e, f] [] cpos) (tGetKd X.K d td ty tx) := by
  obtain ⟨es, n, D⟩ := D
  refine ⟨fun pins s σ H Q I h => ?_⟩
  have ht : ∀ (s1 : Shared) (H1 : Hp), Inv X pins σ H1 s1 → s1.TypeIs (.ref d) "dict" := fun s1 H1 I1 => kd_type D I1
  refine wpAny_Call_method m.base m.few m.line PySem.F.plainAttrs_dict PySem.F.slot_dict_get PySem.F.type_dict_get (thn (ho.run pins s σ H _ I h) fun u s1 hv => ?_)
  obtain ⟨x, H1, I1, rx, ex, q1⟩ := hv
  subst ex
  obtain rfl : u = Value.ref d := rx
  refine ⟨ht s1 H1 I1, fun a ea => ?_, ?_⟩
  · cases ea
    exact ⟨_, I1.kIn d _ D.at_, rfl⟩
  · rw [m.trees]
    refine Calls.callWith_builtin rfl (Calls.evalArgs_plain (Calls.spliced_cons (thn (he.run pins s1 σ H1 _ I1 q1) fun kv s2 hk => ?_)))
    obtain ⟨y, H2, I2, ry, q2⟩ := hk
    refine Calls.spliced_cons (thn (hf.run pins s2 σ H2 _ I2 q2) fun fv s3 hz => Calls.spliced_nil ?_)
    obtain ⟨z, H3, I3, rz, k, ov, rfl, en, q3⟩ := hz
    obtain ⟨t, rfl⟩ := ry
    have mp := PySem.W.mapOf_K (prog := X.prog) (w := X.w) I3.kIn D.at_ D.lit
    refine call_meetsIn PySem.F.slot_dict_get (ht s3 H3 I3) PySem.F.entry_dict_get (PySem.F.args_dict_get_3 _ _ _) (meets_dict_get_default (strKind X.prog X.w) d (strKind_is X.prog X.w k t) D.low fv) ⟨_, mp, ?_⟩
    rw [PySem.W.find_K D.at_ en]
    rcases q3 with ⟨rfl, q⟩ | ⟨v, u, rfl, rv, q⟩
    · exact ⟨z, H3, I3.tok _, rz, q⟩
    · exact ⟨v, H3, I3.tok _, rv, q⟩
end

/-! ### a def by its name -/
/-- the module's name x is a def that keeps its promise -/
def OkF (P : Program) (w : World) (K : PySem.W.Frag) (mg : Str → Option Value) (base : Heap) (x : Str) (k : Nat) (ps : List Str) (sp : Sp) : Prop :=
  ∃ f fd, mg x = some (.ref f) ∧ PySem.W.keepIn K (.ref f) = true ∧ Binds K fd ps [] ∧ FnOk P w K mg base CX0 k f fd ps sp
section
variable {X : Cx} {x : Str} {k : Nat} {ps : List Str} {sp : Sp} {p pos : Pos} {e : Expr} {es : List Expr} {t : TA}
theorem pe_fn (C : OkF X.prog X.w X.K X.mg X.base x k ps sp) (hr : Room k X.A) (hg : Gl X x) (ha : PA X (e :: es) t) (hdb : (x == ("__debug__" : Str)) = false := by decide)
    (he : starEach (e :: es) X.env = (false, eval e X.env) :: starEach es X.env := by rfl) (hpl : (backTo pos (starEach es X.env)).any (·.1) = false := by rfl) : PE X (.Call (.Name x p) (e :: es) [] pos) (tCall sp [] E0 t) := by
  obtain ⟨f, fd, hm, hk, hb, F⟩ := C
  exact pe_call F hr hg hm hk hb .nil pass0 ha hdb he hpl
theorem pe_fn0 (C : OkF X.prog X.w X.K X.mg X.base x k ps sp) (hr : Room k X.A) (hg : Gl X x) (hdb : (x == ("__debug__" : Str)) = false := by decide) : PE X (.Call (.Name x p) [] [] pos) (tCall sp [] E0 tNil) := by
  obtain ⟨f, fd, hm, hk, hb, F⟩ := C
  exact pe_call0 F hr hg hm hk hb .nil pass0 hdb
end

/-! ### a def that is called where no repr is under way -/
structure GOk (P : Program) (w : World) (K : PySem.W.Frag) (mg : Str → Option Value) (base : Heap) (k : Nat) (f : Addr) (fd : FuncData) (ps : List Str) (sp : Sp) : Prop where
  len : ∀ vs H Q E, sp vs H Q E → vs.length = ps.length
  go : ∀ (A : Around) (outer : List Env) (s : Shared) (H : Hp) (args : Args) (us : List Value) (vs : List V) (Q : VK) (E : XK), A.guards = some [] → Room k A → Env0 P w K mg base A outer s H →
    BindsTo s fd args (ps.zip us) → Vals vs us → sp vs H Q E → codeAny (model P w) A (.call (.ref f) args) (CR CX0 outer P w H s Q E) s
abbrev FnP (K : PySem.W.Frag) (x : Str) (st : Stmt) (f : Addr) (fd : FuncData) : Prop := FunD K x x (defArgs st) (defBody st) (defScope st) [] [] f fd
section
variable {P : Program} {w : World} {K : PySem.W.Frag} {mg : Str → Option Value} {base : Heap}
theorem gok_of {x : Str} {st : Stmt} {f : Addr} {fd : FuncData} {N ps : List Str} {k : Nat} {sp : Sp} (F : FnP K x st f fd) (S : FnScope N ps (defScope st)) (len : ∀ vs H Q E, sp vs H Q E → vs.length = ps.length)
    (hb : ∀ (cdv : Value) (A : Around) (outer : List Env) (s : Shared) (H : Hp) (vs : List V) (Q : VK) (E : XK), A.guards = some [] → Room k (A.deeper (envOfC x (defScope st) s.heap.objs.size f cdv)) → sp vs H Q E →
      ∃ t, PSs (cxOf CX0 P w K mg base N x (defScope st) f cdv A outer s H E) (defBody st) t ∧ t { nx := fun _ H' => Q .non H', rt := Q } (start N vs) H) : GOk P w K mg base (k + 1) f fd ps sp := by
  obtain ⟨oc, od, dV, kV, doc, pm, an, cdv, ct, osl, rfl, lk, hcd, _, _⟩ := F.ex
  refine ⟨len, fun A outer s H args us vs Q E gd hr e0 bt r hsp => ?_⟩
  have hl := len _ _ _ _ hsp
  have kx : K.In s.heap := e0.mod.kin.keeps fun b o e => (e0.bs b o e).1
  have nl : s.heap.NoLimit := e0.mod.nolimit.keeps fun b o e => (e0.bs b o e).1
  refine codeAny_call_function hr.depth (kx _ _ lk) rfl S.co S.gen rfl (PySem.W.codeRec_of kx hcd) (bt _ _ _ _ ?_)
  refine wpAny_newFunctionEnv_cells S.kind (fun y hy => ?_) fun env he s1 z => ?_
  · obtain ⟨n, v⟩ := y
    rcases S.par n (List.of_mem_zip hy).1 with q | q
    · exact .inl q
    · exact .inr ⟨q, PySem.W.cellsFrom_some _ _ _ (.inl q)⟩
  · subst he
    refine ⟨nl.keeps z.toInCall.keep, codeAny_func ?_⟩
    obtain ⟨t, ht, hq⟩ := hb cdv A outer s H vs Q E gd (hr.deeper _) hsp
    have J := inv_start (CX := CX0) (E := E) (mg := mg) (base := base) (P := P) (w := w) (K := K) S hr.hd e0 hl r z
    refine wpAny_mono (ht.run [] s1 (start N vs) H _ J hq) (fun fl s' hs => ?_) fun e s' hs => hs
    cases fl with
    | ret u =>
      obtain ⟨v, σ', H', L, rv, q⟩ := hs
      exact ⟨v, H', L.os, L.bare, L.base, L.hok, rv, q⟩
    | next =>
      obtain ⟨σ', H', L, q⟩ := hs
      exact ⟨V.non, H', L.os, L.bare, L.base, L.hok, rfl, q⟩
    | brk =>
      obtain ⟨_, _, _, q⟩ := hs
      exact q.elim
    | cont =>
      obtain ⟨_, _, _, q⟩ := hs
      exact q.elim
end
def OkG (P : Program) (w : World) (K : PySem.W.Frag) (mg : Str → Option Value) (base : Heap) (x : Str) (k : Nat) (ps : List Str) (sp : Sp) : Prop :=
  ∃ f fd, mg x = some (.ref f) ∧ PySem.W.keepIn K (.ref f) = true ∧ Binds K fd ps [] ∧ GOk P w K mg base k f fd ps sp
section
variable {X : Cx} {x : Str} {k : Nat} {ps : List Str} {sp : Sp} {p pos : Pos} {e : Expr} {es : List Expr} {t : TA}
theorem pe_gfn (gd : X.A.guards = some []) (C : OkG X.prog X.w X.K X.mg X.base x k ps sp) (hr : Room k X.A) (hg : Gl X x) (ha : PA X (e :: es) t) (hdb : (x == ("__debug__" : Str)) = false := by decide)
    (he : starEach (e :: es) X.env = (false, eval e X.env) :: starEach es X.env := by rfl) (hpl : (backTo pos (starEach es X.env)).any (·.1) = false := by rfl) : PE X (.Call (.Name x p) (e :: es) [] pos) (tCall sp [] E0 t) := by
  obtain ⟨f, fd, hm, hk, hb, F⟩ := C
  refine ⟨fun pins s σ H Q I h => wpAny_Call_Name_kw (ld_glob I hg hm ?_ hdb)⟩
  refine PySem.W.callWith_K (h₀ := X.base) I.ok.mod.kin hk (thn (ha.run pos pins s σ H _ I h) fun us s1 hz => ?_) he hpl
  obtain ⟨vs, H1, J, r, q⟩ := hz
  refine ⟨J.kIn, ?_⟩
  have hl : (us ++ []).length = ps.length := by
    rw [← (r.append (.nil : Vals [] [])).length]
    exact F.len _ _ _ _ q
  refine wpAny_call (codeAny_mono (F.go X.A X.stack s1 H1 ⟨us, []⟩ (us ++ []) (vs ++ []) Q E0 gd hr J.env0 (hb s1 us J.kIn hl) (r.append .nil) q) fun fl s' hq => ?_)
  cases fl with
  | error e => exact False.elim hq
  | ok fl =>
    cases fl with
    | ret u => exact J.after hq
    | next => exact False.elim hq
    | brk => exact False.elim hq
    | cont => exact False.elim hq
end
end My


/-! Fin: the law's end for a def that is called where no repr is under way, the script's bits told. -/
namespace My
open PySem PySem.Spec PyProof.Rows L2
section
variable {P : Program} {w : World} {K : PySem.W.Frag} {mg mb : Str → Option Value} {k : Nat} {fa a : Addr} {fd : FuncData} {x : Str} {sp : Sp} {t : Shared} {vs : List Value} {ns : List Int}
/-- from a heap that tracks the script or nothing -/
theorem law_from {H : Hp} (kx : K.In t.heap) (gl : t.heap.Ns mainGlobals mg) (bl : t.heap.Ns builtinsNs mb) (bb : ∀ y : Str, y ≠ "__name__" → mb y = bootBuiltins y) (nl : t.heap.NoLimit) (ge : t.gens = #[])
    (sc : t.heap.get? a = some { cls := .type "list", data := .seq vs.toArray }) (rm : Room k callerA) (F : ∀ bs : Heap, K.In bs → bs.Ns mainGlobals mg → GOk P w K mg bs k fa fd [x] sp)
    (bi : ∀ (s : Shared) (u : Value), BindsTo s fd ⟨[u], []⟩ [(x, u)]) (oh : Only H) (ok : HOk P w H t.heap) (one : ∀ b, H b ≠ none → b = a) (fr : H a ≠ none → K.lookup a = none)
    (pr : sp [.ref a] H (fun v _ => v = .bl true) fun _ _ _ => False) :
    codeAny (model P w) callerA (.call (.ref fa) ⟨[.ref a], []⟩) (fun r t' => r = .ok (.ret (.bool true)) ∧ OldK t.heap t'.heap ∧ t'.os = t.os ∧ AllBare t'.gens) t := by
  have dfree : ∀ b o es n, t.heap.get? b = some o → o.data = .dict es n → H b = none := by
    intro b o es n e d
    cases q : H b with
    | none => rfl
    | some u =>
      obtain rfl := one b (by rw [q]; exact fun z => nomatch z)
      rw [sc] at e
      cases e
      exact absurd d (fun z => nomatch z)
  have nsH : ∀ {b : Addr} {m : Str → Option Value}, t.heap.Ns b m → (hidT t.heap H).Ns b m := by
    rintro b m ⟨o, es, ep, e, d, r⟩
    exact ⟨o, es, ep, hidT_get e (dfree b o es ep e d), d, r⟩
  have kh : K.In (hidT t.heap H) := by
    intro b o e
    refine hidT_get (kx b o e) ?_
    cases q : H b with
    | none => rfl
    | some u =>
      have z : H b ≠ none := by rw [q]; exact fun z => nomatch z
      obtain rfl := one b z
      rw [fr z] at e
      cases e
  have md : Mod K mg (hidT t.heap H) := by
    refine ⟨kh, nsH gl, ⟨mb, nsH bl, bb⟩, ?_⟩
    obtain ⟨mc, c1, c2⟩ := nl
    exact ⟨mc, nsH c1, c2⟩
  have ev : Env0 P w K mg (hidT t.heap H) callerA [] t H :=
    ⟨rfl, md, fun b o e => of_hidT e, Nat.le_of_eq (hidT_size _ _), trivial, fun b m => absurd m (List.not_mem_nil), ok, .of_eq ge⟩
  have run := (F _ kh (nsH gl)).go callerA [] t H ⟨[.ref a], []⟩ [.ref a] [.ref a] _ _ rfl rm ev (bi t (.ref a)) (.cons rfl .nil) pr
  refine codeAny_mono run fun r t' h => ?_
  match r, h with
  | .ok (.ret u), h =>
    obtain ⟨v, H', c1, c2, c3, c4, c5, c6⟩ := h
    cases (show v = .bl true from c6)
    cases (show u = Value.bool true from c5)
    refine ⟨rfl, OldK.of_keep fun b o e => ?_, c1, c2⟩
    rcases oh b with z | ⟨ob, xs, z⟩
    · exact c3.keep b o e z (List.not_mem_nil) (List.not_mem_nil)
    · obtain ⟨g1, _⟩ := ok b _ z
      obtain ⟨g2, _⟩ := c4 b _ (c3.frzs b ob _ z)
      rw [e] at g1
      cases g1
      exact g2
  | .ok .next, h => exact h.elim
  | .ok .brk, h => exact h.elim
  | .ok .cont, h => exact h.elim
  | .error e, h => exact h.elim
theorem law_goes (kx : K.In t.heap) (gl : t.heap.Ns mainGlobals mg) (bl : t.heap.Ns builtinsNs mb) (bb : ∀ y : Str, y ≠ "__name__" → mb y = bootBuiltins y) (nl : t.heap.NoLimit) (ge : t.gens = #[])
    (sc : t.heap.get? a = some { cls := .type "list", data := .seq vs.toArray }) (hi : IntsAre vs ns) (hl : ns.length ≤ sizeLine) (rm : Room k callerA) (F : ∀ bs : Heap, K.In bs → bs.Ns mainGlobals mg → GOk P w K mg bs k fa fd [x] sp)
    (bi : ∀ (s : Shared) (u : Value), BindsTo s fd ⟨[u], []⟩ [(x, u)]) (pr : ∀ H : Hp, SqL K H a (ns.map V.int) → sp [.ref a] H (fun v _ => v = .bl true) fun _ _ _ => False) :
    codeAny (model P w) callerA (.call (.ref fa) ⟨[.ref a], []⟩) (fun r t' => r = .ok (.ret (.bool true)) ∧ OldK t.heap t'.heap ∧ t'.os = t.os ∧ AllBare t'.gens) t := by
  have rv := vals_ints hi
  have ln : vs.length = ns.length := hi.length
  cases hk : K.lookup a with
  | some o =>
    have e := kx a o hk
    rw [sc] at e
    cases e
    refine law_from (H := fun _ => none) kx gl bl bb nl ge sc rm F bi (fun _ => .inl rfl) (fun b u z => nomatch z) (fun b z => absurd rfl z) (fun z => absurd rfl z) (pr _ (.inr ?_))
    exact ⟨_, vs.toArray, _, hk, rfl, rfl, rfl, by rw [List.size_toArray, ln]; exact hl, by simpa using rv⟩
  | none =>
    have at_ : ∀ b : Addr, b = a → (fun b => if b = a then some (HO.frz { cls := .type "list", data := .seq vs.toArray } (.lst (ns.map V.int))) else none : Hp) b = some (HO.frz { cls := .type "list", data := .seq vs.toArray } (.lst (ns.map V.int))) := fun b e => if_pos e
    have off : ∀ b : Addr, b ≠ a → (fun b => if b = a then some (HO.frz { cls := .type "list", data := .seq vs.toArray } (.lst (ns.map V.int))) else none : Hp) b = none := fun b e => if_neg e
    refine law_from (H := fun b => if b = a then some (HO.frz { cls := .type "list", data := .seq vs.toArray } (.lst (ns.map V.int))) else none) kx gl bl bb nl ge sc rm F bi ?_ ?_ ?_ (fun _ => hk) (pr _ (.inl (.inr ⟨_, at_ a rfl⟩)))
    · intro b
      by_cases e : b = a
      · exact .inr ⟨_, _, at_ b e⟩
      · exact .inl (off b e)
    · intro b u z
      by_cases e : b = a
      · rw [at_ b e] at z
        cases z
        subst e
        exact ⟨sc, by rw [List.length_map]; exact hl, vs, _, rv, sc⟩
      · rw [off b e] at z
        cases z
    · intro b z
      by_cases e : b = a
      · exact e
      · exact absurd (off b e) z
end
/-- the end of a law: YP gives the written part and the law's def by facts -/
theorem walk_G {l : PySem.W.OpenLaw} {n k : Nat} {q : Program} {loose : List Str} {XP : (Str → Option Value) → Heap → Prop} {YP : World → Heap → Prop} {d : DefRec} {x : Str}
    (hn : l.most = some n) (hz : n ≤ sizeLine) (hd : d.params.defaults = []) (hr : Room k callerA)
    (F : ∀ (w : World) (mg : Str → Option Value) (fa : Addr) (h : Heap), YP w h → h.Ns mainGlobals mg → mg d.name = some (.ref fa) →
      ∃ (K : PySem.W.Frag) (fd : FuncData) (sp : Sp), K.In h ∧ (∀ (s : Shared) (u : Value), BindsTo s fd ⟨[u], []⟩ [(x, u)]) ∧
        (∀ (H : Hp) (a : Addr) (ns : List Int), ns.length ≤ n → (∀ z ∈ ns, Builtin.Int.intBits z ≤ 1048576) → SqL K H a (ns.map V.int) → sp [.ref a] H (fun v _ => v = .bl true) fun _ _ _ => False) ∧
        ∀ bs : Heap, K.In bs → bs.Ns mainGlobals mg → GOk l.prog w K mg bs k fa fd [x] sp) :
    PySem.W.WalkO q loose XP YP l.row.toRowW d [] (fun f vs => PySem.call f vs) := by
  refine Att.attach_callB hn hd fun w s₀ s₁ mg mb fa o pm cd doc a vs ns G Y ho hdo hcd hmg hobj hints hlen hbits hg => ?_
  obtain ⟨K, fd, sp, kx, hb, hsp, hF⟩ := F w mg fa _ Y G.T.g hmg
  exact law_goes kx G.T.g G.T.b G.T.builtins G.T.nolimit hg hobj hints (Nat.le_trans hlen hz) hr hF hb (fun H hS => hsp H a ns hlen hbits hS)
end My


/-! Draws: the law's own draws (_law_mixed, _law_source, _law_take): what each leaves. -/
namespace My
open PySem PySem.Spec PyProof.Rows L2

/-! ### heaps: all that was tracked, but what stands at s, is as it was -/
def Kp (s : Addr) (H H' : Hp) : Prop := ∀ b o, b ≠ s → H b = some o → H' b = some o
section
variable {s p : Addr} {H H1 H2 : Hp} {o : HO}
theorem Kp.refl (s : Addr) (H : Hp) : Kp s H H := fun _ _ _ h => h
theorem Kp.trans (a : Kp s H H1) (b : Kp s H1 H2) : Kp s H H2 := fun c u n h => b c u n (a c u n h)
theorem kp_same (a : Same H H1) : Kp s H H1 := fun c u _ h => a c u h
theorem same_new (h : H p = none) : Same H (upd H p o) := fun a u e => by
  rw [upd_ne (ne_of_none e h)]
  exact e
theorem Kp.new (h : H p = none) : Kp s H (upd H p o) := kp_same (same_new h)
theorem Kp.self : Kp s H (upd H s o) := fun c u n e => by
  rw [upd_ne n]
  exact e
theorem Kp.seq {K : PySem.W.Frag} {a : Addr} {xs : List V} (e : Kp s H H1) (n : a ≠ s) (h : SqL K H a xs) : SqL K H1 a xs := by
  rcases h with (h | ⟨u, h⟩) | h
  · exact .inl (.inl (e _ _ n h))
  · exact .inl (.inr ⟨u, e _ _ n h⟩)
  · exact .inr h
theorem Kp.tup {K : PySem.W.Frag} {a : Addr} {xs : List V} (e : Kp s H H1) (n : a ≠ s) (h : SqT K H a xs) : SqT K H1 a xs := by
  rcases h with (h | ⟨u, h⟩) | h
  · exact .inl (.inl (e _ _ n h))
  · exact .inl (.inr ⟨u, e _ _ n h⟩)
  · exact .inr h
theorem same_tup {K : PySem.W.Frag} {a : Addr} {xs : List V} (e : Same H H1) (h : SqT K H a xs) : SqT K H1 a xs := by
  rcases h with (h | ⟨u, h⟩) | h
  · exact .inl (.inl (e _ _ h))
  · exact .inl (.inr ⟨u, e _ _ h⟩)
  · exact .inr h
end

/-! ### the source -/
/-- the draws' list at s: a number, a place, the cells at c -/
def Src (H : Hp) (s c : Addr) : Prop := ∃ (n pl : Int) (ns : List Int), H s = some (.lst [.int n, .int pl, .ref c]) ∧ 0 ≤ pl ∧ H c = some (.lst (ns.map V.int))
theorem Src.same {H H' : Hp} {s c : Addr} (S : Src H s c) (e : Same H H') : Src H' s c := by
  obtain ⟨n, pl, ns, h1, h2, h3⟩ := S
  exact ⟨n, pl, ns, e _ _ h1, h2, e _ _ h3⟩
theorem Src.at {H : Hp} {s c : Addr} (S : Src H s c) : ∃ xs, H s = some (.lst xs) := by
  obtain ⟨n, pl, ns, h1, h2, h3⟩ := S
  exact ⟨_, h1⟩
theorem Src.cells {H : Hp} {s c : Addr} (S : Src H s c) : ∃ xs, H c = some (.lst xs) := by
  obtain ⟨n, pl, ns, h1, h2, h3⟩ := S
  exact ⟨_, h3⟩
/-- what stands elsewhere may change -/
theorem Src.kp {H H' : Hp} {s c p : Addr} (S : Src H s c) (hs : s ≠ p) (hc : c ≠ p) (e : Kp p H H') : Src H' s c := by
  obtain ⟨n, pl, ns, h1, h2, h3⟩ := S
  exact ⟨n, pl, ns, e _ _ hs h1, h2, e _ _ hc h3⟩
theorem Src.ne {H : Hp} {s c p : Addr} (S : Src H s c) (h : H p = none) : p ≠ s ∧ p ≠ c := by
  obtain ⟨n, pl, ns, h1, h2, h3⟩ := S
  exact ⟨(ne_of_none h1 h).symm, (ne_of_none h3 h).symm⟩
theorem src_ne {H : Hp} {s c : Addr} {n pl : Int} {ns : List Int} (h1 : H s = some (.lst [.int n, .int pl, .ref c])) (h3 : H c = some (.lst (ns.map V.int))) : c ≠ s := by
  intro e
  subst e
  rw [h1] at h3
  have q : [V.int n, V.int pl, V.ref c] = ns.map V.int := by
    injection h3 with h3
    injection h3
  have : V.ref c ∈ ns.map V.int := by
    rw [← q]
    exact List.mem_cons_of_mem _ (List.mem_cons_of_mem _ List.mem_cons_self)
  obtain ⟨z, _, e⟩ := List.mem_map.mp this
  cases e

/-! ### _law_mixed -/
def sp_law_mixed (K : PySem.W.Frag) : Sp := fun vs H Q _ => ∃ c p : Int, vs = [.int c, .int p] ∧ ∀ r : Int, Q (.int r) H
abbrev n_law_mixed : List Str := ["_law_cell", "_law_place", "_law_first", "_law_second", "_law_third"]
def t_law_mixed (K : PySem.W.Frag) : TS :=
    (tSeq (tAsg (tOp rModI (tCB cInt1 (tCons (tOp rAddI (tOp rAddI (tOp rMulI (tCB cAbs (tCons (tVar 0) tNil)) (tC (.int 48271))) (tOp rMulI (tVar 1) (tC (.int 69621)))) (tC (.int 1013))) tNil)) (tC (.int 2147483647))) (gName 2))
    (tSeq (tAsg (tOp rModI (tCB cInt1 (tCons (tOp rAddI (tOp rAddI (tOp rAddI (tOp rMulI (tVar 2) (tVar 2)) (tOp rMulI (tCB cAbs (tCons (tVar 0) tNil)) (tC (.int 16807)))) (tOp rMulI (tVar 1) (tC (.int 7919)))) (tC (.int 11))) tNil)) (tC (.int 2305843009213693951))) (gName 3))
    (tSeq (tAsg (tOp rModI (tCB cInt1 (tCons (tOp rAddI (tOp rAddI (tOp rMulI (tVar 3) (tC (.int 1442695040888963407))) (tOp rMulI (tVar 2) (tC (.int 69621)))) (tC (.int 1013))) tNil)) (tC (.int 2305843009213693951))) (gName 4))
    (tRet (tOp rAddI (tVar 4) (tC (.int 2305843009213693951)))))))
theorem len_law_mixed {K : PySem.W.Frag} {vs : List V} {H : Hp} {Q : VK} {E : XK} (h : sp_law_mixed K vs H Q E) : vs.length = 2 := by
  obtain ⟨c, p, rfl, _⟩ := h
  rfl
theorem small_mod {a b : Int} (h : 0 < b) (hb : b < 2 ^ 64) : -(2 ^ 64) < a % b ∧ a % b < 2 ^ 64 := by
  have h1 := Int.emod_nonneg a (by omega : b ≠ 0)
  have h2 := Int.emod_lt_of_pos a h
  omega
theorem run_law_mixed {K : PySem.W.Frag} {vs : List V} {H : Hp} {Q : VK} {E : XK} (h : sp_law_mixed K vs H Q E) : t_law_mixed K { nx := fun _ H' => Q .non H', rt := Q } (start n_law_mixed vs) H := by
  obtain ⟨c, p, rfl, k⟩ := h
  unfold t_law_mixed
  refine ⟨_, rfl, _, rfl, _, _, rfl, rfl, .inr ⟨by decide, by decide⟩, _, rfl, _, _, rfl, rfl, .inr ⟨by decide, by decide⟩, _, _, rfl, rfl, _, _, rfl, rfl, .inl ⟨_, rfl, _, _, rfl, rfl, (show (0 : Int) < 2147483647 by decide), ?_⟩⟩
  refine ⟨_, rfl, _, rfl, _, _, rfl, rfl, .inl (small_mod (by decide) (by decide)), _, rfl, _, rfl, _, _, rfl, rfl, .inr ⟨by decide, by decide⟩, _, _, rfl, rfl, _, rfl, _, _, rfl, rfl, .inr ⟨by decide, by decide⟩, _, _, rfl, rfl, _, _, rfl, rfl, .inl ⟨_, rfl, _, _, rfl, rfl, (show (0 : Int) < 2305843009213693951 by decide), ?_⟩⟩
  refine ⟨_, rfl, _, _, rfl, rfl, .inr ⟨by decide, by decide⟩, _, rfl, _, _, rfl, rfl, .inr ⟨by decide, by decide⟩, _, _, rfl, rfl, _, _, rfl, rfl, .inl ⟨_, rfl, _, _, rfl, rfl, (show (0 : Int) < 2305843009213693951 by decide), ?_⟩⟩
  refine ⟨_, rfl, _, _, rfl, rfl, ?_⟩
  exact k _

/-! ### _law_source -/
def sp_law_source (K : PySem.W.Frag) : Sp := fun vs H Q _ => ∃ (a : Addr) (ns : List Int), vs = [.ref a] ∧ SqL K H a (ns.map V.int) ∧ ∀ s c H', H s = none → H c = none → Same H H' → Src H' s c → Q (.ref s) H'
abbrev n_law_source : List Str := ["_law_script"]
def t_law_source (K : PySem.W.Frag) : TS :=
    (tRet (tLst (tCons (tC (.int 0)) (tCons (tC (.int 0)) (tCons (tCB (cList K) (tCons (tVar 0) tNil)) tNil)))))
theorem len_law_source {K : PySem.W.Frag} {vs : List V} {H : Hp} {Q : VK} {E : XK} (h : sp_law_source K vs H Q E) : vs.length = 1 := by
  obtain ⟨c, p, rfl, _⟩ := h
  rfl
theorem run_law_source {K : PySem.W.Frag} {vs : List V} {H : Hp} {Q : VK} {E : XK} (h : sp_law_source K vs H Q E) : t_law_source K { nx := fun _ H' => Q .non H', rt := Q } (start n_law_source vs) H := by
  obtain ⟨a, ns, rfl, hs, k⟩ := h
  unfold t_law_source
  refine ⟨_, rfl, a, _, rfl, .inl hs, fun l hl => ⟨by show 3 ≤ sizeLine; decide, fun s hs' => ?_⟩⟩
  have e1 : Same H (upd H l (.lst (ns.map V.int))) := same_new hl
  have ne : l ≠ s := ne_of_none upd_same hs'
  refine k s l _ (e1.free hs') hl (e1.trans (same_new hs')) ⟨0, 0, ns, upd_same, by decide, ?_⟩
  rw [upd_ne ne, upd_same]

/-! ### _law_take -/
def sp_law_take (K : PySem.W.Frag) : Sp := fun vs H Q _ => ∃ (s c : Addr) (m : Int), vs = [.ref s, .int m] ∧ 0 < m ∧ m.natAbs.log2 < 9000 ∧ Src H s c ∧ ∀ d H', 0 ≤ d → d < m → Src H' s c → Kp s H H' → Q (.int d) H'
abbrev n_law_take : List Str := ["_law_source_here", "_law_many", "_law_digit", "_law_cells", "_law_place"]
def t_law_take (K : PySem.W.Frag) : TS :=
    (tSeq (tIfS (tTest (tOp rLtI (tOp (rIxL K) (tVar 0) (tC (.int 0))) (tOp rMulI (tC (.int 2)) (tVar 1)))) (tSeq (tAsg (tOp (rIxL K) (tVar 0) (tC (.int 2))) (gName 3))
    (tSeq (tAsg (tOp (rIxL K) (tVar 0) (tC (.int 1))) (gName 4))
    (tSeq (tAsg (tOp rAddI (tVar 4) (tC (.int 1))) (gSub (tVar 0) (tC (.int 1)) rSetL))
    (tIfS (tAnd (tTest (tOp rLtI (tVar 4) (tCB (cLenQ K) (tCons (tVar 3) tNil)))) (tTest (tOp rGeI (tCB cAbs (tCons (tOp (rIxL K) (tVar 3) (tVar 4)) tNil)) (tOp rPowI (tC (.int 10)) (tC (.int 18)))))) (tAsg (tCB cAbs (tCons (tOp (rIxL K) (tVar 3) (tVar 4)) tNil)) (gSub (tVar 0) (tC (.int 0)) rSetL)) (tIfS (tTest (tOp rGtI (tCB (cLenQ K) (tCons (tVar 3) tNil)) (tC (.int 0)))) (tAsg (tCall (sp_law_mixed K) [] E0 (tCons (tOp (rIxL K) (tVar 3) (tOp rModI (tCB cInt1 (tCons (tVar 4) tNil)) (tCB (cLenQ K) (tCons (tVar 3) tNil)))) (tCons (tVar 4) tNil))) (gSub (tVar 0) (tC (.int 0)) rSetL)) (tAsg (tCall (sp_law_mixed K) [] E0 (tCons (tC (.int 0)) (tCons (tVar 4) tNil))) (gSub (tVar 0) (tC (.int 0)) rSetL))))))) tNext)
    (tSeq (tAsg (tOp rModI (tCB cInt1 (tCons (tOp (rIxL K) (tVar 0) (tC (.int 0))) tNil)) (tVar 1)) (gName 2))
    (tSeq (tAsg (tOp rDivI (tCB cInt1 (tCons (tOp (rIxL K) (tVar 0) (tC (.int 0))) tNil)) (tVar 1)) (gSub (tVar 0) (tC (.int 0)) rSetL))
    (tRet (tVar 2)))))
theorem len_law_take {K : PySem.W.Frag} {vs : List V} {H : Hp} {Q : VK} {E : XK} (h : sp_law_take K vs H Q E) : vs.length = 2 := by
  obtain ⟨c, p, m, rfl, _⟩ := h
  rfl
theorem at3 {a b c : V} : atI [a, b, c] 0 = some a ∧ atI [a, b, c] 1 = some b ∧ atI [a, b, c] 2 = some c := ⟨rfl, rfl, rfl⟩
theorem run_law_take {K : PySem.W.Frag} {vs : List V} {H : Hp} {Q : VK} {E : XK} (h : sp_law_take K vs H Q E) : t_law_take K { nx := fun _ H' => Q .non H', rt := Q } (start n_law_take vs) H := by
  obtain ⟨s, c, m, rfl, hm, hz, S, k⟩ := h
  unfold t_law_take
  -- what follows the if, from any source
  have rest : ∀ (σ : L2.St) (H' : Hp) (u v : Option V), σ = [some (.ref s), some (.int m), none, u, v] → Src H' s c → Kp s H H' →
      (tSeq (tAsg (tOp rModI (tCB cInt1 (tCons (tOp (rIxL K) (tVar 0) (tC (.int 0))) tNil)) (tVar 1)) (gName 2))
      (tSeq (tAsg (tOp rDivI (tCB cInt1 (tCons (tOp (rIxL K) (tVar 0) (tC (.int 0))) tNil)) (tVar 1)) (gSub (tVar 0) (tC (.int 0)) rSetL))
      (tRet (tVar 2)))) { nx := fun _ H' => Q .non H', rt := Q } σ H' := by
    rintro σ H' u v rfl ⟨n, pl, ns, h1, h2, h3⟩ kp
    have nc := src_ne h1 h3
    refine ⟨_, rfl, s, _, _, _, rfl, rfl, SqL.of h1, at3.1, .inl ⟨_, rfl, _, rfl, _, _, rfl, rfl, hm, ?_⟩⟩
    refine ⟨_, rfl, s, _, _, _, rfl, rfl, SqL.of h1, at3.1, .inl ⟨_, rfl, _, rfl, _, _, rfl, rfl, ⟨hm, hz⟩, ?_⟩⟩
    refine ⟨_, rfl, s, _, _, 0, rfl, rfl, h1, rfl, _, rfl, ?_⟩
    refine k (n % m) _ (Int.emod_nonneg _ (by omega)) (Int.emod_lt_of_pos _ hm) ⟨n / m, pl, ns, upd_same, h2, ?_⟩ (kp.trans Kp.self)
    rw [upd_ne nc]
    exact h3
  obtain ⟨n, pl, ns, h1, h2, h3⟩ := S
  have nc := src_ne h1 h3
  refine ⟨_, rfl, s, _, _, _, rfl, rfl, SqL.of h1, at3.1, _, rfl, _, _, rfl, rfl, .inl ⟨by decide, by decide⟩, _, _, rfl, rfl, _, rfl, ?_⟩
  refine ite2 (fun _ => ?_) (fun _ => rest _ H none none rfl ⟨n, pl, ns, h1, h2, h3⟩ (Kp.refl s H))
  refine ⟨_, rfl, s, _, _, _, rfl, rfl, SqL.of h1, at3.2.2, ?_⟩
  refine ⟨_, rfl, s, _, _, _, rfl, rfl, SqL.of h1, at3.2.1, ?_⟩
  refine ⟨_, rfl, _, _, rfl, rfl, _, rfl, s, _, _, 1, rfl, rfl, h1, rfl, ?_⟩
  have g1 : upd H s (.lst [.int n, .int (pl + 1), .ref c]) s = some (.lst [.int n, .int (pl + 1), .ref c]) := upd_same
  have g3 : upd H s (.lst [.int n, .int (pl + 1), .ref c]) c = some (.lst (ns.map V.int)) := by
    rw [upd_ne nc]
    exact h3
  have kp1 : Kp s H (upd H s (.lst [.int n, .int (pl + 1), .ref c])) := Kp.self
  generalize hH1 : upd H s (.lst [.int n, .int (pl + 1), .ref c]) = H1 at g1 g3 kp1
  have hset : ([.int n, .int pl, .ref c] : List V).set 1 (.int (pl + 1)) = [.int n, .int (pl + 1), .ref c] := rfl
  rw [hset, hH1]
  have fin : ∀ r : Int, rSetL (.ref s) (.int 0) (.int r) H1 fun H3 => (tSeq (tAsg (tOp rModI (tCB cInt1 (tCons (tOp (rIxL K) (tVar 0) (tC (.int 0))) tNil)) (tVar 1)) (gName 2))
      (tSeq (tAsg (tOp rDivI (tCB cInt1 (tCons (tOp (rIxL K) (tVar 0) (tC (.int 0))) tNil)) (tVar 1)) (gSub (tVar 0) (tC (.int 0)) rSetL))
      (tRet (tVar 2)))) { nx := fun _ H' => Q .non H', rt := Q } [some (.ref s), some (.int m), none, some (.ref c), some (.int pl)] H3 := fun r =>
    ⟨s, _, _, 0, rfl, rfl, g1, rfl, rest _ _ _ _ rfl ⟨r, pl + 1, ns, upd_same, by omega, by rw [upd_ne nc]; exact g3⟩ (kp1.trans Kp.self)⟩
  refine ⟨_, rfl, _, rfl, c, _, rfl, .inl (SqL.of g3), _, _, rfl, rfl, _, rfl, ?_⟩
  have third : tIfS (tTest (tOp rGtI (tCB (cLenQ K) (tCons (tVar 3) tNil)) (tC (.int 0)))) (tAsg (tCall (sp_law_mixed K) [] E0 (tCons (tOp (rIxL K) (tVar 3) (tOp rModI (tCB cInt1 (tCons (tVar 4) tNil)) (tCB (cLenQ K) (tCons (tVar 3) tNil)))) (tCons (tVar 4) tNil))) (gSub (tVar 0) (tC (.int 0)) rSetL)) (tAsg (tCall (sp_law_mixed K) [] E0 (tCons (tC (.int 0)) (tCons (tVar 4) tNil))) (gSub (tVar 0) (tC (.int 0)) rSetL))
      { nx := fun σ' H' => (tSeq (tAsg (tOp rModI (tCB cInt1 (tCons (tOp (rIxL K) (tVar 0) (tC (.int 0))) tNil)) (tVar 1)) (gName 2))
      (tSeq (tAsg (tOp rDivI (tCB cInt1 (tCons (tOp (rIxL K) (tVar 0) (tC (.int 0))) tNil)) (tVar 1)) (gSub (tVar 0) (tC (.int 0)) rSetL))
      (tRet (tVar 2)))) { nx := fun _ H' => Q .non H', rt := Q } σ' H', rt := Q } [some (.ref s), some (.int m), none, some (.ref c), some (.int pl)] H1 := by
    refine ⟨_, rfl, c, _, rfl, .inl (SqL.of g3), _, _, rfl, rfl, _, rfl, ?_⟩
    refine ite2 (fun hpos => ?_) (fun _ => ?_)
    · have hpos := of_decide_eq_true hpos
      have hlen : 0 < ((ns.map V.int).length : Int) := by exact hpos
      have h5 := Int.emod_nonneg pl (by omega : ((ns.map V.int).length : Int) ≠ 0)
      have h6 := Int.emod_lt_of_pos pl hlen
      obtain ⟨j, hj⟩ : ∃ j : Nat, pl % ((ns.map V.int).length : Int) = (j : Int) := ⟨_, (Int.toNat_of_nonneg h5).symm⟩
      have hjl : j < (ns.map V.int).length := by omega
      have hjn : j < ns.length := by rw [List.length_map] at hjl; exact hjl
      refine ⟨_, rfl, _, rfl, .inl ⟨_, rfl, _, rfl, c, _, rfl, .inl (SqL.of g3), _, _, rfl, rfl, hlen, c, _, _, V.int ns[j], rfl, rfl, SqL.of g3, ?_, _, rfl, _, _, rfl, fun r => ⟨_, rfl, fin r⟩⟩⟩
      rw [hj]
      exact atI_nat (by rw [List.getElem?_map, List.getElem?_eq_getElem hjn] <;> rfl)
    · exact ⟨_, rfl, _, _, rfl, fun r => ⟨_, rfl, fin r⟩⟩
  refine ite2 (fun hlt => ?_) (fun _ => third)
  have hlt := of_decide_eq_true hlt
  have hlt : pl < ((ns.map V.int).length : Int) := hlt
  obtain ⟨j, rfl⟩ : ∃ j : Nat, pl = (j : Int) := ⟨_, (Int.toNat_of_nonneg h2).symm⟩
  have hjl : j < (ns.map V.int).length := by omega
  have hjn : j < ns.length := by rw [List.length_map] at hjl; exact hjl
  have hat : atI (ns.map V.int) (j : Int) = some (V.int ns[j]) := atI_nat (by rw [List.getElem?_map, List.getElem?_eq_getElem hjn] <;> rfl)
  refine ⟨_, rfl, _, rfl, c, _, _, _, rfl, rfl, SqL.of g3, hat, _, rfl, _, _, rfl, rfl, ⟨by decide, by decide, by decide⟩, _, _, rfl, rfl, _, rfl, ?_⟩
  refine ite2 (fun _ => ?_) (fun _ => third)
  refine ⟨_, rfl, _, rfl, c, _, _, _, rfl, rfl, SqL.of g3, hat, _, rfl, _, rfl, fin _⟩
end My


/-! Names: comprehensions whose elements change nothing; names (is_name, is_step_name, is_text). -/
namespace My
open PySem PySem.Spec PyProof.Rows L2 TL

/-! ### a comprehension without a test whose element is a value and leaves all as it was -/
theorem lc_ev {J : It} {n : Nat} {G : Hp → Prop} {Y : Nat → Hp → V → Hp → Prop} (w : Walk J n G Y) {g : TG} {te : TE} {vs : List Nat} {σ : L2.St} {H1 : Hp} {D : Addr} {Qd : Hp → Prop} (f : Nat → V)
    (hn : n ≤ 1000000) (hD : H1 D = none) (hY : ∀ i H x H', Y i H x H' → Same H H') (hG : ∀ H, Same H1 H → G H)
    (he : ∀ i x H H' (Q : VK), i < n → Same H1 H → Y i H x H' → (∀ H2, Same H' H2 → Q (f i) H2) → g x (wipe σ vs) H' fun σ2 H2 => wipe σ2 vs = wipe σ vs ∧ te σ2 H2 Q)
    (hQ : ∀ H2, Same H1 H2 → H2 D = some (.lst ((List.range n).map f)) → Qd H2) :
    ∃ W : Nat → Nat → Hp → Prop, (∃ m, W 0 m (upd H1 D (.lst []))) ∧ ∀ i m H, W i m H →
      (J.stop i H ∧ Qd H) ∨ (J.go i H ∧ ∃ Nx : Hp → Prop, (∀ H', Nx H' → ∃ m', m' < m ∧ W (i + 1) m' H') ∧ ∀ x H', J.yld i H x H' → g x (wipe σ vs) H' fun σ2 H2 => wipe σ2 vs = wipe σ vs ∧ tYes σ2 H2 fun b H3 =>
        if b = true then te σ2 H3 fun y H4 => ∃ acc, H4 D = some (.lst acc) ∧ acc.length < sizeLine ∧ Nx (upd H4 D (.lst (acc ++ [y]))) else Nx H3) := by
  refine lc_it w (fun i H => Same H1 H ∧ H D = some (.lst ((List.range i).map f))) ⟨same_new hD, upd_same⟩ (fun i H _ p => hG H p.1) ?_ (fun H p => hQ H p.1 p.2)
  rintro i x H H' hi ⟨p1, p2⟩ y
  have s1 := hY i H x H' y
  have z := he i x H H' (fun y H4 => ∃ acc, H4 D = some (.lst acc) ∧ acc.length < sizeLine ∧ (Same H1 (upd H4 D (.lst (acc ++ [y]))) ∧ upd H4 D (.lst (acc ++ [y])) D = some (.lst ((List.range (i + 1)).map f)))) hi p1 y ?_
  · exact z
  · intro H2 s2
    refine ⟨_, s2 _ _ (s1 _ _ p2), ?_, ?_, ?_⟩
    · rw [List.length_map, List.length_range]
      exact Nat.lt_of_lt_of_le (by omega : i < 1000000) (by decide)
    · intro b o e
      rw [upd_ne (ne_of_none e hD)]
      exact s2 _ _ (s1 _ _ (p1 _ _ e))
    · rw [upd_same, List.range_succ, List.map_append] <;> rfl
theorem same_refl {H H' : Hp} (e : H' = H) : Same H H' := by
  rw [e]
  exact Same.refl H

/-! ### texts -/
theorem tl_size (z : Str) : z.cps.size = z.length := rfl
theorem map_range_tl (z : Str) (f : Nat → Bool) (g : Nat → V) (h : ∀ i c, z.cps[i]? = some c → g i = V.bl (f c)) : (List.range z.cps.size).map g = ((tl z).map f).map V.bl := by
  apply List.ext_getElem
  · simp [tl]
  · intro i h1 h2
    simp only [List.getElem_map, List.getElem_range]
    have hi : i < z.cps.size := by simpa using h1
    rw [h i z.cps[i] (by simp [hi])]
    simp [tl]
/-- all([f(c) for c in z]) for a text z in slot j, the comprehension's name in slot i -/
theorem all_signs {K : PySem.W.Frag} {i j : Nat} {te : TE} {σ : L2.St} {H : Hp} {Q : VK} {z : Str} (f : Nat → Bool) (hj : σ[j]? = some (some (.str z))) (hz : z.length ≤ 1000000)
    (hw : ∀ v, wipe ((wipe σ [i]).set i (some v)) [i] = wipe σ [i])
    (he : ∀ c (H' : Hp) (R : VK), c ∈ tl z → R (.bl (f c)) H' → te ((wipe σ [i]).set i (some (.str ⟨#[c]⟩))) H' R)
    (k : ∀ H', Same H H' → Q (.bl ((tl z).all f)) H') :
    tCB (rAll K) (tCons (tLc (iStr (tVar j)) (gName i) tYes te [i]) tNil) σ H Q := by
  refine ⟨_, hj, z, rfl, fun D hD => ?_⟩
  refine lc_ev (w := walk_str) (fun m => match z.cps[m]? with | some c => .bl (f c) | none => .non) hz hD ?_ (fun _ _ => True.intro) ?_ ?_
  · rintro m H1 x H' ⟨e, _⟩
    exact same_refl e
  · rintro m x H1 H' R hm s1 ⟨rfl, c, hc, rfl⟩ hR
    refine ⟨hw _, he c H' R ?_ ?_⟩
    · have e : (tl z)[m]? = some c := by simpa [tl] using hc
      exact List.mem_of_getElem? e
    · have q := hR H' (Same.refl _)
      rw [hc] at q
      exact q
  · intro H2 s2 h2
    refine ⟨D, (tl z).map f, rfl, SqL.of ?_, ?_⟩
    · rw [h2]
      congr 2
      exact map_range_tl z f _ fun m c hc => by rw [hc]
    · rw [List.all_map]
      exact k H2 s2
theorem ix_str0 {z : Str} {c : Nat} {l : List Nat} (h : tl z = c :: l) : atI z.cps.toList 0 = some c := by
  have e : z.cps.toList = c :: l := h
  rw [e]
  exact atI_nat (j := 0) rfl
theorem len_cons {z : Str} {c : Nat} {l : List Nat} (h : tl z = c :: l) : z.length = l.length + 1 := by
  rw [len_tl, h]
  rfl

/-! ### names -/
def c_LETTERS : Str := "abcdefghijklmnopqrstuvwxyz"
def c_DIGITS : Str := "0123456789"
def c_FRAME : Str := "frame"
def c_CHARACTERS : Str := "!\"#$&'()*+,-./0123456789:;<=>?@ABCDEFGHIJKLMNOPQRSTUVWXYZ[\\]^_`abcdefghijklmnopqrstuvwxyz{|}~"
def isLet (c : Nat) : Bool := decide (c ∈ tl c_LETTERS)
def isDig (c : Nat) : Bool := decide (c ∈ tl c_DIGITS)
def isSign (c : Nat) : Bool := decide (c ∈ tl c_CHARACTERS)
def nameOk : List Nat → Bool
  | [] => false
  | c :: l => decide (l.length < 12) && (isLet c && (c :: l).all fun d => isLet d || isDig d)
def isName (z : Str) : Bool := nameOk (tl z)
def isText (z : Str) : Bool := (tl z).all isSign
section
variable {K : PySem.W.Frag} {vs : List V} {H : Hp} {Q : VK} {E : XK}
def sp_is_name (K : PySem.W.Frag) : Sp := fun vs H Q _ => ∃ z : Str, vs = [.str z] ∧ z.length ≤ 1000000 ∧ ∀ H', Same H H' → Q (.bl (isName z)) H'
abbrev n_is_name : List Str := ["text", "char"]
def t_is_name (K : PySem.W.Frag) : TS :=
    (tSeq (tIfS (tOr (tNot (tTest (tChain rLeI rLeI (tC (.int 1)) (tCB cLenS (tCons (tVar 0) tNil)) (tC (.int 12))))) (tTest (tOp rNotInSign (tOp rIxS (tVar 0) (tC (.int 0))) (tC (.str c_LETTERS))))) (tRet (tC (.bl false))) tNext)
    (tRet (tCB (rAll K) (tCons (tLc (iStr (tVar 0)) (gName 1) tYes (tOrV (tOp rInSign (tVar 1) (tC (.str c_LETTERS))) (tOp rInSign (tVar 1) (tC (.str c_DIGITS)))) [1]) tNil))))
theorem len_is_name (h : sp_is_name K vs H Q E) : vs.length = 1 := by
  obtain ⟨z, rfl, _⟩ := h
  rfl
theorem run_is_name (h : sp_is_name K vs H Q E) : t_is_name K { nx := fun _ H' => Q .non H', rt := Q } (start n_is_name vs) H := by
  obtain ⟨z, rfl, hz, k⟩ := h
  unfold t_is_name
  have hsz : z.length ≤ sizeLine := Nat.le_trans hz (by decide)
  refine ⟨_, rfl, z, rfl, hsz, _, _, rfl, rfl, _, rfl, ?_⟩
  cases e : tl z with
  | nil =>
    have hl : z.length = 0 := by rw [len_tl, e]; rfl
    have d1 : decide ((1 : Int) ≤ (z.length : Int)) = false := by rw [hl]; rfl
    rw [d1]
    refine iteF ⟨_, rfl, iteT (iteT ?_)⟩
    have := k H (Same.refl H)
    rw [isName, e] at this
    exact this
  | cons c l =>
    have hl := len_cons e
    have d1 : decide ((1 : Int) ≤ (z.length : Int)) = true := decide_eq_true (by omega)
    rw [d1]
    refine iteT ⟨_, _, rfl, rfl, _, rfl, ?_⟩
    by_cases h12 : l.length < 12
    · have d2 : decide ((z.length : Int) ≤ 12) = true := decide_eq_true (by omega)
      rw [d2]
      refine iteF ⟨_, rfl, z, _, c, rfl, rfl, hsz, ix_str0 e, c, _, rfl, rfl, _, rfl, ?_⟩
      by_cases hc : isLet c = true
      · have d3 : (!decide (c ∈ c_LETTERS.cps.toList)) = false := by
          have : decide (c ∈ c_LETTERS.cps.toList) = true := hc
          rw [this]; rfl
        rw [d3]
        refine iteF ?_
        refine all_signs (fun d => isLet d || isDig d) rfl hz (fun _ => rfl) ?_ ?_
        · intro d H' R hd hR
          refine ⟨_, rfl, d, _, rfl, rfl, _, rfl, ?_⟩
          by_cases hd1 : isLet d = true
          · have d4 : decide (d ∈ c_LETTERS.cps.toList) = true := hd1
            rw [d4]
            rw [hd1] at hR
            exact iteT hR
          · have d4 : decide (d ∈ c_LETTERS.cps.toList) = false := Bool.eq_false_iff.mpr hd1
            rw [d4]
            refine iteF ⟨_, rfl, d, _, rfl, rfl, ?_⟩
            have d5 : isLet d = false := by simpa using hd1
            rw [d5, Bool.false_or] at hR
            exact hR
        · intro H' s
          have := k H' s
          rw [isName, e] at this
          rw [e]
          rw [nameOk, decide_eq_true h12, hc, Bool.true_and, Bool.true_and] at this
          exact this
      · have hc' : isLet c = false := by simpa using hc
        have d3 : (!decide (c ∈ c_LETTERS.cps.toList)) = true := by
          have : decide (c ∈ c_LETTERS.cps.toList) = false := hc'
          rw [this]; rfl
        rw [d3]
        refine iteT ?_
        have := k H (Same.refl H)
        rw [isName, e, nameOk, hc', Bool.false_and, Bool.and_false] at this
        exact this
    · have d2 : decide ((z.length : Int) ≤ 12) = false := decide_eq_false (by omega)
      rw [d2]
      refine iteT (iteT ?_)
      have := k H (Same.refl H)
      rw [isName, e, nameOk, decide_eq_false h12, Bool.false_and] at this
      exact this

def sp_is_step_name (K : PySem.W.Frag) : Sp := fun vs H Q _ => ∃ z : Str, vs = [.str z] ∧ z.length ≤ 1000000 ∧ ∀ H', Same H H' → Q (.bl (isName z && !decide (z = c_FRAME))) H'
abbrev n_is_step_name : List Str := ["text"]
def t_is_step_name (K : PySem.W.Frag) : TS :=
    (tRet (tAndV (tCall (sp_is_name K) [] E0 (tCons (tVar 0) tNil)) (tOp rNe (tVar 0) (tC (.str c_FRAME)))))
theorem len_is_step_name (h : sp_is_step_name K vs H Q E) : vs.length = 1 := by
  obtain ⟨z, rfl, _⟩ := h
  rfl
theorem run_is_step_name (h : sp_is_step_name K vs H Q E) : t_is_step_name K { nx := fun _ H' => Q .non H', rt := Q } (start n_is_step_name vs) H := by
  obtain ⟨z, rfl, hz, k⟩ := h
  unfold t_is_step_name
  refine ⟨_, rfl, z, rfl, hz, fun H' s => ⟨_, rfl, ?_⟩⟩
  cases hc : isName z with
  | false =>
    have := k H' s
    rw [hc] at this
    exact iteF this
  | true =>
    have := k H' s
    rw [hc] at this
    refine iteT ⟨_, rfl, rfl, ?_⟩
    have e : decide ((V.str z) = V.str c_FRAME) = decide (z = c_FRAME) := by
      by_cases q : z = c_FRAME
      · subst q; simp
      · rw [decide_eq_false q]; exact decide_eq_false (fun r => q (V.str.inj r))
    show Q (.bl (!decide (V.str z = V.str c_FRAME))) H'
    rw [e]
    exact this

def sp_is_text (K : PySem.W.Frag) : Sp := fun vs H Q _ => ∃ z : Str, vs = [.str z] ∧ z.length ≤ 1000000 ∧ ∀ H', Same H H' → Q (.bl (isText z)) H'
abbrev n_is_text : List Str := ["text", "char"]
def t_is_text (K : PySem.W.Frag) : TS :=
    (tRet (tCB (rAll K) (tCons (tLc (iStr (tVar 0)) (gName 1) tYes (tOp rInSign (tVar 1) (tC (.str c_CHARACTERS))) [1]) tNil)))
theorem len_is_text (h : sp_is_text K vs H Q E) : vs.length = 1 := by
  obtain ⟨z, rfl, _⟩ := h
  rfl
theorem run_is_text (h : sp_is_text K vs H Q E) : t_is_text K { nx := fun _ H' => Q .non H', rt := Q } (start n_is_text vs) H := by
  obtain ⟨z, rfl, hz, k⟩ := h
  unfold t_is_text
  refine all_signs isSign rfl hz (fun _ => rfl) ?_ k
  intro d H' R _ hR
  exact ⟨_, rfl, d, _, rfl, rfl, hR⟩
end
end My


/-! Nums: numbers as texts, cuts of texts and lists, data on the heap. -/
namespace My
open PySem PySem.Spec PyProof.Rows L2 TL

/-! ### texts by their signs -/
theorem str_iff {a b : Str} : V.str a = V.str b ↔ tl a = tl b := ⟨fun h => by rw [V.str.inj h], fun h => by rw [ext_tl h]⟩
theorem dec_str (a b : Str) : decide (V.str a = V.str b) = decide (tl a = tl b) := decide_eq_decide.mpr str_iff
theorem tl_cutT (z : Str) (k : Nat) : tl (cutS z none (some (k : Int))) = (tl z).take k := by
  show ((z.cps.toList.drop (HT.sIx z.length 0 none)).take (HT.sIx z.length z.length (some (k : Int)) - HT.sIx z.length 0 none)) = _
  rw [HT.sIx_none, HT.sIx_nat, List.drop_zero, Nat.sub_zero, len_tl]
  show List.take (min k (tl z).length) (tl z) = List.take k (tl z)
  rw [List.take_eq_take_iff]
  omega
theorem tl_cutD (z : Str) (k : Nat) : tl (cutS z (some (k : Int)) none) = (tl z).drop k := by
  show ((z.cps.toList.drop (HT.sIx z.length 0 (some (k : Int)))).take (HT.sIx z.length z.length none - HT.sIx z.length 0 (some (k : Int)))) = _
  rw [HT.sIx_none, HT.sIx_nat, len_tl]
  rw [List.take_of_length_le (by rw [List.length_drop]; exact Nat.le_refl _)]
  by_cases h : k ≤ (tl z).length
  · rw [Nat.min_eq_left h]
  · rw [Nat.min_eq_right (by omega), List.drop_eq_nil_of_le (Nat.le_refl _), List.drop_eq_nil_of_le (by omega)]
theorem cutV_D (xs : List V) (k : Nat) : cutV xs (some (k : Int)) none = xs.drop k := by
  unfold cutV
  rw [HT.sIx_none, HT.sIx_nat]
  rw [List.take_of_length_le (by rw [List.length_drop]; exact Nat.le_refl _)]
  by_cases h : k ≤ xs.length
  · rw [Nat.min_eq_left h]
  · rw [Nat.min_eq_right (by omega), List.drop_eq_nil_of_le (Nat.le_refl _), List.drop_eq_nil_of_le (by omega)]
theorem cutV_T (xs : List V) (k : Nat) : cutV xs none (some (k : Int)) = xs.take k := by
  unfold cutV
  rw [HT.sIx_none, HT.sIx_nat, List.drop_zero, Nat.sub_zero, List.take_eq_take_iff]
  omega
theorem cutV_DT (xs : List V) (k m : Nat) (h : k ≤ m) (hm : m ≤ xs.length) : cutV xs (some (k : Int)) (some (m : Int)) = (xs.drop k).take (m - k) := by
  unfold cutV
  rw [HT.sIx_nat, HT.sIx_nat, Nat.min_eq_left hm, Nat.min_eq_left (by omega)]

/-! ### numbers -/
def numS (i : Int) : Str := Str.ofString (toString i)
def numC (i : Int) : List Nat := if i < 0 then 45 :: numL i.natAbs else numL i.natAbs
theorem tl_numS (i : Int) : tl (numS i) = numC i := by
  unfold numS numC
  by_cases h : i < 0
  · rw [if_pos h]
    obtain ⟨n, rfl⟩ : ∃ n : Nat, i = Int.negSucc n := ⟨(-i - 1).toNat, by omega⟩
    have e : toString (Int.negSucc n) = "-" ++ toString ((n + 1 : Nat) : Int) := rfl
    rw [e, tl_ofString, String.toList_append, List.map_append, ← tl_ofString, ← tl_ofString, tl_num]
    have e2 : tl (Str.ofString "-") = [45] := by decide +kernel
    rw [e2]
    rfl
  · rw [if_neg h]
    obtain ⟨n, rfl⟩ : ∃ n : Nat, i = (n : Int) := ⟨i.toNat, by omega⟩
    exact tl_num n
theorem numC_free {i : Int} {s : Nat} (h : s < 45 ∨ 57 < s) : s ∉ numC i := by
  unfold numC
  have q := numL_free (n := i.natAbs) (s := s) (by omega)
  by_cases hi : i < 0
  · rw [if_pos hi]
    intro m
    rcases List.mem_cons.mp m with e | e
    · omega
    · exact q e
  · rw [if_neg hi]
    exact q
theorem numC_len {i : Int} (h : i.natAbs < 10 ^ 60) : (numC i).length ≤ 61 := by
  have q := numL_len (n := i.natAbs) (k := 60) (by decide) h
  unfold numC
  by_cases hi : i < 0
  · rw [if_pos hi, List.length_cons]
    omega
  · rw [if_neg hi]
    omega
theorem numS_len {i : Int} (h : i.natAbs < 10 ^ 60) : (numS i).length ≤ 61 := by
  rw [len_tl, tl_numS]
  exact numC_len h
theorem int_numS {i : Int} (h : i.natAbs < 10 ^ 60) : intText? (numS i) = some i := by
  have hl := numS_len h
  have et : (numS i).cps.toList = numC i := tl_numS i
  by_cases hi : i < 0
  · have e : numC i = 45 :: numL i.natAbs := if_pos hi
    rw [intText_neg (x := numS i) (cs := numL i.natAbs) (et.trans e) (numL_digits _) (numL_ne _) (by omega), numL_val]
    congr 1
    omega
  · have e : numC i = numL i.natAbs := if_neg hi
    rw [intText_digits (x := numS i) (by rw [et, e]; exact numL_digits _) (by rw [et, e]; exact numL_ne _) (by omega), et, e, numL_val]
    congr 1
    omega
/-- the first digit of a number above 9 .. -/
theorem numL_head : ∀ n : Nat, 0 < n → ∃ c l, numL n = c :: l ∧ c ≠ 48 := by
  intro n
  induction n using Nat.strongRecOn with
  | _ n ih =>
    intro h
    by_cases h10 : n < 10
    · exact ⟨48 + n, [], numL_lt h10, by omega⟩
    · obtain ⟨c, l, e, hc⟩ := ih (n / 10) (by omega) (by omega)
      exact ⟨c, l ++ [48 + n % 10], by rw [numL_step (by omega), e]; rfl, hc⟩
theorem numL_dig (n : Nat) : (numL n).all isDig = true := by
  rw [List.all_eq_true]
  intro c hc
  have h : 48 ≤ c ∧ c ≤ 57 := by
    rcases Nat.lt_or_ge c 48 with h | h
    · exact absurd hc (numL_free (.inl h))
    · rcases Nat.lt_or_ge 57 c with h2 | h2
      · exact absurd hc (numL_free (.inr h2))
      · exact ⟨h, h2⟩
  have hall : ∀ c : Nat, c < 58 → 48 ≤ c → isDig c = true := by decide +kernel
  exact hall c (by omega) h.1
theorem log2_small {i : Int} (h : i.natAbs < 10 ^ 60) : i.natAbs.log2 < 1920 :=
  Nat.lt_of_lt_of_le (PySem.Flt.log2_lt_of (k := 200) (by decide) (Nat.lt_of_lt_of_le h (by decide +kernel))) (by decide)

/-! ### data on the heap -/
section
variable {K : PySem.W.Frag} {H H' : Hp}
mutual
theorem Dp.same' (e : Same H H') : ∀ (d : PyData) (v : V), Dp K H v d → Dp K H' v d
  | .none, _, h => by cases h; exact .non
  | .bool b, _, h => by cases h; exact .bl b
  | .int i, _, h => by cases h; exact .int i
  | .str x, _, h => by cases h; exact .str x
  | .list ds, _, h => by
    cases h with
    | lst hs ha => exact .lst (e.seq hs) (DpAll.same' e ds _ ha)
  | .tuple ds, _, h => by
    cases h with
    | tup hs ha => exact .tup (same_tup e hs) (DpAll.same' e ds _ ha)
  | .dict _, _, h => by cases h
theorem DpAll.same' (e : Same H H') : ∀ (ds : List PyData) (vs : List V), DpAll K H vs ds → DpAll K H' vs ds
  | [], _, h => by cases h; exact .nil
  | d :: ds, _, h => by
    cases h with
    | cons h1 h2 => exact .cons (Dp.same' e d _ h1) (DpAll.same' e ds _ h2)
end
theorem dp_same {v : V} {d : PyData} (h : Dp K H v d) (e : Same H H') : Dp K H' v d := Dp.same' e d v h
theorem dpAll_same {vs : List V} {ds : List PyData} (h : DpAll K H vs ds) (e : Same H H') : DpAll K H' vs ds := DpAll.same' e ds vs h
mutual
def noL : PyData → Bool
  | .list _ => false
  | .dict _ => false
  | .tuple ds => noLs ds
  | _ => true
def noLs : List PyData → Bool
  | [] => true
  | d :: ds => noL d && noLs ds
end
theorem tup_kp {s a : Addr} {xs zs : List V} (e : Kp s H H') (hs : H s = some (.lst zs)) (h : SqT K H a xs) : SqT K H' a xs := by
  rcases h with (h | ⟨u, h⟩) | h
  · exact .inl (.inl (e _ _ (ne_of h hs (fun z => nomatch z)) h))
  · exact .inl (.inr ⟨u, e _ _ (ne_of h hs (fun z => nomatch z)) h⟩)
  · exact .inr h
mutual
theorem Dp.kp' {s : Addr} {zs : List V} (e : Kp s H H') (hs : H s = some (.lst zs)) : ∀ (d : PyData) (v : V), noL d = true → Dp K H v d → Dp K H' v d
  | .none, _, _, h => by cases h; exact .non
  | .bool b, _, _, h => by cases h; exact .bl b
  | .int i, _, _, h => by cases h; exact .int i
  | .str x, _, _, h => by cases h; exact .str x
  | .list ds, _, n, h => by cases n
  | .tuple ds, _, n, h => by
    cases h with
    | tup ht ha => exact .tup (tup_kp e hs ht) (DpAll.kp' e hs ds _ n ha)
  | .dict _, _, n, h => by cases n
theorem DpAll.kp' {s : Addr} {zs : List V} (e : Kp s H H') (hs : H s = some (.lst zs)) : ∀ (ds : List PyData) (vs : List V), noLs ds = true → DpAll K H vs ds → DpAll K H' vs ds
  | [], _, _, h => by cases h; exact .nil
  | d :: ds, _, n, h => by
    have n2 : (noL d && noLs ds) = true := n
    cases h with
    | cons h1 h2 => exact .cons (Dp.kp' e hs d _ (Bool.and_eq_true_iff.mp n2).1 h1) (DpAll.kp' e hs ds _ (Bool.and_eq_true_iff.mp n2).2 h2)
end
theorem dp_tup {v : V} {ds : List PyData} (h : Dp K H v (.tuple ds)) : ∃ a xs, v = .ref a ∧ SqT K H a xs ∧ DpAll K H xs ds := by
  cases h with
  | tup h1 h2 => exact ⟨_, _, rfl, h1, h2⟩
theorem dp_str {v : V} {z : Str} (h : Dp K H v (.str z)) : v = .str z := by cases h; rfl
theorem dp_int {v : V} {i : Int} (h : Dp K H v (.int i)) : v = .int i := by cases h; rfl
theorem dpAll_nil {xs : List V} (h : DpAll K H xs []) : xs = [] := by cases h; rfl
theorem dpAll_cons {xs : List V} {d : PyData} {ds : List PyData} (h : DpAll K H xs (d :: ds)) : ∃ v vs, xs = v :: vs ∧ Dp K H v d ∧ DpAll K H vs ds := by
  cases h with
  | cons h1 h2 => exact ⟨_, _, rfl, h1, h2⟩
theorem dpAll_len : ∀ {xs : List V} {ds : List PyData}, DpAll K H xs ds → xs.length = ds.length
  | _, _, .nil => rfl
  | _, _, .cons _ h => by rw [List.length_cons, List.length_cons, dpAll_len h]
theorem dpAll_get : ∀ {xs : List V} {ds : List PyData} {i : Nat} {v : V}, DpAll K H xs ds → xs[i]? = some v → ∃ d, ds[i]? = some d ∧ Dp K H v d
  | _, _, i, v, .nil, e => by simp at e
  | _, _, 0, v, .cons h _, e => by simp at e; subst e; exact ⟨_, rfl, h⟩
  | _, _, i + 1, v, .cons _ h, e => by
    obtain ⟨d, e1, e2⟩ := dpAll_get (i := i) (v := v) h (by simpa using e)
    exact ⟨d, by simpa using e1, e2⟩
theorem dpAll_strs : ∀ {xs : List V} {zs : List Str}, DpAll K H xs (zs.map PyData.str) → xs = zs.map V.str
  | _, [], h => dpAll_nil h
  | _, z :: zs, h => by
    obtain ⟨v, vs, rfl, h1, h2⟩ := dpAll_cons h
    rw [dp_str h1, dpAll_strs h2]
    rfl
theorem strs_dpAll : ∀ (zs : List Str), DpAll K H (zs.map V.str) (zs.map PyData.str)
  | [] => .nil
  | z :: zs => .cons (.str z) (strs_dpAll zs)
theorem dpAll_append : ∀ {xs ys : List V} {ds es : List PyData}, DpAll K H xs ds → DpAll K H ys es → DpAll K H (xs ++ ys) (ds ++ es)
  | _, _, _, _, .nil, h => h
  | _, _, _, _, .cons h1 h2, h => .cons h1 (dpAll_append h2 h)
end
end My


/-! Comps: comprehensions whose elements are new objects; joins; membership. -/
namespace My
open PySem PySem.Spec PyProof.Rows L2 TL
theorem lc_rel {J : It} {n : Nat} {G : Hp → Prop} {Y : Nat → Hp → V → Hp → Prop} (w : Walk J n G Y) {g : TG} {te : TE} {vs : List Nat} {σ : L2.St} {H1 : Hp} {D : Addr} {Qd : Hp → Prop} (R : Nat → V → Hp → Prop)
    (hR : ∀ i y H H', (∀ b o, b ≠ D → H b = some o → H' b = some o) → R i y H → R i y H')
    (hn : n ≤ 1000000) (hD : H1 D = none) (hY : ∀ i H x H', Y i H x H' → Same H H') (hG : ∀ H, Same H1 H → G H)
    (he : ∀ i x H H' (Q : VK), i < n → Same H1 H → (∃ l, H D = some (.lst l)) → Y i H x H' → (∀ y H2, Same H' H2 → R i y H2 → Q y H2) → g x (wipe σ vs) H' fun σ2 H2 => wipe σ2 vs = wipe σ vs ∧ te σ2 H2 Q)
    (hQ : ∀ acc H2, Same H1 H2 → H2 D = some (.lst acc) → acc.length = n → (∀ i y, acc[i]? = some y → R i y H2) → Qd H2) :
    ∃ W : Nat → Nat → Hp → Prop, (∃ m, W 0 m (upd H1 D (.lst []))) ∧ ∀ i m H, W i m H →
      (J.stop i H ∧ Qd H) ∨ (J.go i H ∧ ∃ Nx : Hp → Prop, (∀ H', Nx H' → ∃ m', m' < m ∧ W (i + 1) m' H') ∧ ∀ x H', J.yld i H x H' → g x (wipe σ vs) H' fun σ2 H2 => wipe σ2 vs = wipe σ vs ∧ tYes σ2 H2 fun b H3 =>
        if b = true then te σ2 H3 fun y H4 => ∃ acc, H4 D = some (.lst acc) ∧ acc.length < sizeLine ∧ Nx (upd H4 D (.lst (acc ++ [y]))) else Nx H3) := by
  refine lc_it w (fun i H => Same H1 H ∧ ∃ acc, H D = some (.lst acc) ∧ acc.length = i ∧ ∀ j y, acc[j]? = some y → R j y H) ⟨same_new hD, [], upd_same, rfl, fun j y e => by simp at e⟩ (fun i H _ p => hG H p.1) ?_ (fun H p => ?_)
  · rintro i x H H' hi ⟨p1, acc, p2, p3, p4⟩ y
    have s1 := hY i H x H' y
    refine he i x H H' _ hi p1 ⟨acc, p2⟩ y ?_
    intro z H2 s2 r
    refine ⟨acc, s2 _ _ (s1 _ _ p2), ?_, ?_, acc ++ [z], upd_same, ?_, ?_⟩
    · rw [p3]
      exact Nat.lt_of_lt_of_le (by omega : i < 1000000) (by decide)
    · intro b o e
      rw [upd_ne (ne_of_none e hD)]
      exact s2 _ _ (s1 _ _ (p1 _ _ e))
    · rw [List.length_append, List.length_singleton, p3]
    · have up : ∀ b o, b ≠ D → H2 b = some o → upd H2 D (.lst (acc ++ [z])) b = some o := fun b o nb e => by rw [upd_ne nb]; exact e
      intro j u e
      by_cases hj : j < acc.length
      · rw [List.getElem?_append_left hj] at e
        refine hR j u H2 _ up (hR j u H H2 (fun b o _ e => s2 _ _ (s1 _ _ e)) (p4 j u e))
      · rw [List.getElem?_append_right (by omega)] at e
        have hj0 : j = i := by
          have : j - acc.length < 1 := by
            have := (List.getElem?_eq_some_iff.mp e).1
            simpa using this
          omega
        subst hj0
        rw [p3, Nat.sub_self] at e
        have : z = u := by simpa using e
        subst this
        exact hR _ z H2 _ up r
  · obtain ⟨p1, acc, p2, p3, p4⟩ := p
    exact hQ acc H p1 p2 p3 p4

/-! ### joins by signs -/
theorem tl_joinT (y : Str) (ps : List Str) : tl (Txt.join y ps) = joinL (tl y) (ps.map tl) := by rw [join_eq, tl_join]
theorem joinL_cons {S p : List Nat} {r : List (List Nat)} (h : r ≠ []) : joinL S (p :: r) = p ++ (S ++ joinL S r) := by
  cases r with
  | nil => exact absurd rfl h
  | cons q r => rfl
theorem joinL_snoc {S p : List Nat} : ∀ {r : List (List Nat)}, r ≠ [] → joinL S (r ++ [p]) = joinL S r ++ (S ++ p)
  | [], h => absurd rfl h
  | [q], _ => rfl
  | q :: q2 :: r, _ => by
    rw [List.cons_append, joinL_cons (by simp), joinL_snoc (r := q2 :: r) (by simp), joinL_cons (r := q2 :: r) (by simp)]
    simp only [List.append_assoc]
theorem joinL_append {S : List Nat} : ∀ {r q : List (List Nat)}, r ≠ [] → q ≠ [] → joinL S (r ++ q) = joinL S r ++ (S ++ joinL S q)
  | [], _, h, _ => absurd rfl h
  | [p], q, _, h => by rw [List.singleton_append, joinL_cons h]; rfl
  | p :: p2 :: r, q, _, h => by
    rw [List.cons_append, joinL_cons (by simp), joinL_append (r := p2 :: r) (by simp) h, joinL_cons (r := p2 :: r) (by simp)]
    simp only [List.append_assoc]
theorem joinL_len (S : List Nat) : ∀ (r : List (List Nat)) (m : Nat), (∀ p ∈ r, p.length ≤ m) → (joinL S r).length ≤ r.length * (m + S.length)
  | [], _, _ => by simp [joinL]
  | [p], m, h => by
    have := h p List.mem_cons_self
    show p.length ≤ _
    simp
    omega
  | p :: q :: r, m, h => by
    have h1 := h p List.mem_cons_self
    have h2 := joinL_len S (q :: r) m fun z hz => h z (List.mem_cons_of_mem _ hz)
    rw [joinL_cons (by simp), List.length_append, List.length_append, List.length_cons (as := q :: r), Nat.succ_mul]
    omega
theorem sum_le {l : List Nat} {m : Nat} (h : ∀ x ∈ l, x ≤ m) : l.sum ≤ l.length * m := by
  induction l with
  | nil => simp
  | cons a l ih =>
    have h1 := h a List.mem_cons_self
    have h2 := ih fun x hx => h x (List.mem_cons_of_mem _ hx)
    rw [List.sum_cons, List.length_cons, Nat.succ_mul]
    omega
/-- what join asks of the sizes -/
theorem join_room {ys : List Str} {y : Str} {n m : Nat} (hn : ys.length ≤ n) (hm : ∀ z ∈ ys, z.length ≤ m) (h : n * m + n * y.length ≤ 16777216) : (ys.map (·.length)).sum + ys.length * y.length ≤ 16777216 := by
  have h1 : (ys.map (·.length)).sum ≤ ys.length * m := by
    have := sum_le (l := ys.map (·.length)) (m := m) (fun x hx => by
      obtain ⟨z, hz, rfl⟩ := List.mem_map.mp hx
      exact hm z hz)
    rwa [List.length_map] at this
  have h2 : ys.length * m ≤ n * m := Nat.mul_le_mul_right _ hn
  have h3 : ys.length * y.length ≤ n * y.length := Nat.mul_le_mul_right _ hn
  omega

/-! ### in -/
theorem inV_strs (z : Str) (zs : List Str) : inV (.str z) (zs.map V.str) = decide (z ∈ zs) := by
  unfold inV
  rw [List.any_map]
  by_cases h : z ∈ zs
  · rw [decide_eq_true h, List.any_eq_true]
    exact ⟨z, h, by show (z == z) = true; simp⟩
  · rw [decide_eq_false h, List.any_eq_false]
    intro y hy
    show ¬ (y == z) = true
    intro e
    exact h (by rw [← eq_of_beq e]; exact hy)
theorem flat_strs (zs : List Str) : (zs.map V.str).all flatV = true := by
  rw [List.all_map, List.all_eq_true]
  intro _ _
  rfl
theorem flat_ints (zs : List Int) : (zs.map V.int).all flatV = true := by
  rw [List.all_map, List.all_eq_true]
  intro _ _
  rfl
theorem inV_non (zs : List Int) : inV .non (zs.map V.int) = false := by
  unfold inV
  rw [List.any_map, List.any_eq_false]
  intro y _ h
  cases h
theorem atI_pos {α : Type} {xs : List α} (j : Nat) {v : α} (h : xs[j]? = some v) : atI xs (j : Int) = some v := atI_nat h
theorem map_range_get {α β : Type} (xs : List α) (f : α → β) (g : Nat → β) (h : ∀ i x, xs[i]? = some x → g i = f x) : (List.range xs.length).map g = xs.map f := by
  apply List.ext_getElem
  · simp
  · intro i h1 h2
    simp only [List.getElem_map, List.getElem_range]
    have hi : i < xs.length := by simpa using h1
    exact h i xs[i] (by simp [hi])
end My


/-! Inst: fields, methods, properties of instances, locked or not. -/
namespace My
open PySem PySem.Spec PyProof.Rows L2
theorem ins_rd {P : Program} {w : World} {H : Hp} {h : Heap} {a C dx : Addr} {fs : List (Str × V)} (ok : HOk P w H h) (e : Rd H a (.ins C dx fs)) :
    ∃ mA, ObjM h a dx C mA ∧ ∀ f, RelO (fs.lookup f) (mA f) := by
  obtain ⟨_, _, ne, ob, mA, ns, rl, _⟩ := (show ObjOk P w H h a (.ins C dx fs) from e.ok ok)
  exact ⟨mA, ⟨ob, ns, ne⟩, rl⟩
section
variable {X : Cx} {k : Nat} {f C p g : Addr} {fd : FuncData} {ps : List Str} {sp : Sp} {o e : Expr} {es : List Expr} {to : TE} {t : TA} {m x : Str} {pos apos : Pos}
/-- e.f -/
def tFldR (K : PySem.W.Frag) (te : TE) (x : Str) : TE := fun σ H Q => te σ H fun y H1 => ∃ a C dx fs v, y = .ref a ∧ Rd H1 a (.ins C dx fs) ∧ Cls K C ∧ NoAttr K C x ∧ fs.lookup x = some v ∧ Q v H1
theorem pe_fldR (ho : PE X o to) (hab : attributeBase o x X.env (eval o X.env) = eval o X.env := by rfl) : PE X (.Attribute o x pos) (tFldR X.K to x) := by
  refine ⟨fun pins s σ H Q I h => ?_⟩
  refine attr_of hab (thn (ho.run pins s σ H _ I h) fun u s1 hh => ?_)
  obtain ⟨y, H1, I1, ry, a, C, dx, fs, v, rfl, ha, hc, hn, hl, q⟩ := hh
  cases ry
  obtain ⟨mA, O, rl⟩ := ins_rd I1.hok ha
  obtain ⟨u, hu, ru⟩ := RelO.some_of (v := v) (o := mA x) (by rw [← hl]; exact rl x)
  exact get_map I1.kIn O (hc.get x) hc.hd hn hu (handed_of ru) ⟨v, H1, I1.tok _, ru, q⟩
/-- o.m(..) -/
def tMethR (C : Addr) (m : Str) (sp : Sp) (te : TE) (t : TA) : TE := fun σ H Q => te σ H fun y H1 => ∃ a dx fs, y = .ref a ∧ Rd H1 a (.ins C dx fs) ∧ fs.lookup m = none ∧ t σ H1 fun vs H2 => sp (y :: vs) H2 Q E0
theorem meth_rd {pins : List (Addr × Obj)} {σ : L2.St} {H : Hp} {s : Shared} {a dx : Addr} {fs : List (Str × V)} {pl : Sem Bool} {Q : Value × List Value → Shared → Prop} {A : Around} {E : Value → Shared → Prop} (I : Inv X pins σ H s) (ha : Rd H a (.ins C dx fs)) (c : Cls X.K C) (hm : Meth X.K C m f)
    (hl : fs.lookup m = none) (h : Q (.ref f, [.ref a]) s) : wpAny (model X.prog X.w) A (getMethod (.ref a) m pl) Q E s := by
  obtain ⟨mA, O, rl⟩ := ins_rd I.hok ha
  exact get_meth I.kIn O (c.get m) hm.at_ hm.fn (RelO.none_of (by rw [← hl]; exact rl m)) h
theorem pe_methR {pl : Sem Bool} (ho : PE X o to) (c : Cls X.K C) (hm : Meth X.K C m f) (F : FnOk X.prog X.w X.K X.mg X.base CX0 k f fd ps sp) (hr : Room k X.A) (hb : Binds X.K fd ps []) (ha : PA X (e :: es) t)
    (hst : starEach (e :: es) X.env = (false, eval e X.env) :: starEach es X.env := by rfl) (hpl : (backTo pos (starEach es X.env)).any (·.1) = false := by rfl)
    (ht : eval (.Call (.Attribute o m apos) (e :: es) [] pos) X.env = (eval o X.env >>= fun ov => standAt apos.atName >>= fun _ => holding [ov] (getMethod ov m pl) >>= fun fp => callWith pos fp.1 fp.2 (backTo pos (starEach (e :: es) X.env)) (backToKw pos (keywordEach [] X.env))) := by rfl) :
    PE X (.Call (.Attribute o m apos) (e :: es) [] pos) (tMethR C m sp to t) := by
  refine ⟨fun pins s σ H Q I h => ?_⟩
  refine PySem.W.methodCall_KW (pl := pl) (thn (ho.run pins s σ H _ I h) fun u s1 hh => ?_) ht
  obtain ⟨y, H1, I1, ry, a, dx, fs, rfl, hi, hl, q⟩ := hh
  cases ry
  refine meth_rd I1 hi c hm hl ?_
  refine PySem.W.callWith_K (first := [.ref a]) (h₀ := X.base) I.ok.mod.kin hm.kp (thn (ha.run pos pins s1 σ H1 _ I1 q) fun us s2 hv => ?_) hst hpl
  obtain ⟨vs, H2, I2, rv, q2⟩ := hv
  refine ⟨I2.kIn, run_fn (us := .ref a :: us) (vs := .ref a :: vs) F hr hb .nil pass0 I2 (.cons rfl rv) ?_⟩
  rw [List.append_nil]
  exact q2
theorem pe_meth0R {pl : Sem Bool} (ho : PE X o to) (c : Cls X.K C) (hm : Meth X.K C m f) (F : FnOk X.prog X.w X.K X.mg X.base CX0 k f fd ps sp) (hr : Room k X.A) (hb : Binds X.K fd ps [])
    (ht : eval (.Call (.Attribute o m apos) [] [] pos) X.env = (eval o X.env >>= fun ov => standAt apos.atName >>= fun _ => holding [ov] (getMethod ov m pl) >>= fun fp => callWith pos fp.1 fp.2 (backTo pos (starEach [] X.env)) (backToKw pos (keywordEach [] X.env))) := by rfl) :
    PE X (.Call (.Attribute o m apos) [] [] pos) (tMethR C m sp to tNil) := by
  refine ⟨fun pins s σ H Q I h => ?_⟩
  refine PySem.W.methodCall_KW (pl := pl) (thn (ho.run pins s σ H _ I h) fun u s1 hh => ?_) ht
  obtain ⟨y, H1, I1, ry, a, dx, fs, rfl, hi, hl, q⟩ := hh
  cases ry
  refine meth_rd I1 hi c hm hl ?_
  exact PySem.W.callWith_K0 (first := [.ref a]) I1.kIn hm.kp (run_fn (us := [.ref a]) (vs := [.ref a]) F hr hb .nil pass0 I1 (.cons rfl .nil) q)
/-- e.f, a property -/
def tPropR (C : Addr) (sp : Sp) (te : TE) : TE := fun σ H Q => te σ H fun y H1 => ∃ a dx fs, y = .ref a ∧ Rd H1 a (.ins C dx fs) ∧ sp [y] H1 Q E0
theorem pe_propR (ho : PE X o to) (c : Cls X.K C) (hp : PropOf X.K C x p g) (F : FnOk X.prog X.w X.K X.mg X.base CX0 k g fd ps sp) (hr : Room (k + 1) X.A) (hb : Binds X.K fd ps [])
    (hab : attributeBase o x X.env (eval o X.env) = eval o X.env := by rfl) : PE X (.Attribute o x pos) (tPropR C sp to) := by
  refine ⟨fun pins s σ H Q I h => ?_⟩
  refine attr_of hab (thn (ho.run pins s σ H _ I h) fun u s1 hh => ?_)
  obtain ⟨y, H1, I1, ry, a, dx, fs, rfl, hi, q⟩ := hh
  cases ry
  obtain ⟨mA, O, rl⟩ := ins_rd I1.hok hi
  obtain ⟨od, J, _⟩ := O.look
  obtain ⟨rest, hrec⟩ := hp.rec_
  have I2 := I1.tok (s1.toks + 1)
  have hlen : ([Value.ref a] ++ []).length = ps.length := by
    rw [← F.len _ _ _ _ q]
    rfl
  have hcls : (PySem.W.clsIn X.K C).isSome = true := by
    obtain ⟨cd, h1, _⟩ := PySem.W.any_some c.hd
    rw [h1]
    rfl
  have bt := hb { s1 with toks := s1.toks + 1 } [.ref a] I2.kIn hlen
  rw [List.append_nil] at bt
  refine PySem.W.get_bind I1.kIn J (PySem.W.plainGet_of (c.get x)).1 (PySem.W.findObj_data hcls hp.at_ hp.get hp.tak) (PySem.W.plainGet_of (c.get x)).2 (wpAny_call (PySem.W.prop_get (s := { s1 with toks := s1.toks + 1 }) I1.kIn hrec ?_))
  refine codeAny_mono (F.run X.A.in1 X.stack { s1 with toks := s1.toks + 1 } H1 ⟨[.ref a], []⟩ [.ref a] [.ref a] Q E0 hr.in1 I2.env0.in1 bt (.cons rfl .nil) q) fun r s' hq => ?_
  cases r with
  | error er => exact False.elim hq
  | ok fl =>
    cases fl with
    | ret u =>
      obtain ⟨v, H', I3, rv, q3⟩ := I2.after hq
      show wpAny _ _ (handedOut u) _ _ _
      rw [PySem.W.handedOut_of (handed_of rv)]
      exact wpAny_pure ⟨v, H', I3, rv, q3⟩
    | next => exact False.elim hq
    | brk => exact False.elim hq
    | cont => exact False.elim hq
end
end My


/-! Q0: plain values that stand for what the heap holds; what never changes keeps standing for it. -/
namespace My
open PySem PySem.Spec PyProof.Rows L2
/-- a value with all that hangs on it; lists and dicts in it are locked for good -/
inductive D where
  | non | bl (b : Bool) | int (i : Int) | str (z : Str)
  | tup (ds : List D) | lst (ds : List D) | dic (kvs : List (Key × D)) | dit (kvs : List (List Key × D)) | ins (C : Addr) (fs : List (Str × D)) | src
mutual
inductive DR (K : PySem.W.Frag) (s : Addr) (H : Hp) : V → D → Prop
  | non : DR K s H .non .non
  | bl (b : Bool) : DR K s H (.bl b) (.bl b)
  | int (i : Int) : DR K s H (.int i) (.int i)
  | str (z : Str) : DR K s H (.str z) (.str z)
  | tup {a : Addr} {vs : List V} {ds : List D} : H a = some (.tup vs) → DRs K s H vs ds → DR K s H (.ref a) (.tup ds)
  | lst {a : Addr} {o : Obj} {vs : List V} {ds : List D} : H a = some (.frz o (.lst vs)) → DRs K s H vs ds → DR K s H (.ref a) (.lst ds)
  | dic {a : Addr} {o : Obj} {kvs : List (Key × V)} {kds : List (Key × D)} : H a = some (.frz o (.dK kvs)) → DRk K s H kvs kds → DR K s H (.ref a) (.dic kds)
  | dit {a : Addr} {o : Obj} {kvs : List (List Key × V)} {kds : List (List Key × D)} : H a = some (.frz o (.dT kvs)) → DRt K s H kvs kds → DR K s H (.ref a) (.dit kds)
  | ins {a C dx : Addr} {o : Obj} {fs : List (Str × V)} {fds : List (Str × D)} : H a = some (.frz o (.ins C dx fs)) → DRf K s H fs fds → DR K s H (.ref a) (.ins C fds)
  | src : DR K s H (.ref s) .src
inductive DRs (K : PySem.W.Frag) (s : Addr) (H : Hp) : List V → List D → Prop
  | nil : DRs K s H [] []
  | cons {v : V} {vs : List V} {d : D} {ds : List D} : DR K s H v d → DRs K s H vs ds → DRs K s H (v :: vs) (d :: ds)
inductive DRk (K : PySem.W.Frag) (s : Addr) (H : Hp) : List (Key × V) → List (Key × D) → Prop
  | nil : DRk K s H [] []
  | cons {k : Key} {v : V} {vs : List (Key × V)} {d : D} {ds : List (Key × D)} : DR K s H v d → DRk K s H vs ds → DRk K s H ((k, v) :: vs) ((k, d) :: ds)
inductive DRt (K : PySem.W.Frag) (s : Addr) (H : Hp) : List (List Key × V) → List (List Key × D) → Prop
  | nil : DRt K s H [] []
  | cons {k : List Key} {v : V} {vs : List (List Key × V)} {d : D} {ds : List (List Key × D)} : DR K s H v d → DRt K s H vs ds → DRt K s H ((k, v) :: vs) ((k, d) :: ds)
inductive DRf (K : PySem.W.Frag) (s : Addr) (H : Hp) : List (Str × V) → List (Str × D) → Prop
  | nil : DRf K s H [] []
  | cons {k : Str} {v : V} {vs : List (Str × V)} {d : D} {ds : List (Str × D)} : DR K s H v d → DRf K s H vs ds → DRf K s H ((k, v) :: vs) ((k, d) :: ds)
end
/-- what may change: lists, dicts, instances that are not locked -/
def soft : HO → Bool
  | .lst _ => true
  | .dK _ => true
  | .dT _ => true
  | .ins _ _ _ => true
  | _ => false
def Loose (H : Hp) (l : Addr) : Prop := ∃ o, H l = some o ∧ soft o = true
theorem Loose.ne {H : Hp} {l a : Addr} {o : HO} (hl : Loose H l) (h : H a = some o) (hs : soft o = false) : a ≠ l := fun z => by
  subst z
  obtain ⟨u, h1, h2⟩ := hl
  rw [h] at h1
  cases h1
  rw [hs] at h2
  cases h2
/-- what never changes stays -/
def Im (H H' : Hp) : Prop := ∀ b o, soft o = false → H b = some o → H' b = some o
theorem Im.refl (H : Hp) : Im H H := fun _ _ _ h => h
theorem Im.trans {H H1 H2 : Hp} (a : Im H H1) (b : Im H1 H2) : Im H H2 := fun p o h1 h => b p o h1 (a p o h1 h)
theorem Kp.im {l : Addr} {H H' : Hp} (e : Kp l H H') (hl : Loose H l) : Im H H' := fun b o h1 h => e b o (hl.ne h h1) h
theorem Same.im {H H' : Hp} (e : Same H H') : Im H H' := fun b o _ h => e b o h
section
variable {K : PySem.W.Frag} {s c : Addr} {H H' : Hp}
theorem sqT_im {a : Addr} {xs : List V} (e : Im H H') (h : SqT K H a xs) : SqT K H' a xs := by
  rcases h with (h | ⟨o, h⟩) | h
  · exact .inl (.inl (e a _ rfl h))
  · exact .inl (.inr ⟨o, e a _ rfl h⟩)
  · exact .inr h
theorem tup_im {a : Addr} {xs : List V} (e : Im H H') (h : H a = some (.tup xs)) : H' a = some (.tup xs) := e a _ rfl h
theorem frz_im {a : Addr} {o : Obj} {u : HO} (e : Im H H') (h : H a = some (.frz o u)) : H' a = some (.frz o u) := e a _ rfl h
mutual
theorem DR.im (e : Im H H') : ∀ {v : V} {d : D}, DR K s H v d → DR K s H' v d
  | _, _, .non => .non
  | _, _, .bl b => .bl b
  | _, _, .int i => .int i
  | _, _, .str z => .str z
  | _, _, .tup h r => .tup (tup_im e h) (DRs.im e r)
  | _, _, .lst h r => .lst (frz_im e h) (DRs.im e r)
  | _, _, .dic h r => .dic (frz_im e h) (DRk.im e r)
  | _, _, .dit h r => .dit (frz_im e h) (DRt.im e r)
  | _, _, .ins h r => .ins (frz_im e h) (DRf.im e r)
  | _, _, .src => .src
theorem DRs.im (e : Im H H') : ∀ {v : List V} {d : List D}, DRs K s H v d → DRs K s H' v d
  | _, _, .nil => .nil
  | _, _, .cons h r => .cons (DR.im e h) (DRs.im e r)
theorem DRk.im (e : Im H H') : ∀ {v : List (Key × V)} {d : List (Key × D)}, DRk K s H v d → DRk K s H' v d
  | _, _, .nil => .nil
  | _, _, .cons h r => .cons (DR.im e h) (DRk.im e r)
theorem DRt.im (e : Im H H') : ∀ {v : List (List Key × V)} {d : List (List Key × D)}, DRt K s H v d → DRt K s H' v d
  | _, _, .nil => .nil
  | _, _, .cons h r => .cons (DR.im e h) (DRt.im e r)
theorem DRf.im (e : Im H H') : ∀ {v : List (Str × V)} {d : List (Str × D)}, DRf K s H v d → DRf K s H' v d
  | _, _, .nil => .nil
  | _, _, .cons h r => .cons (DR.im e h) (DRf.im e r)
end
theorem DRs.len : ∀ {v : List V} {d : List D}, DRs K s H v d → v.length = d.length
  | _, _, .nil => rfl
  | _, _, .cons _ r => by rw [List.length_cons, List.length_cons, DRs.len r]
theorem DRs.append : ∀ {v w : List V} {d e : List D}, DRs K s H v d → DRs K s H w e → DRs K s H (v ++ w) (d ++ e)
  | _, _, _, _, .nil, h => h
  | _, _, _, _, .cons x r, h => .cons x (DRs.append r h)
theorem DRs.snoc {vs : List V} {v : V} {ds : List D} {d : D} (h : DRs K s H vs ds) (x : DR K s H v d) : DRs K s H (vs ++ [v]) (ds ++ [d]) := h.append (.cons x .nil)
theorem DRs.get : ∀ {vs : List V} {ds : List D}, DRs K s H vs ds → ∀ {i : Nat} {v : V}, vs[i]? = some v → ∃ d, ds[i]? = some d ∧ DR K s H v d
  | _, _, .nil, i, v, h => by simp at h
  | _, _, .cons x r, 0, v, h => by
    cases h
    exact ⟨_, rfl, x⟩
  | _, _, .cons x r, i + 1, v, h => DRs.get r (i := i) h
theorem DRs.get' : ∀ {vs : List V} {ds : List D}, DRs K s H vs ds → ∀ {i : Nat} {d : D}, ds[i]? = some d → ∃ v, vs[i]? = some v ∧ DR K s H v d
  | _, _, .nil, i, v, h => by simp at h
  | _, _, .cons x r, 0, v, h => by
    cases h
    exact ⟨_, rfl, x⟩
  | _, _, .cons x r, i + 1, v, h => DRs.get' r (i := i) h
theorem DRs.drop : ∀ (n : Nat) {vs : List V} {ds : List D}, DRs K s H vs ds → DRs K s H (vs.drop n) (ds.drop n)
  | 0, _, _, h => h
  | n + 1, _, _, .nil => .nil
  | n + 1, _, _, .cons _ r => DRs.drop n r
theorem DRs.take : ∀ (n : Nat) {vs : List V} {ds : List D}, DRs K s H vs ds → DRs K s H (vs.take n) (ds.take n)
  | 0, _, _, h => .nil
  | n + 1, _, _, .nil => .nil
  | n + 1, _, _, .cons x r => .cons x (DRs.take n r)
end
/-! ### data that == and repr know -/
mutual
def toPy : D → Option PyData
  | .non => some .none
  | .bl b => some (.bool b)
  | .int i => some (.int i)
  | .str z => some (.str z)
  | .tup ds => (toPys ds).map .tuple
  | .lst ds => (toPys ds).map .list
  | _ => none
def toPys : List D → Option (List PyData)
  | [] => some []
  | d :: ds => match toPy d, toPys ds with
    | some p, some ps => some (p :: ps)
    | _, _ => none
end
section
variable {K : PySem.W.Frag} {s : Addr} {H : Hp}
mutual
theorem DR.dp : ∀ {v : V} {d : D} {p : PyData}, DR K s H v d → toPy d = some p → Dp K H v p
  | _, _, p, .non, h => by unfold toPy at h; cases h; exact .non
  | _, _, p, .bl b, h => by unfold toPy at h; cases h; exact .bl b
  | _, _, p, .int i, h => by unfold toPy at h; cases h; exact .int i
  | _, _, p, .str z, h => by unfold toPy at h; cases h; exact .str z
  | _, _, p, .tup hs r, h => by
    unfold toPy at h
    obtain ⟨ps, h1, rfl⟩ := Option.map_eq_some_iff.mp h
    exact .tup (.inl (.inl hs)) (DRs.dp r h1)
  | _, _, p, .lst hs r, h => by
    unfold toPy at h
    obtain ⟨ps, h1, rfl⟩ := Option.map_eq_some_iff.mp h
    exact .lst (.inl (.inr ⟨_, hs⟩)) (DRs.dp r h1)
  | _, _, p, .dic hs r, h => by unfold toPy at h; cases h
  | _, _, p, .dit hs r, h => by unfold toPy at h; cases h
  | _, _, p, .ins hs r, h => by unfold toPy at h; cases h
  | _, _, p, .src, h => by unfold toPy at h; cases h
theorem DRs.dp : ∀ {v : List V} {d : List D} {p : List PyData}, DRs K s H v d → toPys d = some p → DpAll K H v p
  | _, _, p, .nil, h => by unfold toPys at h; cases h; exact .nil
  | _, _, p, .cons (d := d) (ds := ds) x r, h => by
    unfold toPys at h
    cases h1 : toPy d with
    | none => rw [h1] at h; cases h
    | some q =>
      cases h2 : toPys ds with
      | none => rw [h1, h2] at h; cases h
      | some qs =>
        rw [h1, h2] at h
        cases h
        exact .cons (DR.dp x h1) (DRs.dp r h2)
end
end
end My


/-! Q1: readings over plain values; what they say is what the readings over the heap ask (expressions). -/
namespace My
open PySem PySem.Spec PyProof.Rows L2
/-- a slot's value: data, or a list or dict of this def that may still change -/
inductive Cell where
  | dat (d : D) | lm (ds : List D) | dm (kvs : List (Key × D)) | tm (kvs : List (List Key × D)) | om (x C : Addr) (fs : List (Str × D)) | un
abbrev Sd := List (Option Cell)
abbrev cI (i : Int) : Cell := .dat (.int i)
abbrev cS (z : Str) : Cell := .dat (.str z)
abbrev cB (b : Bool) : Cell := .dat (.bl b)
abbrev cN : Cell := .dat .non
theorem Kp.via {s l : Addr} {H H1 H2 : Hp} (h : Kp s H H1) (hl : H l = none) (k : Kp l H1 H2) : Kp s H H2 := fun b o nb hb => k b o (fun e => by subst e; rw [hl] at hb; cases hb) (h b o nb hb)
theorem Kp.none {s l : Addr} {H H1 : Hp} (h : Kp s H H1) (n : l ≠ s) (hl : H1 l = none) : H l = none := by
  cases e : H l with
  | none => rfl
  | some o => rw [h _ _ n e] at hl; cases hl
def CellR (K : PySem.W.Frag) (s c : Addr) (H : Hp) (v : V) : Cell → Prop
  | .dat d => DR K s H v d
  | .lm ds => ∃ a vs, v = .ref a ∧ H a = some (.lst vs) ∧ DRs K s H vs ds ∧ a ≠ s ∧ a ≠ c
  | .dm kds => ∃ a kvs, v = .ref a ∧ H a = some (.dK kvs) ∧ DRk K s H kvs kds ∧ a ≠ s ∧ a ≠ c
  | .tm kds => ∃ a kvs, v = .ref a ∧ H a = some (.dT kvs) ∧ DRt K s H kvs kds ∧ a ≠ s ∧ a ≠ c
  | .om x C fds => ∃ dx fs, v = .ref x ∧ H x = some (.ins C dx fs) ∧ DRf K s H fs fds ∧ x ≠ s ∧ x ≠ c
  | .un => True
def SlotR (K : PySem.W.Frag) (s c : Addr) (H : Hp) : Option V → Option Cell → Prop
  | none, none => True
  | some v, some x => CellR K s c H v x
  | _, _ => False
def looseC : Option Cell → Bool
  | some (.lm _) => true
  | some (.dm _) => true
  | some (.tm _) => true
  | some (.om _ _ _) => true
  | _ => false
/-- an expression has run: all but the source is as it was -/
structure Stp (s c : Addr) (H H' : Hp) : Prop where
  kp : Kp s H H'
  src : Src H' s c
theorem Src.loose {H : Hp} {s c : Addr} (S : Src H s c) : Loose H s := let ⟨xs, h⟩ := S.at; ⟨_, h, rfl⟩
theorem Stp.refl {s c : Addr} {H : Hp} (S : Src H s c) : Stp s c H H := ⟨Kp.refl _ _, S⟩
theorem Stp.trans {s c : Addr} {H H1 H2 : Hp} (a : Stp s c H H1) (b : Stp s c H1 H2) : Stp s c H H2 := ⟨a.kp.trans b.kp, b.src⟩
theorem Stp.same {s c : Addr} {H H' : Hp} (S : Src H s c) (e : Same H H') : Stp s c H H' := ⟨kp_same e, S.same e⟩
theorem Stp.im {s c : Addr} {H H' : Hp} (S : Src H s c) (e : Stp s c H H') : Im H H' := e.kp.im S.loose
section
variable {K : PySem.W.Frag} {s c : Addr} {H H' : Hp}
theorem CellR.stp (S : Src H s c) (e : Stp s c H H') {v : V} {x : Cell} (h : CellR K s c H v x) : CellR K s c H' v x := by
  cases x with
  | dat d => exact DR.im (e.im S) h
  | lm ds =>
    obtain ⟨a, vs, rfl, ha, hd, h1, h2⟩ := h
    exact ⟨a, vs, rfl, e.kp _ _ h1 ha, hd.im (e.im S), h1, h2⟩
  | dm ds =>
    obtain ⟨a, vs, rfl, ha, hd, h1, h2⟩ := h
    exact ⟨a, vs, rfl, e.kp _ _ h1 ha, hd.im (e.im S), h1, h2⟩
  | tm ds =>
    obtain ⟨a, vs, rfl, ha, hd, h1, h2⟩ := h
    exact ⟨a, vs, rfl, e.kp _ _ h1 ha, hd.im (e.im S), h1, h2⟩
  | om x C ds =>
    obtain ⟨dx, vs, rfl, ha, hd, h1, h2⟩ := h
    exact ⟨dx, vs, rfl, e.kp _ _ h1 ha, hd.im (e.im S), h1, h2⟩
  | un => trivial
end
/-- the def's slots σ over the heap H stand for σd; H0: the heap at the def's entry -/
structure Rel (K : PySem.W.Frag) (s c : Addr) (H0 : Hp) (σ : L2.St) (H : Hp) (σd : Sd) : Prop where
  src : Src H s c
  kp0 : Kp s H0 H
  len : σ.length = σd.length
  slot : ∀ (i : Nat) (v : Option V), σ[i]? = some v → ∃ x, σd[i]? = some x ∧ SlotR K s c H v x
  new : ∀ (i : Nat) (a : Addr), σ[i]? = some (some (.ref a)) → looseC ((σd[i]?).join) = true → H0 a = none
  apart : ∀ (i j : Nat) (a : Addr), i ≠ j → looseC ((σd[i]?).join) = true → looseC ((σd[j]?).join) = true → σ[i]? = some (some (.ref a)) → σ[j]? = some (some (.ref a)) → False
section
variable {K : PySem.W.Frag} {s c : Addr} {H0 H H' : Hp} {σ : L2.St} {σd : Sd}
theorem SlotR.stp (S : Src H s c) (e : Stp s c H H') {v : Option V} {x : Option Cell} (h : SlotR K s c H v x) : SlotR K s c H' v x := by
  cases v with
  | none => cases x with
    | none => exact h
    | some x => exact h
  | some v => cases x with
    | none => exact h
    | some x => exact CellR.stp S e h
theorem Rel.stp (R : Rel K s c H0 σ H σd) (e : Stp s c H H') : Rel K s c H0 σ H' σd :=
  ⟨e.src, R.kp0.trans e.kp, R.len, fun i v h => let ⟨x, h1, h2⟩ := R.slot i v h; ⟨x, h1, h2.stp R.src e⟩, R.new, R.apart⟩
theorem Rel.at (R : Rel K s c H0 σ H σd) {i : Nat} {x : Cell} (h : σd[i]? = some (some x)) : ∃ v, σ[i]? = some (some v) ∧ CellR K s c H v x := by
  have hi : i < σ.length := by
    rw [R.len]
    exact (List.getElem?_eq_some_iff.mp h).1
  obtain ⟨y, h1, h2⟩ := R.slot i _ (List.getElem?_eq_getElem hi)
  rw [h] at h1
  cases h1
  cases hv : σ[i] with
  | none => rw [hv] at h2; exact h2.elim
  | some v =>
    rw [hv] at h2
    exact ⟨v, by rw [List.getElem?_eq_getElem hi, hv], h2⟩
end
end My


/-! Q2: the rules for expressions. -/
namespace My
open PySem PySem.Spec PyProof.Rows L2
abbrev PEx := Sd → (Cell → Prop) → Prop
abbrev PNx := Sd → (List D → Prop) → Prop
abbrev PTx := Sd → (Bool → Prop) → Prop
abbrev PAx := Sd → (List Cell → Prop) → Prop
inductive CellsR (K : PySem.W.Frag) (s c : Addr) (H : Hp) : List V → List Cell → Prop
  | nil : CellsR K s c H [] []
  | cons {v : V} {vs : List V} {x : Cell} {xs : List Cell} : CellR K s c H v x → CellsR K s c H vs xs → CellsR K s c H (v :: vs) (x :: xs)
def LE (K : PySem.W.Frag) (s c : Addr) (H0 : Hp) (t : TE) (p : PEx) : Prop := ∀ (σ : L2.St) (σd : Sd) (H : Hp) (Q : VK) (P : Cell → Prop), Rel K s c H0 σ H σd → p σd P →
  (∀ x v H', P x → CellR K s c H' v x → Stp s c H H' → Q v H') → t σ H Q
def LA (K : PySem.W.Frag) (s c : Addr) (H0 : Hp) (t : TA) (p : PAx) : Prop := ∀ (σ : L2.St) (σd : Sd) (H : Hp) (Q : List V → Hp → Prop) (P : List Cell → Prop), Rel K s c H0 σ H σd → p σd P →
  (∀ xs vs H', P xs → CellsR K s c H' vs xs → Stp s c H H' → Q vs H') → t σ H Q
def LT (K : PySem.W.Frag) (s c : Addr) (H0 : Hp) (t : TT) (p : PTx) : Prop := ∀ (σ : L2.St) (σd : Sd) (H : Hp) (Q : Bool → Hp → Prop) (P : Bool → Prop), Rel K s c H0 σ H σd → p σd P →
  (∀ b H', P b → Stp s c H H' → Q b H') → t σ H Q
/-- a new list comes -/
def LN (K : PySem.W.Frag) (s c : Addr) (H0 : Hp) (t : TE) (p : PNx) : Prop := ∀ (σ : L2.St) (σd : Sd) (H : Hp) (Q : VK) (P : List D → Prop), Rel K s c H0 σ H σd → p σd P →
  (∀ ds a vs H', P ds → H' a = some (.lst vs) → H a = none → DRs K s H' vs ds → Stp s c H H' → Q (.ref a) H') → t σ H Q
/-! ### values at hand -/
def flatC : Cell → Option V
  | .dat .non => some .non
  | .dat (.bl b) => some (.bl b)
  | .dat (.int i) => some (.int i)
  | .dat (.str z) => some (.str z)
  | _ => none
/-- the items of a list -/
def seqL : Cell → Option (List D)
  | .dat (.lst ds) => some ds
  | .lm ds => some ds
  | _ => none
/-- of a list or a tuple -/
def seqC : Cell → Option (List D)
  | .dat (.lst ds) => some ds
  | .dat (.tup ds) => some ds
  | .lm ds => some ds
  | _ => none
def datC : Cell → Option D
  | .dat d => some d
  | _ => none
def datsC : List Cell → Option (List D)
  | [] => some []
  | x :: xs => match datC x, datsC xs with
    | some d, some ds => some (d :: ds)
    | _, _ => none
def toPyC : Cell → Option PyData
  | .dat d => toPy d
  | .lm ds => (toPys ds).map .list
  | _ => none
section
variable {K : PySem.W.Frag} {s c : Addr} {H H' : Hp}
theorem CellsR.stp (S : Src H s c) (e : Stp s c H H') : ∀ {vs : List V} {xs : List Cell}, CellsR K s c H vs xs → CellsR K s c H' vs xs
  | _, _, .nil => .nil
  | _, _, .cons h r => .cons (h.stp S e) (CellsR.stp S e r)
theorem flat_eq {v w : V} {x : Cell} (h : CellR K s c H v x) (e : flatC x = some w) : v = w := by
  cases x with
  | dat d =>
    cases d <;> first
      | (cases e; cases h; rfl)
      | cases e
  | lm ds => cases e
  | dm ds => cases e
  | tm ds => cases e
  | om x C ds => cases e
  | un => cases e
theorem int_eq {v : V} {i : Int} (h : CellR K s c H v (cI i)) : v = .int i := flat_eq h rfl
theorem str_eq {v : V} {i : Str} (h : CellR K s c H v (cS i)) : v = .str i := flat_eq h rfl
theorem bl_eq {v : V} {i : Bool} (h : CellR K s c H v (cB i)) : v = .bl i := flat_eq h rfl
theorem seqL_at {v : V} {x : Cell} {ds : List D} (h : CellR K s c H v x) (e : seqL x = some ds) : ∃ a vs, v = .ref a ∧ SqL K H a vs ∧ DRs K s H vs ds := by
  cases x with
  | dat d =>
    cases d <;> first
      | (cases e; cases h with | lst h r => exact ⟨_, _, rfl, .inl (.inr ⟨_, h⟩), r⟩)
      | cases e
  | lm ds =>
    cases e
    obtain ⟨a, vs, rfl, ha, hd, _⟩ := h
    exact ⟨a, vs, rfl, .inl (.inl ha), hd⟩
  | dm ds => cases e
  | tm ds => cases e
  | om x C ds => cases e
  | un => cases e
theorem tup_at {v : V} {ds : List D} (h : CellR K s c H v (.dat (.tup ds))) : ∃ a vs, v = .ref a ∧ H a = some (.tup vs) ∧ DRs K s H vs ds := by
  cases h with
  | tup h r => exact ⟨_, _, rfl, h, r⟩
theorem seqC_at {v : V} {x : Cell} {ds : List D} (h : CellR K s c H v x) (e : seqC x = some ds) : ∃ a vs, v = .ref a ∧ (SqL K H a vs ∨ SqT K H a vs) ∧ DRs K s H vs ds := by
  cases x with
  | dat d =>
    cases d <;> first
      | (cases e; cases h with | lst h r => exact ⟨_, _, rfl, .inl (.inl (.inr ⟨_, h⟩)), r⟩)
      | (cases e; cases h with | tup h r => exact ⟨_, _, rfl, .inr (.inl (.inl h)), r⟩)
      | cases e
  | lm ds =>
    cases e
    obtain ⟨a, vs, rfl, ha, hd, _⟩ := h
    exact ⟨a, vs, rfl, .inl (.inl (.inl ha)), hd⟩
  | dm ds => cases e
  | tm ds => cases e
  | om x C ds => cases e
  | un => cases e
theorem datC_at {v : V} {x : Cell} {d : D} (h : CellR K s c H v x) (e : datC x = some d) : DR K s H v d := by
  cases x with
  | dat d => cases e; exact h
  | lm ds => cases e
  | dm ds => cases e
  | tm ds => cases e
  | om x C ds => cases e
  | un => cases e
theorem datsC_at : ∀ {vs : List V} {xs : List Cell} {ds : List D}, CellsR K s c H vs xs → datsC xs = some ds → DRs K s H vs ds
  | _, _, ds, .nil, e => by cases e; exact .nil
  | _, _, ds, .cons (x := x) (xs := xs) h r, e => by
    unfold datsC at e
    cases h1 : datC x with
    | none => rw [h1] at e; cases e
    | some d =>
      cases h2 : datsC xs with
      | none => rw [h1, h2] at e; cases e
      | some ds =>
        rw [h1, h2] at e
        cases e
        exact .cons (datC_at h h1) (datsC_at r h2)
theorem toPyC_at {v : V} {x : Cell} {p : PyData} (h : CellR K s c H v x) (e : toPyC x = some p) : Dp K H v p := by
  cases x with
  | dat d => exact DR.dp h e
  | lm ds =>
    obtain ⟨ps, h1, rfl⟩ := Option.map_eq_some_iff.mp e
    obtain ⟨a, vs, rfl, ha, hd, _⟩ := h
    exact .lst (.inl (.inl ha)) (DRs.dp hd h1)
  | dm ds => cases e
  | tm ds => cases e
  | om x C ds => cases e
  | un => cases e
theorem strs_of : ∀ {vs : List V} {zs : List Str}, DRs K s H vs (zs.map .str) → vs = zs.map V.str
  | _, [], h => by cases h; rfl
  | _, z :: zs, h => by
    cases h with
    | cons x r =>
      cases x
      rw [strs_of r]
      rfl
theorem ints_of : ∀ {vs : List V} {zs : List Int}, DRs K s H vs (zs.map .int) → vs = zs.map V.int
  | _, [], h => by cases h; rfl
  | _, z :: zs, h => by
    cases h with
    | cons x r =>
      cases x
      rw [ints_of r]
      rfl
theorem bls_of : ∀ {vs : List V} {zs : List Bool}, DRs K s H vs (zs.map .bl) → vs = zs.map V.bl
  | _, [], h => by cases h; rfl
  | _, z :: zs, h => by
    cases h with
    | cons x r =>
      cases x
      rw [bls_of r]
      rfl
theorem strs_dr : ∀ (zs : List Str), DRs K s H (zs.map V.str) (zs.map .str)
  | [] => .nil
  | z :: zs => .cons (.str z) (strs_dr zs)
theorem atI_dr {vs : List V} {ds : List D} {i : Int} {d : D} (h : DRs K s H vs ds) (e : atI ds i = some d) : ∃ v, atI vs i = some v ∧ DR K s H v d := by
  unfold atI at e ⊢
  rw [h.len]
  cases hx : ixN ds.length i with
  | none => rw [hx] at e; cases e
  | some j =>
    rw [hx] at e
    exact h.get' (i := j) e
end
/-! ### rules -/
section
variable {K : PySem.W.Frag} {s c : Addr} {H0 : Hp}
def pVar (i : Nat) : PEx := fun σd P => ∃ x, σd[i]? = some (some x) ∧ P x
theorem L_var (i : Nat) : LE K s c H0 (tVar i) (pVar i) := fun σ σd H Q P R h k => by
  obtain ⟨x, h1, h2⟩ := h
  obtain ⟨v, h3, h4⟩ := R.at h1
  exact ⟨v, h3, k x v H h2 h4 (.refl R.src)⟩
def pC (x : Cell) : PEx := fun _ P => P x
theorem L_int (i : Int) : LE K s c H0 (tC (.int i)) (pC (cI i)) := fun σ σd H Q P R h k => k _ _ H h (.int i) (.refl R.src)
theorem L_str (i : Str) : LE K s c H0 (tC (.str i)) (pC (cS i)) := fun σ σd H Q P R h k => k _ _ H h (.str i) (.refl R.src)
theorem L_bl (i : Bool) : LE K s c H0 (tC (.bl i)) (pC (cB i)) := fun σ σd H Q P R h k => k _ _ H h (.bl i) (.refl R.src)
theorem L_non : LE K s c H0 (tC .non) (pC cN) := fun σ σd H Q P R h k => k _ _ H h .non (.refl R.src)
abbrev P2 := Cell → Cell → (Cell → Prop) → Prop
def LOp (K : PySem.W.Frag) (r : R2) (f : P2) : Prop := ∀ (s c : Addr) (v w : V) (x y : Cell) (H : Hp) (Q : VK) (P : Cell → Prop), CellR K s c H v x → CellR K s c H w y → Src H s c → f x y P →
  (∀ z u H', P z → CellR K s c H' u z → Stp s c H H' → Q u H') → r v w H Q
def pOp (f : P2) (a b : PEx) : PEx := fun σd P => a σd fun x => b σd fun y => f x y P
theorem L_op {r : R2} {f : P2} {ta tb : TE} {a b : PEx} (ho : LOp K r f) (ha : LE K s c H0 ta a) (hb : LE K s c H0 tb b) : LE K s c H0 (tOp r ta tb) (pOp f a b) := fun σ σd H Q P R h k => by
  refine ha σ σd H _ _ R h fun x v H1 h1 r1 s1 => ?_
  refine hb σ σd H1 _ _ (R.stp s1) h1 fun y w H2 h2 r2 s2 => ?_
  exact ho s c v w x y H2 Q P (r1.stp s1.src s2) r2 s2.src h2 fun z u H3 h3 r3 s3 => k z u H3 h3 r3 ((s1.trans s2).trans s3)
def LUn (K : PySem.W.Frag) (r : V → Hp → VK → Prop) (f : Cell → (Cell → Prop) → Prop) : Prop := ∀ (s c : Addr) (v : V) (x : Cell) (H : Hp) (Q : VK) (P : Cell → Prop), CellR K s c H v x → Src H s c → f x P →
  (∀ z u H', P z → CellR K s c H' u z → Stp s c H H' → Q u H') → r v H Q
def pUn (f : Cell → (Cell → Prop) → Prop) (a : PEx) : PEx := fun σd P => a σd fun x => f x P
theorem L_un {r : V → Hp → VK → Prop} {f : Cell → (Cell → Prop) → Prop} {ta : TE} {a : PEx} (ho : LUn K r f) (ha : LE K s c H0 ta a) : LE K s c H0 (tUn r ta) (pUn f a) := fun σ σd H Q P R h k => by
  refine ha σ σd H _ _ R h fun x v H1 h1 r1 s1 => ?_
  exact ho s c v x H1 Q P r1 s1.src h1 fun z u H3 h3 r3 s3 => k z u H3 h3 r3 (s1.trans s3)
def fNeg : Cell → (Cell → Prop) → Prop := fun x P => ∃ i, x = cI i ∧ P (cI (-i))
theorem U_neg : LUn K (rU fun i => .int (-i)) fNeg := fun s c v x H Q P hx S h k => by
  obtain ⟨i, rfl, h⟩ := h
  exact ⟨i, int_eq hx, k _ _ H h (.int _) (.refl S)⟩
def fI (g : Int → Int → Int) : P2 := fun x y P => ∃ i j, x = cI i ∧ y = cI j ∧ P (cI (g i j))
def fIB (g : Int → Int → Bool) : P2 := fun x y P => ∃ i j, x = cI i ∧ y = cI j ∧ P (cB (g i j))
def fIC (C : Int → Int → Prop) (g : Int → Int → Int) : P2 := fun x y P => ∃ i j, x = cI i ∧ y = cI j ∧ C i j ∧ P (cI (g i j))
theorem O_I (g : Int → Int → Int) : LOp K (rI0 fun i j => .int (g i j)) (fI g) := fun s c v w x y H Q P hx hy S h k => by
  obtain ⟨i, j, rfl, rfl, h⟩ := h
  exact ⟨i, j, int_eq hx, int_eq hy, k _ _ H h (.int _) (.refl S)⟩
theorem O_IB (g : Int → Int → Bool) : LOp K (rI0 fun i j => .bl (g i j)) (fIB g) := fun s c v w x y H Q P hx hy S h k => by
  obtain ⟨i, j, rfl, rfl, h⟩ := h
  exact ⟨i, j, int_eq hx, int_eq hy, k _ _ H h (.bl _) (.refl S)⟩
theorem O_IC (C : Int → Int → Prop) (g : Int → Int → Int) : LOp K (rI C fun i j => .int (g i j)) (fIC C g) := fun s c v w x y H Q P hx hy S h k => by
  obtain ⟨i, j, rfl, rfl, hc, h⟩ := h
  exact ⟨i, j, int_eq hx, int_eq hy, hc, k _ _ H h (.int _) (.refl S)⟩
def fCatS : P2 := fun x y P => ∃ i j, x = cS i ∧ y = cS j ∧ i.length + j.length ≤ 1000000 ∧ P (cS (i ++ j))
theorem O_catS : LOp K rCatS fCatS := fun s c v w x y H Q P hx hy S h k => by
  obtain ⟨i, j, rfl, rfl, hc, h⟩ := h
  exact ⟨i, j, str_eq hx, str_eq hy, Nat.le_trans hc (by decide), k _ _ H h (.str _) (.refl S)⟩
def fSB (g : Str → Str → Bool) : P2 := fun x y P => ∃ i j, x = cS i ∧ y = cS j ∧ P (cB (g i j))
theorem O_ltS : LOp K rLtS (fSB fun i j => decide (i.cps.toList < j.cps.toList)) := fun s c v w x y H Q P hx hy S h k => by
  obtain ⟨i, j, rfl, rfl, h⟩ := h
  exact ⟨i, j, str_eq hx, str_eq hy, k _ _ H h (.bl _) (.refl S)⟩
theorem O_leS : LOp K rLeS (fSB fun i j => !decide (j.cps.toList < i.cps.toList)) := fun s c v w x y H Q P hx hy S h k => by
  obtain ⟨i, j, rfl, rfl, h⟩ := h
  exact ⟨i, j, str_eq hx, str_eq hy, k _ _ H h (.bl _) (.refl S)⟩
def fInSign (g : Bool → Bool) : P2 := fun x y P => ∃ (c : Nat) (z : Str), x = cS ⟨#[c]⟩ ∧ y = cS z ∧ P (cB (g (decide (c ∈ z.cps.toList))))
theorem O_inSign : LOp K rInSign (fInSign id) := fun s c v w x y H Q P hx hy S h k => by
  obtain ⟨i, j, rfl, rfl, h⟩ := h
  exact ⟨i, j, str_eq hx, str_eq hy, k _ _ H h (.bl _) (.refl S)⟩
theorem O_notInSign : LOp K rNotInSign (fInSign not) := fun s c v w x y H Q P hx hy S h k => by
  obtain ⟨i, j, rfl, rfl, h⟩ := h
  exact ⟨i, j, str_eq hx, str_eq hy, k _ _ H h (.bl _) (.refl S)⟩
/-- is None: data is None or is not -/
def nonC : Cell → Option Bool
  | .dat .non => some true
  | .un => none
  | _ => some false
theorem non_iff {s c : Addr} {H : Hp} {v : V} {x : Cell} {b : Bool} (h : CellR K s c H v x) (e : nonC x = some b) : decide (v = .non) = b := by
  cases x with
  | dat d => cases h <;> (cases e; rfl)
  | lm ds => obtain ⟨a, vs, rfl, _⟩ := h; cases e; rfl
  | dm ds => obtain ⟨a, vs, rfl, _⟩ := h; cases e; rfl
  | tm ds => obtain ⟨a, vs, rfl, _⟩ := h; cases e; rfl
  | om x C ds => obtain ⟨dx, vs, rfl, _⟩ := h; cases e; rfl
  | un => cases e
def fIsN (g : Bool → Bool) : P2 := fun x y P => ∃ b, nonC x = some b ∧ y = cN ∧ P (cB (g b))
theorem O_isN : LOp K rIsN (fIsN id) := fun s c v w x y H Q P hx hy S h k => by
  obtain ⟨b, e, rfl, h⟩ := h
  refine ⟨flat_eq hy rfl, ?_⟩
  rw [non_iff hx e]
  exact k _ _ H h (.bl _) (.refl S)
theorem O_notN : LOp K rNotN (fIsN not) := fun s c v w x y H Q P hx hy S h k => by
  obtain ⟨b, e, rfl, h⟩ := h
  refine ⟨flat_eq hy rfl, ?_⟩
  rw [non_iff hx e]
  exact k _ _ H h (.bl _) (.refl S)
def fIxL : P2 := fun x y P => ∃ ds i d, seqL x = some ds ∧ y = cI i ∧ atI ds i = some d ∧ P (.dat d)
theorem O_ixL : LOp K (rIxL K) fIxL := fun s c v w x y H Q P hx hy S h k => by
  obtain ⟨ds, i, d, e, rfl, ea, h⟩ := h
  obtain ⟨a, vs, rfl, ha, hd⟩ := seqL_at hx e
  obtain ⟨u, hu, hr⟩ := atI_dr hd ea
  exact ⟨a, vs, i, u, rfl, int_eq hy, ha, hu, k _ _ H h hr (.refl S)⟩
def fIxT : P2 := fun x y P => ∃ ds i d, x = .dat (.tup ds) ∧ y = cI i ∧ atI ds i = some d ∧ P (.dat d)
theorem O_ixT : LOp K (rIxT K) fIxT := fun s c v w x y H Q P hx hy S h k => by
  obtain ⟨ds, i, d, rfl, rfl, ea, h⟩ := h
  obtain ⟨a, vs, rfl, ha, hd⟩ := tup_at hx
  obtain ⟨u, hu, hr⟩ := atI_dr hd ea
  exact ⟨a, vs, i, u, rfl, int_eq hy, .inl (.inl ha), hu, k _ _ H h hr (.refl S)⟩
def fIxS : P2 := fun x y P => ∃ z i e, x = cS z ∧ y = cI i ∧ z.length ≤ 1000000 ∧ atI z.cps.toList i = some e ∧ P (cS ⟨#[e]⟩)
theorem O_ixS : LOp K rIxS fIxS := fun s c v w x y H Q P hx hy S h k => by
  obtain ⟨z, i, e, rfl, rfl, hl, ea, h⟩ := h
  exact ⟨z, i, e, str_eq hx, int_eq hy, Nat.le_trans hl (by decide), ea, k _ _ H h (.str _) (.refl S)⟩
/-- x in list or tuple of texts -/
def fInS (g : Bool → Bool) : P2 := fun x y P => ∃ (z : Str) (zs : List Str), x = cS z ∧ seqC y = some (zs.map .str) ∧ P (cB (g (decide (z ∈ zs))))
theorem O_inS : LOp K (rIn K false) (fInS id) := fun s c v w x y H Q P hx hy S h k => by
  obtain ⟨z, zs, rfl, e, h⟩ := h
  obtain ⟨a, vs, rfl, ha, hd⟩ := seqC_at hy e
  rw [str_eq hx]
  cases strs_of hd
  refine ⟨a, _, rfl, ha, rfl, flat_strs _, ?_⟩
  rw [inV_strs]
  exact k _ _ H h (.bl _) (.refl S)
theorem O_notInS : LOp K (rIn K true) (fInS not) := fun s c v w x y H Q P hx hy S h k => by
  obtain ⟨z, zs, rfl, e, h⟩ := h
  obtain ⟨a, vs, rfl, ha, hd⟩ := seqC_at hy e
  rw [str_eq hx]
  cases strs_of hd
  refine ⟨a, _, rfl, ha, rfl, flat_strs _, ?_⟩
  rw [inV_strs]
  exact k _ _ H h (.bl _) (.refl S)
/-- == of data -/
def fEqD (g : Bool → Bool) : P2 := fun x y P => ∃ p q, toPyC x = some p ∧ toPyC y = some q ∧ SeqAt.shaped p = true ∧ SeqAt.shaped q = true ∧ P (cB (g (PyData.eqv p q)))
theorem O_eqD : LOp K (rEqD K) (fEqD id) := fun s c v w x y H Q P hx hy S h k => by
  obtain ⟨p, q, e1, e2, h1, h2, h⟩ := h
  exact ⟨p, q, toPyC_at hx e1, toPyC_at hy e2, h1, h2, k _ _ H h (.bl _) (.refl S)⟩
theorem O_neD : LOp K (rNeD K) (fEqD not) := fun s c v w x y H Q P hx hy S h k => by
  obtain ⟨p, q, e1, e2, h1, h2, h⟩ := h
  exact ⟨p, q, toPyC_at hx e1, toPyC_at hy e2, h1, h2, k _ _ H h (.bl _) (.refl S)⟩
/-- == of flat values -/
def fEq (g : Bool → Bool) : P2 := fun x y P => ∃ v w, flatC x = some v ∧ flatC y = some w ∧ scal v w = true ∧ P (cB (g (decide (v = w))))
theorem O_eq : LOp K rEq (fEq id) := fun s c v w x y H Q P hx hy S h k => by
  obtain ⟨a, b, e1, e2, e3, h⟩ := h
  rw [flat_eq hx e1, flat_eq hy e2]
  exact ⟨e3, k _ _ H h (.bl _) (.refl S)⟩
theorem O_ne : LOp K rNe (fEq not) := fun s c v w x y H Q P hx hy S h k => by
  obtain ⟨a, b, e1, e2, e3, h⟩ := h
  rw [flat_eq hx e1, flat_eq hy e2]
  exact ⟨e3, k _ _ H h (.bl _) (.refl S)⟩
/-! ### arguments, tuples, lists -/
def pNil : PAx := fun _ P => P []
def pCons (a : PEx) (b : PAx) : PAx := fun σd P => a σd fun x => b σd fun xs => P (x :: xs)
theorem L_nil : LA K s c H0 tNil pNil := fun σ σd H Q P R h k => k [] [] H h .nil (.refl R.src)
theorem L_cons {ta : TE} {tr : TA} {a : PEx} {b : PAx} (ha : LE K s c H0 ta a) (hb : LA K s c H0 tr b) : LA K s c H0 (tCons ta tr) (pCons a b) := fun σ σd H Q P R h k => by
  refine ha σ σd H _ _ R h fun x v H1 h1 r1 s1 => ?_
  refine hb σ σd H1 _ _ (R.stp s1) h1 fun xs vs H2 h2 r2 s2 => ?_
  exact k _ _ H2 h2 (.cons (r1.stp s1.src s2) r2) (s1.trans s2)
theorem stp_new {s c p : Addr} {H : Hp} {o : HO} (S : Src H s c) (h : H p = none) : Stp s c H (upd H p o) := .same S (same_new h)
def pTup (a : PAx) : PEx := fun σd P => a σd fun xs => ∃ ds, datsC xs = some ds ∧ ds.length ≤ 100000 ∧ P (.dat (.tup ds))
theorem L_tup {ta : TA} {a : PAx} (ha : LA K s c H0 ta a) : LE K s c H0 (tTup ta) (pTup a) := fun σ σd H Q P R h k => by
  refine ha σ σd H _ _ R h fun xs vs H1 h1 r1 s1 => ?_
  obtain ⟨ds, e, hl, h⟩ := h1
  have hd := datsC_at r1 e
  refine ⟨by rw [hd.len]; exact Nat.le_trans hl (by decide), fun p hp => ?_⟩
  have e2 := stp_new (o := .tup vs) s1.src hp
  exact k _ _ _ h (.tup upd_same (hd.im (e2.im s1.src))) (s1.trans e2)
def pLst (a : PAx) : PNx := fun σd P => a σd fun xs => ∃ ds, datsC xs = some ds ∧ ds.length ≤ 100000 ∧ P ds
theorem L_lst {ta : TA} {a : PAx} (ha : LA K s c H0 ta a) : LN K s c H0 (tLst ta) (pLst a) := fun σ σd H Q P R h k => by
  refine ha σ σd H _ _ R h fun xs vs H1 h1 r1 s1 => ?_
  obtain ⟨ds, e, hl, h⟩ := h1
  have hd := datsC_at r1 e
  refine ⟨by rw [hd.len]; exact Nat.le_trans hl (by decide), fun p hp => ?_⟩
  have e2 := stp_new (o := .lst vs) s1.src hp
  exact k _ _ _ _ h upd_same (Kp.none s1.kp (s1.src.ne hp).1 hp) (hd.im (e2.im s1.src)) (s1.trans e2)
/-- a new list as a value at hand -/
def pNewL (p : PNx) : PEx := fun σd P => p σd fun ds => P (.lm ds)
theorem LN.le {t : TE} {p : PNx} (h : LN K s c H0 t p) : LE K s c H0 t (pNewL p) := fun σ σd H Q P R hp k =>
  h σ σd H Q _ R hp fun ds a vs H1 h1 ha hn hd st => k _ _ H1 h1 ⟨a, vs, rfl, ha, hd, (R.src.ne hn).1, (R.src.ne hn).2⟩ st
/-- .. locked for good -/
def tFrz (t : TE) : TE := fun σ H Q => t σ H fun v H1 => ∃ (a : Addr) (u : HO), v = .ref a ∧ H1 a = some u ∧ Mut (some u) ∧ ∀ o, Q v (upd H1 a (.frz o u))
theorem pe_frz {X : Cx} {e : Expr} {t : TE} (h : PE X e t) : PE X e (tFrz t) := by
  refine ⟨fun pins s σ H Q I hq => ?_⟩
  refine thn (h.run pins s σ H _ I hq) fun v s1 ⟨x, H1, I1, r1, a, u, ex, ea, mu, q⟩ => ?_
  obtain ⟨od, I2⟩ := I1.lock ea mu
  exact ⟨x, _, I2, r1, q od⟩
def pFrz (p : PNx) : PEx := fun σd P => p σd fun ds => P (.dat (.lst ds))
theorem LN.frz {t : TE} {p : PNx} (h : LN K s c H0 t p) : LE K s c H0 (tFrz t) (pFrz p) := fun σ σd H Q P R hp k => by
  refine h σ σd H _ _ R hp fun ds a vs H1 h1 ha hn hd st => ⟨a, _, rfl, ha, trivial, fun o => ?_⟩
  have nn := R.src.ne hn
  have kl : Kp a H1 (upd H1 a (.frz o (.lst vs))) := Kp.self
  have im : Im H1 (upd H1 a (.frz o (.lst vs))) := kl.im ⟨_, ha, rfl⟩
  refine k _ _ _ h1 (.lst upd_same (hd.im im)) ⟨fun b o' nb hb => ?_, st.src.kp nn.1.symm nn.2.symm kl⟩
  exact kl _ _ (fun z => by subst z; rw [hn] at hb; cases hb) (st.kp _ _ nb hb)
/-! ### slices -/
abbrev POx := Sd → (Option Int → Prop) → Prop
def LO (K : PySem.W.Frag) (s c : Addr) (H0 : Hp) (t : TO) (p : POx) : Prop := ∀ (σ : L2.St) (σd : Sd) (H : Hp) (Q : Option Int → Hp → Prop) (P : Option Int → Prop), Rel K s c H0 σ H σd → p σd P →
  (∀ b H', P b → Stp s c H H' → Q b H') → t σ H Q
def pNoPart : POx := fun _ P => P none
def pPart (a : PEx) : POx := fun σd P => a σd fun x => ∃ i, x = cI i ∧ P (some i)
theorem L_noPart : LO K s c H0 tNoPart pNoPart := fun σ σd H Q P R h k => k _ H h (.refl R.src)
theorem L_part {t : TE} {a : PEx} (ha : LE K s c H0 t a) : LO K s c H0 (tPart t) (pPart a) := fun σ σd H Q P R h k => by
  refine ha σ σd H _ _ R h fun x v H1 h1 r1 s1 => ?_
  obtain ⟨i, rfl, h⟩ := h1
  exact ⟨i, int_eq r1, k _ H1 h s1⟩
def pSlS (a : PEx) (lo hi : POx) : PEx := fun σd P => a σd fun x => lo σd fun l => hi σd fun u => ∃ z, x = cS z ∧ z.length ≤ 1000000 ∧ P (cS (cutS z l u))
theorem L_slS {t : TE} {tl th : TO} {a : PEx} {lo hi : POx} (ha : LE K s c H0 t a) (hl : LO K s c H0 tl lo) (hh : LO K s c H0 th hi) : LE K s c H0 (tSl rSlS t tl th) (pSlS a lo hi) := fun σ σd H Q P R h k => by
  refine ha σ σd H _ _ R h fun x v H1 h1 r1 s1 => ?_
  refine hl σ σd H1 _ _ (R.stp s1) h1 fun l H2 h2 s2 => ?_
  refine hh σ σd H2 _ _ ((R.stp s1).stp s2) h2 fun u H3 h3 s3 => ?_
  obtain ⟨z, rfl, hz, h⟩ := h3
  exact ⟨z, str_eq r1, Nat.le_trans hz (by decide), k _ _ H3 h (.str _) ((s1.trans s2).trans s3)⟩
/-- the cut of any list -/
def cutL {α : Type} (xs : List α) (lo hi : Option Int) : List α := (xs.drop (HT.sIx xs.length 0 lo)).take (HT.sIx xs.length xs.length hi - HT.sIx xs.length 0 lo)
theorem cutV_dr {s : Addr} {H : Hp} {vs : List V} {ds : List D} (h : DRs K s H vs ds) (l u : Option Int) : DRs K s H (cutV vs l u) (cutL ds l u) := by
  unfold cutV cutL
  rw [h.len]
  exact (h.drop _).take _
def pSlL (a : PEx) (lo hi : POx) : PNx := fun σd P => a σd fun x => lo σd fun l => hi σd fun u => ∃ ds, seqL x = some ds ∧ P (cutL ds l u)
theorem L_slL {t : TE} {tl th : TO} {a : PEx} {lo hi : POx} (ha : LE K s c H0 t a) (hl : LO K s c H0 tl lo) (hh : LO K s c H0 th hi) : LN K s c H0 (tSl (rSlL K) t tl th) (pSlL a lo hi) := fun σ σd H Q P R h k => by
  refine ha σ σd H _ _ R h fun x v H1 h1 r1 s1 => ?_
  refine hl σ σd H1 _ _ (R.stp s1) h1 fun l H2 h2 s2 => ?_
  refine hh σ σd H2 _ _ ((R.stp s1).stp s2) h2 fun u H3 h3 s3 => ?_
  obtain ⟨ds, e, h⟩ := h3
  have st := (s1.trans s2).trans s3
  obtain ⟨b, vs, rfl, hb, hd⟩ := seqL_at (r1.stp s1.src (s2.trans s3)) e
  refine ⟨b, vs, rfl, hb, fun p hp => ?_⟩
  have e2 := stp_new (o := .lst (cutV vs l u)) st.src hp
  exact k _ _ _ _ h upd_same (Kp.none st.kp (st.src.ne hp).1 hp) ((cutV_dr hd l u).im (e2.im st.src)) (st.trans e2)
/-- t[lo:hi] of a tuple -/
def pSlA (a : PEx) (lo hi : POx) : PEx := fun σd P => a σd fun x => lo σd fun l => hi σd fun u => ∃ ds, x = .dat (.tup ds) ∧ P (.dat (.tup (cutL ds l u)))
theorem cutL_all {α : Type} (xs : List α) (lo hi : Option Int) (h : HT.sIx xs.length 0 lo = 0 ∧ HT.sIx xs.length xs.length hi = xs.length) : cutL xs lo hi = xs := by
  unfold cutL
  rw [h.1, h.2]
  simp
theorem L_slA {t : TE} {tl th : TO} {a : PEx} {lo hi : POx} (ha : LE K s c H0 t a) (hl : LO K s c H0 tl lo) (hh : LO K s c H0 th hi) : LE K s c H0 (tSl (rSlA K) t tl th) (pSlA a lo hi) := fun σ σd H Q P R h k => by
  refine ha σ σd H _ _ R h fun x v H1 h1 r1 s1 => ?_
  refine hl σ σd H1 _ _ (R.stp s1) h1 fun l H2 h2 s2 => ?_
  refine hh σ σd H2 _ _ ((R.stp s1).stp s2) h2 fun u H3 h3 s3 => ?_
  obtain ⟨ds, rfl, h⟩ := h3
  have st := (s1.trans s2).trans s3
  obtain ⟨b, vs, rfl, hb, hd⟩ := tup_at (r1.stp s1.src (s2.trans s3))
  refine ⟨b, vs, rfl, .inl (.inl hb), fun hw => ?_, fun hw p hp => ?_⟩
  · rw [cutL_all ds l u (by rw [← hd.len]; exact hw)] at h
    exact k _ _ H3 h (.tup hb hd) st
  · have e2 := stp_new (o := .tup (cutV vs l u)) st.src hp
    exact k _ _ _ h (.tup upd_same ((cutV_dr hd l u).im (e2.im st.src))) (st.trans e2)
end
end My


/-! Q3: truth, calls of built-ins, calls of own defs. -/
namespace My
open PySem PySem.Spec PyProof.Rows L2
section
variable {K : PySem.W.Frag} {s c : Addr} {H0 : Hp}
/-! ### tests -/
def pTest (a : PEx) : PTx := fun σd P => a σd fun x => ∃ b, x = cB b ∧ P b
theorem L_test {t : TE} {a : PEx} (ha : LE K s c H0 t a) : LT K s c H0 (tTest t) (pTest a) := fun σ σd H Q P R h k => by
  refine ha σ σd H _ _ R h fun x v H1 h1 r1 s1 => ?_
  obtain ⟨b, rfl, h⟩ := h1
  exact ⟨b, bl_eq r1, k _ H1 h s1⟩
theorem L_b {t : TE} {a : PEx} (ha : LE K s c H0 t a) : LT K s c H0 (tB t) (pTest a) := fun σ σd H Q P R h k => by
  refine ha σ σd H _ _ R h fun x v H1 h1 r1 s1 => ?_
  obtain ⟨b, rfl, h⟩ := h1
  exact ⟨b, bl_eq r1, k _ H1 h s1⟩
def pAnd (a b : PTx) : PTx := fun σd P => a σd fun x => if x = true then b σd P else P false
def pOr (a b : PTx) : PTx := fun σd P => a σd fun x => if x = true then P true else b σd P
def pNot (a : PTx) : PTx := fun σd P => a σd fun x => P (!x)
theorem L_and {t u : TT} {a b : PTx} (ha : LT K s c H0 t a) (hb : LT K s c H0 u b) : LT K s c H0 (tAnd t u) (pAnd a b) := fun σ σd H Q P R h k => by
  refine ha σ σd H _ _ R h fun x H1 h1 s1 => ?_
  cases x with
  | true => exact hb σ σd H1 _ _ (R.stp s1) h1 fun y H2 h2 s2 => k y H2 h2 (s1.trans s2)
  | false => exact k _ H1 h1 s1
theorem L_or {t u : TT} {a b : PTx} (ha : LT K s c H0 t a) (hb : LT K s c H0 u b) : LT K s c H0 (tOr t u) (pOr a b) := fun σ σd H Q P R h k => by
  refine ha σ σd H _ _ R h fun x H1 h1 s1 => ?_
  cases x with
  | true => exact k _ H1 h1 s1
  | false => exact hb σ σd H1 _ _ (R.stp s1) h1 fun y H2 h2 s2 => k y H2 h2 (s1.trans s2)
theorem L_not {t : TT} {a : PTx} (ha : LT K s c H0 t a) : LT K s c H0 (tNot t) (pNot a) := fun σ σd H Q P R h k =>
  ha σ σd H _ _ R h fun x H1 h1 s1 => k _ H1 h1 s1
def pYes : PTx := fun _ P => P true
theorem L_yes : LT K s c H0 tYes pYes := fun σ σd H Q P R h k => k _ H h (.refl R.src)
def pIf (t : PTx) (a b : PEx) : PEx := fun σd P => t σd fun x => if x = true then a σd P else b σd P
theorem L_if {t : TT} {ta tb : TE} {p : PTx} {a b : PEx} (ht : LT K s c H0 t p) (ha : LE K s c H0 ta a) (hb : LE K s c H0 tb b) : LE K s c H0 (tIf t ta tb) (pIf p a b) := fun σ σd H Q P R h k => by
  refine ht σ σd H _ _ R h fun x H1 h1 s1 => ?_
  cases x with
  | true => exact ha σ σd H1 _ _ (R.stp s1) h1 fun y v H2 h2 r2 s2 => k y v H2 h2 r2 (s1.trans s2)
  | false => exact hb σ σd H1 _ _ (R.stp s1) h1 fun y v H2 h2 r2 s2 => k y v H2 h2 r2 (s1.trans s2)
def pAndV (a b : PEx) : PEx := fun σd P => a σd fun x => ∃ c, x = cB c ∧ if c = true then b σd P else P (cB false)
def pOrV (a b : PEx) : PEx := fun σd P => a σd fun x => ∃ c, x = cB c ∧ if c = true then P (cB true) else b σd P
def pNotV (a : PEx) : PEx := fun σd P => a σd fun x => ∃ c, x = cB c ∧ P (cB (!c))
theorem L_andV {ta tb : TE} {a b : PEx} (ha : LE K s c H0 ta a) (hb : LE K s c H0 tb b) : LE K s c H0 (tAndV ta tb) (pAndV a b) := fun σ σd H Q P R h k => by
  refine ha σ σd H _ _ R h fun x v H1 h1 r1 s1 => ?_
  obtain ⟨q, rfl, h⟩ := h1
  refine ⟨q, bl_eq r1, ?_⟩
  cases q with
  | true => exact hb σ σd H1 _ _ (R.stp s1) h fun y v H2 h2 r2 s2 => k y v H2 h2 r2 (s1.trans s2)
  | false => exact k _ _ H1 h (.bl _) s1
theorem L_orV {ta tb : TE} {a b : PEx} (ha : LE K s c H0 ta a) (hb : LE K s c H0 tb b) : LE K s c H0 (tOrV ta tb) (pOrV a b) := fun σ σd H Q P R h k => by
  refine ha σ σd H _ _ R h fun x v H1 h1 r1 s1 => ?_
  obtain ⟨q, rfl, h⟩ := h1
  refine ⟨q, bl_eq r1, ?_⟩
  cases q with
  | true => exact k _ _ H1 h (.bl _) s1
  | false => exact hb σ σd H1 _ _ (R.stp s1) h fun y v H2 h2 r2 s2 => k y v H2 h2 r2 (s1.trans s2)
theorem L_notV {ta : TE} {a : PEx} (ha : LE K s c H0 ta a) : LE K s c H0 (tNotV ta) (pNotV a) := fun σ σd H Q P R h k => by
  refine ha σ σd H _ _ R h fun x v H1 h1 r1 s1 => ?_
  obtain ⟨q, rfl, h⟩ := h1
  exact ⟨q, bl_eq r1, k _ _ H1 h (.bl _) s1⟩
def pChain (f g : P2) (a b c : PEx) : PEx := fun σd P => a σd fun x => b σd fun y => f x y fun z => ∃ k, z = cB k ∧ if k = true then c σd fun w => g y w P else P (cB false)
theorem L_chain {r r' : R2} {f g : P2} {ta tb tc : TE} {a b d : PEx} (ho : LOp K r f) (ho' : LOp K r' g) (ha : LE K s c H0 ta a) (hb : LE K s c H0 tb b) (hc : LE K s c H0 tc d) : LE K s c H0 (tChain r r' ta tb tc) (pChain f g a b d) := fun σ σd H Q P R h k => by
  refine ha σ σd H _ _ R h fun x v H1 h1 r1 s1 => ?_
  refine hb σ σd H1 _ _ (R.stp s1) h1 fun y w H2 h2 r2 s2 => ?_
  have st := s1.trans s2
  refine ho s c v w x y H2 _ _ (r1.stp s1.src s2) r2 s2.src h2 fun z u H3 h3 r3 s3 => ?_
  obtain ⟨q, rfl, h⟩ := h3
  refine ⟨q, bl_eq r3, ?_⟩
  cases q with
  | false => exact k _ _ H3 h (.bl _) (st.trans s3)
  | true =>
    refine hc σ σd H3 _ _ ((R.stp st).stp s3) h fun z2 u2 H4 h4 r4 s4 => ?_
    exact ho' s c w u2 y z2 H4 Q P ((r2.stp s2.src s3).stp s3.src s4) r4 s4.src h4 fun z5 u5 H5 h5 r5 s5 => k z5 u5 H5 h5 r5 (((st.trans s3).trans s4).trans s5)
/-! ### calls of built-ins -/
def LC (K : PySem.W.Frag) (r : List V → Hp → VK → Prop) (f : List Cell → (Cell → Prop) → Prop) : Prop := ∀ (s c : Addr) (vs : List V) (xs : List Cell) (H : Hp) (Q : VK) (P : Cell → Prop), CellsR K s c H vs xs → Src H s c → f xs P →
  (∀ z u H', P z → CellR K s c H' u z → Stp s c H H' → Q u H') → r vs H Q
def pCB (f : List Cell → (Cell → Prop) → Prop) (a : PAx) : PEx := fun σd P => a σd fun xs => f xs P
theorem L_cb {r : List V → Hp → VK → Prop} {f : List Cell → (Cell → Prop) → Prop} {t : TA} {a : PAx} (hr : LC K r f) (ha : LA K s c H0 t a) : LE K s c H0 (tCB r t) (pCB f a) := fun σ σd H Q P R h k => by
  refine ha σ σd H _ _ R h fun xs vs H1 h1 r1 s1 => ?_
  exact hr s c vs xs H1 Q P r1 s1.src h1 fun z u H2 h2 r2 s2 => k z u H2 h2 r2 (s1.trans s2)
/-- .. that give a new list -/
def LCN (K : PySem.W.Frag) (r : List V → Hp → VK → Prop) (f : List Cell → (List D → Prop) → Prop) : Prop := ∀ (s c : Addr) (vs : List V) (xs : List Cell) (H : Hp) (Q : VK) (P : List D → Prop), CellsR K s c H vs xs → Src H s c → f xs P →
  (∀ ds a us H', P ds → H' a = some (.lst us) → H a = none → DRs K s H' us ds → Stp s c H H' → Q (.ref a) H') → r vs H Q
def pCBN (f : List Cell → (List D → Prop) → Prop) (a : PAx) : PNx := fun σd P => a σd fun xs => f xs P
theorem L_cbn {r : List V → Hp → VK → Prop} {f : List Cell → (List D → Prop) → Prop} {t : TA} {a : PAx} (hr : LCN K r f) (ha : LA K s c H0 t a) : LN K s c H0 (tCB r t) (pCBN f a) := fun σ σd H Q P R h k => by
  refine ha σ σd H _ _ R h fun xs vs H1 h1 r1 s1 => ?_
  exact hr s c vs xs H1 Q P r1 s1.src h1 fun ds a us H2 h2 ha hn hd s2 => k ds a us H2 h2 ha (Kp.none s1.kp (s1.src.ne hn).1 hn) hd (s1.trans s2)
theorem one_of {s c : Addr} {H : Hp} {vs : List V} {x : Cell} (h : CellsR K s c H vs [x]) : ∃ v, vs = [v] ∧ CellR K s c H v x := by
  cases h with
  | cons h r => cases r; exact ⟨_, rfl, h⟩
def gLenS : List Cell → (Cell → Prop) → Prop := fun xs P => ∃ z, xs = [cS z] ∧ z.length ≤ 1000000 ∧ P (cI z.length)
theorem C_lenS : LC K cLenS gLenS := fun s c vs xs H Q P hx S h k => by
  obtain ⟨z, rfl, hz, h⟩ := h
  obtain ⟨v, rfl, hv⟩ := one_of hx
  rw [str_eq hv]
  exact ⟨z, rfl, Nat.le_trans hz (by decide), k _ _ H h (.int _) (.refl S)⟩
def gLenQ : List Cell → (Cell → Prop) → Prop := fun xs P => ∃ x ds, xs = [x] ∧ seqC x = some ds ∧ P (cI ds.length)
theorem C_lenQ : LC K (cLenQ K) gLenQ := fun s c vs xs H Q P hx S h k => by
  obtain ⟨x, ds, rfl, e, h⟩ := h
  obtain ⟨v, rfl, hv⟩ := one_of hx
  obtain ⟨a, us, rfl, ha, hd⟩ := seqC_at hv e
  refine ⟨a, us, rfl, ha, ?_⟩
  rw [hd.len]
  exact k _ _ H h (.int _) (.refl S)
def gAbs : List Cell → (Cell → Prop) → Prop := fun xs P => ∃ i, xs = [cI i] ∧ P (cI (if i < 0 then -i else i))
theorem C_abs : LC K cAbs gAbs := fun s c vs xs H Q P hx S h k => by
  obtain ⟨z, rfl, h⟩ := h
  obtain ⟨v, rfl, hv⟩ := one_of hx
  rw [int_eq hv]
  exact ⟨z, rfl, k _ _ H h (.int _) (.refl S)⟩
def gInt1 : List Cell → (Cell → Prop) → Prop := fun xs P => (∃ i, xs = [cI i] ∧ P (cI i)) ∨ ∃ b : Bool, xs = [cB b] ∧ P (cI (if b then 1 else 0))
theorem C_int1 : LC K cInt1 gInt1 := fun s c vs xs H Q P hx S h k => by
  rcases h with ⟨z, rfl, h⟩ | ⟨z, rfl, h⟩
  · obtain ⟨v, rfl, hv⟩ := one_of hx
    rw [int_eq hv]
    exact .inl ⟨z, rfl, k _ _ H h (.int _) (.refl S)⟩
  · obtain ⟨v, rfl, hv⟩ := one_of hx
    rw [bl_eq hv]
    exact .inr ⟨z, rfl, k _ _ H h (.int _) (.refl S)⟩
def gIntS : List Cell → (Cell → Prop) → Prop := fun xs P => ∃ a n, xs = [cS a] ∧ PySem.intText? a = some n ∧ a.length ≤ 640 ∧ P (cI n)
theorem C_intS : LC K cIntS gIntS := fun s c vs xs H Q P hx S h k => by
  obtain ⟨a, n, rfl, h1, h2, h⟩ := h
  obtain ⟨v, rfl, hv⟩ := one_of hx
  rw [str_eq hv]
  exact ⟨a, n, rfl, h1, h2, k _ _ H h (.int _) (.refl S)⟩
def gStrI : List Cell → (Cell → Prop) → Prop := fun xs P => ∃ i : Int, xs = [cI i] ∧ i.natAbs.log2 < 1920 ∧ P (cS (toString i))
theorem C_strI : LC K cStrI gStrI := fun s c vs xs H Q P hx S h k => by
  obtain ⟨a, rfl, h1, h⟩ := h
  obtain ⟨v, rfl, hv⟩ := one_of hx
  rw [int_eq hv]
  exact ⟨a, rfl, h1, k _ _ H h (.str _) (.refl S)⟩
def gStrS : List Cell → (Cell → Prop) → Prop := fun xs P => ∃ z, xs = [cS z] ∧ P (cS z)
theorem C_strS : LC K cStrS gStrS := fun s c vs xs H Q P hx S h k => by
  obtain ⟨a, rfl, h⟩ := h
  obtain ⟨v, rfl, hv⟩ := one_of hx
  rw [str_eq hv]
  exact ⟨a, rfl, k _ _ H h (.str _) (.refl S)⟩
def gTuple : List Cell → (Cell → Prop) → Prop := fun xs P => ∃ x ds, xs = [x] ∧ seqC x = some ds ∧ P (.dat (.tup ds))
theorem C_tuple : LC K (cTuple K) gTuple := fun s c vs xs H Q P hx S h k => by
  obtain ⟨x, ds, rfl, e, h⟩ := h
  obtain ⟨v, rfl, hv⟩ := one_of hx
  by_cases q : ∃ es, x = .dat (.tup es)
  · obtain ⟨es, rfl⟩ := q
    cases e
    obtain ⟨a, us, rfl, ha, hd⟩ := tup_at hv
    exact ⟨a, us, rfl, .inr ⟨.inl (.inl ha), k _ _ H h (.tup ha hd) (.refl S)⟩⟩
  · have e2 : seqL x = some ds := by
      cases x with
      | dat d => cases d <;> first | exact e | (exfalso; exact q ⟨_, rfl⟩)
      | lm ds => exact e
      | dm ds => cases e
      | tm ds => cases e
      | om x C ds => cases e
      | un => cases e
    obtain ⟨a, us, rfl, ha, hd⟩ := seqL_at hv e2
    refine ⟨a, us, rfl, .inl ⟨ha, fun l hl => ?_⟩⟩
    have e2 := stp_new (o := .tup us) S hl
    exact k _ _ _ h (.tup upd_same (hd.im (e2.im S))) e2
def gList : List Cell → (List D → Prop) → Prop := fun xs P => ∃ x ds, xs = [x] ∧ seqC x = some ds ∧ P ds
theorem C_list : LCN K (cList K) gList := fun s c vs xs H Q P hx S h k => by
  obtain ⟨x, ds, rfl, e, h⟩ := h
  obtain ⟨v, rfl, hv⟩ := one_of hx
  obtain ⟨a, us, rfl, ha, hd⟩ := seqC_at hv e
  refine ⟨a, us, rfl, ha, fun l hl => ?_⟩
  have e2 := stp_new (o := .lst us) S hl
  exact k _ _ _ _ h upd_same hl (hd.im (e2.im S)) e2
def gAll : List Cell → (Cell → Prop) → Prop := fun xs P => ∃ (x : Cell) (bs : List Bool), xs = [x] ∧ seqL x = some (bs.map D.bl) ∧ P (cB (bs.all id))
theorem C_all : LC K (rAll K) gAll := fun s c vs xs H Q P hx S h k => by
  obtain ⟨x, bs, rfl, e, h⟩ := h
  obtain ⟨v, rfl, hv⟩ := one_of hx
  obtain ⟨a, us, rfl, ha, hd⟩ := seqL_at hv e
  cases bls_of hd
  exact ⟨a, bs, rfl, ha, k _ _ H h (.bl _) (.refl S)⟩
def gAny : List Cell → (Cell → Prop) → Prop := fun xs P => ∃ (x : Cell) (bs : List Bool), xs = [x] ∧ seqL x = some (bs.map D.bl) ∧ P (cB (bs.any id))
theorem C_any : LC K (rAny K) gAny := fun s c vs xs H Q P hx S h k => by
  obtain ⟨x, bs, rfl, e, h⟩ := h
  obtain ⟨v, rfl, hv⟩ := one_of hx
  obtain ⟨a, us, rfl, ha, hd⟩ := seqL_at hv e
  cases bls_of hd
  exact ⟨a, bs, rfl, ha, k _ _ H h (.bl _) (.refl S)⟩
def gSum : List Cell → (Cell → Prop) → Prop := fun xs P => ∃ (x : Cell) (ns : List Int), xs = [x] ∧ seqL x = some (ns.map D.int) ∧ P (cI ns.sum)
theorem C_sum : LC K (rSum K) gSum := fun s c vs xs H Q P hx S h k => by
  obtain ⟨x, bs, rfl, e, h⟩ := h
  obtain ⟨v, rfl, hv⟩ := one_of hx
  obtain ⟨a, us, rfl, ha, hd⟩ := seqL_at hv e
  cases ints_of hd
  exact ⟨a, bs, rfl, ha, k _ _ H h (.int _) (.refl S)⟩
def gSortedS : List Cell → (List D → Prop) → Prop := fun xs P => ∃ (x : Cell) (zs : List Str), xs = [x] ∧ seqL x = some (zs.map D.str) ∧ zs.length < 64 ∧ ∀ ys : List Str, ys.Perm zs → sortedS ys = true → P (ys.map D.str)
theorem C_sortedS : LCN K (rSortedS K) gSortedS := fun s c vs xs H Q P hx S h k => by
  obtain ⟨x, bs, rfl, e, hl, h⟩ := h
  obtain ⟨v, rfl, hv⟩ := one_of hx
  obtain ⟨a, us, rfl, ha, hd⟩ := seqL_at hv e
  cases strs_of hd
  refine ⟨a, bs, rfl, ha, hl, fun ys p h1 h2 hp => ?_⟩
  have e2 := stp_new (o := .lst (ys.map V.str)) S hp
  exact k _ _ _ _ (h ys h1 h2) upd_same hp (strs_dr ys) e2
def gRepr : List Cell → (Cell → Prop) → Prop := fun xs P => ∃ x d, xs = [x] ∧ toPyC x = some d ∧ flatC x = none ∧ PyData.showable d = true ∧ d.hasDict = false ∧ d.depth ≤ 60 ∧ d.shown.length ≤ 1000000 ∧ P (cS d.shown)
theorem ref_of {s c : Addr} {H : Hp} {v : V} {x : Cell} {d : PyData} (h : CellR K s c H v x) (e : flatC x = none) (e2 : toPyC x = some d) : ∃ a, v = .ref a := by
  cases x with
  | dat d => cases h <;> first | exact ⟨_, rfl⟩ | cases e
  | lm ds => obtain ⟨a, vs, rfl, _⟩ := h; exact ⟨a, rfl⟩
  | dm ds => obtain ⟨a, vs, rfl, _⟩ := h; exact ⟨a, rfl⟩
  | tm ds => cases e2
  | om x C ds => cases e2
  | un => cases e2
theorem C_repr : LC K (cRepr K) gRepr := fun s c vs xs H Q P hx S h k => by
  obtain ⟨x, d, rfl, e, ef, h1, h2, h3, h4, h⟩ := h
  obtain ⟨v, rfl, hv⟩ := one_of hx
  obtain ⟨a, rfl⟩ := ref_of hv ef e
  exact ⟨a, d, rfl, toPyC_at hv e, h1, h2, h3, Nat.le_trans h4 (by decide), k _ _ H h (.str _) (.refl S)⟩
/-! ### methods of texts -/
def pJoin (a b : PEx) : PEx := fun σd P => a σd fun x => ∃ z, x = cS z ∧ b σd fun y => ∃ zs : List Str, seqC y = some (zs.map .str) ∧ (zs.map (·.length)).sum + zs.length * z.length ≤ 16777216 ∧ P (cS (Txt.join z zs))
theorem L_join {ta tb : TE} {a b : PEx} (ha : LE K s c H0 ta a) (hb : LE K s c H0 tb b) : LE K s c H0 (tM1 (mJoin K) ta tb) (pJoin a b) := fun σ σd H Q P R h k => by
  refine ha σ σd H _ _ R h fun x v H1 h1 r1 s1 => ?_
  obtain ⟨z, rfl, h1⟩ := h1
  refine ⟨⟨z, str_eq r1⟩, ?_⟩
  refine hb σ σd H1 _ _ (R.stp s1) h1 fun y w H2 h2 r2 s2 => ?_
  obtain ⟨zs, e, hl, h⟩ := h2
  obtain ⟨p, us, rfl, hp, hd⟩ := seqC_at r2 e
  cases strs_of hd
  exact ⟨z, p, zs, str_eq r1, rfl, hp, hl, k _ _ H2 h (.str _) (s1.trans s2)⟩
def pSplit (a b : PEx) : PNx := fun σd P => a σd fun x => ∃ z, x = cS z ∧ b σd fun y => ∃ w, y = cS w ∧ (w.length == 0) = false ∧ z.length ≤ 1000000 ∧ P ((Txt.split z w).map .str)
theorem L_split {ta tb : TE} {a b : PEx} (ha : LE K s c H0 ta a) (hb : LE K s c H0 tb b) : LN K s c H0 (tM1 mSplit ta tb) (pSplit a b) := fun σ σd H Q P R h k => by
  refine ha σ σd H _ _ R h fun x v H1 h1 r1 s1 => ?_
  obtain ⟨z, rfl, h1⟩ := h1
  refine ⟨⟨z, str_eq r1⟩, ?_⟩
  refine hb σ σd H1 _ _ (R.stp s1) h1 fun y w H2 h2 r2 s2 => ?_
  obtain ⟨w', rfl, hw, hl, h⟩ := h2
  have st := s1.trans s2
  refine ⟨z, w', str_eq r1, by rw [str_eq r2], hw, Nat.le_trans (Nat.add_le_add_right hl 2) (by decide), fun p hp => ?_⟩
  have e2 := stp_new (o := .lst ((Txt.split z w').map V.str)) st.src hp
  exact k _ _ _ _ h upd_same (Kp.none st.kp (st.src.ne hp).1 hp) (strs_dr _) (st.trans e2)
/-! ### own defs -/
/-- what a def does, over plain values -/
abbrev QP := List D → (D → Prop) → Prop
def up (K : PySem.W.Frag) (q : QP) : Sp := fun vs H Q _ => ∃ (s c : Addr) (ds : List D), Src H s c ∧ DRs K s H vs ds ∧ q ds fun d => ∀ v H', DR K s H' v d → Stp s c H H' → Q v H'
def pCall (q : QP) (a : PAx) : PEx := fun σd P => a σd fun xs => ∃ ds, datsC xs = some ds ∧ q ds fun d => P (.dat d)
/-- q asks no more of what it is followed by than that it holds -/
def Mono (q : QP) : Prop := ∀ ds P P', (∀ d, P d → P' d) → q ds P → q ds P'
theorem L_call {q : QP} {t : TA} {a : PAx} {E : XK} (m : Mono q) (ha : LA K s c H0 t a) : LE K s c H0 (tCall (up K q) [] E t) (pCall q a) := fun σ σd H Q P R h k => by
  refine ha σ σd H _ _ R h fun xs vs H1 h1 r1 s1 => ?_
  obtain ⟨ds, e, h⟩ := h1
  refine ⟨s, c, ds, s1.src, by rw [List.append_nil]; exact datsC_at r1 e, m _ _ _ (fun d hd v H2 r2 s2 => k (.dat d) _ H2 hd r2 (s1.trans s2)) h⟩
end
end My


/-! Q4: statements, loops, comprehensions. -/
namespace My
open PySem PySem.Spec PyProof.Rows L2
structure PEnds where
  nx : Sd → Prop
  rt : D → Prop
  bk : Sd → Prop := fun _ => False
  ct : Sd → Prop := fun _ => False
abbrev PSx := PEnds → Sd → Prop
structure EndsR (K : PySem.W.Frag) (s c : Addr) (H0 H : Hp) (E : Ends) (e : PEnds) : Prop where
  nx : ∀ σ σd H', e.nx σd → Rel K s c H0 σ H' σd → Im H H' → E.nx σ H'
  rt : ∀ d v H', e.rt d → DR K s H' v d → Src H' s c → Kp s H0 H' → E.rt v H'
  bk : ∀ σ σd H', e.bk σd → Rel K s c H0 σ H' σd → Im H H' → E.bk σ H'
  ct : ∀ σ σd H', e.ct σd → Rel K s c H0 σ H' σd → Im H H' → E.ct σ H'
def LS (K : PySem.W.Frag) (s c : Addr) (H0 : Hp) (t : TS) (p : PSx) : Prop := ∀ (σ : L2.St) (σd : Sd) (H : Hp) (E : Ends) (e : PEnds), Rel K s c H0 σ H σd → p e σd → EndsR K s c H0 H E e → t E σ H
section
variable {K : PySem.W.Frag} {s c : Addr} {H0 H H' : Hp} {E : Ends} {e : PEnds}
theorem EndsR.im (h : EndsR K s c H0 H E e) (i : Im H H') : EndsR K s c H0 H' E e :=
  ⟨fun σ σd H2 a b d => h.nx σ σd H2 a b (i.trans d), h.rt, fun σ σd H2 a b d => h.bk σ σd H2 a b (i.trans d), fun σ σd H2 a b d => h.ct σ σd H2 a b (i.trans d)⟩
end
section
variable {K : PySem.W.Frag} {s c : Addr} {H0 : Hp}
def pNext : PSx := fun e σd => e.nx σd
theorem S_next : LS K s c H0 tNext pNext := fun σ σd H E e R h k => k.nx σ σd H h R (Im.refl H)
def pSeq (a b : PSx) : PSx := fun e σd => a { e with nx := b e } σd
theorem S_seq {t u : TS} {a b : PSx} (ha : LS K s c H0 t a) (hb : LS K s c H0 u b) : LS K s c H0 (tSeq t u) (pSeq a b) := fun σ σd H E e R h k =>
  ha σ σd H _ _ R h ⟨fun σ' σd' H' h1 R1 i => hb σ' σd' H' E e R1 h1 (k.im i), k.rt, k.bk, k.ct⟩
def pRet (a : PEx) : PSx := fun e σd => a σd fun x => ∃ d, x = .dat d ∧ e.rt d
theorem S_ret {t : TE} {a : PEx} (ha : LE K s c H0 t a) : LS K s c H0 (tRet t) (pRet a) := fun σ σd H E e R h k => by
  refine ha σ σd H _ _ R h fun x v H1 h1 r1 s1 => ?_
  obtain ⟨d, rfl, h⟩ := h1
  exact k.rt d v H1 h r1 s1.src (R.kp0.trans s1.kp)
def pRetN : PSx := fun e _ => e.rt .non
theorem S_retN : LS K s c H0 tRetN pRetN := fun σ σd H E e R h k => k.rt .non .non H h .non R.src R.kp0
def pBreak : PSx := fun e σd => e.bk σd
theorem S_break : LS K s c H0 tBreak pBreak := fun σ σd H E e R h k => k.bk σ σd H h R (Im.refl H)
def pCont : PSx := fun e σd => e.ct σd
theorem S_cont : LS K s c H0 tCont pCont := fun σ σd H E e R h k => k.ct σ σd H h R (Im.refl H)
def pNever : PSx := fun _ _ => False
def pIfS (t : PTx) (a b : PSx) : PSx := fun e σd => t σd fun x => if x = true then a e σd else b e σd
theorem S_if {t : TT} {u w : TS} {p : PTx} {a b : PSx} (ht : LT K s c H0 t p) (ha : LS K s c H0 u a) (hb : LS K s c H0 w b) : LS K s c H0 (tIfS t u w) (pIfS p a b) := fun σ σd H E e R h k => by
  refine ht σ σd H _ _ R h fun x H1 h1 s1 => ?_
  cases x with
  | true => exact ha σ σd H1 E e (R.stp s1) h1 (k.im (s1.im R.src))
  | false => exact hb σ σd H1 E e (R.stp s1) h1 (k.im (s1.im R.src))
def pDrop (a : PEx) : PSx := fun e σd => a σd fun _ => e.nx σd
theorem S_drop {t : TE} {a : PEx} (ha : LE K s c H0 t a) : LS K s c H0 (tDrop t) (pDrop a) := fun σ σd H E e R h k =>
  ha σ σd H _ _ R h fun x v H1 h1 r1 s1 => k.nx σ σd H1 h1 (R.stp s1) (s1.im R.src)
/-! ### stores -/
section
variable {H H' : Hp} {σ : L2.St} {σd : Sd}
theorem set_at {α : Type} (l : List α) (i j : Nat) (a : α) : (l.set i a)[j]? = if i = j then (if j < l.length then some a else none) else l[j]? := by
  rw [List.getElem?_set]
  by_cases h : i = j
  · subst h
    rw [if_pos rfl]
  · rw [if_neg h, if_neg h]
theorem Rel.set {i : Nat} {v : V} {x : Cell} (R : Rel K s c H0 σ H σd) (h : CellR K s c H v x) (hn : looseC (some x) = true → ∀ a, v = .ref a → H0 a = none)
    (ha : looseC (some x) = true → ∀ a, v = .ref a → ∀ j, j ≠ i → looseC ((σd[j]?).join) = true → σ[j]? ≠ some (some (.ref a))) : Rel K s c H0 (σ.set i (some v)) H (σd.set i (some x)) := by
  have hl := R.len
  refine ⟨R.src, R.kp0, by rw [List.length_set, List.length_set, hl], fun j u hj => ?_, fun j a hj lo => ?_, fun j k a hjk lj lk hj hk => ?_⟩
  · rw [set_at] at hj ⊢
    by_cases e : i = j
    · rw [if_pos e] at hj ⊢
      rw [← hl]
      by_cases q : j < σ.length
      · rw [if_pos q] at hj ⊢
        cases hj
        exact ⟨_, rfl, h⟩
      · rw [if_neg q] at hj
        cases hj
    · rw [if_neg e] at hj ⊢
      exact R.slot j u hj
  · rw [set_at] at hj lo
    by_cases e : i = j
    · rw [if_pos e] at hj lo
      rw [← hl] at lo
      by_cases q : j < σ.length
      · rw [if_pos q] at hj lo
        have : v = .ref a := Option.some.inj (Option.some.inj hj)
        exact hn lo a this
      · rw [if_neg q] at hj
        cases hj
    · rw [if_neg e] at hj lo
      exact R.new j a hj lo
  · rw [set_at] at hj hk lj lk
    by_cases e : i = j
    · have e2 : ¬ i = k := fun z => hjk (e.symm.trans z)
      rw [if_pos e] at hj lj
      rw [if_neg e2] at hk lk
      rw [← hl] at lj
      by_cases q : j < σ.length
      · rw [if_pos q] at hj lj
        have : v = .ref a := Option.some.inj (Option.some.inj hj)
        exact ha lj a this k (fun z => e2 z.symm) lk hk
      · rw [if_neg q] at hj
        cases hj
    · rw [if_neg e] at hj lj
      by_cases e2 : i = k
      · rw [if_pos e2] at hk lk
        rw [← hl] at lk
        by_cases q : k < σ.length
        · rw [if_pos q] at hk lk
          have : v = .ref a := Option.some.inj (Option.some.inj hk)
          exact ha lk a this j (fun z => e z.symm) lj hj
        · rw [if_neg q] at hk
          cases hk
      · rw [if_neg e2] at hk lk
        exact R.apart j k a hjk lj lk hj hk
theorem Rel.setD {i : Nat} {v : V} {d : D} (R : Rel K s c H0 σ H σd) (h : DR K s H v d) : Rel K s c H0 (σ.set i (some v)) H (σd.set i (some (.dat d))) :=
  R.set (x := .dat d) h (fun z => nomatch z) (fun z => nomatch z)
end
/-- targets: ts are the slots that may change -/
abbrev PGx := D → Sd → (Sd → Prop) → Prop
def LG (K : PySem.W.Frag) (s c : Addr) (H0 : Hp) (g : TG) (p : PGx) (ts : List Nat) : Prop := ∀ (σ : L2.St) (σd : Sd) (H : Hp) (v : V) (d : D) (Q : L2.St → Hp → Prop) (P : Sd → Prop), Rel K s c H0 σ H σd → DR K s H v d → p d σd P →
  (∀ σ' σd', P σd' → Rel K s c H0 σ' H σd' → σ'.length = σ.length → (∀ j, j ∉ ts → σ'[j]? = σ[j]?) → Q σ' H) → g v σ H Q
def pgName (i : Nat) : PGx := fun d σd P => P (σd.set i (some (.dat d)))
theorem G_name (i : Nat) : LG K s c H0 (gName i) (pgName i) [i] := fun σ σd H v d Q P R hd h k =>
  k _ _ h (R.setD hd) (List.length_set ..) fun j hj => by
    rw [set_at, if_neg (fun z => hj (by rw [z]; exact List.mem_singleton.mpr rfl))]
def LGs (K : PySem.W.Frag) (s c : Addr) (H0 : Hp) (g : TGs) (p : List D → Sd → (Sd → Prop) → Prop) (ts : List Nat) : Prop := ∀ (σ : L2.St) (σd : Sd) (H : Hp) (vs : List V) (ds : List D) (Q : L2.St → Hp → Prop) (P : Sd → Prop), Rel K s c H0 σ H σd → DRs K s H vs ds → p ds σd P →
  (∀ σ' σd', P σd' → Rel K s c H0 σ' H σd' → σ'.length = σ.length → (∀ j, j ∉ ts → σ'[j]? = σ[j]?) → Q σ' H) → g vs σ H Q
def pgNil : List D → Sd → (Sd → Prop) → Prop := fun ds σd P => ds = [] ∧ P σd
def pgCons (a : PGx) (b : List D → Sd → (Sd → Prop) → Prop) : List D → Sd → (Sd → Prop) → Prop := fun ds σd P => ∃ d r, ds = d :: r ∧ a d σd fun σd' => b r σd' P
theorem G_nil : LGs K s c H0 gNil pgNil [] := fun σ σd H vs ds Q P R hd h k => by
  obtain ⟨rfl, h⟩ := h
  cases hd
  exact ⟨rfl, k _ _ h R rfl fun _ _ => rfl⟩
theorem G_cons {g : TG} {gs : TGs} {a : PGx} {b : List D → Sd → (Sd → Prop) → Prop} {ts us : List Nat} (ha : LG K s c H0 g a ts) (hb : LGs K s c H0 gs b us) : LGs K s c H0 (gCons g gs) (pgCons a b) (ts ++ us) := fun σ σd H vs ds Q P R hd h k => by
  obtain ⟨d, r, rfl, h⟩ := h
  cases hd with
  | cons x xs =>
    refine ⟨_, _, rfl, ha σ σd H _ d _ _ R x h fun σ1 σd1 h1 R1 l1 k1 => ?_⟩
    refine hb σ1 σd1 H _ r _ _ R1 xs h1 fun σ2 σd2 h2 R2 l2 k2 => k σ2 σd2 h2 R2 (l2.trans l1) fun j hj => ?_
    rw [k2 j (fun z => hj (List.mem_append_right _ z)), k1 j (fun z => hj (List.mem_append_left _ z))]
def pgTup (b : List D → Sd → (Sd → Prop) → Prop) : PGx := fun d σd P => ∃ ds, d = .tup ds ∧ b ds σd P
theorem G_tup {n : Nat} {gs : TGs} {b : List D → Sd → (Sd → Prop) → Prop} {ts : List Nat} (hb : LGs K s c H0 gs b ts) (hn : ∀ ds σd P, b ds σd P → ds.length = n) : LG K s c H0 (gTup K n gs) (pgTup b) ts := fun σ σd H v d Q P R hd h k => by
  obtain ⟨ds, rfl, h⟩ := h
  cases hd with
  | tup h1 r1 =>
    refine ⟨_, _, rfl, .inl (.inl h1), by rw [r1.len]; exact hn _ _ _ h, ?_⟩
    exact hb σ σd H _ ds _ _ R r1 h k
theorem glen_nil {ds : List D} {σd : Sd} {P : Sd → Prop} (h : pgNil ds σd P) : ds.length = 0 := by rw [h.1]; rfl
theorem glen_cons {n : Nat} {a : PGx} {b : List D → Sd → (Sd → Prop) → Prop} (hb : ∀ ds σd P, b ds σd P → ds.length = n) (hm : ∀ d σd P, a d σd P → ∃ σd', P σd') {ds : List D} {σd : Sd} {P : Sd → Prop} (h : pgCons a b ds σd P) : ds.length = n + 1 := by
  obtain ⟨d, r, rfl, h⟩ := h
  obtain ⟨σd', h⟩ := hm _ _ _ h
  rw [List.length_cons, hb _ _ _ h]
theorem name_some (i : Nat) (d : D) (σd : Sd) (P : Sd → Prop) (h : pgName i d σd P) : ∃ σd', P σd' := ⟨_, h⟩
def pAsg (a : PEx) (g : PGx) : PSx := fun e σd => a σd fun x => ∃ d, x = .dat d ∧ g d σd e.nx
theorem S_asg {t : TE} {g : TG} {a : PEx} {p : PGx} {ts : List Nat} (ha : LE K s c H0 t a) (hg : LG K s c H0 g p ts) : LS K s c H0 (tAsg t g) (pAsg a p) := fun σ σd H E e R h k => by
  refine ha σ σd H _ _ R h fun x v H1 h1 r1 s1 => ?_
  obtain ⟨d, rfl, h⟩ := h1
  exact hg σ σd H1 v d _ _ (R.stp s1) r1 h fun σ' σd' h2 R2 _ _ => k.nx σ' σd' H1 h2 R2 (s1.im R.src)
/-- x = a new list that will change -/
def pNew (a : PNx) (i : Nat) : PSx := fun e σd => a σd fun ds => e.nx (σd.set i (some (.lm ds)))
theorem S_new {t : TE} {a : PNx} (i : Nat) (ha : LN K s c H0 t a) : LS K s c H0 (tAsg t (gName i)) (pNew a i) := fun σ σd H E e R h k => by
  refine ha σ σd H _ _ R h fun ds a vs H1 h1 hv hn hd st => ?_
  have nn := R.src.ne hn
  have n0 : H0 a = none := Kp.none R.kp0 nn.1 hn
  refine k.nx _ _ H1 h1 ((R.stp st).set (x := .lm ds) ⟨a, vs, rfl, hv, hd, nn⟩ (fun _ b eb => by cases eb; exact n0) (fun _ b eb j nj lj hj => ?_)) (st.im R.src)
  cases eb
  -- the slot j holds a loose thing of H
  obtain ⟨x, hx, hr⟩ := R.slot j _ hj
  rw [hx] at lj
  cases x with
  | none => cases lj
  | some x =>
    cases x with
    | dat d => cases lj
    | lm es =>
      obtain ⟨b, us, eb, hb, _⟩ := hr
      cases eb
      rw [hn] at hb
      cases hb
    | dm es =>
      obtain ⟨b, us, eb, hb, _⟩ := hr
      cases eb
      rw [hn] at hb
      cases hb
    | tm es =>
      obtain ⟨b, us, eb, hb, _⟩ := hr
      cases eb
      rw [hn] at hb
      cases hb
    | om x C es =>
      obtain ⟨dx, us, eb, hb, _⟩ := hr
      cases eb
      rw [hn] at hb
      cases hb
    | un => cases lj
end
end My


/-! Q5: what changes, loops, comprehensions. -/
namespace My
open PySem PySem.Spec PyProof.Rows L2
section
variable {K : PySem.W.Frag} {s c : Addr} {H0 H H' : Hp} {σ : L2.St} {σd : Sd}
theorem loose_at {i l : Nat} {v : V} {x : Cell} (h : CellR K s c H v x) (lo : looseC (some x) = true) : ∃ a, v = .ref a ∧ Loose H a ∧ a ≠ s ∧ a ≠ c := by
  cases x with
  | dat d => cases lo
  | lm ds => obtain ⟨a, vs, rfl, ha, _, h1, h2⟩ := h; exact ⟨a, rfl, ⟨_, ha, rfl⟩, h1, h2⟩
  | dm ds => obtain ⟨a, vs, rfl, ha, _, h1, h2⟩ := h; exact ⟨a, rfl, ⟨_, ha, rfl⟩, h1, h2⟩
  | tm ds => obtain ⟨a, vs, rfl, ha, _, h1, h2⟩ := h; exact ⟨a, rfl, ⟨_, ha, rfl⟩, h1, h2⟩
  | om x C ds => obtain ⟨dx, vs, rfl, ha, _, h1, h2⟩ := h; exact ⟨x, rfl, ⟨_, ha, rfl⟩, h1, h2⟩
  | un => cases lo
/-- the thing of slot i is written -/
theorem Rel.write {i : Nat} {l : Addr} {x x' : Cell} {o : HO} (R : Rel K s c H0 σ H σd) (hi : σ[i]? = some (some (.ref l))) (hx : σd[i]? = some (some x)) (lo : looseC (some x) = true)
    (hc : CellR K s c (upd H l o) (.ref l) x') : Rel K s c H0 σ (upd H l o) (σd.set i (some x')) := by
  obtain ⟨y, hy, hr⟩ := R.slot i _ hi
  rw [hx] at hy
  cases hy
  obtain ⟨a, ea, hl, n1, n2⟩ := loose_at (i := 0) (l := 0) hr lo
  cases ea
  have kl : Kp l H (upd H l o) := Kp.self
  have im := kl.im hl
  have lo' : ∀ j, looseC (((σd.set i (some x'))[j]?).join) = true → looseC ((σd[j]?).join) = true := fun j h => by
    rw [set_at] at h
    by_cases e : i = j
    · subst e
      rw [hx]
      exact lo
    · rw [if_neg e] at h
      exact h
  refine ⟨R.src.kp n1.symm n2.symm kl, R.kp0.via (R.new i l hi (by rw [hx]; exact lo)) kl, by rw [List.length_set]; exact R.len, fun j v hj => ?_, fun j a hj h => R.new j a hj (lo' j h), fun j k a n h1 h2 => R.apart j k a n (lo' j h1) (lo' k h2)⟩
  rw [set_at]
  by_cases e : i = j
  · subst e
    rw [if_pos rfl, if_pos (by rw [← R.len]; exact (List.getElem?_eq_some_iff.mp hi).1)]
    rw [hi] at hj
    cases hj
    exact ⟨_, rfl, hc⟩
  · rw [if_neg e]
    obtain ⟨y, hy, hr2⟩ := R.slot j v hj
    refine ⟨y, hy, ?_⟩
    cases v with
    | none => cases y with
      | none => trivial
      | some y => exact hr2
    | some v => cases y with
      | none => exact hr2
      | some y =>
        cases y with
        | dat d => exact DR.im im hr2
        | lm es =>
          obtain ⟨b, us, rfl, hb, hd, q1, q2⟩ := hr2
          have nb : b ≠ l := fun z => by
            subst z
            exact R.apart i j _ e (by rw [hx]; exact lo) (by rw [hy]; rfl) hi hj
          exact ⟨b, us, rfl, kl _ _ nb hb, hd.im im, q1, q2⟩
        | dm es =>
          obtain ⟨b, us, rfl, hb, hd, q1, q2⟩ := hr2
          have nb : b ≠ l := fun z => by
            subst z
            exact R.apart i j _ e (by rw [hx]; exact lo) (by rw [hy]; rfl) hi hj
          exact ⟨b, us, rfl, kl _ _ nb hb, hd.im im, q1, q2⟩
        | tm es =>
          obtain ⟨b, us, rfl, hb, hd, q1, q2⟩ := hr2
          have nb : b ≠ l := fun z => by
            subst z
            exact R.apart i j _ e (by rw [hx]; exact lo) (by rw [hy]; rfl) hi hj
          exact ⟨b, us, rfl, kl _ _ nb hb, hd.im im, q1, q2⟩
        | om b C es =>
          obtain ⟨dx, us, rfl, hb, hd, q1, q2⟩ := hr2
          have nb : b ≠ l := fun z => by
            subst z
            exact R.apart i j _ e (by rw [hx]; exact lo) (by rw [hy]; rfl) hi hj
          exact ⟨dx, us, rfl, kl _ _ nb hb, hd.im im, q1, q2⟩
        | un => trivial
end
section
variable {K : PySem.W.Frag} {s c : Addr} {H0 : Hp}
/-! ### xs.append(e), the list locked for good -/
def pApp (i : Nat) (a : PEx) : PSx := fun e σd => ∃ ds, σd[i]? = some (some (.lm ds)) ∧ a σd fun x => ∃ d, x = .dat d ∧ ds.length ≤ 100000 ∧ e.nx (σd.set i (some (.lm (ds ++ [d]))))
theorem S_app {t : TE} {a : PEx} (i : Nat) (ha : LE K s c H0 t a) : LS K s c H0 (tDrop (tBM K "list" rAppend (tVar i) (tCons t tNil))) (pApp i a) := fun σ σd H E e R h k => by
  obtain ⟨ds, hi, h⟩ := h
  obtain ⟨v, hv, hr⟩ := R.at hi
  obtain ⟨l, vs, rfl, hl, hd, n1, n2⟩ := id hr
  refine ⟨_, hv, .inl ⟨rfl, _, SqL.of hl⟩, ?_⟩
  refine ha σ σd H _ _ R h fun x w H1 h1 r1 s1 => ?_
  obtain ⟨d, rfl, hz, h2⟩ := h1
  have R1 := R.stp s1
  obtain ⟨l', vs', e', hl1, hd1, _⟩ := hr.stp R.src s1
  cases e'
  have kl : Kp l H1 (upd H1 l (.lst (vs' ++ [w]))) := Kp.self
  have im := kl.im ⟨_, hl1, rfl⟩
  refine ⟨l, vs', w, rfl, rfl, hl1, Nat.lt_of_le_of_lt (by rw [hd1.len]; exact hz) (by decide), ?_⟩
  exact k.nx σ _ _ h2 (R1.write hv hi rfl ⟨l, _, rfl, upd_same, (hd1.im im).snoc (DR.im im r1), n1, n2⟩) ((s1.im R.src).trans im)
/-- the list in slot i is locked for good, then the statement -/
def tFrzS (i : Nat) (t : TS) : TS := fun E σ H => ∃ (a : Addr) (u : HO), σ[i]? = some (some (.ref a)) ∧ H a = some u ∧ Mut (some u) ∧ ∀ o, t E σ (upd H a (.frz o u))
theorem ps_frz {X : Cx} {st : Stmt} {t : TS} (i : Nat) (h : PS X st t) : PS X st (tFrzS i t) := by
  refine ⟨fun pins s σ H E I hq => ?_⟩
  obtain ⟨a, u, _, ea, mu, q⟩ := hq
  obtain ⟨od, I2⟩ := I.lock ea mu
  exact h.run pins s σ _ E I2 (q od)
def pFrzS (i : Nat) (p : PSx) : PSx := fun e σd => ∃ ds, σd[i]? = some (some (.lm ds)) ∧ p e (σd.set i (some (.dat (.lst ds))))
theorem S_frz {t : TS} {p : PSx} (i : Nat) (hp : LS K s c H0 t p) : LS K s c H0 (tFrzS i t) (pFrzS i p) := fun σ σd H E e R h k => by
  obtain ⟨ds, hi, h⟩ := h
  obtain ⟨v, hv, hr⟩ := R.at hi
  obtain ⟨l, vs, rfl, hl, hd, n1, n2⟩ := id hr
  refine ⟨l, _, hv, hl, trivial, fun o => ?_⟩
  have kl : Kp l H (upd H l (.frz o (.lst vs))) := Kp.self
  have im := kl.im ⟨_, hl, rfl⟩
  have w := R.write (x' := .dat (.lst ds)) (o := .frz o (.lst vs)) hv hi rfl (.lst upd_same (hd.im im))
  exact hp σ _ _ E e w h (k.im im)
/-! ### loops -/
def LI (K : PySem.W.Frag) (s c : Addr) (H0 : Hp) (ti : TI) (p : PNx) : Prop := ∀ (σ : L2.St) (σd : Sd) (H : Hp) (R : It → Hp → Prop) (P : List D → Prop), Rel K s c H0 σ H σd → p σd P →
  (∀ (ds : List D) (J : It) (G : Hp → Prop) (Y : Nat → Hp → V → Hp → Prop) (H' : Hp), P ds → Stp s c H H' → Walk J ds.length G Y → G H' → (∀ H1 H2, Im H1 H2 → G H1 → G H2) →
    (∀ i H1 x H2, i < ds.length → Im H' H1 → G H1 → Y i H1 x H2 → Same H1 H2 ∧ ∃ d, ds[i]? = some d ∧ DR K s H2 x d) → R J H') → ti σ H R
def pIL (a : PEx) : PNx := fun σd P => a σd fun x => ∃ ds, x = .dat (.lst ds) ∧ P ds
theorem I_list {t : TE} {a : PEx} (ha : LE K s c H0 t a) : LI K s c H0 (iList K t) (pIL a) := fun σ σd H R P Rl h k => by
  refine ha σ σd H _ _ Rl h fun x v H1 h1 r1 s1 => ?_
  obtain ⟨ds, rfl, h⟩ := h1
  cases r1 with
  | @lst l o vs _ hl hd =>
    refine ⟨l, rfl, ⟨vs, .inl (.inr ⟨o, hl⟩)⟩, ?_⟩
    have w : Walk (Itl K l) ds.length (fun H => H l = some (.frz o (.lst vs))) (YAt vs) := by
      rw [← hd.len]
      exact walk_list.mono (fun H h => .inl (.inr ⟨o, h⟩)) fun i H x H' _ _ y => y
    refine k ds _ _ _ H1 h s1 w hl (fun A B im h => frz_im im h) fun i A x B hi im hG y => ?_
    obtain ⟨e, hx⟩ := y
    subst e
    obtain ⟨d, h1, h2⟩ := (hd.im im).get hx
    exact ⟨Same.refl _, d, h1, h2⟩
def pIT (a : PEx) : PNx := fun σd P => a σd fun x => ∃ ds, x = .dat (.tup ds) ∧ P ds
theorem I_tup {t : TE} {a : PEx} (ha : LE K s c H0 t a) : LI K s c H0 (iTup K t) (pIT a) := fun σ σd H R P Rl h k => by
  refine ha σ σd H _ _ Rl h fun x v H1 h1 r1 s1 => ?_
  obtain ⟨ds, rfl, h⟩ := h1
  cases r1 with
  | @tup l vs _ hl hd =>
    have hl : SqT K H1 l vs := .inl (.inl hl)
    refine ⟨l, rfl, ⟨vs, hl⟩, ?_⟩
    have w : Walk (Itt K l) ds.length (fun H => SqT K H l vs) (YAt vs) := by
      rw [← hd.len]
      exact walk_tup
    refine k ds _ _ _ H1 h s1 w hl (fun A B im h => sqT_im im h) fun i A x B hi im hG y => ?_
    obtain ⟨e, hx⟩ := y
    subst e
    obtain ⟨d, h1, h2⟩ := (hd.im im).get hx
    exact ⟨Same.refl _, d, h1, h2⟩
/-- the signs of a text -/
def signsD (z : Str) : List D := z.cps.toList.map fun c => .str ⟨#[c]⟩
def pIS (a : PEx) : PNx := fun σd P => a σd fun x => ∃ z, x = cS z ∧ P (signsD z)
theorem I_str {t : TE} {a : PEx} (ha : LE K s c H0 t a) : LI K s c H0 (iStr t) (pIS a) := fun σ σd H R P Rl h k => by
  refine ha σ σd H _ _ Rl h fun x v H1 h1 r1 s1 => ?_
  obtain ⟨z, rfl, h⟩ := h1
  refine ⟨z, str_eq r1, ?_⟩
  have w : Walk (Its z) (signsD z).length (fun _ => True) (fun i H v H' => H' = H ∧ ∃ c, z.cps[i]? = some c ∧ v = .str ⟨#[c]⟩) := by
    unfold signsD
    rw [List.length_map, Array.length_toList]
    exact walk_str
  refine k (signsD z) _ _ _ H1 h s1 w trivial (fun A B im h => trivial) fun i A x B hi im hG y => ?_
  obtain ⟨e, d, hc, hx⟩ := y
  subst e hx
  refine ⟨Same.refl _, .str ⟨#[d]⟩, ?_, .str _⟩
  unfold signsD
  rw [List.getElem?_map, Array.getElem?_toList, hc]
  rfl
def rangeD (n : Int) : List D := (List.range n.toNat).map fun (i : Nat) => .int (i : Int)
def pIR (a : PAx) : PNx := fun σd P => a σd fun xs => ∃ n : Int, xs = [cI n] ∧ n ≤ 100000 ∧ -100000 ≤ n ∧ P (rangeD n)
theorem I_rng1 {t : TA} {a : PAx} (ha : LA K s c H0 t a) : LI K s c H0 (iRng1 t) (pIR a) := fun σ σd H R P Rl h k => by
  refine ha σ σd H _ _ Rl h fun xs vs H1 h1 r1 s1 => ?_
  obtain ⟨n, rfl, hn1, hn2, h⟩ := h1
  obtain ⟨v, rfl, hv⟩ := one_of r1
  rw [int_eq hv]
  refine ⟨n, rfl, by omega, by omega, ?_⟩
  have w : Walk (Itr 0 n.toNat) (rangeD n).length (fun _ => True) (YFn fun i => .int (0 + i)) := by
    unfold rangeD
    rw [List.length_map, List.length_range]
    exact walk_range
  refine k (rangeD n) _ _ _ H1 h s1 w trivial (fun A B im h => trivial) fun i A x B hi im hG y => ?_
  obtain ⟨e, hx⟩ := y
  subst e hx
  refine ⟨Same.refl _, .int (i : Int), ?_, by show DR K s B (V.int (0 + (i : Int))) _; rw [Int.zero_add]; exact .int _⟩
  have hi : i < n.toNat := by
    unfold rangeD at hi
    rw [List.length_map, List.length_range] at hi
    exact hi
  unfold rangeD
  rw [List.getElem?_map, List.getElem?_range hi]
  rfl
/-- pairs of place and item -/
def enumD (ds : List D) : List D := ds.zipIdx.map fun p => .tup [.int (p.2 : Int), p.1]
theorem enumD_len (ds : List D) : (enumD ds).length = ds.length := by unfold enumD; rw [List.length_map, List.length_zipIdx]
theorem enumD_at {ds : List D} {i : Nat} {d : D} (h : ds[i]? = some d) : (enumD ds)[i]? = some (.tup [.int (i : Int), d]) := by
  unfold enumD
  rw [List.getElem?_map, List.getElem?_zipIdx, h]
  simp
def pIE (a : PAx) : PNx := fun σd P => a σd fun xs => ∃ ds, xs = [.dat (.lst ds)] ∧ P (enumD ds)
theorem I_enum {t : TA} {a : PAx} (ha : LA K s c H0 t a) : LI K s c H0 (iEnum K t) (pIE a) := fun σ σd H R P Rl h k => by
  refine ha σ σd H _ _ Rl h fun xs vs H1 h1 r1 s1 => ?_
  obtain ⟨ds, rfl, h⟩ := h1
  obtain ⟨v, rfl, hv⟩ := one_of r1
  cases hv with
  | @lst l o us _ hl hd =>
    refine ⟨l, us, rfl, .inl (.inr ⟨o, hl⟩), ?_⟩
    have w : Walk (Ite K l) (enumD ds).length (fun H => H l = some (.frz o (.lst us))) (YPair (fun i => some (.int (i : Nat))) (fun i => us[i]?)) := by
      rw [enumD_len, ← hd.len]
      exact walk_enum.mono (fun H h => .inl (.inr ⟨o, h⟩)) fun i H x H' _ _ y => y
    refine k (enumD ds) _ _ _ H1 h s1 w hl (fun A B im h => frz_im im h) fun i A x B hi im hG y => ?_
    obtain ⟨T, x1, y1, rfl, hT, rfl, e1, e2⟩ := y
    cases e1
    have sm := same_new (o := .tup [V.int ((i : Nat) : Int), y1]) hT
    obtain ⟨d, h3, h4⟩ := (hd.im im).get e2
    exact ⟨sm, _, enumD_at h3, .tup upd_same (.cons (.int _) (.cons (h4.im (Same.im sm)) .nil))⟩
def zipD (ds es : List D) : List D := (ds.zip es).map fun p => .tup [p.1, p.2]
theorem zipD_len (ds es : List D) : (zipD ds es).length = min ds.length es.length := by unfold zipD; rw [List.length_map, List.length_zip]
theorem zipD_at {ds es : List D} {i : Nat} {d e : D} (h : ds[i]? = some d) (h2 : es[i]? = some e) : (zipD ds es)[i]? = some (.tup [d, e]) := by
  unfold zipD
  rw [List.getElem?_map, List.getElem?_zip_eq_some (z := (d, e)) |>.mpr ⟨h, h2⟩]
  rfl
def pIZ (a : PAx) : PNx := fun σd P => a σd fun xs => ∃ ds es, xs = [.dat (.lst ds), .dat (.lst es)] ∧ P (zipD ds es)
theorem two_of {s c : Addr} {H : Hp} {vs : List V} {x y : Cell} (h : CellsR K s c H vs [x, y]) : ∃ v w, vs = [v, w] ∧ CellR K s c H v x ∧ CellR K s c H w y := by
  cases h with
  | cons h r => cases r with
    | cons h2 r2 => cases r2; exact ⟨_, _, rfl, h, h2⟩
theorem I_zip {t : TA} {a : PAx} (ha : LA K s c H0 t a) : LI K s c H0 (iZip K t) (pIZ a) := fun σ σd H R P Rl h k => by
  refine ha σ σd H _ _ Rl h fun xs vs H1 h1 r1 s1 => ?_
  obtain ⟨ds, es, rfl, h⟩ := h1
  obtain ⟨v, u, rfl, hv, hu⟩ := two_of r1
  cases hv with
  | @lst l o us _ hl hd =>
    cases hu with
    | @lst m o2 ws _ hm he =>
      refine ⟨l, m, us, ws, rfl, .inl (.inr ⟨o, hl⟩), .inl (.inr ⟨o2, hm⟩), ?_⟩
      have w : Walk (Itz K l m) (zipD ds es).length (fun H => H l = some (.frz o (.lst us)) ∧ H m = some (.frz o2 (.lst ws))) (YPair (fun i => us[i]?) (fun i => ws[i]?)) := by
        refine (walk_zip (n := (zipD ds es).length) ?_).mono (fun H h => ⟨.inl (.inr ⟨o, h.1⟩), .inl (.inr ⟨o2, h.2⟩)⟩) fun i H x H' _ _ y => y
        rw [zipD_len, ← hd.len, ← he.len]
      refine k (zipD ds es) _ _ _ H1 h s1 w ⟨hl, hm⟩ (fun A B im h => ⟨frz_im im h.1, frz_im im h.2⟩) fun i A x B hi im hG y => ?_
      obtain ⟨T, x1, y1, rfl, hT, rfl, e1, e2⟩ := y
      have sm := same_new (o := .tup [x1, y1]) hT
      obtain ⟨d, h3, h4⟩ := (hd.im im).get e1
      obtain ⟨d2, h5, h6⟩ := (he.im im).get e2
      exact ⟨sm, _, zipD_at h3 h5, .tup upd_same (.cons (h4.im (Same.im sm)) (.cons (h6.im (Same.im sm)) .nil))⟩
/-- for: inv by the turn and the slots -/
def pFor (it : PNx) (g : PGx) (b : PSx) : PSx := fun e σd => it σd fun ds => ∃ inv : Nat → Sd → Prop, inv 0 σd ∧ (∀ i d σd', ds[i]? = some d → inv i σd' → g d σd' fun σd2 => b { e with nx := inv (i + 1), ct := inv (i + 1), bk := e.nx } σd2) ∧ ∀ σd', inv ds.length σd' → e.nx σd'
theorem S_for {ti : TI} {g : TG} {tb : TS} {it : PNx} {pg : PGx} {b : PSx} {ts : List Nat} (hi : LI K s c H0 ti it) (hg : LG K s c H0 g pg ts) (hb : LS K s c H0 tb b) : LS K s c H0 (tFor ti g tb) (pFor it pg b) := fun σ σd H E e R h k => by
  refine hi σ σd H _ _ R h fun ds J G Y H1 h1 s1 w g0 gp hy => ?_
  obtain ⟨inv, i0, turn, fin⟩ := h1
  refine for_it w (fun i σ' H' => ∃ σd', inv i σd' ∧ Rel K s c H0 σ' H' σd' ∧ Im H1 H') ⟨σd, i0, R.stp s1, Im.refl _⟩ (fun i σ' H' _ ⟨_, _, _, im⟩ => gp _ _ im g0) ?_ ?_
  · rintro i x σ' A B hlt ⟨σd', hinv, R', im⟩ y
    obtain ⟨sm, d, hd, hr⟩ := hy i A x B hlt im (gp _ _ im g0) y
    have R2 : Rel K s c H0 σ' B σd' := R'.stp (.same R'.src sm)
    refine hg σ' σd' B x d _ _ R2 hr (turn i d σd' hd hinv) fun σ2 σd2 h2 R3 _ _ => ?_
    refine hb σ2 σd2 B _ _ R3 h2 ⟨fun σ3 σd3 C h3 R4 im2 => ⟨σd3, h3, R4, (im.trans (Same.im sm)).trans im2⟩, k.rt, fun σ3 σd3 C h3 R4 im2 => k.nx σ3 σd3 C h3 R4 ((s1.im R.src).trans ((im.trans (Same.im sm)).trans im2)), fun σ3 σd3 C h3 R4 im2 => ⟨σd3, h3, R4, (im.trans (Same.im sm)).trans im2⟩⟩
  · rintro σ' A ⟨σd', hinv, R', im⟩
    exact k.nx σ' σd' A (fin σd' hinv) R' ((s1.im R.src).trans im)
/-- while: inv with a measure -/
def pWhile (t : PTx) (b : PSx) : PSx := fun e σd => ∃ inv : Nat → Sd → Prop, (∃ m, inv m σd) ∧ ∀ m σd', inv m σd' → t σd' fun x => if x = true then b { e with nx := fun σd2 => ∃ m', m' < m ∧ inv m' σd2, ct := fun σd2 => ∃ m', m' < m ∧ inv m' σd2, bk := e.nx } σd' else e.nx σd'
theorem S_while {tc : TT} {tb : TS} {t : PTx} {b : PSx} (ht : LT K s c H0 tc t) (hb : LS K s c H0 tb b) : LS K s c H0 (tWhile tc tb) (pWhile t b) := fun σ σd H E e R h k => by
  obtain ⟨inv, ⟨m0, i0⟩, turn⟩ := h
  refine ⟨fun m σ' H' => ∃ σd', inv m σd' ∧ Rel K s c H0 σ' H' σd' ∧ Im H H', ⟨m0, σd, i0, R, Im.refl _⟩, ?_⟩
  rintro m σ' A ⟨σd', hinv, R', im⟩
  refine ht σ' σd' A _ _ R' (turn m σd' hinv) fun x B h1 s1 => ?_
  cases x with
  | false => exact k.nx σ' σd' B h1 (R'.stp s1) (im.trans (s1.im R'.src))
  | true =>
    refine ⟨fun σ2 C => ∃ m', m' < m ∧ ∃ σd2, inv m' σd2 ∧ Rel K s c H0 σ2 C σd2 ∧ Im H C, fun σ2 C ⟨m', h1, h2⟩ => ⟨m', h1, h2⟩, ?_⟩
    have im1 := im.trans (s1.im R'.src)
    exact hb σ' σd' B _ _ (R'.stp s1) h1 ⟨fun σ3 σd3 C ⟨m', a1, a2⟩ R4 im2 => ⟨m', a1, σd3, a2, R4, im1.trans im2⟩, k.rt, fun σ3 σd3 C h3 R4 im2 => k.nx σ3 σd3 C h3 R4 (im1.trans im2), fun σ3 σd3 C ⟨m', a1, a2⟩ R4 im2 => ⟨m', a1, σd3, a2, R4, im1.trans im2⟩⟩
end
end My


/-! Q6: comprehensions; a def's promise by its reading over plain values. -/
namespace My
open PySem PySem.Spec PyProof.Rows L2
def wipeD (σd : Sd) : List Nat → Sd
  | [] => σd
  | v :: vs => (wipeD σd vs).set v none
section
variable {K : PySem.W.Frag} {s c : Addr} {H0 H H' : Hp} {σ : L2.St} {σd : Sd}
theorem Rel.wipe1 {i : Nat} (R : Rel K s c H0 σ H σd) : Rel K s c H0 (σ.set i none) H (σd.set i none) := by
  have hl := R.len
  have lo : ∀ j, looseC (((σd.set i none)[j]?).join) = true → i ≠ j ∧ looseC ((σd[j]?).join) = true := fun j h => by
    rw [set_at] at h
    by_cases e : i = j
    · rw [if_pos e] at h
      by_cases q : j < σd.length
      · rw [if_pos q] at h; cases h
      · rw [if_neg q] at h; cases h
    · rw [if_neg e] at h
      exact ⟨e, h⟩
  refine ⟨R.src, R.kp0, by rw [List.length_set, List.length_set, hl], fun j u hj => ?_, fun j a hj h => ?_, fun j k a n h1 h2 hj hk => ?_⟩
  · rw [set_at] at hj ⊢
    by_cases e : i = j
    · rw [if_pos e] at hj ⊢
      rw [← hl]
      by_cases q : j < σ.length
      · rw [if_pos q] at hj ⊢
        cases hj
        exact ⟨_, rfl, trivial⟩
      · rw [if_neg q] at hj
        cases hj
    · rw [if_neg e] at hj ⊢
      exact R.slot j u hj
  · obtain ⟨e, h⟩ := lo j h
    rw [set_at, if_neg e] at hj
    exact R.new j a hj h
  · obtain ⟨e, h1⟩ := lo j h1
    obtain ⟨e2, h2⟩ := lo k h2
    rw [set_at, if_neg e] at hj
    rw [set_at, if_neg e2] at hk
    exact R.apart j k a n h1 h2 hj hk
theorem Rel.wipe (R : Rel K s c H0 σ H σd) : ∀ vs : List Nat, Rel K s c H0 (wipe σ vs) H (wipeD σd vs)
  | [] => R
  | v :: vs => (R.wipe vs).wipe1
theorem wipe_at (σ : L2.St) (j : Nat) : ∀ vs : List Nat, (wipe σ vs)[j]? = if j ∈ vs then (if j < σ.length then some none else none) else σ[j]?
  | [] => by simp [wipe]
  | v :: vs => by
    unfold wipe
    rw [set_at, wipe_length, wipe_at σ j vs]
    by_cases e : v = j
    · rw [if_pos e, if_pos (show j ∈ v :: vs from by rw [e]; exact List.mem_cons_self)]
    · rw [if_neg e]
      by_cases q : j ∈ vs
      · rw [if_pos q, if_pos (List.mem_cons_of_mem _ q)]
      · rw [if_neg q, if_neg (fun z => by rcases List.mem_cons.mp z with z | z; exact e z.symm; exact q z)]
theorem wipe_back {σ σ2 : L2.St} {vs ts : List Nat} (hl : σ2.length = (wipe σ vs).length) (h : ∀ j, j ∉ ts → σ2[j]? = (wipe σ vs)[j]?) (sub : ∀ t ∈ ts, t ∈ vs) : wipe σ2 vs = wipe σ vs := by
  have hl2 : σ2.length = σ.length := by rw [hl, wipe_length]
  apply List.ext_getElem?
  intro j
  rw [wipe_at, wipe_at, hl2]
  by_cases q : j ∈ vs
  · rw [if_pos q, if_pos q]
  · rw [if_neg q, if_neg q, h j (fun z => q (sub j z)), wipe_at, if_neg q]
end
section
variable {K : PySem.W.Frag} {s c : Addr} {H0 : Hp}
/-- [e for g in it if t]: inv by the turn and the list so far -/
def pLc (it : PNx) (g : PGx) (t : PTx) (el : PEx) (vs : List Nat) : PNx := fun σd P => it σd fun ds => ds.length ≤ 100000 ∧ ∃ inv : Nat → List D → Prop, inv 0 [] ∧
  (∀ i d acc, ds[i]? = some d → inv i acc → g d (wipeD σd vs) fun σd2 => t σd2 fun b => if b = true then el σd2 fun x => ∃ y, x = .dat y ∧ inv (i + 1) (acc ++ [y]) else inv (i + 1) acc) ∧ ∀ acc, inv ds.length acc → P acc
theorem L_lc {ti : TI} {g : TG} {tt : TT} {te : TE} {it : PNx} {pg : PGx} {t : PTx} {el : PEx} {vs ts : List Nat} (hi : LI K s c H0 ti it) (hg : LG K s c H0 g pg ts) (ht : LT K s c H0 tt t) (he : LE K s c H0 te el) (sub : ∀ x ∈ ts, x ∈ vs := by decide) :
    LN K s c H0 (tLc ti g tt te vs) (pLc it pg t el vs) := fun σ σd H Q P R h k => by
  refine hi σ σd H _ _ R h fun ds J G Y H1 h1 s1 w g0 gp hy => ?_
  obtain ⟨hlen, inv, i0, turn, fin⟩ := h1
  intro L hL
  have nL := s1.src.ne hL
  have R1 := R.stp s1
  have hL0 : H0 L = none := Kp.none R1.kp0 nL.1 hL
  have hLH : H L = none := Kp.none s1.kp nL.1 hL
  have sm0 := same_new (o := .lst []) hL
  refine lc_it w (fun i A => ∃ acc us, inv i acc ∧ acc.length ≤ i ∧ A L = some (.lst us) ∧ DRs K s A us acc ∧ Rel K s c H0 σ A σd ∧ Im H1 A ∧ Kp s H A) ⟨[], [], i0, Nat.le_refl _, upd_same, .nil, R1.stp (.same s1.src sm0), Same.im sm0, s1.kp.trans (kp_same sm0)⟩
    (fun i A _ ⟨_, _, _, _, _, _, _, im, _⟩ => gp _ _ im g0) ?_ ?_
  · rintro i x A B hlt ⟨acc, us, hinv, hal, hA, hdr, RA, im, kpA⟩ y
    obtain ⟨sm, d, hd, hr⟩ := hy i A x B hlt im (gp _ _ im g0) y
    have RB : Rel K s c H0 σ B σd := RA.stp (.same RA.src sm)
    have imB := im.trans (Same.im sm)
    have hB : B L = some (.lst us) := sm _ _ hA
    refine hg (wipe σ vs) (wipeD σd vs) B x d _ _ (RB.wipe vs) hr (turn i d acc hd hinv) fun σ2 σd2 h2 R2 l2 k2 => ⟨wipe_back l2 k2 sub, ?_⟩
    refine ht σ2 σd2 B _ _ R2 h2 fun b C h3 s3 => ?_
    have hC : C L = some (.lst us) := s3.kp _ _ nL.1 hB
    have imC := imB.trans (s3.im R2.src)
    have RC := RB.stp s3
    have kpC : Kp s H C := (kpA.trans (kp_same sm)).trans s3.kp
    have hdC := hdr.im ((Same.im sm).trans (s3.im R2.src))
    cases b with
    | false =>
      rw [if_neg Bool.false_ne_true] at h3
      exact ⟨acc, us, h3, Nat.le_succ_of_le hal, hC, hdC, RC, imC, kpC⟩
    | true =>
      rw [if_pos rfl] at h3
      refine he σ2 σd2 C _ _ (R2.stp s3) h3 fun z v F h4 r4 s4 => ?_
      obtain ⟨e, rfl, h5⟩ := h4
      have hF : F L = some (.lst us) := s4.kp _ _ nL.1 hC
      have kl : Kp L F (upd F L (.lst (us ++ [v]))) := Kp.self
      have imL := kl.im ⟨_, hF, rfl⟩
      have RF := RC.stp s4
      have hdF := hdC.im (s4.im RC.src)
      refine ⟨us, hF, Nat.lt_of_le_of_lt (show us.length ≤ 100000 from by rw [hdF.len]; omega) (by decide), acc ++ [e], us ++ [v], h5, by rw [List.length_append, List.length_singleton]; omega, upd_same, (hdF.im imL).snoc (DR.im imL r4), ?_, (imC.trans (s4.im RC.src)).trans imL, (kpC.trans s4.kp).via hLH kl⟩
      -- the slots do not see the new list
      refine ⟨RF.src.kp nL.1.symm nL.2.symm kl, RF.kp0.via hL0 kl, RF.len, fun j u hj => ?_, RF.new, RF.apart⟩
      obtain ⟨q, hq, hrq⟩ := RF.slot j u hj
      refine ⟨q, hq, ?_⟩
      cases u with
      | none => cases q with
        | none => trivial
        | some q => exact hrq
      | some u => cases q with
        | none => exact hrq
        | some q =>
          cases q with
          | dat d => exact DR.im imL hrq
          | lm es =>
            obtain ⟨b, ws, rfl, hb, hdd, q1, q2⟩ := hrq
            have nb : b ≠ L := fun z => by
              subst z
              obtain ⟨q', hq', hrq'⟩ := R.slot j _ hj
              rw [hq] at hq'
              cases hq'
              obtain ⟨b', ws', eb', hb', _⟩ := hrq'
              cases eb'
              rw [hLH] at hb'
              cases hb'
            exact ⟨b, ws, rfl, kl _ _ nb hb, hdd.im imL, q1, q2⟩
          | dm es =>
            obtain ⟨b, ws, rfl, hb, hdd, q1, q2⟩ := hrq
            have nb : b ≠ L := fun z => by
              subst z
              obtain ⟨q', hq', hrq'⟩ := R.slot j _ hj
              rw [hq] at hq'
              cases hq'
              obtain ⟨b', ws', eb', hb', _⟩ := hrq'
              cases eb'
              rw [hLH] at hb'
              cases hb'
            exact ⟨b, ws, rfl, kl _ _ nb hb, hdd.im imL, q1, q2⟩
          | tm es =>
            obtain ⟨b, ws, rfl, hb, hdd, q1, q2⟩ := hrq
            have nb : b ≠ L := fun z => by
              subst z
              obtain ⟨q', hq', hrq'⟩ := R.slot j _ hj
              rw [hq] at hq'
              cases hq'
              obtain ⟨b', ws', eb', hb', _⟩ := hrq'
              cases eb'
              rw [hLH] at hb'
              cases hb'
            exact ⟨b, ws, rfl, kl _ _ nb hb, hdd.im imL, q1, q2⟩
          | om b C es =>
            obtain ⟨dx, ws, rfl, hb, hdd, q1, q2⟩ := hrq
            have nb : b ≠ L := fun z => by
              subst z
              obtain ⟨q', hq', hrq'⟩ := R.slot j _ hj
              rw [hq] at hq'
              cases hq'
              obtain ⟨dx', ws', eb', hb', _⟩ := hrq'
              cases eb'
              rw [hLH] at hb'
              cases hb'
            exact ⟨dx, ws, rfl, kl _ _ nb hb, hdd.im imL, q1, q2⟩
          | un => trivial
  · rintro A ⟨acc, us, hinv, hal, hA, hdr, RA, im, kpA⟩
    exact k acc L us A (fin acc hinv) hA hLH hdr ⟨kpA, RA.src⟩
/-! ### a def's promise -/
def startD (N : List Str) (ds : List D) : Sd := ds.map (fun d => some (.dat d)) ++ List.replicate (N.length - ds.length) none
theorem start_slot {s c : Addr} {H : Hp} (n : Nat) : ∀ {vs : List V} {ds : List D}, DRs K s H vs ds → ∀ (i : Nat) (v : Option V), (vs.map some ++ List.replicate n none)[i]? = some v →
    ∃ x, (ds.map (fun d => some (Cell.dat d)) ++ List.replicate n none)[i]? = some x ∧ SlotR K s c H v x ∧ looseC x = false
  | _, _, .nil, i, v, h => by
    have h : (List.replicate n (none : Option V))[i]? = some v := h
    rw [List.getElem?_replicate] at h
    show ∃ x, (List.replicate n (none : Option Cell))[i]? = some x ∧ _
    by_cases q : i < n
    · rw [if_pos q] at h
      cases h
      exact ⟨none, by rw [List.getElem?_replicate, if_pos q], trivial, rfl⟩
    · rw [if_neg q] at h
      cases h
  | _, _, .cons x r, 0, v, h => by
    cases h
    exact ⟨_, rfl, x, rfl⟩
  | _, _, .cons x r, i + 1, v, h => start_slot n r i v h
theorem rel_start {s c : Addr} {H : Hp} {vs : List V} {ds : List D} {N : List Str} (S : Src H s c) (h : DRs K s H vs ds) : Rel K s c H (L2.start N vs) H (startD N ds) := by
  unfold L2.start startD
  rw [h.len]
  have hs := start_slot (K := K) (s := s) (c := c) (H := H) (N.length - ds.length) h
  have nl : ∀ i a, (vs.map some ++ List.replicate (N.length - ds.length) none)[i]? = some (some (V.ref a)) → looseC (((ds.map (fun d => some (Cell.dat d)) ++ List.replicate (N.length - ds.length) none)[i]?).join) = true → False := fun i a e lo => by
    obtain ⟨x, h1, _, h3⟩ := hs i _ e
    rw [h1] at lo
    cases x with
    | none => cases lo
    | some x => rw [show (some (some x)).join = some x from rfl, h3] at lo; cases lo
  refine ⟨S, Kp.refl _ _, by simp [h.len], fun i v e => ?_, fun i a e lo => (nl i a e lo).elim, fun i j a n l1 l2 e1 e2 => nl i a e1 l1⟩
  obtain ⟨x, h1, h2, _⟩ := hs i v e
  exact ⟨x, h1, h2⟩
/-- run: what q asks is what the reading gives -/
theorem run_up {t : TS} {p : PSx} {N : List Str} {q : QP} {vs : List V} {H : Hp} {Q : VK} {E : XK} (hl : ∀ s c H0, LS K s c H0 t p) (hq : ∀ ds P, q ds P → p { nx := fun _ => P .non, rt := P } (startD N ds)) (h : up K q vs H Q E) :
    t { nx := fun _ H' => Q .non H', rt := Q } (L2.start N vs) H := by
  obtain ⟨s, c, ds, S, hd, h⟩ := h
  refine hl s c H (L2.start N vs) (startD N ds) H _ _ (rel_start S hd) (hq ds _ h) ⟨fun σ σd H' h1 R _ => ?_, fun d v H' h1 r1 S1 k1 => ?_, fun _ _ _ h1 => h1.elim, fun _ _ _ h1 => h1.elim⟩
  · exact h1 .non H' .non ⟨R.kp0, R.src⟩
  · exact h1 v H' r1 ⟨k1, S1⟩
end
end My


/-! Q7: the law's top, two stores at once, dicts, instances, the draws. -/
namespace My
open PySem PySem.Spec PyProof.Rows L2
section
variable {K : PySem.W.Frag} {s c : Addr} {H0 : Hp}
/-! ### a, b = e, f -/
def pPar (i j : Nat) (a : PAx) : PSx := fun e σd => a σd fun xs => ∃ d d2, datsC xs = some [d, d2] ∧ e.nx ((σd.set i (some (.dat d))).set j (some (.dat d2)))
theorem S_par {s c : Addr} {H0 : Hp} {t : TA} {a : PAx} (i j : Nat) (ha : LA K s c H0 t a) : LS K s c H0 (tPar i j t) (pPar i j a) := fun σ σd H E e R h k => by
  refine ha σ σd H _ _ R h fun xs vs H1 h1 r1 s1 => ?_
  obtain ⟨d, d2, ed, h⟩ := h1
  have hd := datsC_at r1 ed
  cases hd with
  | cons x r => cases r with
    | cons y r2 =>
      cases r2
      exact ⟨_, _, rfl, k.nx _ _ H1 h (((R.stp s1).setD x).setD y) (s1.im R.src)⟩
/-! ### the law: its first statement makes the source -/
theorem rel_top {s c a : Addr} {H : Hp} {n j : Nat} (S : Src H s c) (hj : j ≠ 0) : Rel K s c H (([some (V.ref a)] ++ List.replicate n none).set j (some (.ref s))) H (([some Cell.un] ++ List.replicate n none).set j (some (.dat .src))) := by
  have base : Rel K s c H ([some (V.ref a)] ++ List.replicate n none) H ([some Cell.un] ++ List.replicate n none) := by
    have nl : ∀ i : Nat, looseC ((([some Cell.un] ++ List.replicate n none : Sd)[i]?).join) = true → False := fun i lo => by
      cases i with
      | zero => cases lo
      | succ i =>
        rw [show ([some Cell.un] ++ List.replicate n none : Sd)[i + 1]? = (List.replicate n (none : Option Cell))[i]? from rfl, List.getElem?_replicate] at lo
        by_cases q : i < n
        · rw [if_pos q] at lo; cases lo
        · rw [if_neg q] at lo; cases lo
    refine ⟨S, Kp.refl _ _, by simp, fun i v e => ?_, fun i b e lo => (nl i lo).elim, fun i k b m lo _ _ _ => nl i lo⟩
    cases i with
    | zero =>
      cases e
      exact ⟨_, rfl, trivial⟩
    | succ i =>
      have e : (List.replicate n (none : Option V))[i]? = some v := e
      rw [List.getElem?_replicate] at e
      by_cases q : i < n
      · rw [if_pos q] at e
        cases e
        refine ⟨none, ?_, trivial⟩
        show (List.replicate n (none : Option Cell))[i]? = some none
        rw [List.getElem?_replicate, if_pos q]
      · rw [if_neg q] at e
        cases e
  exact base.setD .src
def sp_top (K : PySem.W.Frag) : Sp := fun vs H Q _ => ∃ (a : Addr) (ns : List Int), vs = [.ref a] ∧ SqL K H a (ns.map V.int) ∧ ∀ H', Q (.bl true) H'
theorem len_top {vs : List V} {H : Hp} {Q : VK} {E : XK} (h : sp_top K vs H Q E) : vs.length = 1 := by
  obtain ⟨_, _, rfl, _⟩ := h
  rfl
theorem run_top {t : TS} {p : PSx} {N : List Str} {j n : Nat} {vs : List V} {H : Hp} {Q : VK} {E : XK} (hl : ∀ s c H0, LS K s c H0 t p) (hN : N.length - 1 = n) (hj : j ≠ 0)
    (hp : p { nx := fun _ => False, rt := fun d => d = .bl true } (([some Cell.un] ++ List.replicate n none).set j (some (.dat .src)))) (h : sp_top K vs H Q E) :
    tSeq (tAsg (tCall (sp_law_source K) [] E0 (tCons (tVar 0) tNil)) (gName j)) t { nx := fun _ H' => Q .non H', rt := Q } (L2.start N vs) H := by
  obtain ⟨a, ns, rfl, ha, k⟩ := h
  refine ⟨_, rfl, a, ns, rfl, ha, fun s c H1 _ _ _ S1 => ?_⟩
  have R := rel_top (K := K) (a := a) (n := n) S1 hj
  unfold L2.start
  rw [show N.length - [V.ref a].length = n from hN]
  refine hl s c H1 _ _ H1 _ _ R hp ⟨fun _ _ _ z => z.elim, fun d v H' hd r _ _ => ?_, fun _ _ _ z => z.elim, fun _ _ _ z => z.elim⟩
  subst hd
  cases r
  exact k H'
/-! ### the draws -/
def q_law_take : QP := fun ds P => ∃ m : Int, ds = [.src, .int m] ∧ 0 < m ∧ m.natAbs.log2 < 9000 ∧ ∀ d : Int, 0 ≤ d → d < m → P (.int d)
theorem m_law_take : Mono q_law_take := fun _ _ _ m ⟨x, a, b, c, k⟩ => ⟨x, a, b, c, fun d h1 h2 => m _ (k d h1 h2)⟩
theorem up_take {vs : List V} {H : Hp} {Q : VK} {E : XK} (h : up K q_law_take vs H Q E) : sp_law_take K vs H Q E := by
  obtain ⟨s, c, ds, S, hd, m, rfl, h1, h2, k⟩ := h
  cases hd with
  | cons x r =>
    cases x
    cases r with
    | cons y r2 =>
      cases y
      cases r2
      exact ⟨s, c, m, rfl, h1, h2, S, fun d H' a b S' kp => k d a b _ H' (.int d) ⟨kp, S'⟩⟩
/-! ### instances -/
theorem DRf.look {s : Addr} {H : Hp} {f : Str} {d : D} : ∀ {fs : List (Str × V)} {fds : List (Str × D)}, DRf K s H fs fds → fds.lookup f = some d → ∃ v, fs.lookup f = some v ∧ DR K s H v d
  | _, _, .nil, h => by cases h
  | _, _, .cons (k := k) x r, h => by
    unfold List.lookup at h ⊢
    cases q : f == k with
    | true =>
      rw [q] at h
      cases h
      exact ⟨_, rfl, x⟩
    | false =>
      rw [q] at h
      exact DRf.look r h
theorem DRf.look_none {s : Addr} {H : Hp} {f : Str} : ∀ {fs : List (Str × V)} {fds : List (Str × D)}, DRf K s H fs fds → fds.lookup f = none → fs.lookup f = none
  | _, _, .nil, h => rfl
  | _, _, .cons (k := k) x r, h => by
    unfold List.lookup at h ⊢
    cases q : f == k with
    | true =>
      rw [q] at h
      cases h
    | false =>
      rw [q] at h
      exact DRf.look_none r h
def pFld (C : Addr) (f : Str) (a : PEx) : PEx := fun σd P => a σd fun x => ∃ fs d, (x = .dat (.ins C fs) ∨ ∃ o, x = .om o C fs) ∧ fs.lookup f = some d ∧ P (.dat d)
/-- the instance at hand, locked or not -/
theorem ins_at {s c C : Addr} {H : Hp} {v : V} {x : Cell} {fs : List (Str × D)} (h : CellR K s c H v x) (e : x = .dat (.ins C fs) ∨ ∃ o, x = .om o C fs) : ∃ a dx vs, v = .ref a ∧ Rd H a (.ins C dx vs) ∧ DRf K s H vs fs := by
  rcases e with rfl | ⟨o, rfl⟩
  · cases h with
    | ins h r => exact ⟨_, _, _, rfl, .inr ⟨_, h⟩, r⟩
  · obtain ⟨dx, vs, rfl, ha, hd, _⟩ := h
    exact ⟨_, dx, vs, rfl, .inl ha, hd⟩
theorem L_fld {C : Addr} {f : Str} {t : TE} {a : PEx} (hc : Cls K C) (hn : NoAttr K C f) (ha : LE K s c H0 t a) : LE K s c H0 (tFldR K t f) (pFld C f a) := fun σ σd H Q P R h k => by
  refine ha σ σd H _ _ R h fun x v H1 h1 r1 s1 => ?_
  obtain ⟨fs, d, hx, e, h⟩ := h1
  obtain ⟨b, dx, vs, rfl, hi, hf⟩ := ins_at r1 hx
  obtain ⟨u, hu, hr⟩ := hf.look e
  exact ⟨_, _, _, _, u, rfl, hi, hc, hn, hu, k _ _ H1 h hr s1⟩
def pMeth (C : Addr) (m : Str) (q : QP) (a : PEx) (b : PAx) : PEx := fun σd P => a σd fun x => ∃ fs, x = .dat (.ins C fs) ∧ fs.lookup m = none ∧ b σd fun xs => ∃ ds, datsC xs = some ds ∧ q (.ins C fs :: ds) fun d => P (.dat d)
theorem L_meth {C : Addr} {m : Str} {q : QP} {ta : TE} {t : TA} {a : PEx} {b : PAx} (mo : Mono q) (ha : LE K s c H0 ta a) (hb : LA K s c H0 t b) : LE K s c H0 (tMethR C m (up K q) ta t) (pMeth C m q a b) := fun σ σd H Q P R h k => by
  refine ha σ σd H _ _ R h fun x v H1 h1 r1 s1 => ?_
  obtain ⟨fs, rfl, e, h1⟩ := h1
  cases id r1 with
  | ins hi hf =>
    refine ⟨_, _, _, rfl, .inr ⟨_, hi⟩, hf.look_none e, ?_⟩
    refine hb σ σd H1 _ _ (R.stp s1) h1 fun xs vs H2 h2 r2 s2 => ?_
    obtain ⟨ds, ed, h⟩ := h2
    exact ⟨s, c, .ins C fs :: ds, s2.src, .cons (CellR.stp (x := .dat (.ins C fs)) s1.src s2 r1) (datsC_at r2 ed), mo _ _ _ (fun d hd v H3 r3 s3 => k (.dat d) _ H3 hd r3 ((s1.trans s2).trans s3)) h⟩
def pProp (C : Addr) (q : QP) (a : PEx) : PEx := fun σd P => a σd fun x => ∃ fs, x = .dat (.ins C fs) ∧ q [.ins C fs] fun d => P (.dat d)
theorem L_prop {C : Addr} {q : QP} {ta : TE} {a : PEx} (mo : Mono q) (ha : LE K s c H0 ta a) : LE K s c H0 (tPropR C (up K q) ta) (pProp C q a) := fun σ σd H Q P R h k => by
  refine ha σ σd H _ _ R h fun x v H1 h1 r1 s1 => ?_
  obtain ⟨fs, rfl, h⟩ := h1
  cases id r1 with
  | ins hi hf =>
    exact ⟨_, _, _, rfl, .inr ⟨_, hi⟩, s, c, [.ins C fs], s1.src, .cons r1 .nil, mo _ _ _ (fun d hd v H3 r3 s3 => k (.dat d) _ H3 hd r3 (s1.trans s3)) h⟩
/-! ### __init__ -/
def putD (f : Str) (d : D) : List (Str × D) → List (Str × D)
  | [] => [(f, d)]
  | (g, e) :: r => if g = f then (g, d) :: r else (g, e) :: putD f d r
theorem DRf.put {s : Addr} {H : Hp} {f : Str} {v : V} {d : D} (x : DR K s H v d) : ∀ {fs : List (Str × V)} {fds : List (Str × D)}, DRf K s H fs fds → DRf K s H (putF f v fs) (putD f d fds)
  | _, _, .nil => .cons x .nil
  | _, _, .cons (k := k) y r => by
    unfold putF putD
    by_cases e : k = f
    · rw [if_pos e, if_pos e]
      exact .cons x r
    · rw [if_neg e, if_neg e]
      exact .cons y (DRf.put x r)
theorem DRf.len {s : Addr} {H : Hp} : ∀ {fs : List (Str × V)} {fds : List (Str × D)}, DRf K s H fs fds → fs.length = fds.length
  | _, _, .nil => rfl
  | _, _, .cons _ r => by rw [List.length_cons, List.length_cons, DRf.len r]
/-- self.f = e -/
def pSelf (C : Addr) (i : Nat) (f : Str) (a : PEx) : PSx := fun e σd => a σd fun x => ∃ d o fs, x = .dat d ∧ σd[i]? = some (some (.om o C fs)) ∧ fs.length ≤ 100 ∧ e.nx (σd.set i (some (.om o C (putD f d fs))))
theorem S_self {s c : Addr} {H0 : Hp} {C : Addr} {f : Str} {t : TE} {a : PEx} (i : Nat) (hc : Cls K C) (hn : NoAttr K C f) (ha : LE K s c H0 t a) :
    LS K s c H0 (sFld K (tVar i) t f) (pSelf C i f a) := fun σ σd H E e R h k => by
  refine ha σ σd H _ _ R h fun x v H1 h1 r1 s1 => ?_
  obtain ⟨d, o, fs, rfl, hi, hz, h⟩ := h1
  have R1 := R.stp s1
  obtain ⟨w, hw, hr⟩ := R1.at hi
  obtain ⟨dx, us, rfl, ho, hf, n1, n2⟩ := id hr
  have kl : Kp o H1 (upd H1 o (.ins C dx (putF f v us))) := Kp.self
  have im := kl.im ⟨_, ho, rfl⟩
  refine ⟨_, hw, o, C, dx, us, rfl, ho, hc, hn, by rw [hf.len]; omega, ?_⟩
  exact k.nx σ _ _ h (R1.write hw hi rfl ⟨dx, _, rfl, upd_same, (hf.im im).put (DR.im im r1), n1, n2⟩) ((s1.im R.src).trans im)
/-- what __init__ does: the fields it leaves -/
abbrev QI := List D → (List (Str × D) → Prop) → Prop
def MonoI (q : QI) : Prop := ∀ ds P P', (∀ fs, P fs → P' fs) → q ds P → q ds P'
def upI (K : PySem.W.Frag) (C : Addr) (q : QI) : Sp := fun vs H Q _ => ∃ (s c : Addr) (ds : List D) (Hb : Hp) (x dx : Addr) (us : List V), vs = .ref x :: us ∧ H = upd (upd Hb dx (.own x)) x (.ins C dx []) ∧ Hb x = none ∧ Hb dx = none ∧ dx ≠ x ∧ Src Hb s c ∧ DRs K s Hb us ds ∧
  q ds fun fds => ∀ H' dx' fs, H' x = some (.ins C dx' fs) → DRf K s H' fs fds → Stp s c Hb H' → Q .non H'
theorem L_make {C : Addr} {q : QI} {t : TA} {a : PAx} (mo : MonoI q) (ha : LA K s c H0 t a) : LE K s c H0 (tFrz (tMake C (upI K C q) [] E0 t)) (fun σd P => a σd fun xs => ∃ ds, datsC xs = some ds ∧ q ds fun fs => P (.dat (.ins C fs))) := fun σ σd H Q P R h k => by
  refine ha σ σd H _ _ R h fun xs vs H1 h1 r1 s1 => ?_
  obtain ⟨ds, e, h⟩ := h1
  intro x dx hx hdx ne
  rw [List.append_nil]
  refine ⟨s, c, ds, H1, x, dx, vs, rfl, rfl, hx, hdx, ne, s1.src, datsC_at r1 e, mo _ _ _ (fun fds hfd H' dx' fs hx' hf st => ⟨rfl, x, _, rfl, hx', trivial, fun o => ?_⟩) h⟩
  have nn := s1.src.ne hx
  have kl : Kp x H' (upd H' x (.frz o (.ins C dx' fs))) := Kp.self
  have im := kl.im ⟨_, hx', rfl⟩
  exact k _ _ _ hfd (.ins upd_same (hf.im im)) (s1.trans ⟨st.kp.via hx kl, st.src.kp nn.1.symm nn.2.symm kl⟩)
theorem rel_startI {s c C x dx : Addr} {Hb : Hp} {us : List V} {ds : List D} {N : List Str} (S : Src Hb s c) (h : DRs K s Hb us ds) (hx : Hb x = none) (hdx : Hb dx = none) (ne : dx ≠ x) :
    Rel K s c Hb (L2.start N (.ref x :: us)) (upd (upd Hb dx (.own x)) x (.ins C dx [])) (some (.om x C []) :: (startD (N.drop 1) ds)) := by
  have nx := S.ne hx
  have sm : Same Hb (upd (upd Hb dx (.own x)) x (.ins C dx [])) := (same_new hdx).trans (same_new (by rw [upd_ne ne.symm]; exact hx))
  have S' := S.same sm
  have R0 := (rel_start (K := K) (N := N.drop 1) S h).stp (.same S sm)
  unfold L2.start at R0 ⊢
  have hN : N.length - (V.ref x :: us).length = (N.drop 1).length - us.length := by
    rw [List.length_cons, List.length_drop]
    omega
  rw [hN]
  have nl : ∀ i : Nat, looseC (((startD (N.drop 1) ds)[i]?).join) = true → False := fun i lo => by
    unfold startD at lo
    have hs := start_slot (K := K) (s := s) (c := c) (H := Hb) ((N.drop 1).length - ds.length) h
    have hlen : (us.map some ++ List.replicate ((N.drop 1).length - ds.length) none).length = (ds.map (fun d => some (Cell.dat d)) ++ List.replicate ((N.drop 1).length - ds.length) none).length := by simp [h.len]
    by_cases q : i < (us.map some ++ List.replicate ((N.drop 1).length - ds.length) (none : Option V)).length
    · obtain ⟨y, h1, _, h3⟩ := hs i _ (List.getElem?_eq_getElem q)
      rw [h1] at lo
      cases y with
      | none => cases lo
      | some y => rw [show (some (some y)).join = some y from rfl, h3] at lo; cases lo
    · rw [List.getElem?_eq_none (by rw [← hlen]; exact Nat.le_of_not_lt q)] at lo
      cases lo
  refine ⟨S', kp_same sm, ?_, fun i v hi => ?_, fun i a hi lo => ?_, fun i j a nij l1 l2 hi hj => ?_⟩
  · have := R0.len
    simp only [List.map_cons, List.cons_append, List.length_cons]
    rw [this]
  · cases i with
    | zero =>
      cases hi
      exact ⟨_, rfl, dx, [], rfl, upd_same, .nil, nx⟩
    | succ i => exact R0.slot i v hi
  · cases i with
    | zero => cases hi; exact hx
    | succ i => exact (nl i lo).elim
  · cases i with
    | zero => cases j with
      | zero => exact nij rfl
      | succ j => exact nl j l2
    | succ i => exact nl i l1
theorem run_upI {t : TS} {p : PSx} {N : List Str} {C : Addr} {q : QI} {vs : List V} {H : Hp} {Q : VK} {E : XK} (hl : ∀ s c H0, LS K s c H0 t p) (hq : ∀ x ds P, q ds P → p { nx := fun σd => ∃ fs r, σd = some (.om x C fs) :: r ∧ P fs, rt := fun _ => False } (some (.om x C []) :: startD (N.drop 1) ds)) (h : upI K C q vs H Q E) :
    t { nx := fun _ H' => Q .non H', rt := Q } (L2.start N vs) H := by
  obtain ⟨s, c, ds, Hb, x, dx, us, rfl, rfl, hx, hdx, ne, S, hd, h⟩ := h
  refine hl s c Hb _ _ _ _ _ (rel_startI (N := N) S hd hx hdx ne) (hq x ds _ h) ⟨fun σ σd H' h1 R _ => ?_, fun d v H' h1 => h1.elim, fun _ _ _ h1 => h1.elim, fun _ _ _ h1 => h1.elim⟩
  obtain ⟨fs, r, rfl, h2⟩ := h1
  obtain ⟨w, hw, dx', us', ew, hu, hf, _⟩ := R.at (i := 0) (x := .om x C fs) rfl
  cases ew
  exact h2 H' dx' us' hu hf ⟨R.kp0, R.src⟩
end
end My


/-! Q8: dicts over plain values. -/
namespace My
open PySem PySem.Spec PyProof.Rows L2
/-! ### pairs of key and value -/
section
variable {κ α : Type} [DecidableEq κ]
def valD (kvs : List (κ × α)) (k : κ) : Option α := (kvs.find? fun kv => decide (kv.1 = k)).map (·.2)
def putG (kvs : List (κ × α)) (k : κ) (v : α) : List (κ × α) :=
  if (kvs.any fun kv => decide (kv.1 = k)) = true then kvs.map (fun kv => if kv.1 = k then (kv.1, v) else kv) else kvs ++ [(k, v)]
theorem valD_cons {p : κ × α} {r : List (κ × α)} {k : κ} : valD (p :: r) k = if p.1 = k then some p.2 else valD r k := by
  unfold valD
  rw [List.find?_cons]
  by_cases e : p.1 = k
  · rw [decide_eq_true e, if_pos e]
    rfl
  · rw [decide_eq_false e, if_neg e]
end
def keyC : Cell → Option Key
  | .dat (.int i) => some (.inl i)
  | .dat (.str z) => some (.inr z)
  | _ => none
def keysD : List D → Option (List Key)
  | [] => some []
  | .int i :: r => (keysD r).map (.inl i :: ·)
  | .str z :: r => (keysD r).map (.inr z :: ·)
  | _ :: _ => none
def keyT : Cell → Option (List Key)
  | .dat (.tup ds) => keysD ds
  | _ => none
def keyD : Key → D
  | .inl i => .int i
  | .inr z => .str z
def dicK : Cell → Option (List (Key × D))
  | .dat (.dic kds) => some kds
  | .dm kds => some kds
  | _ => none
def dicT : Cell → Option (List (List Key × D))
  | .dat (.dit kds) => some kds
  | .tm kds => some kds
  | _ => none
section
variable {K : PySem.W.Frag} {s c : Addr} {H H' : Hp}
theorem keyD_dr (k : Key) : DR K s H (kV k) (keyD k) := by
  cases k with
  | inl i => exact .int i
  | inr z => exact .str z
theorem key_eq {v : V} {x : Cell} {k : Key} (h : CellR K s c H v x) (e : keyC x = some k) : v = kV k := by
  cases x with
  | dat d =>
    cases d <;> first
      | (cases e; cases h; rfl)
      | cases e
  | lm ds => cases e
  | dm ds => cases e
  | tm ds => cases e
  | om x C ds => cases e
  | un => cases e
theorem keys_eq : ∀ {vs : List V} {ds : List D} {ks : List Key}, DRs K s H vs ds → keysD ds = some ks → vs = ks.map kV
  | _, _, ks, .nil, e => by cases e; rfl
  | _, _, ks, .cons (d := d) x r, e => by
    cases d <;> first
      | (obtain ⟨ks', h1, rfl⟩ := Option.map_eq_some_iff.mp e
         cases x
         rw [keys_eq r h1]
         rfl)
      | cases e
theorem keyT_at {v : V} {x : Cell} {ks : List Key} (h : CellR K s c H v x) (e : keyT x = some ks) : ∃ b, v = .ref b ∧ H b = some (.tup (ks.map kV)) := by
  cases x with
  | dat d =>
    cases d <;> first
      | (cases h with | tup h r => rw [keys_eq r e] at h; exact ⟨_, rfl, h⟩)
      | cases e
  | lm ds => cases e
  | dm ds => cases e
  | tm ds => cases e
  | om x C ds => cases e
  | un => cases e
theorem dicK_at {v : V} {x : Cell} {kds : List (Key × D)} (h : CellR K s c H v x) (e : dicK x = some kds) : ∃ a kvs, v = .ref a ∧ Rd H a (.dK kvs) ∧ DRk K s H kvs kds := by
  cases x with
  | dat d =>
    cases d <;> first
      | (cases e; cases h with | dic h r => exact ⟨_, _, rfl, .inr ⟨_, h⟩, r⟩)
      | cases e
  | dm ds =>
    cases e
    obtain ⟨a, vs, rfl, ha, hd, _⟩ := h
    exact ⟨a, vs, rfl, .inl ha, hd⟩
  | lm ds => cases e
  | tm ds => cases e
  | om x C ds => cases e
  | un => cases e
theorem dicT_at {v : V} {x : Cell} {kds : List (List Key × D)} (h : CellR K s c H v x) (e : dicT x = some kds) : ∃ a kvs, v = .ref a ∧ Rd H a (.dT kvs) ∧ DRt K s H kvs kds := by
  cases x with
  | dat d =>
    cases d <;> first
      | (cases e; cases h with | dit h r => exact ⟨_, _, rfl, .inr ⟨_, h⟩, r⟩)
      | cases e
  | tm ds =>
    cases e
    obtain ⟨a, vs, rfl, ha, hd, _⟩ := h
    exact ⟨a, vs, rfl, .inl ha, hd⟩
  | lm ds => cases e
  | dm ds => cases e
  | om x C ds => cases e
  | un => cases e
/-- what is found at a key -/
def OptR (K : PySem.W.Frag) (s : Addr) (H : Hp) : Option V → Option D → Prop
  | some v, some d => DR K s H v d
  | none, none => True
  | _, _ => False
theorem DRk.val (k : Key) : ∀ {kvs : List (Key × V)} {kds : List (Key × D)}, DRk K s H kvs kds → OptR K s H (valV kvs k) (valD kds k)
  | _, _, .nil => trivial
  | _, _, .cons (k := j) (v := v) (vs := vs) x r => by
    rw [valD_cons]
    by_cases e : j = k
    · rw [if_pos e, valV_pos (p := (j, v)) e]
      exact x
    · rw [if_neg e, valV_neg (p := (j, v)) e]
      exact DRk.val k r
theorem DRt.val (k : List Key) : ∀ {kvs : List (List Key × V)} {kds : List (List Key × D)}, DRt K s H kvs kds → OptR K s H (valV kvs k) (valD kds k)
  | _, _, .nil => trivial
  | _, _, .cons (k := j) (v := v) (vs := vs) x r => by
    rw [valD_cons]
    by_cases e : j = k
    · rw [if_pos e, valV_pos (p := (j, v)) e]
      exact x
    · rw [if_neg e, valV_neg (p := (j, v)) e]
      exact DRt.val k r
theorem DRk.any (k : Key) : ∀ {kvs : List (Key × V)} {kds : List (Key × D)}, DRk K s H kvs kds → (kvs.any fun kv => decide (kv.1 = k)) = kds.any fun kv => decide (kv.1 = k)
  | _, _, .nil => rfl
  | _, _, .cons x r => by rw [List.any_cons, List.any_cons, DRk.any k r]
theorem DRt.any (k : List Key) : ∀ {kvs : List (List Key × V)} {kds : List (List Key × D)}, DRt K s H kvs kds → (kvs.any fun kv => decide (kv.1 = k)) = kds.any fun kv => decide (kv.1 = k)
  | _, _, .nil => rfl
  | _, _, .cons x r => by rw [List.any_cons, List.any_cons, DRt.any k r]
theorem DRk.repl (k : Key) {v : V} {d : D} (y : DR K s H v d) : ∀ {kvs : List (Key × V)} {kds : List (Key × D)}, DRk K s H kvs kds → DRk K s H (kvs.map fun kv => if kv.1 = k then (kv.1, v) else kv) (kds.map fun kv => if kv.1 = k then (kv.1, d) else kv)
  | _, _, .nil => .nil
  | _, _, .cons (k := j) x r => by
    rw [List.map_cons, List.map_cons]
    by_cases e : j = k
    · rw [if_pos e, if_pos e]
      exact .cons y (DRk.repl k y r)
    · rw [if_neg e, if_neg e]
      exact .cons x (DRk.repl k y r)
theorem DRt.repl (k : List Key) {v : V} {d : D} (y : DR K s H v d) : ∀ {kvs : List (List Key × V)} {kds : List (List Key × D)}, DRt K s H kvs kds → DRt K s H (kvs.map fun kv => if kv.1 = k then (kv.1, v) else kv) (kds.map fun kv => if kv.1 = k then (kv.1, d) else kv)
  | _, _, .nil => .nil
  | _, _, .cons (k := j) x r => by
    rw [List.map_cons, List.map_cons]
    by_cases e : j = k
    · rw [if_pos e, if_pos e]
      exact .cons y (DRt.repl k y r)
    · rw [if_neg e, if_neg e]
      exact .cons x (DRt.repl k y r)
theorem DRk.snoc (k : Key) {v : V} {d : D} (y : DR K s H v d) : ∀ {kvs : List (Key × V)} {kds : List (Key × D)}, DRk K s H kvs kds → DRk K s H (kvs ++ [(k, v)]) (kds ++ [(k, d)])
  | _, _, .nil => .cons y .nil
  | _, _, .cons x r => .cons x (DRk.snoc k y r)
theorem DRt.snoc (k : List Key) {v : V} {d : D} (y : DR K s H v d) : ∀ {kvs : List (List Key × V)} {kds : List (List Key × D)}, DRt K s H kvs kds → DRt K s H (kvs ++ [(k, v)]) (kds ++ [(k, d)])
  | _, _, .nil => .cons y .nil
  | _, _, .cons x r => .cons x (DRt.snoc k y r)
theorem DRk.put (k : Key) {v : V} {d : D} (y : DR K s H v d) {kvs : List (Key × V)} {kds : List (Key × D)} (h : DRk K s H kvs kds) : DRk K s H (putK kvs k v) (putG kds k d) := by
  unfold putK putG
  rw [h.any k]
  by_cases e : (kds.any fun kv => decide (kv.1 = k)) = true
  · rw [if_pos e, if_pos e]
    exact h.repl k y
  · rw [if_neg e, if_neg e]
    exact h.snoc k y
theorem DRt.put (k : List Key) {v : V} {d : D} (y : DR K s H v d) {kvs : List (List Key × V)} {kds : List (List Key × D)} (h : DRt K s H kvs kds) : DRt K s H (putK kvs k v) (putG kds k d) := by
  unfold putK putG
  rw [h.any k]
  by_cases e : (kds.any fun kv => decide (kv.1 = k)) = true
  · rw [if_pos e, if_pos e]
    exact h.repl k y
  · rw [if_neg e, if_neg e]
    exact h.snoc k y
theorem DRk.len : ∀ {kvs : List (Key × V)} {kds : List (Key × D)}, DRk K s H kvs kds → kvs.length = kds.length
  | _, _, .nil => rfl
  | _, _, .cons _ r => by rw [List.length_cons, List.length_cons, DRk.len r]
theorem DRt.len : ∀ {kvs : List (List Key × V)} {kds : List (List Key × D)}, DRt K s H kvs kds → kvs.length = kds.length
  | _, _, .nil => rfl
  | _, _, .cons _ r => by rw [List.length_cons, List.length_cons, DRt.len r]
/-- the look -/
def getC (x y : Cell) (R : Option D → Prop) : Prop := (∃ kds k, dicK x = some kds ∧ keyC y = some k ∧ R (valD kds k)) ∨ ∃ kds k, dicT x = some kds ∧ keyT y = some k ∧ R (valD kds k)
theorem getC_at {v w : V} {x y : Cell} {R : Option D → Prop} (hx : CellR K s c H v x) (hy : CellR K s c H w y) (h : getC x y R) : ∃ a o od, v = .ref a ∧ DGet H a w o ∧ OptR K s H o od ∧ R od := by
  rcases h with ⟨kds, k, e1, e2, h⟩ | ⟨kds, k, e1, e2, h⟩
  · obtain ⟨a, kvs, rfl, ha, hd⟩ := dicK_at hx e1
    exact ⟨a, _, _, rfl, .inl ⟨kvs, k, ha, key_eq hy e2, rfl⟩, hd.val k, h⟩
  · obtain ⟨a, kvs, rfl, ha, hd⟩ := dicT_at hx e1
    obtain ⟨b, rfl, hb⟩ := keyT_at hy e2
    exact ⟨a, _, _, rfl, .inr ⟨kvs, k, b, ha, rfl, hb, rfl⟩, hd.val k, h⟩
end
section
variable {K : PySem.W.Frag} {s c : Addr} {H0 : Hp}
def pDGet (a b : PEx) : PEx := fun σd P => a σd fun x => b σd fun y => getC x y fun o => ∃ d, o = some d ∧ P (.dat d)
theorem L_dget {ta tb : TE} {a b : PEx} (ha : LE K s c H0 ta a) (hb : LE K s c H0 tb b) : LE K s c H0 (tDGet ta tb) (pDGet a b) := fun σ σd H Q P R h k => by
  refine ha σ σd H _ _ R h fun x v H1 h1 r1 s1 => ?_
  refine hb σ σd H1 _ _ (R.stp s1) h1 fun y w H2 h2 r2 s2 => ?_
  obtain ⟨p, o, od, rfl, hg, ho, d, rfl, hp⟩ := getC_at (r1.stp s1.src s2) r2 h2
  cases o with
  | none => exact ho.elim
  | some u => exact ⟨p, u, rfl, hg, k _ _ H2 hp ho (s1.trans s2)⟩
def pDIn (g : Bool → Bool) (b a : PEx) : PEx := fun σd P => b σd fun y => a σd fun x => getC x y fun o => P (cB (g o.isSome))
theorem L_din {ta tb : TE} {a b : PEx} (hb : LE K s c H0 tb b) (ha : LE K s c H0 ta a) : LE K s c H0 (tDIn tb ta) (pDIn id b a) := fun σ σd H Q P R h k => by
  refine hb σ σd H _ _ R h fun y w H1 h1 r1 s1 => ?_
  refine ha σ σd H1 _ _ (R.stp s1) h1 fun x v H2 h2 r2 s2 => ?_
  obtain ⟨p, o, od, rfl, hg, ho, hp⟩ := getC_at r2 (r1.stp s1.src s2) h2
  refine ⟨p, o, rfl, hg, ?_⟩
  have e : o.isSome = od.isSome := by cases o <;> cases od <;> first | rfl | exact ho.elim
  rw [e]
  exact k _ _ H2 hp (.bl _) (s1.trans s2)
theorem L_dnotin {ta tb : TE} {a b : PEx} (hb : LE K s c H0 tb b) (ha : LE K s c H0 ta a) : LE K s c H0 (tDNotIn tb ta) (pDIn not b a) := fun σ σd H Q P R h k => by
  refine hb σ σd H _ _ R h fun y w H1 h1 r1 s1 => ?_
  refine ha σ σd H1 _ _ (R.stp s1) h1 fun x v H2 h2 r2 s2 => ?_
  obtain ⟨p, o, od, rfl, hg, ho, hp⟩ := getC_at r2 (r1.stp s1.src s2) h2
  refine ⟨p, o, rfl, hg, ?_⟩
  have e : o.isSome = od.isSome := by cases o <;> cases od <;> first | rfl | exact ho.elim
  rw [e]
  exact k _ _ H2 hp (.bl _) (s1.trans s2)
/-- a dict, of one kind or the other -/
def isDic (x : Cell) : Prop := (∃ kds, dicK x = some kds) ∨ ∃ kds, dicT x = some kds
theorem isD_of {s c : Addr} {H : Hp} {v : V} {x : Cell} (hx : CellR K s c H v x) (h : isDic x) : ∃ a, v = .ref a ∧ IsD H a := by
  rcases h with ⟨kds, e⟩ | ⟨kds, e⟩
  · obtain ⟨a, kvs, rfl, ha, _⟩ := dicK_at hx e
    exact ⟨a, rfl, .inl ⟨kvs, ha⟩⟩
  · obtain ⟨a, kvs, rfl, ha, _⟩ := dicT_at hx e
    exact ⟨a, rfl, .inr ⟨kvs, ha⟩⟩
/-- d.get(k, z) -/
def pDGet2 (a b f : PEx) : PEx := fun σd P => a σd fun x => isDic x ∧ b σd fun y => f σd fun z => ∃ dz, z = .dat dz ∧ getC x y fun o => P (.dat (o.getD dz))
theorem L_dget2 {ta tb tf : TE} {a b f : PEx} (ha : LE K s c H0 ta a) (hb : LE K s c H0 tb b) (hf : LE K s c H0 tf f) : LE K s c H0 (tDGet2 ta tb tf) (pDGet2 a b f) := fun σ σd H Q P R h k => by
  refine ha σ σd H _ _ R h fun x v H1 h1 r1 s1 => ?_
  obtain ⟨hd, h1⟩ := h1
  obtain ⟨p, rfl, hD⟩ := isD_of r1 hd
  refine ⟨p, rfl, hD, ?_⟩
  refine hb σ σd H1 _ _ (R.stp s1) h1 fun y w H2 h2 r2 s2 => ?_
  refine hf σ σd H2 _ _ ((R.stp s1).stp s2) h2 fun z u H3 h3 r3 s3 => ?_
  obtain ⟨dz, rfl, h⟩ := h3
  obtain ⟨q, o, od, eq, hg, ho, hp⟩ := getC_at ((r1.stp s1.src s2).stp s2.src s3) (r2.stp s2.src s3) h
  cases eq
  refine ⟨o, hg, k _ _ H3 hp ?_ ((s1.trans s2).trans s3)⟩
  cases o <;> cases od <;> first | exact r3 | exact ho | exact ho.elim
/-- d = {} -/
def pDNew (i : Nat) (x : Cell) : PSx := fun e σd => e.nx (σd.set i (some x))
theorem rel_new {s c a : Addr} {H0 H : Hp} {σ : L2.St} {σd : Sd} {i : Nat} {o : HO} {x : Cell} (R : Rel K s c H0 σ H σd) (hn : H a = none) (hc : CellR K s c (upd H a o) (.ref a) x) : Rel K s c H0 (σ.set i (some (.ref a))) (upd H a o) (σd.set i (some x)) := by
  have nn := R.src.ne hn
  have st := stp_new (o := o) R.src hn
  refine (R.stp st).set (x := x) hc (fun _ b eb => by cases eb; exact Kp.none R.kp0 nn.1 hn) (fun _ b eb j nj lj hj => ?_)
  cases eb
  obtain ⟨y, hy, hr⟩ := R.slot j _ hj
  rw [hy] at lj
  cases y with
  | none => cases lj
  | some y =>
    obtain ⟨b, eb, ⟨u, hb, _⟩, _⟩ := loose_at (i := 0) (l := 0) hr lj
    cases eb
    rw [hn] at hb
    cases hb
theorem S_dnewK {s c : Addr} {H0 : Hp} (i : Nat) : LS K s c H0 (tAsg tDNewK (gName i)) (pDNew i (.dm [])) := fun σ σd H E e R h k => by
  intro p hp
  have nn := R.src.ne hp
  exact k.nx _ _ _ h (rel_new R hp ⟨p, [], rfl, upd_same, .nil, nn⟩) ((stp_new R.src hp).im R.src)
theorem S_dnewT {s c : Addr} {H0 : Hp} (i : Nat) : LS K s c H0 (tAsg tDNewT (gName i)) (pDNew i (.tm [])) := fun σ σd H E e R h k => by
  intro p hp
  have nn := R.src.ne hp
  exact k.nx _ _ _ h (rel_new R hp ⟨p, [], rfl, upd_same, .nil, nn⟩) ((stp_new R.src hp).im R.src)
/-- d[k] = v, d in slot i -/
def pDPutK (i : Nat) (b v : PEx) : PSx := fun e σd => ∃ kds, σd[i]? = some (some (.dm kds)) ∧ v σd fun z => b σd fun y => ∃ d k, z = .dat d ∧ keyC y = some k ∧ kds.length ≤ 100000 ∧ e.nx (σd.set i (some (.dm (putG kds k d))))
theorem S_dputK {s c : Addr} {H0 : Hp} {tb tv : TE} {b v : PEx} (i : Nat) (hb : LE K s c H0 tb b) (hv : LE K s c H0 tv v) : LS K s c H0 (sDPut (tVar i) tb tv) (pDPutK i b v) := fun σ σd H E e R h k => by
  obtain ⟨kds, hi, h⟩ := h
  refine hv σ σd H _ _ R h fun z u H1 h1 r1 s1 => ?_
  have R1 := R.stp s1
  obtain ⟨w, hw, hr⟩ := R1.at hi
  refine ⟨w, hw, ?_⟩
  refine hb σ σd H1 _ _ R1 h1 fun y y' H2 h2 r2 s2 => ?_
  obtain ⟨d, key, rfl, ek, hz, h⟩ := h2
  have R2 := R1.stp s2
  obtain ⟨l, kvs, rfl, hl, hd, n1, n2⟩ := CellR.stp (x := .dm kds) s1.src s2 hr
  have kl : Kp l H2 (upd H2 l (.dK (putK kvs key u))) := Kp.self
  have im := kl.im ⟨_, hl, rfl⟩
  have r3 : DR K s H2 u d := CellR.stp (x := .dat d) s1.src s2 r1
  refine ⟨l, _, rfl, .inl ⟨kvs, key, hl, key_eq r2 ek, Nat.lt_of_le_of_lt (by rw [hd.len]; exact hz) (by decide), rfl⟩, ?_⟩
  exact k.nx σ _ _ h (R2.write hw hi rfl ⟨l, _, rfl, upd_same, (hd.im im).put key (r3.im im), n1, n2⟩) (((s1.trans s2).im R.src).trans im)
def pDPutT (i : Nat) (b v : PEx) : PSx := fun e σd => ∃ kds, σd[i]? = some (some (.tm kds)) ∧ v σd fun z => b σd fun y => ∃ d k, z = .dat d ∧ keyT y = some k ∧ kds.length ≤ 100000 ∧ e.nx (σd.set i (some (.tm (putG kds k d))))
theorem S_dputT {s c : Addr} {H0 : Hp} {tb tv : TE} {b v : PEx} (i : Nat) (hb : LE K s c H0 tb b) (hv : LE K s c H0 tv v) : LS K s c H0 (sDPut (tVar i) tb tv) (pDPutT i b v) := fun σ σd H E e R h k => by
  obtain ⟨kds, hi, h⟩ := h
  refine hv σ σd H _ _ R h fun z u H1 h1 r1 s1 => ?_
  have R1 := R.stp s1
  obtain ⟨w, hw, hr⟩ := R1.at hi
  refine ⟨w, hw, ?_⟩
  refine hb σ σd H1 _ _ R1 h1 fun y y' H2 h2 r2 s2 => ?_
  obtain ⟨d, key, rfl, ek, hz, h⟩ := h2
  have R2 := R1.stp s2
  obtain ⟨l, kvs, rfl, hl, hd, n1, n2⟩ := CellR.stp (x := .tm kds) s1.src s2 hr
  have kl : Kp l H2 (upd H2 l (.dT (putK kvs key u))) := Kp.self
  have im := kl.im ⟨_, hl, rfl⟩
  have r3 : DR K s H2 u d := CellR.stp (x := .dat d) s1.src s2 r1
  obtain ⟨b', rfl, hb'⟩ := keyT_at r2 ek
  refine ⟨l, _, rfl, .inr ⟨kvs, key, b', hl, rfl, hb', Nat.lt_of_le_of_lt (by rw [hd.len]; exact hz) (by decide), rfl⟩, ?_⟩
  exact k.nx σ _ _ h (R2.write hw hi rfl ⟨l, _, rfl, upd_same, (hd.im im).put key (r3.im im), n1, n2⟩) (((s1.trans s2).im R.src).trans im)
/-- the thing of slot i is locked for good, then the statement -/
def frzC : Cell → Option D
  | .lm ds => some (.lst ds)
  | .dm kds => some (.dic kds)
  | .tm kds => some (.dit kds)
  | _ => none
def pFrzC (i : Nat) (p : PSx) : PSx := fun e σd => ∃ x d, σd[i]? = some (some x) ∧ frzC x = some d ∧ p e (σd.set i (some (.dat d)))
theorem S_frzC {s c : Addr} {H0 : Hp} {t : TS} {p : PSx} (i : Nat) (hp : LS K s c H0 t p) : LS K s c H0 (tFrzS i t) (pFrzC i p) := fun σ σd H E e R h k => by
  obtain ⟨x, d, hi, hx, h⟩ := h
  obtain ⟨v, hv, hr⟩ := R.at hi
  cases x with
  | lm ds => cases hx; exact S_frz i hp σ σd H E e R ⟨ds, hi, h⟩ k
  | dm ds =>
    cases hx
    obtain ⟨l, vs, rfl, hl, hd, n1, n2⟩ := id hr
    refine ⟨l, _, hv, hl, trivial, fun o => ?_⟩
    have kl : Kp l H (upd H l (.frz o (.dK vs))) := Kp.self
    have im := kl.im ⟨_, hl, rfl⟩
    exact hp σ _ _ E e (R.write (x' := .dat (.dic ds)) (o := .frz o (.dK vs)) hv hi rfl (.dic upd_same (hd.im im))) h (k.im im)
  | tm ds =>
    cases hx
    obtain ⟨l, vs, rfl, hl, hd, n1, n2⟩ := id hr
    refine ⟨l, _, hv, hl, trivial, fun o => ?_⟩
    have kl : Kp l H (upd H l (.frz o (.dT vs))) := Kp.self
    have im := kl.im ⟨_, hl, rfl⟩
    exact hp σ _ _ E e (R.write (x' := .dat (.dit ds)) (o := .frz o (.dT vs)) hv hi rfl (.dit upd_same (hd.im im))) h (k.im im)
  | dat d => cases hx
  | om x C ds => cases hx
  | un => cases hx
/-! ### walks over the keys, list(d) -/
def pIK (a : PEx) : PNx := fun σd P => a σd fun x => ∃ kds, x = .dat (.dic kds) ∧ P (kds.map fun kd => keyD kd.1)
theorem DRk.at {s : Addr} {H : Hp} : ∀ {kvs : List (Key × V)} {kds : List (Key × D)}, DRk K s H kvs kds → ∀ {i : Nat} {k : Key} {v : V}, kvs[i]? = some (k, v) → ∃ d, kds[i]? = some (k, d) ∧ DR K s H v d
  | _, _, .nil, i, k, v, h => by simp at h
  | _, _, .cons x r, 0, k, v, h => by cases h; exact ⟨_, rfl, x⟩
  | _, _, .cons x r, i + 1, k, v, h => DRk.at r (i := i) h
theorem I_keys {t : TE} {a : PEx} (ha : LE K s c H0 t a) : LI K s c H0 (iKeys t) (pIK a) := fun σ σd H R P Rl h k => by
  refine ha σ σd H _ _ Rl h fun x v H1 h1 r1 s1 => ?_
  obtain ⟨kds, rfl, h⟩ := h1
  cases r1 with
  | @dic l o kvs _ hl hd =>
    refine ⟨l, o, rfl, .inl ⟨kvs, hl, ?_⟩⟩
    have w : Walk (Itk l o kvs) (kds.map fun kd => keyD kd.1).length (fun H => H l = some (.frz o (.dK kvs))) (fun i H x H' => H' = H ∧ ∃ k v, kvs[i]? = some (k, v) ∧ x = kV k) := by
      rw [List.length_map, ← hd.len]
      exact walk_keys
    refine k _ _ _ _ H1 h s1 w hl (fun A B im h => frz_im im h) fun i A x B hi im hG y => ?_
    obtain ⟨e, key, v, hx, rfl⟩ := y
    subst e
    obtain ⟨d, h1, h2⟩ := hd.at hx
    refine ⟨Same.refl _, keyD key, ?_, keyD_dr key⟩
    rw [List.getElem?_map, h1]
    rfl
end
end My


/-! Own: operators that an own class writes (+, -, ==, in, [..]). -/
namespace My
open PySem PySem.Spec PyProof.Rows L2
section
variable {X : Cx} {k : Nat} {f C : Addr} {fd : FuncData} {ps : List Str} {sp : Sp}
theorem notNI {v : V} {u : Value} (r : RelV v u) : u ≠ .notImplemented := by
  intro e
  subst e
  cases v <;> first | (obtain ⟨_, z⟩ := r; cases z) | cases r
theorem back_of {pins : List (Addr × Obj)} {σ : L2.St} {Q : VK} {u : Value} {s' : Shared} (h : EP X pins σ Q u s') : PySem.W.CmpBack (EP X pins σ Q) u s' := by
  obtain ⟨v, H', I, r, q⟩ := id h
  have n := notNI r
  cases u <;> first | exact absurd rfl n | exact h
/-- both are instances of the class at C -/
def rOwn (C : Addr) (sp : Sp) : R2 := fun x y H Q => (∃ a dx fs, x = .ref a ∧ Rd H a (.ins C dx fs)) ∧ (∃ b dy gs, y = .ref b ∧ Rd H b (.ins C dy gs)) ∧ sp [x, y] H Q E0
theorem op_own {op : Operator} (F : FnOk X.prog X.w X.K X.mg X.base CX0 k f fd ps sp) (hr : Room k X.A) (hb : Binds X.K fd ps []) (hc : PySem.W.selfFirst X.K C = true)
    (hs : PySem.W.findIn X.K (.ref C) (PySem.dunder op.info.2) = some (some (.ref f))) (hf : PySem.W.isFn X.K (.ref f) = true) : OpR X (binaryOp op) (rOwn C sp) := by
  intro pins s σ H x y v u Q I rx ry h
  obtain ⟨⟨a, dx, fs, rfl, ha⟩, ⟨b, dy, gs, rfl, hb'⟩, h⟩ := h
  cases rx
  cases ry
  obtain ⟨mA, J, _⟩ := ins_rd I.hok ha
  obtain ⟨mB, J', _⟩ := ins_rd I.hok hb'
  obtain ⟨od, J, _⟩ := J.look
  obtain ⟨od', J', _⟩ := J'.look
  obtain ⟨m, hF⟩ := I.fr
  refine PySem.W.binop_K hF I.ok.mod.kin J J'.type hc hs hf (wpAny_mono (run_fn (us := [.ref a, .ref b]) (vs := [.ref a, .ref b]) F hr hb .nil pass0 I (.cons rfl (.cons rfl .nil)) ?_) (fun w s' hw => back_of hw) fun _ _ z => z)
  rw [List.append_nil]
  exact h
/-- == of an instance and anything whose type is known -/
def rOwnEq (K : PySem.W.Frag) (C : Addr) (sp : Sp) : R2 := fun x y H Q => (∃ a dx fs, x = .ref a ∧ Rd H a (.ins C dx fs)) ∧ (∃ t, TyX K H y t ∧ PySem.W.notFirst K C t = true) ∧ sp [x, y] H Q E0
theorem op_ownEq (F : FnOk X.prog X.w X.K X.mg X.base CX0 k f fd ps sp) (hr : Room k X.A) (hb : Binds X.K fd ps [])
    (hs : PySem.W.findIn X.K (.ref C) "__eq__" = some (some (.ref f))) (hf : PySem.W.isFn X.K (.ref f) = true) : OpR X (compareOp .Eq) (rOwnEq X.K C sp) := by
  intro pins s σ H x y v u Q I rx ry h
  obtain ⟨⟨a, dx, fs, rfl, ha⟩, ⟨t, ty, nf⟩, h⟩ := h
  cases rx
  obtain ⟨mA, J, _⟩ := ins_rd I.hok ha
  obtain ⟨od, J, _⟩ := J.look
  obtain ⟨P, Z, p, hx⟩ := kit_of I ry ty
  obtain ⟨m, hF⟩ := I.fr
  show wpAny (model X.prog X.w) X.A (richCompare .Eq (.ref a) u) (EP X pins σ Q) X.xe s
  refine PySem.W.cmp_K (op := .Eq) (tb := t) (hr.units0) hF I.ok.mod.kin J (Z.ty _ _ I.kIn p) nf hs hf (wpAny_mono (run_fn (us := [.ref a, u]) (vs := [.ref a, y]) F hr hb .nil pass0 I (.cons rfl (.cons ry .nil)) ?_) (fun w s' hw => back_of hw) fun _ _ z => z)
  rw [List.append_nil]
  exact h
/-- x in o -/
def rOwnIn (C : Addr) (sp : Sp) (g : Bool → Bool) : R2 := fun x y H Q => (∃ a dx fs, y = .ref a ∧ Rd H a (.ins C dx fs)) ∧ sp [y, x] H (fun r H' => ∃ b, r = .bl b ∧ Q (.bl (g b)) H') E0
theorem op_ownIn (F : FnOk X.prog X.w X.K X.mg X.base CX0 k f fd ps sp) (hr : Room k X.A) (hb : Binds X.K fd ps [])
    (hs : PySem.W.findIn X.K (.ref C) "__contains__" = some (some (.ref f))) (hf : PySem.W.isFn X.K (.ref f) = true) : OpR X (compareOp .In) (rOwnIn C sp id) := by
  intro pins s σ H x y v u Q I rx ry h
  obtain ⟨⟨a, dx, fs, rfl, ha⟩, h⟩ := h
  cases ry
  obtain ⟨mA, J, _⟩ := ins_rd I.hok ha
  obtain ⟨od, J, _⟩ := J.look
  obtain ⟨m, hF⟩ := I.fr
  refine PySem.W.in_K hF I.ok.mod.kin J hs hf (wpAny_mono (run_fn (us := [.ref a, v]) (vs := [.ref a, x]) F hr hb .nil pass0 I (.cons rfl (.cons rx .nil)) (by rw [List.append_nil]; exact h)) (fun w s' hw => ?_) fun _ _ z => z)
  obtain ⟨z, H', I', rz, b, rfl, q⟩ := hw
  cases rz
  exact wpAny_truthy_bool ⟨.bl b, H', I', rfl, q⟩
theorem op_ownNotIn (F : FnOk X.prog X.w X.K X.mg X.base CX0 k f fd ps sp) (hr : Room k X.A) (hb : Binds X.K fd ps [])
    (hs : PySem.W.findIn X.K (.ref C) "__contains__" = some (some (.ref f))) (hf : PySem.W.isFn X.K (.ref f) = true) : OpR X (compareOp .NotIn) (rOwnIn C sp not) := by
  intro pins s σ H x y v u Q I rx ry h
  obtain ⟨⟨a, dx, fs, rfl, ha⟩, h⟩ := h
  cases ry
  obtain ⟨mA, J, _⟩ := ins_rd I.hok ha
  obtain ⟨od, J, _⟩ := J.look
  obtain ⟨m, hF⟩ := I.fr
  refine PySem.W.notIn_K hF I.ok.mod.kin J hs hf (wpAny_mono (run_fn (us := [.ref a, v]) (vs := [.ref a, x]) F hr hb .nil pass0 I (.cons rfl (.cons rx .nil)) (by rw [List.append_nil]; exact h)) (fun w s' hw => ?_) fun _ _ z => z)
  obtain ⟨z, H', I', rz, b, rfl, q⟩ := hw
  cases rz
  exact wpAny_truthy_bool ⟨.bl (!b), H', I', rfl, q⟩
end
end My


/-! Own2: instance * int, int * instance. -/
namespace My
open PySem PySem.Spec PyProof.Rows L2 PySem.W
section
variable {prog : Program} {w : World} {A : Around} {E : Value → Shared → Prop} {s : Shared} {K : Frag} {x C L f r : Addr} {h₀ : Heap} {m : Str → Option Value} {ox : Obj} {od : Option Obj}
theorem mro_head (hc : selfFirst K C = true) : ∃ cd rest, clsIn K C = some cd ∧ cd.mro = .ref C :: rest := by
  obtain ⟨cd, hcd, hm⟩ := any_some hc
  cases q : cd.mro with
  | nil => rw [q] at hm; cases hm
  | cons a r => rw [q] at hm; exact ⟨cd, r, hcd, by rw [List.head?_cons] at hm; cases (beq_iff_eq.mp hm); exact q⟩
theorem binop_CI {i : Int} {t : Tok} {Q : Value → Shared → Prop} (F : Fr h₀ L s.heap m) (X₀ : K.In h₀) (I : InstAt s.heap x ox C od) (hc : selfFirst K C = true) (hsub : subIn K (.type "int") (.ref C) = some false)
    (hs : findIn K (.ref C) (PySem.dunder "mul") = some (some (.ref f))) (hr : findIn K (.ref C) (PySem.dunderR "mul") = some (some (.ref r))) (hf : isFn K (.ref f) = true)
    (h : wpAny (model prog w) A (call (.ref f) [.ref x, .int i t]) (PySem.W.CmpBack Q) E s) : wpAny (model prog w) A (binaryOp .Mult (.ref x) (.int i t)) Q E s := by
  have X := X₀.keeps F.keep
  obtain ⟨cd, rest, hcd, hm⟩ := mro_head hc
  have ne : (Value.ref C == Value.type "int") = false := rfl
  unfold binaryOp
  refine wpAny_holding (wpAny_bind ?_)
  unfold binaryOp1
  refine wpAny_bind (I.type.here (wpAny_bind ?_))
  show wpAny _ _ (pure (Value.type "int")) _ _ _
  refine wpAny_pure (wpAny_bind ((fills_K X hcd hm hs).here ?_))
  simp only [ne, Bool.false_eq_true, if_false]
  rw [PySem.F.fills_int_mul]
  refine wpAny_bind (wpAny_pure ?_)
  simp only [Bool.and_self, if_true]
  refine wpAny_bind ((looks_subIn X hsub).here ?_)
  simp only [Bool.not_false, Bool.and_self, Bool.false_eq_true, if_false, if_true]
  refine wpAny_bind ?_
  have nsp : Looks (model prog w) s.heap (numberSlotInPython (.ref C) "mul") true := by
    intro A Q E s' k q
    unfold numberSlotInPython
    dsimp only
    refine wpAny_bind ((looks_findIn X hs) A _ E s' k ?_)
    show wpAny _ _ (pure true >>= _) _ _ _
    refine wpAny_bind (wpAny_pure (wpAny_bind ((looks_findIn X hr) A _ E s' k ?_)))
    show wpAny _ _ (pure true >>= _) _ _ _
    refine wpAny_bind (wpAny_pure ?_)
    simp only [Bool.or_self, if_true]
    exact wpAny_pure q
  refine nsp.here ?_
  simp only [if_true]
  refine wpAny_bind (show wpAny _ _ (pure false) _ _ _ from wpAny_pure ?_)
  simp only [Bool.not_false, if_true]
  rw [PySem.F.slot_int_rmul.lookup]
  refine wpAny_bind (wpAny_pure (wpAny_bind ?_))
  unfold tryMethod
  refine wpAny_bind (special_fn X I hs (beq_iff_eq.mp hf) (wpAny_mono h (fun v s' hv => ?_) fun _ _ e => e))
  cases v <;> first | exact hv.elim | exact wpAny_pure (wpAny_pure (wpAny_pure hv))
theorem int_mul_no {i : Int} {t : Tok} {dx : Addr} {Q : Value → Shared → Prop} (hx : s.heap.get? x = some (instObj C dx)) (h : Q .notImplemented s) :
    wpAny (model prog w) A (call (.builtin "int.__mul__") [.int i t, .ref x]) Q E s := by
  refine wpAny_call_entry PySem.F.slot_int_mul (typeIs_int s i t) PySem.F.entry_int_mul ?_ (PySem.F.args_int_mul_2 _ _)
  unfold Builtin.«int.__mul__» Builtin.Int.intBinary
  refine wpAny_bind (wpAny_of_eq (a := (Value.int i t, [Value.ref x])) (by first | rfl | (simp only [slotArgs]; rfl)) ?_)
  refine wpAny_bind (wpAny_pure ?_)
  dsimp only [List.headD]
  refine wpAny_bind ?_
  show wpAny _ _ (load x >>= _) _ _ _
  refine wpAny_bind (wpAny_load hx ?_)
  refine wpAny_pure ?_
  refine wpAny_bind (wpAny_rule ?_)
  exact wpAny_pure ⟨_, rfl, h⟩
theorem binop_IC {i : Int} {t : Tok} {dx : Addr} {od : Obj} {Q : Value → Shared → Prop} (F : Fr h₀ L s.heap m) (X₀ : K.In h₀) (I : InstAt s.heap x (instObj C dx) C (some od)) (hc : selfFirst K C = true) (hsub : subIn K (.ref C) (.type "int") = some false)
    (hs : findIn K (.ref C) (PySem.dunder "mul") = some (some (.ref f))) (hr : findIn K (.ref C) (PySem.dunderR "mul") = some (some (.ref r))) (hf : isFn K (.ref r) = true)
    (h : wpAny (model prog w) A (call (.ref r) [.ref x, .int i t]) (PySem.W.CmpBack Q) E s) : wpAny (model prog w) A (binaryOp .Mult (.int i t) (.ref x)) Q E s := by
  have X := X₀.keeps F.keep
  obtain ⟨cd, rest, hcd, hm⟩ := mro_head hc
  have ne : (Value.type "int" == Value.ref C) = false := rfl
  unfold binaryOp
  refine wpAny_holding (wpAny_bind ?_)
  unfold binaryOp1
  refine wpAny_bind (show wpAny _ _ (pure (Value.type "int")) _ _ _ from wpAny_pure ?_)
  refine wpAny_bind (I.type.here ?_)
  rw [PySem.F.fills_int_mul]
  refine wpAny_bind (wpAny_pure ?_)
  simp only [ne, Bool.false_eq_true, if_false]
  refine wpAny_bind ((fills_K X hcd hm hs).here ?_)
  simp only [Bool.and_self, if_true]
  refine wpAny_bind ((looks_subIn X hsub).here ?_)
  simp only [Bool.not_false, Bool.and_self, Bool.false_eq_true, if_false, if_true]
  refine wpAny_bind (show wpAny _ _ (pure false) _ _ _ from wpAny_pure ?_)
  simp only [Bool.false_eq_true, if_false]
  refine wpAny_bind ?_
  have one : wpAny (model prog w) A (tryMethod (.int i t) (PySem.dunder "mul") (.ref x)) (fun v s' => v = none ∧ s' = s) E s := by
    unfold tryMethod
    refine wpAny_bind (wpAny_callSpecial?_slot (typeIs_int s i t) PySem.F.slot_int_mul (int_mul_no I.at_ ?_))
    exact wpAny_pure ⟨rfl, rfl⟩
  refine wpAny_mono one (fun v s' hv => ?_) fun _ _ e => e
  obtain ⟨rfl, rfl⟩ := hv
  dsimp only
  refine wpAny_bind ?_
  unfold tryMethod
  refine wpAny_bind (special_fn X I hr (beq_iff_eq.mp hf) (wpAny_mono h (fun v s2 hv => ?_) fun _ _ e => e))
  cases v <;> first | exact hv.elim | exact wpAny_pure (wpAny_bind (wpAny_rule (wpAny_pure (wpAny_pure hv))))
end
/-! ### as rules -/
section
variable {X : Cx} {k : Nat} {f g C : Addr} {fd : FuncData} {ps : List Str} {sp : Sp}
def rOwnI (C : Addr) (sp : Sp) : R2 := fun x y H Q => (∃ a dx fs, x = .ref a ∧ Rd H a (.ins C dx fs)) ∧ (∃ i, y = .int i) ∧ sp [x, y] H Q E0
theorem op_ownI (F : FnOk X.prog X.w X.K X.mg X.base CX0 k f fd ps sp) (hr : Room k X.A) (hb : Binds X.K fd ps []) (hc : selfFirst X.K C = true) (hsub : subIn X.K (.type "int") (.ref C) = some false)
    (hs : findIn X.K (.ref C) (PySem.dunder "mul") = some (some (.ref f))) (hg : findIn X.K (.ref C) (PySem.dunderR "mul") = some (some (.ref g))) (hf : isFn X.K (.ref f) = true) : OpR X (binaryOp .Mult) (rOwnI C sp) := by
  intro pins s σ H x y v u Q I rx ry h
  obtain ⟨⟨a, dx, fs, rfl, ha⟩, ⟨i, rfl⟩, h⟩ := h
  cases rx
  obtain ⟨t, rfl⟩ := id ry
  obtain ⟨mA, J, _⟩ := ins_rd I.hok ha
  obtain ⟨od, J, _⟩ := J.look
  obtain ⟨m, hF⟩ := I.fr
  refine binop_CI hF I.ok.mod.kin J hc hsub hs hg hf (wpAny_mono (run_fn (us := [.ref a, .int i t]) (vs := [.ref a, .int i]) F hr hb .nil pass0 I (.cons rfl (.cons ry .nil)) ?_) (fun w s' hw => back_of hw) fun _ _ z => z)
  rw [List.append_nil]
  exact h
def rIOwn (C : Addr) (sp : Sp) : R2 := fun x y H Q => (∃ a dx fs, y = .ref a ∧ Rd H a (.ins C dx fs)) ∧ (∃ i, x = .int i) ∧ sp [y, x] H Q E0
theorem op_Iown (F : FnOk X.prog X.w X.K X.mg X.base CX0 k g fd ps sp) (hr : Room k X.A) (hb : Binds X.K fd ps []) (hc : selfFirst X.K C = true) (hsub : subIn X.K (.ref C) (.type "int") = some false)
    (hs : findIn X.K (.ref C) (PySem.dunder "mul") = some (some (.ref f))) (hg : findIn X.K (.ref C) (PySem.dunderR "mul") = some (some (.ref g))) (hf : isFn X.K (.ref g) = true) : OpR X (binaryOp .Mult) (rIOwn C sp) := by
  intro pins s σ H x y v u Q I rx ry h
  obtain ⟨⟨a, dx, fs, rfl, ha⟩, ⟨i, rfl⟩, h⟩ := h
  cases ry
  obtain ⟨t, rfl⟩ := id rx
  obtain ⟨mA, J, _⟩ := ins_rd I.hok ha
  obtain ⟨od, J, _⟩ := J.look
  obtain ⟨m, hF⟩ := I.fr
  refine binop_IC hF I.ok.mod.kin J hc hsub hs hg hf (wpAny_mono (run_fn (us := [.ref a, .int i t]) (vs := [.ref a, .int i]) F hr hb .nil pass0 I (.cons rfl (.cons rx .nil)) ?_) (fun w s' hw => back_of hw) fun _ _ z => z)
  rw [List.append_nil]
  exact h
end
end My


/-! Own3: o[i], for x in o, by own __getitem__ and __iter__. -/
namespace My
open PySem PySem.Spec PyProof.Rows L2
section
variable {X : Cx} {k : Nat} {f C : Addr} {fd : FuncData} {ps : List Str} {sp : Sp}
/-- the callee runs one deeper -/
theorem run_fn1 {pins : List (Addr × Obj)} {σ : L2.St} {H : Hp} {s : Shared} {Q : VK} {us : List Value} {vs : List V} {E' : Value → Shared → Prop} (F : FnOk X.prog X.w X.K X.mg X.base CX0 k f fd ps sp) (hr : Room (k + 1) X.A) (hb : Binds X.K fd ps [])
    (I : Inv X pins σ H s) (r : Vals vs us) (h : sp vs H Q E0) : wpAny (model X.prog X.w) X.A.in1 (call (.ref f) us) (EP X pins σ Q) E' s := by
  have hl : (us ++ []).length = ps.length := by
    rw [List.append_nil, ← r.length]
    exact F.len _ _ _ _ h
  have bt := hb s us I.kIn hl
  rw [List.append_nil] at bt
  refine wpAny_call (codeAny_mono (F.run X.A.in1 X.stack s H ⟨us, []⟩ us vs Q E0 hr.in1 I.env0.in1 bt r h) fun r s' hq => ?_)
  cases r with
  | error e => exact False.elim hq
  | ok fl =>
    cases fl with
    | ret u => exact I.after hq
    | next => exact False.elim hq
    | brk => exact False.elim hq
    | cont => exact False.elim hq
def rOwnIx (C : Addr) (sp : Sp) : R2 := fun x y H Q => (∃ a dx fs, x = .ref a ∧ Rd H a (.ins C dx fs)) ∧ sp [x, y] H Q E0
theorem pe_ownIx {a b : Expr} {ta tb : TE} {pos : Pos} (F : FnOk X.prog X.w X.K X.mg X.base CX0 k f fd ps sp) (hr : Room (k + 1) X.A) (hb : Binds X.K fd ps []) (hs : PySem.W.findIn X.K (.ref C) "__getitem__" = some (some (.ref f)))
    (hfn : PySem.W.fnIn X.K f = true) (hf : PySem.W.isFn X.K (.ref f) = true) (ha : PE X a ta) (hb' : PE X b tb)
    (hsl : ∀ (x : Addr) (i : Value), subscripted b true (.ref x) i = runValue (.builtin "lifetime.subscript" ⟨[.ref x, i], []⟩) := by intro _ _; with_unfolding_all rfl) : PE X (.Subscript a b pos) (tOp (rOwnIx C sp) ta tb) := by
  refine ⟨fun pins s σ H Q I h => ?_⟩
  refine Subscript_ (binT ha hb' I h fun v u s2 x y H2 I2 rx ry q => ?_)
  obtain ⟨⟨p, dx, fs, rfl, hp⟩, q⟩ := q
  cases rx
  obtain ⟨mA, J, _⟩ := ins_rd I2.hok hp
  obtain ⟨od, J, _⟩ := J.look
  obtain ⟨m, hF⟩ := I2.fr
  exact PySem.W.sub_K hF I2.ok.mod.kin J hs hfn hf (run_fn1 (vs := [.ref p, y]) F hr hb I2 (.cons rfl (.cons ry .nil)) q) (hsl _ _)
end
/-! ### a def whose promise speaks of the size of the heap at its entry -/
structure NOk (P : Program) (w : World) (K : PySem.W.Frag) (mg : Str → Option Value) (base : Heap) (k : Nat) (f : Addr) (fd : FuncData) (ps : List Str) (sp : Nat → Sp) : Prop where
  len : ∀ n vs H Q E, sp n vs H Q E → vs.length = ps.length
  go : ∀ (A : Around) (outer : List Env) (s : Shared) (H : Hp) (args : Args) (us : List Value) (vs : List V) (Q : VK) (E : XK), Room k A → Env0 P w K mg base A outer s H →
    BindsTo s fd args (ps.zip us) → Vals vs us → sp s.heap.objs.size vs H Q E → codeAny (model P w) A (.call (.ref f) args) (CR CX0 outer P w H s Q E) s
section
variable {P : Program} {w : World} {K : PySem.W.Frag} {mg : Str → Option Value} {base : Heap}
theorem nok_of {x qual : Str} {st : Stmt} {f : Addr} {fd : FuncData} {N ps : List Str} {k : Nat} {sp : Nat → Sp} (F : FunD K x qual (defArgs st) (defBody st) (defScope st) [] [] f fd) (S : FnScope N ps (defScope st)) (len : ∀ n vs H Q E, sp n vs H Q E → vs.length = ps.length)
    (hb : ∀ (cdv : Value) (A : Around) (outer : List Env) (s : Shared) (H : Hp) (vs : List V) (Q : VK) (E : XK), Room k (A.deeper (envOfC qual (defScope st) s.heap.objs.size f cdv)) → sp s.heap.objs.size vs H Q E →
      ∃ t, PSs (cxOf CX0 P w K mg base N qual (defScope st) f cdv A outer s H E) (defBody st) t ∧ t { nx := fun _ H' => Q .non H', rt := Q } (L2.start N vs) H) : NOk P w K mg base (k + 1) f fd ps sp := by
  obtain ⟨oc, od, dV, kV, doc, pm, an, cdv, ct, osl, rfl, lk, hcd, _, _⟩ := F.ex
  refine ⟨len, fun A outer s H args us vs Q E hr e0 bt r hsp => ?_⟩
  have hl := len _ _ _ _ _ hsp
  have kx : K.In s.heap := e0.mod.kin.keeps fun b o e => (e0.bs b o e).1
  have nl : s.heap.NoLimit := e0.mod.nolimit.keeps fun b o e => (e0.bs b o e).1
  refine codeAny_call_function hr.depth (kx _ _ lk) rfl S.co S.gen rfl (PySem.W.codeRec_of kx hcd) (bt _ _ _ _ ?_)
  refine wpAny_newFunctionEnv_cells S.kind (fun y hy => ?_) fun env he s1 z => ?_
  · obtain ⟨n, v⟩ := y
    rcases S.par n (List.of_mem_zip hy).1 with q | q
    · exact .inl q
    · exact .inr ⟨q, PySem.W.cellsFrom_some _ _ _ (.inl q)⟩
  · subst he
    refine ⟨nl.keeps z.toInCall.keep, codeAny_func ?_⟩
    obtain ⟨t, ht, hq⟩ := hb cdv A outer s H vs Q E (hr.deeper _) hsp
    have J := inv_start (CX := CX0) (E := E) (mg := mg) (base := base) (P := P) (w := w) (K := K) S hr.hd e0 hl r z
    refine wpAny_mono (ht.run [] s1 (L2.start N vs) H _ J hq) (fun fl s' hs => ?_) fun e s' hs => hs
    cases fl with
    | ret u =>
      obtain ⟨v, σ', H', L, rv, q⟩ := hs
      exact ⟨v, H', L.os, L.bare, L.base, L.hok, rv, q⟩
    | next =>
      obtain ⟨σ', H', L, q⟩ := hs
      exact ⟨V.non, H', L.os, L.bare, L.base, L.hok, rfl, q⟩
    | brk =>
      obtain ⟨_, _, _, q⟩ := hs
      exact q.elim
    | cont =>
      obtain ⟨_, _, _, q⟩ := hs
      exact q.elim
end
/-- own __iter__ that gives iter(self.f) -/
def spItF (K : PySem.W.Frag) (C : Addr) (f : Str) (n : Nat) : Sp := fun vs H Q _ => ∃ (a dx l : Addr) (fs : List (Str × V)) (xs : List V), vs = [.ref a] ∧ Rd H a (.ins C dx fs) ∧ fs.lookup f = some (.ref l) ∧ SqL K H l xs ∧ ∀ it, H it = none → n ≤ it → Q (.ref it) (upd H it (ItO l it 0))
theorem len_itF {K : PySem.W.Frag} {C : Addr} {f : Str} {n : Nat} {vs : List V} {H : Hp} {Q : VK} {E : XK} (h : spItF K C f n vs H Q E) : vs.length = 1 := by
  obtain ⟨_, _, _, _, _, rfl, _⟩ := h
  rfl
section
variable {X : Cx} {k : Nat} {fi C : Addr} {fd : FuncData} {ps : List Str} {fld : Str}
/-- pyIter of such an instance -/
theorem own_pyIter {pins : List (Addr × Obj)} {σ : L2.St} {H : Hp} {s : Shared} {a dx l : Addr} {fs : List (Str × V)} {xs : List V} {E' : Value → Shared → Prop} {Q : Value → Shared → Prop} {A : Around} (hA : A.frames = X.A.frames) (F : NOk X.prog X.w X.K X.mg X.base k fi fd ps (spItF X.K C fld)) (hr : Room k A) (hb : Binds X.K fd ps [])
    (hs : PySem.W.findIn X.K (.ref C) "__iter__" = some (some (.ref fi))) (hf : PySem.W.isFn X.K (.ref fi) = true) (I : Inv X pins σ H s) (ha : Rd H a (.ins C dx fs)) (hl : fs.lookup fld = some (.ref l)) (hx : SqL X.K H l xs)
    (hq : ∀ it s', H it = none → s.heap.objs.size ≤ it → Inv X pins σ (upd H it (ItO l it 0)) s' → Q (.ref it) s') : wpAny (model X.prog X.w) A (pyIter (.ref a)) Q E' s := by
  obtain ⟨mA, J, _⟩ := ins_rd I.hok ha
  obtain ⟨od, J, _⟩ := J.look
  obtain ⟨m, hF⟩ := I.fr
  refine PySem.W.owit_iter hF I.ok.mod.kin J hs hf ?_
  have hsp : spItF X.K C fld s.heap.objs.size [.ref a] H (fun v H' => ∃ it, v = .ref it ∧ H it = none ∧ s.heap.objs.size ≤ it ∧ H' = upd H it (ItO l it 0)) E0 := ⟨a, dx, l, fs, xs, rfl, ha, hl, hx, fun it h1 h2 => ⟨it, rfl, h1, h2, rfl⟩⟩
  have e0 : Env0 X.prog X.w X.K X.mg X.base A X.stack s H := by
    have e := I.env0
    exact ⟨by rw [hA]; exact e.frames, e.mod, e.bs, e.bsz, e.funs, e.frf, e.hok, e.bare⟩
  have hlen : ([Value.ref a] ++ []).length = ps.length := by
    rw [← F.len _ _ _ _ _ hsp]
    rfl
  have bt := hb s [.ref a] I.kIn hlen
  rw [List.append_nil] at bt
  refine wpAny_call (codeAny_mono (F.go A X.stack s H ⟨[.ref a], []⟩ [.ref a] [.ref a] _ E0 hr e0 bt (.cons rfl .nil) hsp) fun r s' hq' => ?_)
  cases r with
  | error e => exact False.elim hq'
  | ok fl =>
    cases fl with
    | next => exact False.elim hq'
    | brk => exact False.elim hq'
    | cont => exact False.elim hq'
    | ret u =>
      obtain ⟨v, H', I', rv, it, ev, h1, h2, eH⟩ := I.after hq'
      subst ev
      rw [eH] at I'
      cases rv
      have eo := itO_get I' upd_same
      have hT : s'.TypeIs (.ref it) "list_iterator" := ⟨_, eo, rfl⟩
      unfold PySem.W.OwitIt
      exact wpAny_specialOf (name := Str.ofString "__next__") hT slot_listiter_next.lookup (hq it s' h1 h2 I')
def iOwn (K : PySem.W.Frag) (C : Addr) (fld : Str) (te : TE) : TI := fun σ H R => te σ H fun x H1 => ∃ (a dx l : Addr) (fs : List (Str × V)), x = .ref a ∧ Rd H1 a (.ins C dx fs) ∧ fs.lookup fld = some (.ref l) ∧ (∃ xs, SqL K H1 l xs) ∧ R (Itl K l) H1
theorem pi_own {tg e : Expr} {te : TE} (F : NOk X.prog X.w X.K X.mg X.base k fi fd ps (spItF X.K C fld)) (hr : Room k X.A) (hb : Binds X.K fd ps []) (hs : PySem.W.findIn X.K (.ref C) "__iter__" = some (some (.ref fi))) (hf : PySem.W.isFn X.K (.ref fi) = true)
    (he : PE X e te) : PI X tg e (iOwn X.K C fld te) := by
  refine ⟨fun pins s σ H R I h => ?_⟩
  refine thn (he.run pins s σ H _ I h) fun v s1 ⟨x, H1, I1, r1, a, dx, l, fs, ex, ha, hl, ⟨xs, hx⟩, q⟩ => ?_
  subst ex
  cases r1
  refine own_pyIter rfl F hr hb hs hf I1 ha hl hx fun it s' h1 h2 I' => ?_
  have hi : upd H1 it (ItO l it 0) it = some (ItO l it 0) := upd_same
  have eo := itO_get I' hi
  have st : s'.heap.IsListIter it l 0 := ⟨_, eo, rfl, rfl⟩
  have hi' := hi
  unfold ItO at hi'
  refine ⟨it, [it], _, _, ItX.dropH (upd H1 it (ItO l it 0)) it, rfl, ItX.inv_drop I' hi', turn_list l it, st, fun b hb' => ?_, ?_⟩
  · have e : b = it := by simpa using hb'
    rw [e]
    exact ItX.inv_fp I' hi (Nat.le_trans I1.sz h2)
  · rw [ItX.dropH_upd h1]
    exact q
end
end My


/-! Own4: sorted texts of any number; == with a built-in on the left. -/
namespace My
open PySem PySem.Spec PyProof.Rows L2
section
variable {X : Cx}
def leS (a b : Str) : Bool := decide (a.cps.toList ≤ b.cps.toList)
/-- sorted(xs), texts, any number -/
def rSortedL (K : PySem.W.Frag) : List V → Hp → VK → Prop := fun vs H Q => ∃ (a : Addr) (xs : List Str), vs = [V.ref a] ∧ SqL K H a (xs.map V.str) ∧ ∀ p : Addr, H p = none → Q (.ref p) (upd H p (.lst ((xs.mergeSort leS).map V.str)))
theorem each_strs : ∀ {us : List Value} {xs : List Str}, StrsAre us xs → PySem.W.EachIs (fun v b => ∃ t, v = Value.str b t) us xs
  | _, _, .nil => .nil
  | _, _, .cons x t h => .cons ⟨t, rfl⟩ (each_strs h)
theorem strs_each : ∀ {us : List Value} {xs : List Str}, PySem.W.EachIs (fun v b => ∃ t, v = Value.str b t) us xs → StrsAre us xs
  | _, _, .nil => .nil
  | _, _, .cons ⟨t, e⟩ h => by subst e; exact .cons _ t (strs_each h)
theorem cr_sortedL (hu : X.A.units + 2 < cLine) : CallR X (.builtin "sorted") (rSortedL X.K) := by
  intro pins s σ H vs us Q I r h
  obtain ⟨a, xs, rfl, hs, q⟩ := h
  obtain ⟨its, rv, hl, hz⟩ := I.list hs
  rw [Vals.ref1 r]
  rw [List.length_map] at hz
  have e := each_strs rv.strs
  refine PySem.W.sorted_data (enc := fun b => .str b) hl.isList e (e.mono fun v b ⟨t, ht⟩ => ⟨[], by subst ht; exact .str _ _⟩) (PySem.W.AllAlike.of fun b b' => by simp [PySem.W.alike]) (PySem.W.Sortable.others fun b => ⟨fun z => (nomatch z), fun _ z => (nomatch z)⟩) hz (fun b _ => by show X.A.units + 2 + 0 < cLine; exact hu) fun out ho eo => ?_
  rw [PySem.W.dataLe_str (fun b => b)] at eo
  obtain ⟨ep, he'⟩ := PyProof.Rows.sortedAll_at s.heap its out.toArray
  have hlen : ((xs.mergeSort leS).map V.str).length ≤ sizeLine := by rw [List.length_map, List.length_mergeSort]; exact hz
  exact ⟨.ref _, upd H (s.heap.objs.size + 1) (.lst ((xs.mergeSort leS).map V.str)), I.laid (t' := s.toks) (fun _ _ => PyProof.Rows.sortedAll_old) (Nat.le_succ _) ⟨hlen, out, ep, vals_of_strs (strs_each eo), he'⟩, rfl, q _ (I.hok.fresh (Nat.le_succ _))⟩
end
end My


/-! Own5: == with a built-in on the left and an instance on the right. -/
namespace My
open PySem PySem.Spec PyProof.Rows L2 PySem.W
open AutoSeq1 (wpAny_loadPart')
section
variable {prog : Program} {w : World} {A : Around} {E : Value → Shared → Prop} {s : Shared} {K : Frag} {x C L f dx : Addr} {h₀ : Heap} {m : Str → Option Value} {ox : Obj} {od : Option Obj}
theorem cmp_KR {a : Value} {T id : String} {Q : Value → Shared → Prop} (hu : A.units < cLine) (F : Fr h₀ L s.heap m) (X₀ : K.In h₀) (I : InstAt s.heap x ox C od) (ha : s.TypeIs a T) (hsub : subIn K (.ref C) (.type T) = some false) (h1 : Slot T (cmpInfo .Eq).2.1 id)
    (hc : ∀ Q' : Value → Shared → Prop, Q' .notImplemented s → wpAny (model prog w) A (call (.builtin id) [a, .ref x]) Q' E s)
    (hs : findIn K (.ref C) "__eq__" = some (some (.ref f))) (hf : isFn K (.ref f) = true)
    (h : wpAny (model prog w) A (call (.ref f) [.ref x, a]) (PySem.W.CmpBack Q) E s) : wpAny (model prog w) A (richCompare .Eq a (.ref x)) Q E s := by
  have X := X₀.keeps F.keep
  have one : wpAny (model prog w) A (tryCompare (.ref x) "__eq__" a) (fun r s' => ∃ v, r = some v ∧ Q v s') E s := by
    unfold tryCompare
    refine wpAny_bind (ifBound_K X I hs hf (wpAny_mono h (fun v s' hv => ?_) fun _ _ e => e))
    cases v <;> first | exact hv.elim | exact wpAny_pure ⟨_, rfl, hv⟩
  rcases hi : cmpInfo CmpOp.Eq with ⟨sym, g, r⟩
  have hi2 : (cmpInfo CmpOp.Eq).2.2 = "__eq__" := rfl
  rw [hi] at h1 hi2
  simp only [richCompare, hi, ha.oneThing_none]
  refine wpAny_holding (wpAny_bind (wpAny_cRoomFor hu ?_))
  refine wpAny_bind (wpAny_typeOf ha (wpAny_bind (I.type.here ?_)))
  have hne : (Value.type T != Value.ref C) = true := rfl
  simp only [hne, if_true]
  refine wpAny_bind ((looks_subIn X hsub).here ?_)
  simp only [Bool.false_eq_true, if_false, Bool.not_false, if_true]
  refine wpAny_bind (m := tryCompare a _ (.ref x)) (wpAny_tryCompare_declines ha h1 (hc _ ⟨rfl, ?_⟩))
  have hi3 : r = "__eq__" := hi2
  subst hi3
  refine wpAny_bind (m := tryCompare (.ref x) _ a) (wpAny_mono one (fun r s' z => ?_) fun _ _ e => e)
  obtain ⟨v, rfl, hq⟩ := z
  exact wpAny_pure hq
theorem decl_none {Q : Value → Shared → Prop} (h : Q .notImplemented s) : wpAny (model prog w) A (call (.builtin "NoneType.__eq__") [.none, .ref x]) Q E s := by
  refine GQ.call_here F.slot_NoneType_eq rfl F.entry_NoneType_eq (F.args_NoneType_eq_2 _ _) ?_
  obtain ⟨hp, g, d, tk, os⟩ := s
  wp_walk
  exact h
theorem decl_int {i : Int} {t : Tok} {Q : Value → Shared → Prop} (I : s.heap.get? x = some (instObj C dx)) (h : Q .notImplemented s) : wpAny (model prog w) A (call (.builtin "int.__eq__") [.int i t, .ref x]) Q E s := by
  refine GQ.call_here F.slot_int_eq rfl F.entry_int_eq (F.args_int_eq_2 _ _) ?_
  obtain ⟨hp, g, d, tk, os⟩ := s
  wp_walk using wpAny_loadPart' I, wpAny_load I
  exact h
theorem decl_str {z : Str} {t : Tok} {Q : Value → Shared → Prop} (I : s.heap.get? x = some (instObj C dx)) (h : Q .notImplemented s) : wpAny (model prog w) A (call (.builtin "str.__eq__") [.str z t, .ref x]) Q E s := by
  refine GQ.call_here F.slot_str_eq rfl F.entry_str_eq (F.args_str_eq_2 _ _) ?_
  obtain ⟨hp, g, d, tk, os⟩ := s
  wp_walk using wpAny_loadPart' I, wpAny_load I
  exact h
theorem decl_list {l : Addr} {ol : Obj} {Q : Value → Shared → Prop} (X : K.In s.heap) (I : InstAt s.heap x ox C od) (hsub : subIn K (.ref C) (.type "list") = some false) (hl : s.heap.get? l = some ol) (hc : ol.cls = .type "list") (h : Q .notImplemented s) : wpAny (model prog w) A (call (.builtin "list.__eq__") [.ref l, .ref x]) Q E s := by
  refine GQ.call_here F.slot_list_eq ⟨_, hl, hc⟩ F.entry_list_eq (F.args_list_eq_2 _ _) ?_
  show wpAny _ _ (isInstance (.ref x) (.type "list") >>= _) _ _ _
  unfold isInstance
  refine wpAny_bind (wpAny_bind (I.type.here ((looks_subIn X hsub).here ?_)))
  obtain ⟨hp, g, d, tk, os⟩ := s
  wp_walk
  exact h
theorem decl_dict {l : Addr} {ol : Obj} {Q : Value → Shared → Prop} (X : K.In s.heap) (I : InstAt s.heap x ox C od) (hsub : subIn K (.ref C) (.type "dict") = some false) (hl : s.heap.get? l = some ol) (hc : ol.cls = .type "dict") (h : Q .notImplemented s) : wpAny (model prog w) A (call (.builtin "dict.__eq__") [.ref l, .ref x]) Q E s := by
  refine GQ.call_here F.slot_dict_eq ⟨_, hl, hc⟩ F.entry_dict_eq (F.args_dict_eq_2 _ _) ?_
  show wpAny _ _ (isInstance (.ref x) (.type "dict") >>= _) _ _ _
  unfold isInstance
  refine wpAny_bind (wpAny_bind (I.type.here ((looks_subIn X hsub).here ?_)))
  obtain ⟨hp, g, d, tk, os⟩ := s
  wp_walk
  exact h
end
/-- what may stand on the left -/
def LeftB (K : Frag) (H : Hp) (x : V) : Prop := x = .non ∨ (∃ i, x = .int i) ∨ (∃ z, x = .str z) ∨ (∃ l xs, x = .ref l ∧ SqL K H l xs) ∨ ∃ l kvs, x = .ref l ∧ Rd H l (.dK kvs)
def subsNo (K : Frag) (C : Addr) : Bool := ["NoneType", "int", "str", "list", "dict"].all fun T => subIn K (.ref C) (.type T) == some false
def rOwnEqR (K : Frag) (C : Addr) (sp : Sp) : R2 := fun x y H Q => (∃ a dx fs, y = .ref a ∧ Rd H a (.ins C dx fs)) ∧ LeftB K H x ∧ sp [y, x] H Q E0
section
variable {X : Cx} {k : Nat} {f C : Addr} {fd : FuncData} {ps : List Str} {sp : Sp}
theorem op_ownEqR (F : FnOk X.prog X.w X.K X.mg X.base CX0 k f fd ps sp) (hr : Room k X.A) (hb : Binds X.K fd ps []) (hn : subsNo X.K C = true)
    (hs : PySem.W.findIn X.K (.ref C) "__eq__" = some (some (.ref f))) (hf : PySem.W.isFn X.K (.ref f) = true) : OpR X (compareOp .Eq) (rOwnEqR X.K C sp) := by
  intro pins s σ H x y v u Q I rx ry h
  obtain ⟨⟨a, dx, fs, rfl, ha⟩, hl, h⟩ := h
  cases ry
  have sub : ∀ T ∈ ["NoneType", "int", "str", "list", "dict"], subIn X.K (.ref C) (.type T) = some false := fun T hT => beq_iff_eq.mp (List.all_eq_true.mp hn T hT)
  obtain ⟨mA, J, _⟩ := ins_rd I.hok ha
  have ob := J.obj
  obtain ⟨od, J, _⟩ := J.look
  obtain ⟨m, hF⟩ := I.fr
  show wpAny (model X.prog X.w) X.A (richCompare .Eq v (.ref a)) (EP X pins σ Q) X.xe s
  have run : wpAny (model X.prog X.w) X.A (call (.ref f) [.ref a, v]) (PySem.W.CmpBack (EP X pins σ Q)) X.xe s :=
    wpAny_mono (run_fn (us := [.ref a, v]) (vs := [.ref a, x]) F hr hb .nil pass0 I (.cons rfl (.cons rx .nil)) (by rw [List.append_nil]; exact h)) (fun w s' hw => back_of hw) fun _ _ z => z
  rcases hl with rfl | ⟨i, rfl⟩ | ⟨z, rfl⟩ | ⟨l, xs, rfl, hx⟩ | ⟨l, kvs, rfl, hx⟩
  · cases rx
    exact cmp_KR hr.units0 hF I.ok.mod.kin J (T := "NoneType") rfl (sub _ (by decide)) PySem.F.slot_NoneType_eq (fun Q' q => decl_none q) hs hf run
  · obtain ⟨t, rfl⟩ := rx
    exact cmp_KR hr.units0 hF I.ok.mod.kin J (T := "int") rfl (sub _ (by decide)) PySem.F.slot_int_eq (fun Q' q => decl_int ob q) hs hf run
  · obtain ⟨t, rfl⟩ := rx
    exact cmp_KR hr.units0 hF I.ok.mod.kin J (T := "str") rfl (sub _ (by decide)) PySem.F.slot_str_eq (fun Q' q => decl_str ob q) hs hf run
  · cases rx
    obtain ⟨its, rv, ⟨o, n, ho, hc, _⟩, _⟩ := I.list hx
    exact cmp_KR hr.units0 hF I.ok.mod.kin J (T := "list") ⟨o, ho, hc⟩ (sub _ (by decide)) PySem.F.slot_list_eq (fun Q' q => decl_list I.kIn J (sub _ (by decide)) ho hc q) hs hf run
  · cases rx
    obtain ⟨z, lo, vs, rel, dd⟩ := dk_rd I.hok hx
    obtain ⟨ep, o, es, ho, hc0, _⟩ := dd.dictAt
    have hc := hc0.1
    exact cmp_KR hr.units0 hF I.ok.mod.kin J (T := "dict") ⟨o, ho, hc⟩ (sub _ (by decide)) PySem.F.slot_dict_eq (fun Q' q => decl_dict I.kIn J (sub _ (by decide)) ho hc q) hs hf run
end
end My


/-! Own6: list(o) of an instance whose __iter__ is iter(self.f). -/
namespace My
open PySem PySem.Spec PyProof.Rows L2
theorem sql_upd {K : PySem.W.Frag} {H : Hp} {l q : Addr} {xs : List V} {o : HO} (h : SqL K H l xs) (hq : H q = none) : SqL K (upd H q o) l xs := by
  rcases h with h | h
  · refine .inl ?_
    rcases h with h | ⟨u, h⟩
    · exact .inl (by rw [upd_ne (ne_of_none h hq)]; exact h)
    · exact .inr ⟨u, by rw [upd_ne (ne_of_none h hq)]; exact h⟩
  · exact .inr h
section
variable {X : Cx} {k : Nat} {fi C : Addr} {fd : FuncData} {ps : List Str} {fld : Str} {pins : List (Addr × Obj)} {σ : L2.St} {A1 : Around}
theorem ownL_loop {H : Hp} {it l q : Addr} {xs : List V} {Rs : Result → Shared → Prop} (hh : A1.in1.handled = none) (hqn : H q = none) (hx : SqL X.K H l xs) (hz : xs.length ≤ sizeLine) (hi : FpOk X pins H it) (hne : it ≠ q)
    (hdone : ∀ s, Inv X pins σ (upd H q (.lst xs)) s → Rs (.ok (.ret .none)) s) :
    ∀ (n i : Nat) (s : Shared), xs.length - i = n → i ≤ xs.length → Inv X pins σ (upd H q (.lst (xs.take i))) s → s.heap.IsListIter it l i → codeAny (model X.prog X.w) A1 (.builtin "list.extend.loop" ⟨[.ref q, .ref it, .none], []⟩) Rs s := by
  obtain ⟨f0, f1, f2, f3, f4, f5⟩ := hi
  intro n
  induction n with
  | zero =>
    intro i s hn hi I st
    have e : xs.take i = xs := List.take_of_length_le (by omega)
    rw [e] at I
    obtain ⟨its, rv, p, _⟩ := I.list (sql_upd hx hqn)
    have hl := rv.length
    refine codeAny_builtin PySem.F.entry_extend_loop ?_
    rw [Around.under_plainId PySem.F.plain_extend_loop _]
    show wpAny _ A1.in1 (pyNext (.ref it) >>= _) _ _ s
    refine wpAny_bind (wpAny_pyNext_list_end hh st p.isList (by simp; omega) fun h' eb => ?_)
    refine wpAny_pure (hdone _ (I.turned (t' := s.toks) (fun b o hb e => eb b o hb e) ?_ f1 f3 f4 f5))
    rw [upd_ne hne]
    exact f0
  | succ n ih =>
    intro i s hn hi I st
    have hlt : i < xs.length := by omega
    obtain ⟨its, rv, p, _⟩ := I.list (sql_upd hx hqn)
    obtain ⟨u, hu, ru⟩ := rv.get (List.getElem?_eq_getElem hlt)
    refine codeAny_builtin PySem.F.entry_extend_loop ?_
    rw [Around.under_plainId PySem.F.plain_extend_loop _]
    show wpAny _ A1.in1 (pyNext (.ref it) >>= _) _ _ s
    refine wpAny_bind (wpAny_pyNext_list_item st p.isList (x := u) (by simpa using hu) fun h' st' sb => ?_)
    have I1 : Inv X pins σ (upd H q (.lst (xs.take i))) { s with heap := h' } := I.turned (t' := s.toks) (fun b o hb e => (sb.2 b hb).trans e) (by rw [upd_ne hne]; exact f0) f1 f3 f4 f5
    show wpAny _ A1.in1 (updateSeq q (·.push u) >>= _) _ _ _
    obtain ⟨z, its2, m, r2, hl2, e2⟩ := I1.lstM upd_same
    have hlen : its2.length = i := by rw [← r2.length, List.length_take]; omega
    refine wpAny_bind (wpAny_updateSeq e2 rfl (wpAny_pure ⟨plainId_quiet PySem.F.plain_extend_loop _, ?_⟩) (by rw [List.size_toArray]; omega) (by show (its2.toArray.push u).size ≤ sizeLine + 1; rw [Array.size_push, List.size_toArray]; omega))
    have I2 := I1.lset (f := (·.push u)) (its' := its2 ++ [u]) (ys := xs.take i ++ [xs[i]]) (t' := s.toks) upd_same e2 (by simp) (r2.append (.cons ru .nil)) (by rw [List.length_append, List.length_take, List.length_singleton]; omega)
    rw [upd_upd, List.take_append_getElem hlt] at I2
    refine ih (i + 1) _ (by omega) hlt I2 ?_
    exact st'.at fun o e => (Heap.get?_update_other _ _ (fun z => hne z.symm)).trans e
theorem ownL_hint {M : Model} {A : Around} {E : Value → Shared → Prop} {s : Shared} {a : Addr} {Q : Bool → Shared → Prop} {K : PySem.W.Frag} {ox : Obj} {od : Option Obj} (h1 : PySem.W.findIn K (.ref C) "__len__" = some none) (h2 : PySem.W.findIn K (.ref C) "__length_hint__" = some none) (hK : K.In s.heap) (J : PySem.W.InstAt s.heap a ox C od) (h : Q true s) :
    wpAny M A (Builtin.List.listLengthHint (.ref a)) Q E s := by
  unfold Builtin.List.listLengthHint
  refine wpAny_bind (wpAny_bind (J.type.here ((PySem.W.looks_findIn hK h1).here ?_)))
  refine PySem.W.KFB.if_not rfl ?_
  refine PySem.W.KFB.if_not rfl ?_
  refine wpAny_bind (wpAny_bind (J.type.here ((PySem.W.looks_findIn hK h2).here ?_)))
  exact wpAny_pure h
/-- list(o) -/
def rListOwn (K : PySem.W.Frag) (C : Addr) (fld : Str) : List V → Hp → VK → Prop := fun xs H Q => ∃ (a dx l : Addr) (fs : List (Str × V)) (ys : List V), xs = [.ref a] ∧ Rd H a (.ins C dx fs) ∧ fs.lookup fld = some (.ref l) ∧ SqL K H l ys ∧ ∀ q, H q = none → Q (.ref q) (upd H q (.lst ys))
theorem rd_upd {H : Hp} {l q : Addr} {o u : HO} (h : Rd H l u) (hq : H q = none) : Rd (upd H q o) l u := by
  rcases h with h | ⟨z, h⟩
  · exact .inl (by rw [upd_ne (ne_of_none h hq)]; exact h)
  · exact .inr ⟨z, by rw [upd_ne (ne_of_none h hq)]; exact h⟩
theorem rd_ne {H : Hp} {l q : Addr} {u : HO} (h : Rd H l u) (hq : H q = none) : q ≠ l := by
  rintro rfl
  rcases h with h | ⟨z, h⟩ <;> (rw [hq] at h; cases h)
theorem call_listOwnF (hcalm : X.calm = true) (F : NOk X.prog X.w X.K X.mg X.base k fi fd ps (spItF X.K C fld)) (hr : Room (k + 2) X.A) (hb : Binds X.K fd ps []) (hs : PySem.W.findIn X.K (.ref C) "__iter__" = some (some (.ref fi))) (hf : PySem.W.isFn X.K (.ref fi) = true)
    (h1 : PySem.W.findIn X.K (.ref C) "__len__" = some none) (h2 : PySem.W.findIn X.K (.ref C) "__length_hint__" = some none) : CallR X (.type "list") (rListOwn X.K C fld) := by
  intro pins s σ H xs us Q I rv h
  obtain ⟨a, dx, l, fs, ys, rfl, ha, hl, hx, hq⟩ := h
  obtain ⟨u, rfl, ru⟩ := rv.one
  cases ru
  have hz : ys.length ≤ sizeLine := let ⟨_, _, _, z⟩ := I.list hx; z
  refine callType_codes (Q₁ := fun obj s₁ => obj = .ref s.heap.objs.size ∧ s₁ = { s with heap := s.heap.push { cls := .type "list", data := .seq #[] } }) PySem.F.called_list (PySem.F.typeCall_list_1 _) PySem.F.entry_list_init
    (code_list_new _ ⟨rfl, rfl⟩) fun obj s₁ h₁ => ?_
  obtain ⟨rfl, rfl⟩ := h₁
  have hS : (s.heap.push { cls := .type "list", data := .seq #[] }).get? s.heap.objs.size = some { cls := .type "list", data := .seq #[] } := Heap.get?_push_size _ rfl
  refine ⟨⟨_, hS, rfl⟩, PySem.F.args_list_init_2 _ _, ?_⟩
  have fr : H s.heap.objs.size = none := I.hok.fresh (Nat.le_refl _)
  have I1 : Inv X pins σ (upd H s.heap.objs.size (.lst [])) { s with heap := s.heap.push { cls := .type "list", data := .seq #[] } } := I.lnew (its := []) (t' := s.toks) .nil (Nat.zero_le _)
  show wpAny _ _ (do let old ← Builtin.List.listItems (.ref s.heap.objs.size); Builtin.List.listUpdate (.ref s.heap.objs.size) (fun _ => #[]); letGo old.toList.reverse; Builtin.List.listExtendWith (.ref s.heap.objs.size) (.ref a) .none) _ _ _
  refine wpAny_bind ?_
  unfold Builtin.List.listItems
  refine wpAny_bind (wpAny_seqItems hS rfl (wpAny_pure ?_))
  show wpAny _ _ (updateSeq s.heap.objs.size (fun _ => #[]) >>= fun _ => letGo (#[] : Array Value).toList.reverse >>= fun _ => Builtin.List.listExtendWith (.ref s.heap.objs.size) (.ref a) .none) _ _ _
  refine wpAny_bind (wpAny_updateSeq hS rfl ?_)
  have I2 := I1.lset (f := fun _ => #[]) (its := []) (its' := []) (ys := []) (t' := s.toks) upd_same hS rfl .nil (Nat.zero_le _)
  rw [upd_upd] at I2
  refine wpAny_bind (wpAny_letGo ?_)
  have ha2 : Rd (upd H s.heap.objs.size (.lst [])) a (.ins C dx fs) := rd_upd ha fr
  have hx2 : SqL X.K (upd H s.heap.objs.size (.lst [])) l ys := sql_upd hx fr
  have hne := rd_ne ha fr
  revert I2
  generalize (Shared.mk _ _ _ _ _ : Shared) = s2
  intro I2
  obtain ⟨mA, J, _⟩ := ins_rd I2.hok ha2
  obtain ⟨od, J, _⟩ := J.look
  unfold Builtin.List.listExtendWith
  refine wpAny_bind (J.type.here ?_)
  have e1 : Builtin.List.listSameRef (.ref s.heap.objs.size) (.ref a) = false := by simp [Builtin.List.listSameRef, hne]
  have e2 : (Value.ref C == Value.type "list") = false := rfl
  have e3 : (Value.ref C == Value.type "tuple") = false := rfl
  simp only [e1, e2, e3, Bool.or_false, Bool.false_eq_true, if_false]
  refine wpAny_bind (own_pyIter (A := X.A.in1.in1) rfl F hr.in1.in1 hb hs hf I2 ha2 hl hx2 fun it s3 n1 n2 I3 => ?_)
  have hi : upd (upd H s.heap.objs.size (.lst [])) it (ItO l it 0) it = some (ItO l it 0) := upd_same
  have eo := itO_get I3 hi
  have st : s3.heap.IsListIter it l 0 := ⟨_, eo, rfl, rfl⟩
  have hi' := hi
  unfold ItO at hi'
  have fp := ItX.inv_fp I3 hi (Nat.le_trans I2.sz n2)
  have I4 := ItX.inv_drop I3 hi'
  have ed : ItX.dropH (upd (upd H s.heap.objs.size (.lst [])) it (ItO l it 0)) it = upd H s.heap.objs.size (.lst []) := ItX.dropH_upd n1
  rw [ed] at I4
  rw [ed] at fp
  have hne2 : it ≠ s.heap.objs.size := by
    rintro rfl
    rw [upd_same] at n1
    cases n1
  have fp0 : FpOk X pins H it := ⟨by rw [upd_ne hne2] at n1; exact n1, fp.2⟩
  have fin : ∀ s', Inv X pins σ (upd H s.heap.objs.size (.lst ys)) s' → wants (fun r s₂ => r = .none ∧ EP X pins σ Q (.ref s.heap.objs.size) s₂) X.xe (.ok (.ret .none)) s' := fun s' I' => ⟨rfl, .ref s.heap.objs.size, _, I', rfl, hq _ fr⟩
  obtain ⟨mA', J', _⟩ := ins_rd I4.hok ha2
  obtain ⟨od', J', _⟩ := J'.look
  refine wpAny_bind (wpAny_holding (ownL_hint h1 h2 I4.kIn J' ?_))
  obtain ⟨z, its, kk, r3, hl3, e3⟩ := I4.lstM upd_same
  cases r3
  have hd : X.A.in1.in1.handled = none := I.ok.hd hcalm
  refine wpAny_ite_split (fun _ => ?_) (fun _ => wpAny_pure ⟨plainId_quiet PySem.F.plain_extend_loop _, ownL_loop (A1 := X.A.in1) hd fr hx hz fp0 hne2 fin _ 0 s3 rfl (Nat.zero_le _) I4 st⟩)
  refine wpAny_bind (wpAny_rule ?_)
  refine wpAny_bind ?_
  show wpAny _ _ (updateSeq s.heap.objs.size (·.push .none) >>= fun _ => updateSeq s.heap.objs.size (·.pop)) _ _ _
  refine wpAny_bind (wpAny_updateSeq e3 rfl ?_)
  have I5 := I4.lset (f := (·.push Value.none)) (its' := [Value.none]) (ys := [.non]) (t' := s3.toks) upd_same e3 (by simp) (.cons rfl .nil) (by rw [List.length_singleton, sizeLine_eq]; decide)
  obtain ⟨z4, its4, k4, r4, hl4, e4⟩ := I5.lstM upd_same
  obtain ⟨u4, rfl, ru4⟩ := r4.one
  refine wpAny_updateSeq e4 rfl ?_ (by show 1 ≤ sizeLine; rw [sizeLine_eq]; decide) (by show 0 ≤ sizeLine + 1; exact Nat.zero_le _)
  have I6 := I5.lset (f := (·.pop)) (its := [u4]) (its' := []) (ys := []) (t' := s3.toks) upd_same e4 (by rfl) .nil (Nat.zero_le _)
  rw [upd_upd, upd_upd] at I6
  refine wpAny_pure ⟨plainId_quiet PySem.F.plain_extend_loop _, ownL_loop (A1 := X.A.in1) hd fr hx hz fp0 hne2 fin _ 0 _ rfl (Nat.zero_le _) I6 ?_⟩
  exact (st.at fun o e => (Heap.get?_update_other _ _ (fun z => hne2 z.symm)).trans e).at fun o e => (Heap.get?_update_other _ _ (fun z => hne2 z.symm)).trans e
end
end My


/-! Own7: == of two dicts, isinstance with locked instances, xs[::-1]. -/
namespace My
open PySem PySem.Spec PyProof.Rows L2
/-! ### == of two dicts of flat values, both answers -/
def hitV (kvs : List (Key × V)) (p : Key × V) : Bool := match valV kvs p.1 with
  | some y => eqV p.2 y
  | none => false
def eqKV (ks kvs : List (Key × V)) : Bool := ks.length == kvs.length && ks.all (hitV kvs)
theorem hits_any {A : Around} {s : Shared} {kvs : List (Key × V)} {vb : List (Key × Value)} (rb : KV kvs vb) (fb : ∀ k y, valV kvs k = some y → flatV y = true) {ks : List (Key × V)} {va : List (Key × Value)} (ra : KV ks va) :
    (∀ p ∈ ks, flatV p.2 = true) → PySem.W.KeqHits A s vb va (ks.all (hitV kvs)) := by
  unfold KV at ra
  induction ra with
  | nil => intro _; exact .nil
  | @cons p q ps qs h t ih =>
    intro hp
    obtain ⟨h1, h2⟩ := h
    have f := hp p List.mem_cons_self
    have it := ih fun p' hm => hp p' (List.mem_cons_of_mem _ hm)
    have rr := rb.val p.1
    obtain ⟨k, v⟩ := q
    have h1' : p.1 = k := h1
    rw [List.all_cons]
    cases hv : valV kvs p.1 with
    | none =>
      rw [hv] at rr
      have e := RelO.none_of rr
      rw [h1'] at e
      rw [show hitV kvs p = false from by unfold hitV; rw [hv], Bool.false_and]
      exact .miss e
    | some y =>
      rw [hv] at rr
      obtain ⟨z, hz, rz⟩ := rr.some_of
      rw [h1'] at hz
      rw [show hitV kvs p = eqV p.2 y from by unfold hitV; rw [hv]]
      exact .hit hz (eqAt_V h2 rz f (fb _ _ hv)) it
def rEqDict : R2 := fun x y H Q => ∃ a b ks kvs, x = .ref a ∧ y = .ref b ∧ Rd H a (.dK ks) ∧ Rd H b (.dK kvs) ∧ (∀ p ∈ ks, flatV p.2 = true) ∧ (∀ k y, valV kvs k = some y → flatV y = true) ∧ Q (.bl (eqKV ks kvs)) H
section
variable {X : Cx}
theorem op_eqDict (hu : X.A.units < cLine) : OpR X (compareOp .Eq) rEqDict := by
  intro pins s σ H x y v u Q I rx ry h
  obtain ⟨a, b, ks, kvs, rfl, rfl, ea, eb, fa, fb, q⟩ := h
  obtain rfl : v = Value.ref a := rx
  obtain rfl : u = Value.ref b := ry
  obtain ⟨_, ya, va, ra, da⟩ := dk_rd I.hok ea
  obtain ⟨_, yb, vb, rb, db⟩ := dk_rd I.hok eb
  refine PySem.W.keq_eq (knd := mixKind X.prog X.w) (r := ks.all (hitV kvs)) ya yb da db hu (fun _ => hits_any rb fb ra fa) (fin_bl I q ?_)
  unfold eqKV
  rw [ra.length, rb.length]
/-! ### isinstance -/
inductive TyD (K : PySem.W.Frag) (H : Hp) : V → Value → Prop where
  | x {x : V} {t : Value} (h : TyX K H x t) : TyD K H x t
  | ins {a C dx : Addr} {fs : List (Str × V)} (e : Rd H a (.ins C dx fs)) (c : C8.InsC K C) : TyD K H (.ref a) (.ref C)
theorem kit_ofD {pins : List (Addr × Obj)} {σ : L2.St} {H : Hp} {s : Shared} {x : V} {u t : Value} (I : Inv X pins σ H s) (rx : RelV x u) (ty : TyD X.K H x t) : ∃ P : Heap → Prop, PySem.W.KitX X.K u t P ∧ P s.heap ∧ u ≠ .builtin "__main__.__loader__#opaque" := by
  cases ty with
  | x h => exact kit_of I rx h
  | @ins a C dx fs e c =>
    cases rx
    obtain ⟨mA, O, _⟩ := ins_rd I.hok e
    obtain ⟨od, J, _⟩ := O.look
    exact ⟨_, PySem.W.kitx_own (c.cl.get _) c.cl.hd c.ha c.hn c.htk c.hm, J, fun z => nomatch z⟩
def rIsiD (K : PySem.W.Frag) : List V → Hp → VK → Prop := fun xs H Q => ∃ (x c : V) (t u : Value) (b : Bool), xs = [x, c] ∧ ClsV c u ∧ TyD K H x t ∧ PySem.W.kitOne K t u = some b ∧ Q (.bl b) H
theorem call_isiD : CallR X (.builtin "isinstance") (rIsiD X.K) := by
  intro pins s σ H xs us Q I r h
  obtain ⟨x, c, t, u, b, rfl, k, ty, e, q⟩ := h
  obtain ⟨u1, u2, rfl, r1, r2⟩ := vals2 r
  have e2 := k.eq r2
  subst e2
  obtain ⟨P, Z, p, hx⟩ := kit_ofD I r1 ty
  exact PySem.W.kia_one Z I.kIn p e hx fun tk => ⟨.bl b, H, I.tok tk, rfl, q⟩
/-- o == y, o an instance with own __eq__ -/
def rOwnEqD (K : PySem.W.Frag) (C : Addr) (sp : Sp) : R2 := fun x y H Q => (∃ a dx fs, x = .ref a ∧ Rd H a (.ins C dx fs)) ∧ (∃ t, TyD K H y t ∧ PySem.W.notFirst K C t = true) ∧ sp [x, y] H Q E0
theorem op_ownEqD {k : Nat} {f C : Addr} {fd : FuncData} {ps : List Str} {sp : Sp} (F : FnOk X.prog X.w X.K X.mg X.base CX0 k f fd ps sp) (hr : Room k X.A) (hb : Binds X.K fd ps [])
    (hs : PySem.W.findIn X.K (.ref C) "__eq__" = some (some (.ref f))) (hf : PySem.W.isFn X.K (.ref f) = true) : OpR X (compareOp .Eq) (rOwnEqD X.K C sp) := by
  intro pins s σ H x y v u Q I rx ry h
  obtain ⟨⟨a, dx, fs, rfl, ha⟩, ⟨t, ty, nf⟩, h⟩ := h
  cases rx
  obtain ⟨mA, J, _⟩ := ins_rd I.hok ha
  obtain ⟨od, J, _⟩ := J.look
  obtain ⟨P, Z, p, hx⟩ := kit_ofD I ry ty
  obtain ⟨m, hF⟩ := I.fr
  show wpAny (model X.prog X.w) X.A (richCompare .Eq (.ref a) u) (EP X pins σ Q) X.xe s
  refine PySem.W.cmp_K (op := .Eq) (tb := t) (hr.units0) hF I.ok.mod.kin J (Z.ty _ _ I.kIn p) nf hs hf (wpAny_mono (run_fn (us := [.ref a, u]) (vs := [.ref a, y]) F hr hb .nil pass0 I (.cons rfl (.cons ry .nil)) ?_) (fun w s' hw => back_of hw) fun _ _ z => z)
  rw [List.append_nil]
  exact h
end
/-! ### xs[::-1] -/
theorem range_pick {α : Type} : ∀ l : List α, (List.range l.length).filterMap (fun k => l[k]?) = l
  | [] => rfl
  | x :: r => by
    rw [List.length_cons, List.range_succ_eq_map, List.filterMap_cons]
    simp only [List.getElem?_cons_zero, List.filterMap_map]
    exact congrArg (x :: ·) (range_pick r)
theorem pick_rev (xs : List Value) : slicePick xs.toArray none none (some (-1)) = xs.reverse.toArray := by
  have e : sliceBounds none none (some (-1)) xs.toArray.size = ((xs.length : Int) - 1, -1, -1) := by simp [sliceBounds]
  unfold slicePick
  rw [e]
  dsimp only
  have e2 : sliceRange ((xs.length : Int) - 1) (-1) (-1) = (List.range xs.length).map fun k => xs.length - 1 - k := by
    unfold sliceRange
    have c : (if (-1 : Int) > 0 then (if (xs.length : Int) - 1 < -1 then (-1 - ((xs.length : Int) - 1) + -1 - 1) / -1 else 0) else (if (xs.length : Int) - 1 > -1 then ((xs.length : Int) - 1 - -1 - -1 - 1) / (- -1) else 0)) = (xs.length : Int) := by
      rw [if_neg (by decide)]
      by_cases h : (xs.length : Int) - 1 > -1
      · rw [if_pos h]
        simp
      · rw [if_neg h]
        omega
    simp only [c, Int.toNat_natCast]
    apply List.map_congr_left
    intro k hk
    have hk := List.mem_range.mp hk
    omega
  rw [e2, List.filterMap_map]
  congr 1
  have e3 : ∀ n, n ≤ xs.length → (List.range n).filterMap ((fun x => xs.toArray[x]?) ∘ fun k => xs.length - 1 - k) = (List.range n).filterMap (fun k => xs.reverse[k]?) := by
    intro n
    induction n with
    | zero => intro _; rfl
    | succ n ih =>
      intro hn
      rw [List.range_succ, List.filterMap_append, List.filterMap_append, ih (by omega)]
      congr 1
      have : xs.toArray[xs.length - 1 - n]? = xs.reverse[n]? := by
        rw [List.getElem?_reverse (by omega)]
        simp
      rw [List.filterMap_cons, List.filterMap_cons]
      have this2 : ((fun x => xs.toArray[x]?) ∘ fun k => xs.length - 1 - k) n = xs.reverse[n]? := this
      rw [this2]
      rfl
  have e4 := range_pick xs.reverse
  rw [List.length_reverse] at e4
  rw [e3 _ (Nat.le_refl _), e4]
def tRev (K : PySem.W.Frag) (te : TE) : TE := fun σ H Q => te σ H fun x H1 => ∃ a xs, x = .ref a ∧ SqL K H1 a xs ∧ ∀ p, H1 p = none → Q (.ref p) (upd H1 p (.lst xs.reverse))
theorem vals_rev : ∀ {vs : List V} {us : List Value}, Vals vs us → Vals vs.reverse us.reverse
  | _, _, .nil => .nil
  | _, _, .cons h t => by
    rw [List.reverse_cons, List.reverse_cons]
    exact (vals_rev t).append (.cons h .nil)
section
variable {X : Cx} {e m : Expr} {te : TE} {p2 pos : Pos}
theorem pe_rev (he : PE X e te) (hm : PE X m (tUn (rU fun i => .int (-i)) (tC (.int 1)))) : PE X (.Subscript e (.Slice none none (some m) p2) pos) (tRev X.K te) := by
  refine ⟨fun pins s σ H Q I h => ?_⟩
  refine Subscript_ (thn (he.run pins s σ H _ I h) fun v s1 ⟨x, H1, I1, r1, q1⟩ => ?_)
  refine wpAny_Slice (wpAny_pure (wpAny_pure ?_))
  rw [evalPart_some]
  refine thn (hm.run pins s1 σ H1 (fun v H' => v = .int (-1) ∧ H' = H1) I1 ⟨1, rfl, rfl, rfl⟩) fun vs s3 ⟨w, H3, I3, rw3, ew, eH⟩ => ?_
  subst ew eH
  obtain ⟨tk, rfl⟩ := rw3
  obtain ⟨a, xs, rfl, hx, q⟩ := q1
  cases r1
  have I4 : Inv X pins σ H3 { s3 with heap := s3.heap.push { cls := .type "slice", data := .fields #[.none, .none, .int (-1) tk] } } := I3.kept (t' := s3.toks) fun b ob q => Heap.get?_push_of_some _ q
  obtain ⟨its, r, ht, hz⟩ := I4.list hx
  have hlen := r.length
  show wpAny (model X.prog X.w) X.A (subscriptTail e (.Slice none none (some m) p2) (.ref a) (.ref s3.heap.objs.size)) (EP X pins σ Q) X.xe { s3 with heap := s3.heap.push { cls := .type "slice", data := .fields #[.none, .none, .int (-1) tk] } }
  refine tail_any (ops := [.ref a, .ref s3.heap.objs.size]) ht.isList.typeIs slot_list_getitem.lookup ?_ (by with_unfolding_all rfl)
  refine wpAny_getItem_list_slice ht.isList (Heap.IsSliceOf.new ..) .none .none (.int (-1) tk) (by simp) ?_ (by rw [List.size_toArray] <;> omega)
  rw [pick_rev]
  refine ⟨.ref _, _, I4.laid (t' := s3.toks) (o := .lst xs.reverse) (fun b ob q => Heap.get?_push_of_some _ q) (Nat.le_refl _) ?_, rfl, q _ (I4.hok.fresh (Nat.le_refl _))⟩
  exact ⟨by rw [List.length_reverse]; exact hz, _, 0, vals_rev r, Heap.get?_push_size _ rfl⟩
end
end My


/-! Q9: new dicts, own operators, isinstance over plain values. -/
namespace My
open PySem PySem.Spec PyProof.Rows L2
abbrev PDx := Sd → (List (Key × D) → Prop) → Prop
/-- a new dict comes -/
def LD (K : PySem.W.Frag) (s c : Addr) (H0 : Hp) (t : TE) (p : PDx) : Prop := ∀ (σ : L2.St) (σd : Sd) (H : Hp) (Q : VK) (P : List (Key × D) → Prop), Rel K s c H0 σ H σd → p σd P →
  (∀ kds a kvs H', P kds → H' a = some (.dK kvs) → H a = none → DRk K s H' kvs kds → Stp s c H H' → Q (.ref a) H') → t σ H Q
section
variable {K : PySem.W.Frag} {s c : Addr} {H0 : Hp}
def pNewM (p : PDx) : PEx := fun σd P => p σd fun kds => P (.dm kds)
theorem LD.le {t : TE} {p : PDx} (h : LD K s c H0 t p) : LE K s c H0 t (pNewM p) := fun σ σd H Q P R hp k =>
  h σ σd H Q _ R hp fun kds a kvs H1 h1 ha hn hd st => k _ _ H1 h1 ⟨a, kvs, rfl, ha, hd, (R.src.ne hn).1, (R.src.ne hn).2⟩ st
def pFrzM (p : PDx) : PEx := fun σd P => p σd fun kds => P (.dat (.dic kds))
theorem LD.frz {t : TE} {p : PDx} (h : LD K s c H0 t p) : LE K s c H0 (tFrz t) (pFrzM p) := fun σ σd H Q P R hp k => by
  refine h σ σd H _ _ R hp fun kds a kvs H1 h1 ha hn hd st => ⟨a, _, rfl, ha, trivial, fun o => ?_⟩
  have nn := R.src.ne hn
  have kl : Kp a H1 (upd H1 a (.frz o (.dK kvs))) := Kp.self
  have im : Im H1 (upd H1 a (.frz o (.dK kvs))) := kl.im ⟨_, ha, rfl⟩
  refine k _ _ _ h1 (.dic upd_same (hd.im im)) ⟨fun b o' nb hb => ?_, st.src.kp nn.1.symm nn.2.symm kl⟩
  exact kl _ _ (fun z => by subst z; rw [hn] at hb; cases hb) (st.kp _ _ nb hb)
def pNewD (a : PDx) (i : Nat) : PSx := fun e σd => a σd fun kds => e.nx (σd.set i (some (.dm kds)))
theorem rel_put {s c a : Addr} {H0 H H1 : Hp} {σ : L2.St} {σd : Sd} {i : Nat} {x : Cell} (R : Rel K s c H0 σ H σd) (st : Stp s c H H1) (hn : H a = none) (hc : CellR K s c H1 (.ref a) x) : Rel K s c H0 (σ.set i (some (.ref a))) H1 (σd.set i (some x)) := by
  have nn := R.src.ne hn
  refine (R.stp st).set (x := x) hc (fun _ b eb => by cases eb; exact Kp.none R.kp0 nn.1 hn) (fun _ b eb j nj lj hj => ?_)
  cases eb
  obtain ⟨y, hy, hr⟩ := R.slot j _ hj
  rw [hy] at lj
  cases y with
  | none => cases lj
  | some y =>
    obtain ⟨b, eb, ⟨u, hb, _⟩, _⟩ := loose_at (i := 0) (l := 0) hr lj
    cases eb
    rw [hn] at hb
    cases hb
theorem S_newD {t : TE} {a : PDx} (i : Nat) (ha : LD K s c H0 t a) : LS K s c H0 (tAsg t (gName i)) (pNewD a i) := fun σ σd H E e R h k => by
  refine ha σ σd H _ _ R h fun kds a kvs H1 h1 hv hn hd st => ?_
  exact k.nx _ _ H1 h1 (rel_put R st hn ⟨a, kvs, rfl, hv, hd, R.src.ne hn⟩) (st.im R.src)
def pDNil : PDx := fun _ P => P []
theorem L_dnewK : LD K s c H0 tDNewK pDNil := fun σ σd H Q P R h k => by
  intro p hp
  exact k [] p [] _ h upd_same hp .nil (stp_new R.src hp)
def LCD (K : PySem.W.Frag) (r : List V → Hp → VK → Prop) (f : List Cell → (List (Key × D) → Prop) → Prop) : Prop := ∀ (s c : Addr) (vs : List V) (xs : List Cell) (H : Hp) (Q : VK) (P : List (Key × D) → Prop), CellsR K s c H vs xs → Src H s c → f xs P →
  (∀ kds a kvs H', P kds → H' a = some (.dK kvs) → H a = none → DRk K s H' kvs kds → Stp s c H H' → Q (.ref a) H') → r vs H Q
def pCBD (f : List Cell → (List (Key × D) → Prop) → Prop) (a : PAx) : PDx := fun σd P => a σd fun xs => f xs P
theorem L_cbd {r : List V → Hp → VK → Prop} {f : List Cell → (List (Key × D) → Prop) → Prop} {t : TA} {a : PAx} (hr : LCD K r f) (ha : LA K s c H0 t a) : LD K s c H0 (tCB r t) (pCBD f a) := fun σ σd H Q P R h k => by
  refine ha σ σd H _ _ R h fun xs vs H1 h1 r1 s1 => ?_
  exact hr s c vs xs H1 Q P r1 s1.src h1 fun kds a kvs H2 h2 ha hn hd s2 => k kds a kvs H2 h2 ha (Kp.none s1.kp (s1.src.ne hn).1 hn) hd (s1.trans s2)
/-! ### dict(d), dict(pairs), list(d) -/
def rDictD : List V → Hp → VK → Prop := fun xs H Q => ∃ (a : Addr) (kvs : List (Key × V)), xs = [.ref a] ∧ Rd H a (.dK kvs) ∧ ∀ p, H p = none → Q (.ref p) (upd H p (.dK kvs))
def gDictD : List Cell → (List (Key × D) → Prop) → Prop := fun xs P => ∃ x kds, xs = [x] ∧ dicK x = some kds ∧ P kds
theorem C_dictD : LCD K rDictD gDictD := fun s c vs xs H Q P hx S h k => by
  obtain ⟨x, kds, rfl, e, h⟩ := h
  obtain ⟨v, rfl, hv⟩ := one_of hx
  obtain ⟨a, kvs, rfl, ha, hd⟩ := dicK_at hv e
  refine ⟨a, kvs, rfl, ha, fun p hp => ?_⟩
  have e2 := stp_new (o := .dK kvs) S hp
  exact k _ _ _ _ h upd_same hp (hd.im (e2.im S)) e2
def rListD : List V → Hp → VK → Prop := fun xs H Q => ∃ (a : Addr) (kvs : List (Key × V)), xs = [.ref a] ∧ Rd H a (.dK kvs) ∧ ∀ p, H p = none → Q (.ref p) (upd H p (.lst (kvs.map fun kv => kV kv.1)))
def gListD : List Cell → (List D → Prop) → Prop := fun xs P => ∃ x kds, xs = [x] ∧ dicK x = some kds ∧ P (kds.map fun kd => keyD kd.1)
theorem DRk.keys {s : Addr} {H : Hp} : ∀ {kvs : List (Key × V)} {kds : List (Key × D)}, DRk K s H kvs kds → ∀ H', DRs K s H' (kvs.map fun kv => kV kv.1) (kds.map fun kd => keyD kd.1)
  | _, _, .nil, _ => .nil
  | _, _, .cons _ r, H' => .cons (keyD_dr _) (DRk.keys r H')
theorem C_listD : LCN K rListD gListD := fun s c vs xs H Q P hx S h k => by
  obtain ⟨x, kds, rfl, e, h⟩ := h
  obtain ⟨v, rfl, hv⟩ := one_of hx
  obtain ⟨a, kvs, rfl, ha, hd⟩ := dicK_at hv e
  refine ⟨a, kvs, rfl, ha, fun p hp => ?_⟩
  have e2 := stp_new (o := .lst (kvs.map fun kv => kV kv.1)) S hp
  exact k _ _ _ _ h upd_same hp (hd.keys _) e2
def rDictP (K : PySem.W.Frag) : List V → Hp → VK → Prop := fun xs H Q => ∃ (a : Addr) (ps : List Addr) (kvs : List (Key × V)), xs = [.ref a] ∧ SqL K H a (ps.map V.ref) ∧ Paired (fun p kv => SqT K H p [kV kv.1, kv.2]) ps kvs ∧ ∀ p, H p = none → Q (.ref p) (upd H p (.dK (mergeK [] kvs)))
def mergeG (kds more : List (Key × D)) : List (Key × D) := more.foldl (fun acc kd => putG acc kd.1 kd.2) kds
def pairD (kd : Key × D) : D := .tup [keyD kd.1, kd.2]
def gDictP : List Cell → (List (Key × D) → Prop) → Prop := fun xs P => ∃ x kds, xs = [x] ∧ seqL x = some (kds.map pairD) ∧ P (mergeG [] kds)
theorem DRk.merge {s : Addr} {H : Hp} : ∀ {more : List (Key × V)} {mored : List (Key × D)}, DRk K s H more mored → ∀ {kvs : List (Key × V)} {kds : List (Key × D)}, DRk K s H kvs kds → DRk K s H (mergeK kvs more) (mergeG kds mored)
  | _, _, .nil, _, _, h => h
  | _, _, .cons x r, _, _, h => DRk.merge r (h.put _ x)
theorem key_of_dr {s : Addr} {H : Hp} {v : V} {k : Key} (h : DR K s H v (keyD k)) : v = kV k := by
  cases k with
  | inl i => cases h; rfl
  | inr z => cases h; rfl
theorem pairs_at {s : Addr} {H : Hp} : ∀ {vs : List V} {kds : List (Key × D)}, DRs K s H vs (kds.map pairD) → ∃ ps kvs, vs = ps.map V.ref ∧ Paired (fun p kv => SqT K H p [kV kv.1, kv.2]) ps kvs ∧ DRk K s H kvs kds
  | _, [], h => by cases h; exact ⟨[], [], rfl, .nil, .nil⟩
  | _, kd :: kds, h => by
    cases h with
    | cons x r =>
      obtain ⟨ps, kvs, rfl, h1, h2⟩ := pairs_at r
      cases x with
      | @tup a us _ ha hu =>
        cases hu with
        | cons y z => cases z with
          | cons y2 z2 =>
            cases z2
            rw [key_of_dr y] at ha
            exact ⟨a :: ps, (kd.1, _) :: kvs, rfl, .cons (.inl (.inl ha)) h1, .cons y2 h2⟩
theorem C_dictP : LCD K (rDictP K) gDictP := fun s c vs xs H Q P hx S h k => by
  obtain ⟨x, kds, rfl, e, h⟩ := h
  obtain ⟨v, rfl, hv⟩ := one_of hx
  obtain ⟨a, us, rfl, ha, hd⟩ := seqL_at hv e
  obtain ⟨ps, kvs, rfl, h1, h2⟩ := pairs_at hd
  refine ⟨a, ps, kvs, rfl, ha, h1, fun p hp => ?_⟩
  have e2 := stp_new (o := .dK (mergeK [] kvs)) S hp
  exact k _ _ _ _ h upd_same hp (DRk.merge (h2.im (e2.im S)) .nil) e2
/-! ### operators that give a new list -/
def LOpN (K : PySem.W.Frag) (r : R2) (f : Cell → Cell → (List D → Prop) → Prop) : Prop := ∀ (s c : Addr) (v w : V) (x y : Cell) (H : Hp) (Q : VK) (P : List D → Prop), CellR K s c H v x → CellR K s c H w y → Src H s c → f x y P →
  (∀ ds a us H', P ds → H' a = some (.lst us) → H a = none → DRs K s H' us ds → Stp s c H H' → Q (.ref a) H') → r v w H Q
def pOpN (f : Cell → Cell → (List D → Prop) → Prop) (a b : PEx) : PNx := fun σd P => a σd fun x => b σd fun y => f x y P
theorem L_opN {r : R2} {f : Cell → Cell → (List D → Prop) → Prop} {ta tb : TE} {a b : PEx} (ho : LOpN K r f) (ha : LE K s c H0 ta a) (hb : LE K s c H0 tb b) : LN K s c H0 (tOp r ta tb) (pOpN f a b) := fun σ σd H Q P R h k => by
  refine ha σ σd H _ _ R h fun x v H1 h1 r1 s1 => ?_
  refine hb σ σd H1 _ _ (R.stp s1) h1 fun y w H2 h2 r2 s2 => ?_
  have st := s1.trans s2
  exact ho s c v w x y H2 Q P (r1.stp s1.src s2) r2 s2.src h2 fun ds a us H3 h3 ha hn hd s3 => k ds a us H3 h3 ha (Kp.none st.kp (st.src.ne hn).1 hn) hd (st.trans s3)
def fCat : Cell → Cell → (List D → Prop) → Prop := fun x y P => ∃ ds es, x = .lm ds ∧ y = .lm es ∧ ds.length + es.length ≤ 100000 ∧ P (ds ++ es)
theorem O_cat : LOpN K rCat fCat := fun s c v w x y H Q P hx hy S h k => by
  obtain ⟨ds, es, rfl, rfl, hl, h⟩ := h
  obtain ⟨a, us, rfl, ha, hd, _⟩ := hx
  obtain ⟨b, ws, rfl, hb, he, _⟩ := hy
  refine ⟨a, b, us, ws, rfl, rfl, ha, hb, by rw [hd.len, he.len]; exact Nat.le_trans hl (by decide), fun p hp => ?_⟩
  have e2 := stp_new (o := .lst (us ++ ws)) S hp
  exact k _ _ _ _ h upd_same hp ((hd.append he).im (e2.im S)) e2
theorem DRs.rev {s : Addr} {H : Hp} : ∀ {vs : List V} {ds : List D}, DRs K s H vs ds → DRs K s H vs.reverse ds.reverse
  | _, _, .nil => .nil
  | _, _, .cons x r => by
    rw [List.reverse_cons, List.reverse_cons]
    exact (DRs.rev r).snoc x
def pRev (a : PEx) : PNx := fun σd P => a σd fun x => ∃ ds, seqL x = some ds ∧ P ds.reverse
theorem L_rev {t : TE} {a : PEx} (ha : LE K s c H0 t a) : LN K s c H0 (tRev K t) (pRev a) := fun σ σd H Q P R h k => by
  refine ha σ σd H _ _ R h fun x v H1 h1 r1 s1 => ?_
  obtain ⟨ds, e, h⟩ := h1
  obtain ⟨b, vs, rfl, hb, hd⟩ := seqL_at r1 e
  refine ⟨b, vs, rfl, hb, fun p hp => ?_⟩
  have e2 := stp_new (o := .lst vs.reverse) s1.src hp
  exact k _ _ _ _ h upd_same (Kp.none s1.kp (s1.src.ne hp).1 hp) (hd.rev.im (e2.im s1.src)) (s1.trans e2)
def gSortedL : List Cell → (List D → Prop) → Prop := fun xs P => ∃ (x : Cell) (zs : List Str), xs = [x] ∧ seqL x = some (zs.map D.str) ∧ P ((zs.mergeSort leS).map D.str)
theorem C_sortedL : LCN K (rSortedL K) gSortedL := fun s c vs xs H Q P hx S h k => by
  obtain ⟨x, zs, rfl, e, h⟩ := h
  obtain ⟨v, rfl, hv⟩ := one_of hx
  obtain ⟨a, us, rfl, ha, hd⟩ := seqL_at hv e
  cases strs_of hd
  refine ⟨a, zs, rfl, ha, fun p hp => ?_⟩
  exact k _ _ _ _ h upd_same hp (strs_dr _) (stp_new (o := .lst ((zs.mergeSort leS).map V.str)) S hp)
/-! ### == of dicts -/
def flatD : D → Bool
  | .non => true
  | .bl _ => true
  | .int _ => true
  | .str _ => true
  | _ => false
theorem flatD_at {s : Addr} {H : Hp} {v : V} {d : D} (h : DR K s H v d) (f : flatD d = true) : flatV v = true := by
  cases h <;> first | rfl | cases f
def hitD (kds : List (Key × D)) (p : Key × D) : Bool := match p.2, valD kds p.1 with
  | .int i, some (.int j) => i == j
  | _, _ => false
def allInt (kds : List (Key × D)) : Prop := ∀ p ∈ kds, ∃ i, p.2 = .int i
def eqKD (ks kds : List (Key × D)) : Bool := ks.length == kds.length && ks.all (hitD kds)
theorem valD_mem {kds : List (Key × D)} {k : Key} {d : D} (h : valD kds k = some d) : (k, d) ∈ kds := by
  unfold valD at h
  obtain ⟨p, h1, h2⟩ := Option.map_eq_some_iff.mp h
  have h3 := List.find?_some h1
  have h4 := List.mem_of_find?_eq_some h1
  obtain ⟨a, b⟩ := p
  cases of_decide_eq_true h3
  cases h2
  exact h4
theorem DRk.hit {s : Addr} {H : Hp} {kvs : List (Key × V)} {kds : List (Key × D)} (hb : DRk K s H kvs kds) (ib : allInt kds) : ∀ {ks : List (Key × V)} {kes : List (Key × D)}, DRk K s H ks kes → allInt kes → (∀ p ∈ ks, flatV p.2 = true) ∧ ks.all (hitV kvs) = kes.all (hitD kds)
  | _, _, .nil, _ => ⟨fun p hp => (by cases hp), rfl⟩
  | _, _, .cons (k := k) (v := v) (d := d) x r, ia => by
    obtain ⟨h1, h2⟩ := DRk.hit hb ib r fun p hp => ia p (List.mem_cons_of_mem _ hp)
    obtain ⟨i, hi⟩ := ia _ List.mem_cons_self
    cases (show d = .int i from hi)
    cases x
    refine ⟨fun p hp => ?_, ?_⟩
    · rcases List.mem_cons.mp hp with rfl | hp
      · rfl
      · exact h1 p hp
    · rw [List.all_cons, List.all_cons, h2]
      congr 1
      have o := hb.val k
      unfold hitV hitD
      dsimp only
      cases hv : valV kvs k with
      | none =>
        rw [hv] at o
        cases hd : valD kds k with
        | none => rfl
        | some y => rw [hd] at o; exact o.elim
      | some y =>
        rw [hv] at o
        cases hd : valD kds k with
        | none => rw [hd] at o; exact o.elim
        | some z =>
          rw [hd] at o
          obtain ⟨j, hj⟩ := ib _ (valD_mem hd)
          cases (show z = .int j from hj)
          cases (show DR K s H y (.int j) from o)
          rfl
def fEqDict : P2 := fun x y P => ∃ ks kds, dicK x = some ks ∧ dicK y = some kds ∧ allInt ks ∧ allInt kds ∧ P (cB (eqKD ks kds))
theorem O_eqDict : LOp K rEqDict fEqDict := fun s c v w x y H Q P hx hy S h k => by
  obtain ⟨ks, kds, e1, e2, i1, i2, h⟩ := h
  obtain ⟨a, kvs, rfl, ha, hd⟩ := dicK_at hx e1
  obtain ⟨b, kws, rfl, hb, he⟩ := dicK_at hy e2
  obtain ⟨h1, h2⟩ := DRk.hit he i2 hd i1
  refine ⟨a, b, kvs, kws, rfl, rfl, ha, hb, h1, fun j y hv => ?_, ?_⟩
  · have o := he.val j
    rw [hv] at o
    cases hd2 : valD kds j with
    | none => rw [hd2] at o; exact o.elim
    | some z =>
      rw [hd2] at o
      obtain ⟨i, hi⟩ := i2 _ (valD_mem hd2)
      cases (show z = .int i from hi)
      cases (show DR K s H y (.int i) from o)
      rfl
  · rw [show eqKV kvs kws = eqKD ks kds from by unfold eqKV eqKD; rw [hd.len, he.len, h2]]
    exact k _ _ H h (.bl _) (.refl S)
def fIsB (g : Bool → Bool) : P2 := fun x y P => ∃ a b, x = cB a ∧ y = cB b ∧ P (cB (g (decide (a = b))))
theorem O_notB : LOp K rNotB (fIsB not) := fun s c v w x y H Q P hx hy S h k => by
  obtain ⟨a, b, rfl, rfl, h⟩ := h
  exact ⟨a, b, bl_eq hx, bl_eq hy, k _ _ H h (.bl _) (.refl S)⟩
/-! ### isinstance -/
def tyN : D → Option String
  | .non => some "NoneType"
  | .bl _ => some "bool"
  | .int _ => some "int"
  | .str _ => some "str"
  | .tup _ => some "tuple"
  | .lst _ => some "list"
  | .dic _ => some "dict"
  | _ => none
theorem tyN_at {s : Addr} {H : Hp} {v : V} {d : D} {T : String} (h : DR K s H v d) (e : tyN d = some T) : TyX K H v (.type T) := by
  cases h with
  | non => cases e; exact .base .non
  | bl b => cases e; exact .base (.bl b)
  | int i => cases e; exact .base (.int i)
  | str z => cases e; exact .base (.str z)
  | tup h r => cases e; exact .base (.tup h)
  | lst h r => cases e; exact .base (.frz h)
  | dic h r => cases e; exact .fDict h
  | dit h r => cases e
  | ins h r => cases e
  | src => cases e
def bTys : List String := ["NoneType", "bool", "int", "str", "tuple", "list", "dict"]
theorem tyN_mem {d : D} {T : String} (e : tyN d = some T) : T ∈ bTys := by
  cases d <;> first | (cases e; decide) | cases e
/-- isinstance(x, T), T a built-in type -/
def pIsT (T : String) (a : PEx) : PEx := fun σd P => a σd fun x => ∃ d S b, x = .dat d ∧ tyN d = some S ∧ kitB S T = some b ∧ P (cB b)
theorem L_isT {T : String} {t : TE} {a : PEx} (ha : LE K s c H0 t a) : LE K s c H0 (tCB (rIsiD K) (tCons t (tCons (tC (.ty T)) tNil))) (pIsT T a) := fun σ σd H Q P R h k => by
  refine ha σ σd H _ _ R h fun x v H1 h1 r1 s1 => ?_
  obtain ⟨d, S, b, rfl, e, eb, h⟩ := h1
  exact ⟨v, .ty T, .type S, .type T, b, rfl, .ty T, .x (tyN_at r1 e), kit_ty eb, k _ _ H1 h (.bl _) s1⟩
/-- isinstance(x, C), C an own class -/
def isC (C : Addr) : D → Option Bool
  | .ins C' _ => if C' = C then some true else none
  | d => (tyN d).map fun _ => false
def notBs (K : PySem.W.Frag) (C : Addr) : Bool := bTys.all fun T => PySem.W.kitOne K (.type T) (.ref C) == some false
def pIsC (C : Addr) (a : PEx) : PEx := fun σd P => a σd fun x => ∃ d b, x = .dat d ∧ isC C d = some b ∧ P (cB b)
theorem isC_not {C : Addr} {d : D} {b : Bool} (h : isC C d = some b) : (∃ fs, d = .ins C fs ∧ b = true) ∨ ∃ T, tyN d = some T ∧ b = false := by
  by_cases hi : ∃ C' gs, d = .ins C' gs
  · obtain ⟨C', gs, rfl⟩ := hi
    have h : (if C' = C then some true else none) = some b := h
    by_cases e : C' = C
    · rw [if_pos e] at h
      cases h
      subst e
      exact .inl ⟨_, rfl, rfl⟩
    · rw [if_neg e] at h
      cases h
  · cases d <;> first
      | (cases h; exact .inr ⟨_, rfl, rfl⟩)
      | (exfalso; exact hi ⟨_, _, rfl⟩)
      | cases h
theorem L_isC {C : Addr} {t : TE} {a : PEx} (ic : C8.InsC K C) (nb : notBs K C = true) (ha : LE K s c H0 t a) : LE K s c H0 (tCB (rIsiD K) (tCons t (tCons (tC (.ref C)) tNil))) (pIsC C a) := fun σ σd H Q P R h k => by
  refine ha σ σd H _ _ R h fun x v H1 h1 r1 s1 => ?_
  obtain ⟨d, b, rfl, e, h⟩ := h1
  rcases isC_not e with ⟨fs, rfl, rfl⟩ | ⟨T, eT, rfl⟩
  · cases id r1 with
    | ins hi hf => exact ⟨_, .ref C, .ref C, .ref C, true, rfl, .own C, .ins (.inr ⟨_, hi⟩) ic, ic.me, k _ _ H1 h (.bl _) s1⟩
  · exact ⟨v, .ref C, .type T, .ref C, false, rfl, .own C, .x (tyN_at r1 eT), beq_iff_eq.mp (List.all_eq_true.mp nb T (tyN_mem eT)), k _ _ H1 h (.bl _) s1⟩
/-! ### own operators -/
variable {C : Addr} {q : QP}
theorem up_of {s c : Addr} {H : Hp} {vs : List V} {ds : List D} {P : D → Prop} {Q : VK} {E : XK} (mo : Mono q) (S : Src H s c) (hd : DRs K s H vs ds) (h : q ds P) (k : ∀ d v H', P d → DR K s H' v d → Stp s c H H' → Q v H') : up K q vs H Q E :=
  ⟨s, c, ds, S, hd, mo _ _ _ (fun d hp v H' r st => k d v H' hp r st) h⟩
def fOwn (C : Addr) (q : QP) : P2 := fun x y P => ∃ fs gs, x = .dat (.ins C fs) ∧ y = .dat (.ins C gs) ∧ q [.ins C fs, .ins C gs] fun d => P (.dat d)
theorem ins_rd' {s : Addr} {H : Hp} {v : V} {fs : List (Str × D)} (h : DR K s H v (.ins C fs)) : ∃ a dx us, v = .ref a ∧ Rd H a (.ins C dx us) := by
  cases h with
  | ins hi hf => exact ⟨_, _, _, rfl, .inr ⟨_, hi⟩⟩
theorem O_own (mo : Mono q) : LOp K (rOwn C (up K q)) (fOwn C q) := fun s c v w x y H Q P hx hy S h k => by
  obtain ⟨fs, gs, rfl, rfl, h⟩ := h
  exact ⟨ins_rd' hx, ins_rd' hy, up_of mo S (.cons hx (.cons hy .nil)) h fun d v H' hp r st => k _ _ H' hp r st⟩
def fOwnI (C : Addr) (q : QP) : P2 := fun x y P => ∃ fs i, x = .dat (.ins C fs) ∧ y = cI i ∧ q [.ins C fs, .int i] fun d => P (.dat d)
theorem O_ownI (mo : Mono q) : LOp K (rOwnI C (up K q)) (fOwnI C q) := fun s c v w x y H Q P hx hy S h k => by
  obtain ⟨fs, i, rfl, rfl, h⟩ := h
  exact ⟨ins_rd' hx, ⟨i, int_eq hy⟩, up_of mo S (.cons hx (.cons hy .nil)) h fun d v H' hp r st => k _ _ H' hp r st⟩
def fIOwn (C : Addr) (q : QP) : P2 := fun x y P => ∃ fs i, y = .dat (.ins C fs) ∧ x = cI i ∧ q [.ins C fs, .int i] fun d => P (.dat d)
theorem O_Iown (mo : Mono q) : LOp K (rIOwn C (up K q)) (fIOwn C q) := fun s c v w x y H Q P hx hy S h k => by
  obtain ⟨fs, i, rfl, rfl, h⟩ := h
  exact ⟨ins_rd' hy, ⟨i, int_eq hx⟩, up_of mo S (.cons hy (.cons hx .nil)) h fun d v H' hp r st => k _ _ H' hp r st⟩
def firstNo (K : PySem.W.Frag) (C : Addr) : Bool := PySem.W.notFirst K C (.ref C) && bTys.all fun T => PySem.W.notFirst K C (.type T)
def fOwnEq (C : Addr) (q : QP) : P2 := fun x y P => ∃ fs d b, x = .dat (.ins C fs) ∧ y = .dat d ∧ isC C d = some b ∧ q [.ins C fs, d] fun d => P (.dat d)
theorem O_ownEq (mo : Mono q) (ic : C8.InsC K C) (nf : firstNo K C = true) : LOp K (rOwnEqD K C (up K q)) (fOwnEq C q) := fun s c v w x y H Q P hx hy S h k => by
  obtain ⟨fs, d, b, rfl, rfl, e, h⟩ := h
  obtain ⟨n1, n2⟩ := Bool.and_eq_true_iff.mp nf
  refine ⟨ins_rd' hx, ?_, up_of mo S (.cons hx (.cons hy .nil)) h fun d v H' hp r st => k _ _ H' hp r st⟩
  rcases isC_not e with ⟨gs, rfl, rfl⟩ | ⟨T, eT, rfl⟩
  · obtain ⟨a, dx, us, rfl, hi⟩ := ins_rd' hy
    exact ⟨.ref C, .ins hi ic, n1⟩
  · exact ⟨.type T, .x (tyN_at hy eT), List.all_eq_true.mp n2 T (tyN_mem eT)⟩
def leftD : D → Bool
  | .non => true
  | .int _ => true
  | .str _ => true
  | .lst _ => true
  | .dic _ => true
  | _ => false
def fOwnEqR (C : Addr) (q : QP) : P2 := fun x y P => ∃ fs d, y = .dat (.ins C fs) ∧ x = .dat d ∧ leftD d = true ∧ q [.ins C fs, d] fun d => P (.dat d)
theorem O_ownEqR (mo : Mono q) : LOp K (rOwnEqR K C (up K q)) (fOwnEqR C q) := fun s c v w x y H Q P hx hy S h k => by
  obtain ⟨fs, d, rfl, rfl, e, h⟩ := h
  refine ⟨ins_rd' hy, ?_, up_of mo S (.cons hy (.cons hx .nil)) h fun d v H' hp r st => k _ _ H' hp r st⟩
  cases id hx with
  | non => exact .inl rfl
  | int i => exact .inr (.inl ⟨i, rfl⟩)
  | str z => exact .inr (.inr (.inl ⟨z, rfl⟩))
  | lst hl r => exact .inr (.inr (.inr (.inl ⟨_, _, rfl, .inl (.inr ⟨_, hl⟩)⟩)))
  | dic hl r => exact .inr (.inr (.inr (.inr ⟨_, _, rfl, .inr ⟨_, hl⟩⟩)))
  | bl b => cases e
  | tup h r => cases e
  | dit h r => cases e
  | ins h r => cases e
  | src => cases e
def fOwnIx (C : Addr) (q : QP) : P2 := fun x y P => ∃ fs d, x = .dat (.ins C fs) ∧ y = .dat d ∧ q [.ins C fs, d] fun d => P (.dat d)
theorem O_ownIx (mo : Mono q) : LOp K (rOwnIx C (up K q)) (fOwnIx C q) := fun s c v w x y H Q P hx hy S h k => by
  obtain ⟨fs, d, rfl, rfl, h⟩ := h
  exact ⟨ins_rd' hx, up_of mo S (.cons hx (.cons hy .nil)) h fun d v H' hp r st => k _ _ H' hp r st⟩
def fOwnIn (C : Addr) (q : QP) (g : Bool → Bool) : P2 := fun x y P => ∃ fs d, y = .dat (.ins C fs) ∧ x = .dat d ∧ q [.ins C fs, d] fun e => ∃ b, e = .bl b ∧ P (cB (g b))
theorem O_ownIn {g : Bool → Bool} (mo : Mono q) : LOp K (rOwnIn C (up K q) g) (fOwnIn C q g) := fun s c v w x y H Q P hx hy S h k => by
  obtain ⟨fs, d, rfl, rfl, h⟩ := h
  refine ⟨ins_rd' hy, up_of mo S (.cons hy (.cons hx .nil)) h fun d v H' hp r st => ?_⟩
  obtain ⟨b, rfl, hp⟩ := hp
  cases r
  exact ⟨b, rfl, k _ _ H' hp (.bl _) st⟩
theorem fld_lst {s : Addr} {H : Hp} {v : V} {fs : List (Str × D)} {fld : Str} {ds : List D} (h : DR K s H v (.ins C fs)) (e : fs.lookup fld = some (.lst ds)) : ∃ a dx us l o vs, v = .ref a ∧ Rd H a (.ins C dx us) ∧ us.lookup fld = some (.ref l) ∧ H l = some (.frz o (.lst vs)) ∧ DRs K s H vs ds := by
  cases h with
  | ins hi hf =>
    obtain ⟨u, hu, hr⟩ := hf.look e
    cases hr with
    | lst hl hd => exact ⟨_, _, _, _, _, _, rfl, .inr ⟨_, hi⟩, hu, hl, hd⟩
def pIOwn (C : Addr) (fld : Str) (a : PEx) : PNx := fun σd P => a σd fun x => ∃ fs ds, x = .dat (.ins C fs) ∧ fs.lookup fld = some (.lst ds) ∧ P ds
theorem I_own {fld : Str} {t : TE} {a : PEx} (ha : LE K s c H0 t a) : LI K s c H0 (iOwn K C fld t) (pIOwn C fld a) := fun σ σd H R P Rl h k => by
  refine ha σ σd H _ _ Rl h fun x v H1 h1 r1 s1 => ?_
  obtain ⟨fs, ds, rfl, e, h⟩ := h1
  obtain ⟨b, dx, us, l, o, vs, rfl, hi, hu, hl, hd⟩ := fld_lst r1 e
  refine ⟨b, dx, l, us, rfl, hi, hu, ⟨vs, .inl (.inr ⟨o, hl⟩)⟩, ?_⟩
  have w : Walk (Itl K l) ds.length (fun H => H l = some (.frz o (.lst vs))) (YAt vs) := by
    rw [← hd.len]
    exact walk_list.mono (fun H h => .inl (.inr ⟨o, h⟩)) fun i H x H' _ _ y => y
  refine k ds _ _ _ H1 h s1 w hl (fun A B im h => frz_im im h) fun i A x B hi im hG y => ?_
  obtain ⟨e, hx⟩ := y
  subst e
  obtain ⟨d, h1, h2⟩ := (hd.im im).get hx
  exact ⟨Same.refl _, d, h1, h2⟩
def gListOwn (C : Addr) (fld : Str) : List Cell → (List D → Prop) → Prop := fun xs P => ∃ fs ds, xs = [.dat (.ins C fs)] ∧ fs.lookup fld = some (.lst ds) ∧ P ds
theorem C_listOwn {fld : Str} : LCN K (rListOwn K C fld) (gListOwn C fld) := fun s c vs xs H Q P hx S h k => by
  obtain ⟨fs, ds, rfl, e, h⟩ := h
  obtain ⟨v, rfl, hv⟩ := one_of hx
  obtain ⟨b, dx, us, l, o, ws, rfl, hi, hu, hl, hd⟩ := fld_lst hv e
  refine ⟨b, dx, l, us, ws, rfl, hi, hu, .inl (.inr ⟨o, hl⟩), fun p hp => ?_⟩
  have e2 := stp_new (o := .lst ws) S hp
  exact k _ _ _ _ h upd_same hp (hd.im (e2.im S)) e2
end
end My


/-! Own8: an own class by its methods' promises. -/
namespace My
open PySem PySem.Spec PyProof.Rows L2
section
variable (P : Program) (w : World) (K : PySem.W.Frag) (mg : Str → Option Value) (base : Heap) (C : Addr)
/-- the method m of C -/
def OkM (m : Str) (k : Nat) (ps : List Str) (sp : Sp) : Prop := ∃ f fd, Meth K C m f ∧ PySem.W.fnIn K f = true ∧ Binds K fd ps [] ∧ FnOk P w K mg base CX0 k f fd ps sp
/-- __init__ -/
def OkI (k : Nat) (ps : List Str) (sp : Sp) : Prop := ∃ f fd, Mk K C f ∧ Binds K fd ps [] ∧ FnOk P w K mg base CX0 k f fd ps sp
/-- the property x of C -/
def OkP (x : Str) (k : Nat) (ps : List Str) (sp : Sp) : Prop := ∃ p g fd, PropOf K C x p g ∧ Binds K fd ps [] ∧ FnOk P w K mg base CX0 k g fd ps sp
/-- __iter__ that is iter(self.fld) -/
def OkIt (fld : Str) (k : Nat) (ps : List Str) : Prop := ∃ f fd, Meth K C "__iter__" f ∧ Binds K fd ps [] ∧ NOk P w K mg base k f fd ps (spItF K C fld)
end
/-- what is known of an own class -/
structure ClsK (K : PySem.W.Frag) (C : Addr) : Prop where
  cls : Cls K C
  ins : C8.InsC K C
  nb : notBs K C = true
  fn : firstNo K C = true
  sf : PySem.W.selfFirst K C = true
  s1 : PySem.W.subIn K (.type "int") (.ref C) = some false
  s2 : PySem.W.subIn K (.ref C) (.type "int") = some false
  sn : subsNo K C = true
  l1 : PySem.W.findIn K (.ref C) "__len__" = some none
  l2 : PySem.W.findIn K (.ref C) "__length_hint__" = some none
section
variable {X : Cx} {C : Addr} {m m2 x : Str} {k k2 : Nat} {ps ps2 : List Str} {sp sp2 : Sp} {a b o e f : Expr} {es : List Expr} {ta tb to : TE} {t : TA} {p pos apos : Pos}
theorem opM {op : Operator} (G : OkM X.prog X.w X.K X.mg X.base C m k ps sp) (hr : Room k X.A) (Z : ClsK X.K C) (hm : PySem.dunder op.info.2 = m := by rfl) : OpR X (binaryOp op) (rOwn C sp) := by
  obtain ⟨f, fd, M, _, B, F⟩ := G
  subst hm
  exact op_own F hr B Z.sf M.at_ M.fn
theorem opM_mulI (G : OkM X.prog X.w X.K X.mg X.base C "__mul__" k ps sp) (G2 : OkM X.prog X.w X.K X.mg X.base C "__rmul__" k2 ps2 sp2) (hr : Room k X.A) (Z : ClsK X.K C) : OpR X (binaryOp .Mult) (rOwnI C sp) := by
  obtain ⟨f, fd, M, _, B, F⟩ := G
  obtain ⟨f2, fd2, M2, _, B2, F2⟩ := G2
  exact op_ownI F hr B Z.sf Z.s1 M.at_ M2.at_ M.fn
theorem opM_mulA {h : Addr} (hM : Meth X.K C "__rmul__" h) (G : OkM X.prog X.w X.K X.mg X.base C "__mul__" k ps sp) (hr : Room k X.A) (Z : ClsK X.K C) : OpR X (binaryOp .Mult) (rOwnI C sp) := by
  obtain ⟨f, fd, M, _, B, F⟩ := G
  exact op_ownI F hr B Z.sf Z.s1 M.at_ hM.at_ M.fn
theorem opM_Imul (G : OkM X.prog X.w X.K X.mg X.base C "__mul__" k ps sp) (G2 : OkM X.prog X.w X.K X.mg X.base C "__rmul__" k2 ps2 sp2) (hr : Room k2 X.A) (Z : ClsK X.K C) : OpR X (binaryOp .Mult) (rIOwn C sp2) := by
  obtain ⟨f, fd, M, _, B, F⟩ := G
  obtain ⟨f2, fd2, M2, _, B2, F2⟩ := G2
  exact op_Iown F2 hr B2 Z.sf Z.s2 M.at_ M2.at_ M2.fn
theorem opM_eq (G : OkM X.prog X.w X.K X.mg X.base C "__eq__" k ps sp) (hr : Room k X.A) : OpR X (compareOp .Eq) (rOwnEqD X.K C sp) := by
  obtain ⟨f, fd, M, _, B, F⟩ := G
  exact op_ownEqD F hr B M.at_ M.fn
theorem opM_eqR (G : OkM X.prog X.w X.K X.mg X.base C "__eq__" k ps sp) (hr : Room k X.A) (Z : ClsK X.K C) : OpR X (compareOp .Eq) (rOwnEqR X.K C sp) := by
  obtain ⟨f, fd, M, _, B, F⟩ := G
  exact op_ownEqR F hr B Z.sn M.at_ M.fn
theorem opM_in (G : OkM X.prog X.w X.K X.mg X.base C "__contains__" k ps sp) (hr : Room k X.A) : OpR X (compareOp .In) (rOwnIn C sp id) := by
  obtain ⟨f, fd, M, _, B, F⟩ := G
  exact op_ownIn F hr B M.at_ M.fn
theorem pe_ixM (G : OkM X.prog X.w X.K X.mg X.base C "__getitem__" k ps sp) (hr : Room (k + 1) X.A) (ha : PE X a ta) (hb : PE X b tb) (hsl : ∀ (x : Addr) (i : Value), subscripted b true (.ref x) i = runValue (.builtin "lifetime.subscript" ⟨[.ref x, i], []⟩) := by intro _ _; with_unfolding_all rfl) : PE X (.Subscript a b pos) (tOp (rOwnIx C sp) ta tb) := by
  obtain ⟨f, fd, M, hf, B, F⟩ := G
  exact pe_ownIx F hr B M.at_ hf M.fn ha hb hsl
theorem pe_methM {pl : Sem Bool} (ho : PE X o to) (G : OkM X.prog X.w X.K X.mg X.base C m k ps sp) (hr : Room k X.A) (Z : ClsK X.K C) (ha : PA X (e :: es) t)
    (hst : starEach (e :: es) X.env = (false, eval e X.env) :: starEach es X.env := by rfl) (hpl : (backTo pos (starEach es X.env)).any (·.1) = false := by rfl)
    (ht : eval (.Call (.Attribute o m apos) (e :: es) [] pos) X.env = (eval o X.env >>= fun ov => standAt apos.atName >>= fun _ => holding [ov] (getMethod ov m pl) >>= fun fp => callWith pos fp.1 fp.2 (backTo pos (starEach (e :: es) X.env)) (backToKw pos (keywordEach [] X.env))) := by rfl) :
    PE X (.Call (.Attribute o m apos) (e :: es) [] pos) (tMethR C m sp to t) := by
  obtain ⟨f, fd, M, _, B, F⟩ := G
  exact pe_methR (pl := pl) ho Z.cls M F hr B ha hst hpl ht
theorem pe_propM (ho : PE X o to) (G : OkP X.prog X.w X.K X.mg X.base C x k ps sp) (hr : Room (k + 1) X.A) (Z : ClsK X.K C) (hab : attributeBase o x X.env (eval o X.env) = eval o X.env := by rfl) : PE X (.Attribute o x pos) (tPropR C sp to) := by
  obtain ⟨q, g, fd, M, B, F⟩ := G
  exact pe_propR ho Z.cls M F hr B hab
theorem pe_mkM (G : OkI X.prog X.w X.K X.mg X.base C k ps sp) (hr : Room (k + 1) X.A) (hg : Gl X x) (hm : X.mg x = some (.ref C)) (ha : PA X (e :: es) t) (hdb : (x == ("__debug__" : Str)) = false := by decide)
    (he : starEach (e :: es) X.env = (false, eval e X.env) :: starEach es X.env := by rfl) (hpl : (backTo pos (starEach es X.env)).any (·.1) = false := by rfl) : PE X (.Call (.Name x p) (e :: es) [] pos) (tMake C sp [] E0 t) := by
  obtain ⟨f, fd, M, B, F⟩ := G
  exact pe_make M F hr hg hm B .nil pass0 ha hdb he hpl
theorem pi_itM {fld : Str} {tg : Expr} (G : OkIt X.prog X.w X.K X.mg X.base C fld k ps) (hr : Room k X.A) (he : PE X e ta) : PI X tg e (iOwn X.K C fld ta) := by
  obtain ⟨f, fd, M, B, F⟩ := G
  exact pi_own F hr B M.at_ M.fn he
theorem call_listM {fld : Str} (hcalm : X.calm = true) (G : OkIt X.prog X.w X.K X.mg X.base C fld k ps) (hr : Room (k + 2) X.A) (Z : ClsK X.K C) : CallR X (.type "list") (rListOwn X.K C fld) := by
  obtain ⟨f, fd, M, B, F⟩ := G
  exact call_listOwnF hcalm F hr B M.at_ M.fn Z.l1 Z.l2
/-- len(d) -/
def rLenD : List V → Hp → VK → Prop := fun xs H Q => ∃ (a : Addr) (kvs : List (Key × V)), xs = [.ref a] ∧ Rd H a (.dK kvs) ∧ Q (.int kvs.length) H
theorem call_lenD : CallR X (.builtin "len") rLenD := by
  intro pins s σ H xs us Q I r h
  obtain ⟨a, kvs, rfl, hd, q⟩ := h
  obtain ⟨u, rfl, ru⟩ := vals1 r
  cases ru
  exact d_len I hd fun t s' I' => ⟨.int kvs.length, H, I', ⟨t, rfl⟩, q⟩
end
section
variable {K : PySem.W.Frag} {s c : Addr} {H0 : Hp}
def gLenD : List Cell → (Cell → Prop) → Prop := fun xs P => ∃ x kds, xs = [x] ∧ dicK x = some kds ∧ P (cI kds.length)
theorem C_lenD : LC K rLenD gLenD := fun s c vs xs H Q P hx S h k => by
  obtain ⟨x, kds, rfl, e, h⟩ := h
  obtain ⟨v, rfl, hv⟩ := one_of hx
  obtain ⟨a, kvs, rfl, ha, hd⟩ := dicK_at hv e
  refine ⟨a, kvs, rfl, ha, ?_⟩
  rw [hd.len]
  exact k _ _ H h (.int _) (.refl S)
theorem len_up {q : QP} {n : Nat} {vs : List V} {H : Hp} {Q : VK} {E : XK} (hq : ∀ ds P, q ds P → ds.length = n) (h : up K q vs H Q E) : vs.length = n := by
  obtain ⟨s, c, ds, S, hd, h⟩ := h
  rw [hd.len]
  exact hq _ _ h
end
end My


/-! K19a: sorted texts, plain dicts from signs to numbers. -/
namespace My
open PySem PySem.Spec PyProof.Rows L2 TL
def sg (c : Nat) : Str := ⟨#[c]⟩
def word (cs : List Nat) : Str := ⟨cs.toArray⟩
def strsD (zs : List Str) : D := .lst (zs.map .str)
def sgsD (cs : List Nat) : D := strsD (cs.map sg)
def srt (zs : List Str) : List Str := zs.mergeSort leS
def leN (a b : Nat) : Bool := decide (a ≤ b)
def srtN (cs : List Nat) : List Nat := cs.mergeSort leN
theorem sg_inj {a b : Nat} (h : sg a = sg b) : a = b := by
  have h := congrArg (fun z : Str => z.cps.toList) h
  simpa [sg] using h
theorem leS_trans (a b c : Str) (h1 : leS a b = true) (h2 : leS b c = true) : leS a c = true :=
  decide_eq_true (List.le_trans (of_decide_eq_true h1) (of_decide_eq_true h2))
theorem leS_total (a b : Str) : (leS a b || leS b a) = true := by
  unfold leS
  rcases List.le_total a.cps.toList b.cps.toList with h | h
  · rw [decide_eq_true h, Bool.true_or]
  · rw [decide_eq_true h, Bool.or_true]
theorem leS_anti {a b : Str} (h1 : leS a b = true) (h2 : leS b a = true) : a = b := by
  have := List.le_antisymm (of_decide_eq_true h1) (of_decide_eq_true h2)
  obtain ⟨⟨a⟩⟩ := a
  obtain ⟨⟨b⟩⟩ := b
  cases (show a = b from this)
  rfl
theorem srt_uniq {xs ys : List Str} (p : xs.Perm ys) (h1 : xs.Pairwise (fun a b => leS a b = true)) (h2 : ys.Pairwise (fun a b => leS a b = true)) : xs = ys :=
  List.Perm.eq_of_pairwise (le := fun a b => leS a b = true) (fun a b _ _ => leS_anti) h1 h2 p
theorem srt_pw (xs : List Str) : (srt xs).Pairwise (fun a b => leS a b = true) := List.pairwise_mergeSort leS_trans leS_total xs
theorem srt_merge (a b : List Str) : (srt a).merge (srt b) leS = srt (a ++ b) := by
  refine srt_uniq ?_ (List.pairwise_merge leS_trans leS_total _ _ (srt_pw a) (srt_pw b)) (srt_pw _)
  refine (List.merge_perm_append (le := leS)).trans ?_
  exact ((List.mergeSort_perm a leS).append (List.mergeSort_perm b leS)).trans (List.mergeSort_perm (a ++ b) leS).symm
theorem leN_sg (a b : Nat) : leN a b = leS (sg a) (sg b) := by
  unfold leN leS sg
  simp only [decide_eq_decide]
  show a ≤ b ↔ [a] ≤ [b]
  rw [List.cons_le_cons_iff]
  constructor
  · intro h
    rcases Nat.lt_or_eq_of_le h with h | h
    · exact .inl h
    · exact .inr ⟨h, by simp⟩
  · rintro (h | ⟨h, _⟩)
    · exact Nat.le_of_lt h
    · exact Nat.le_of_eq h
theorem srt_sg (cs : List Nat) : srt (cs.map sg) = (srtN cs).map sg := (List.map_mergeSort fun a _ b _ => leN_sg a b).symm
theorem srtN_perm {cs es : List Nat} (p : cs.Perm es) : srtN cs = srtN es := by
  have h : (srtN cs).map sg = (srtN es).map sg := by
    rw [← srt_sg, ← srt_sg]
    exact srt_uniq (((List.mergeSort_perm _ leS).trans (p.map sg)).trans (List.mergeSort_perm _ leS).symm) (srt_pw _) (srt_pw _)
  exact (List.map_inj_right (fun a b => sg_inj)).mp h
theorem mem_srtN {c : Nat} {cs : List Nat} : c ∈ srtN cs ↔ c ∈ cs := List.mem_mergeSort
theorem len_srtN (cs : List Nat) : (srtN cs).length = cs.length := List.length_mergeSort _
theorem tl_word (cs : List Nat) : tl (word cs) = cs := rfl
theorem len_word (cs : List Nat) : (word cs).length = cs.length := rfl
theorem word_app (a b : List Nat) : word a ++ word b = word (a ++ b) := by
  apply ext_tl
  show ((a.toArray ++ b.toArray)).toList = a ++ b
  simp
theorem signs_word (cs : List Nat) : signsD (word cs) = cs.map fun c => .str (sg c) := rfl
theorem join_word : ∀ cs : List Nat, Txt.join "" (cs.map sg) = word cs := fun cs => by
  apply ext_tl
  rw [tl_joinT, List.map_map]
  show joinL [] (cs.map fun c => [c]) = cs
  induction cs with
  | nil => rfl
  | cons c r ih =>
    cases r with
    | nil => rfl
    | cons d r =>
      rw [List.map_cons, joinL_cons (by simp), ih]
      rfl
theorem sgs_len (cs : List Nat) : ((cs.map sg).map (·.length)).sum = cs.length := by
  induction cs with
  | nil => rfl
  | cons c r ih =>
    rw [List.map_cons, List.map_cons, List.sum_cons, ih]
    show 1 + r.length = r.length + 1
    omega
/-! ### dicts -/
section
variable {κ α : Type} [DecidableEq κ]
theorem any_valD (k : κ) : ∀ m : List (κ × α), (m.any fun kv => decide (kv.1 = k)) = (valD m k).isSome
  | [] => rfl
  | p :: r => by
    rw [List.any_cons, valD_cons, any_valD k r]
    by_cases e : p.1 = k
    · rw [if_pos e, decide_eq_true e]
      rfl
    · rw [if_neg e, decide_eq_false e]
      rfl
theorem mem_keys {k : κ} : ∀ {m : List (κ × α)}, k ∈ m.map (·.1) ↔ (valD m k).isSome = true
  | [] => by simp [valD]
  | p :: r => by
    rw [List.map_cons, List.mem_cons, valD_cons, mem_keys (m := r)]
    by_cases e : p.1 = k
    · rw [if_pos e]
      simp [e]
    · rw [if_neg e]
      constructor
      · rintro (h | h)
        · exact absurd h.symm e
        · exact h
      · exact .inr
theorem valD_repl (k j : κ) (v : α) : ∀ m : List (κ × α), valD (m.map fun kv => if kv.1 = k then (kv.1, v) else kv) j = (valD m j).map fun x => if j = k then v else x
  | [] => rfl
  | p :: r => by
    rw [List.map_cons, valD_cons, valD_cons, valD_repl k j v r]
    by_cases e : p.1 = k
    · rw [if_pos e]
      by_cases e2 : p.1 = j
      · rw [if_pos e2, if_pos e2]
        simp [← e2, e]
      · rw [if_neg e2, if_neg e2]
    · rw [if_neg e]
      by_cases e2 : p.1 = j
      · rw [if_pos e2, if_pos e2]
        simp [← e2, e]
      · rw [if_neg e2, if_neg e2]
theorem valD_snoc (k j : κ) (v : α) : ∀ m : List (κ × α), valD (m ++ [(k, v)]) j = (valD m j).or (if k = j then some v else none)
  | [] => by rw [List.nil_append, valD_cons]; rfl
  | p :: r => by
    rw [List.cons_append, valD_cons, valD_cons, valD_snoc k j v r]
    by_cases e : p.1 = j
    · rw [if_pos e, if_pos e]
      rfl
    · rw [if_neg e, if_neg e]
theorem valD_put (m : List (κ × α)) (k j : κ) (v : α) : valD (putG m k v) j = if j = k then some v else valD m j := by
  unfold putG
  rw [any_valD]
  by_cases h : (valD m k).isSome = true
  · rw [if_pos h, valD_repl]
    by_cases e : j = k
    · subst e
      rw [if_pos rfl]
      obtain ⟨x, hx⟩ := Option.isSome_iff_exists.mp h
      rw [hx]
      simp
    · simp only [if_neg e]
      cases valD m j <;> rfl
  · rw [if_neg h, valD_snoc]
    have h : valD m k = none := by cases hx : valD m k with | none => rfl | some y => rw [hx] at h; exact absurd rfl h
    by_cases e : j = k
    · subst e
      rw [h, if_pos rfl]
      simp
    · rw [if_neg e, if_neg (fun z => e z.symm)]
      cases valD m j <;> rfl
theorem keys_put (m : List (κ × α)) (k : κ) (v : α) : (putG m k v).map (·.1) = if k ∈ m.map (·.1) then m.map (·.1) else m.map (·.1) ++ [k] := by
  unfold putG
  rw [any_valD]
  by_cases h : (valD m k).isSome = true
  · rw [if_pos h, if_pos (mem_keys.mpr h), List.map_map]
    apply List.map_congr_left
    intro p _
    show (if p.1 = k then (p.1, v) else p).1 = p.1
    by_cases e : p.1 = k
    · rw [if_pos e]
    · rw [if_neg e]
  · rw [if_neg h, if_neg (fun z => h (mem_keys.mp z)), List.map_append]
    rfl
def NdK (m : List (κ × α)) : Prop := (m.map (·.1)).Nodup
theorem nd_put {m : List (κ × α)} (h : NdK m) (k : κ) (v : α) : NdK (putG m k v) := by
  unfold NdK
  rw [keys_put]
  by_cases e : k ∈ m.map (·.1)
  · rw [if_pos e]
    exact h
  · rw [if_neg e]
    refine List.nodup_append.mpr ⟨h, List.pairwise_singleton _ _, fun a ha b hb => ?_⟩
    rw [List.mem_singleton.mp hb]
    exact fun z => e (z ▸ ha)
theorem len_put (m : List (κ × α)) (k : κ) (v : α) : (putG m k v).length ≤ m.length + 1 := by
  have h := congrArg List.length (keys_put m k v)
  rw [List.length_map] at h
  rw [h]
  split
  · rw [List.length_map]; omega
  · rw [List.length_append, List.length_map]; exact Nat.le_refl _
theorem val_of_mem : ∀ {m : List (κ × α)} {k : κ} {v : α}, NdK m → (k, v) ∈ m → valD m k = some v
  | p :: r, k, v, nd, h => by
    rw [valD_cons]
    have nd := List.nodup_cons.mp nd
    rcases List.mem_cons.mp h with e | e
    · subst e
      rw [if_pos rfl]
    · rw [if_neg (fun z => nd.1 (by show p.1 ∈ _; rw [z]; exact List.mem_map.mpr ⟨(k, v), e, rfl⟩))]
      exact val_of_mem nd.2 e
theorem mem_of_val : ∀ {m : List (κ × α)} {k : κ} {v : α}, valD m k = some v → (k, v) ∈ m
  | p :: r, k, v, h => by
    rw [valD_cons] at h
    by_cases e : p.1 = k
    · rw [if_pos e] at h
      cases h
      subst e
      exact List.mem_cons_self
    · rw [if_neg e] at h
      exact List.mem_cons_of_mem _ (mem_of_val h)
end
abbrev CM := List (Nat × Int)
def ks (m : CM) : List Nat := m.map (·.1)
def gt (m : CM) (c : Nat) : Int := (valD m c).getD 0
def foldM (m : CM) (cs : List Nat) (g : Nat → Int) : CM := cs.foldl (fun acc c => putG acc c (g c)) m
def mkM (cs : List Nat) (g : Nat → Int) : CM := foldM [] cs g
theorem val_fold (g : Nat → Int) (j : Nat) : ∀ (cs : List Nat) (m : CM), valD (foldM m cs g) j = if j ∈ cs then some (g j) else valD m j
  | [], m => by simp [foldM]
  | c :: r, m => by
    show valD (foldM (putG m c (g c)) r g) j = _
    rw [val_fold g j r, valD_put]
    by_cases h : j ∈ r
    · rw [if_pos h, if_pos (List.mem_cons_of_mem _ h)]
    · rw [if_neg h]
      by_cases e : j = c
      · subst e
        rw [if_pos rfl, if_pos List.mem_cons_self]
      · rw [if_neg e, if_neg (fun z => by rcases List.mem_cons.mp z with z | z; exact e z; exact h z)]
theorem val_mk (cs : List Nat) (g : Nat → Int) (j : Nat) : valD (mkM cs g) j = if j ∈ cs then some (g j) else none := val_fold g j cs []
theorem nd_fold (g : Nat → Int) : ∀ (cs : List Nat) {m : CM}, NdK m → NdK (foldM m cs g)
  | [], _, h => h
  | c :: r, _, h => nd_fold g r (nd_put h c (g c))
theorem nd_mk (cs : List Nat) (g : Nat → Int) : NdK (mkM cs g) := nd_fold g cs List.nodup_nil
theorem len_fold (g : Nat → Int) : ∀ (cs : List Nat) (m : CM), (foldM m cs g).length ≤ m.length + cs.length
  | [], _ => Nat.le_refl _
  | c :: r, m => by
    have h1 := len_fold g r (putG m c (g c))
    have h2 := len_put m c (g c)
    show (foldM (putG m c (g c)) r g).length ≤ _
    rw [List.length_cons]
    omega
theorem len_mk (cs : List Nat) (g : Nat → Int) : (mkM cs g).length ≤ cs.length := by
  have := len_fold g cs []
  rw [List.length_nil] at this
  show (foldM [] cs g).length ≤ _
  omega
theorem keys_mk {cs : List Nat} {g : Nat → Int} {j : Nat} : j ∈ ks (mkM cs g) ↔ j ∈ cs := by
  unfold ks
  rw [mem_keys, val_mk]
  by_cases h : j ∈ cs
  · rw [if_pos h]; exact ⟨fun _ => h, fun _ => rfl⟩
  · rw [if_neg h]; exact ⟨fun z => (nomatch z), fun z => absurd z h⟩
def Same' (m l : CM) : Prop := ∀ c, valD m c = valD l c
theorem Same'.perm {m l : CM} (h : Same' m l) (h1 : NdK m) (h2 : NdK l) : (ks m).Perm (ks l) :=
  (List.perm_ext_iff_of_nodup h1 h2).mpr fun c => by
    show c ∈ m.map (·.1) ↔ c ∈ l.map (·.1)
    rw [mem_keys, mem_keys, h c]
theorem Same'.gt {m l : CM} (h : Same' m l) (c : Nat) : gt m c = gt l c := by unfold My.gt; rw [h c]
/-! ### as data -/
def dk (m : CM) : List (Key × D) := m.map fun p => (.inr (sg p.1), .int p.2)
theorem key_inj {a b : Nat} : ((Sum.inr (sg a) : Key) = .inr (sg b)) ↔ a = b := ⟨fun h => sg_inj (Sum.inr.inj h), fun h => by rw [h]⟩
theorem valD_dk (c : Nat) : ∀ m : CM, valD (dk m) (.inr (sg c)) = (valD m c).map .int
  | [] => rfl
  | p :: r => by
    show valD ((.inr (sg p.1), .int p.2) :: dk r) (.inr (sg c)) = _
    rw [valD_cons, valD_cons, valD_dk c r]
    by_cases e : p.1 = c
    · rw [if_pos e, if_pos (key_inj.mpr e)]
      rfl
    · rw [if_neg e, if_neg (fun z => e (key_inj.mp z))]
theorem put_dk (m : CM) (c : Nat) (v : Int) : putG (dk m) (.inr (sg c)) (.int v) = dk (putG m c v) := by
  unfold putG
  rw [any_valD, any_valD, valD_dk]
  by_cases h : (valD m c).isSome = true
  · rw [if_pos h, if_pos (by rw [Option.isSome_map]; exact h)]
    unfold dk
    rw [List.map_map, List.map_map]
    apply List.map_congr_left
    intro p _
    show (if (Sum.inr (sg p.1) : Key) = .inr (sg c) then ((.inr (sg p.1), .int v) : Key × D) else (.inr (sg p.1), .int p.2)) = _
    by_cases e : p.1 = c
    · rw [if_pos (key_inj.mpr e)]
      show _ = (fun q : Nat × Int => ((.inr (sg q.1), .int q.2) : Key × D)) (if p.1 = c then (p.1, v) else p)
      rw [if_pos e]
    · rw [if_neg (fun z => e (key_inj.mp z))]
      show _ = (fun q : Nat × Int => ((.inr (sg q.1), .int q.2) : Key × D)) (if p.1 = c then (p.1, v) else p)
      rw [if_neg e]
  · rw [if_neg h, if_neg (by rw [Option.isSome_map]; exact h)]
    unfold dk
    rw [List.map_append]
    rfl
theorem merge_dk (g : Nat → Int) : ∀ (cs : List Nat) (m : CM), mergeG (dk m) (cs.map fun c => (.inr (sg c), .int (g c))) = dk (foldM m cs g)
  | [], m => rfl
  | c :: r, m => by
    show mergeG (putG (dk m) (.inr (sg c)) (.int (g c))) (r.map fun c => (.inr (sg c), .int (g c))) = dk (foldM (putG m c (g c)) r g)
    rw [put_dk]
    exact merge_dk g r _
theorem allInt_dk (m : CM) : allInt (dk m) := fun p hp => by
  obtain ⟨q, _, rfl⟩ := List.mem_map.mp hp
  exact ⟨q.2, rfl⟩
theorem keys_dk (m : CM) : (dk m).map (fun kd => keyD kd.1) = (ks m).map fun c => .str (sg c) := by
  unfold dk ks
  rw [List.map_map, List.map_map]
  rfl
theorem len_dk (m : CM) : (dk m).length = m.length := List.length_map ..
theorem len_ks (m : CM) : (ks m).length = m.length := List.length_map ..
def eqM (m n : CM) : Bool := eqKD (dk m) (dk n)
theorem hit_dk (n : CM) (c : Nat) (v : Int) : hitD (dk n) (.inr (sg c), .int v) = decide (valD n c = some v) := by
  unfold hitD
  dsimp only
  rw [valD_dk]
  cases h : valD n c with
  | none => rfl
  | some w =>
    show (v == w) = decide (some w = some v)
    by_cases e : v = w
    · subst e
      simp
    · rw [beq_eq_false_iff_ne.mpr e, decide_eq_false (fun z => e (Option.some.inj z).symm)]
theorem eqM_iff {m n : CM} (h1 : NdK m) (h2 : NdK n) : eqM m n = true ↔ Same' m n := by
  unfold eqM eqKD
  rw [Bool.and_eq_true_iff, len_dk, len_dk, beq_iff_eq, List.all_eq_true]
  constructor
  · rintro ⟨hl, hh⟩
    have hit : ∀ c v, (c, v) ∈ m → valD n c = some v := fun c v hm => by
      have := hh (.inr (sg c), .int v) (List.mem_map.mpr ⟨(c, v), hm, rfl⟩)
      rw [hit_dk] at this
      exact of_decide_eq_true this
    have sub : ∀ c, c ∈ ks m → c ∈ ks n := fun c hc => by
      obtain ⟨v, hv⟩ := Option.isSome_iff_exists.mp (mem_keys.mp hc)
      exact mem_keys.mpr (by rw [hit c v (mem_of_val hv)]; rfl)
    intro c
    cases hc : valD m c with
    | some v => exact (hit c v (mem_of_val hc)).symm
    | none =>
      cases hn : valD n c with
      | none => rfl
      | some w =>
        exfalso
        have c1 : c ∉ ks m := fun z => by
          have := mem_keys.mp z
          rw [hc] at this
          cases this
        have c2 : c ∈ ks n := mem_keys.mpr (by rw [hn]; rfl)
        have := List.Nodup.length_le_of_subset (l₁ := c :: ks m) (l₂ := ks n) (List.nodup_cons.mpr ⟨c1, h1⟩) (fun d hd => by
          rcases List.mem_cons.mp hd with rfl | hd
          · exact c2
          · exact sub d hd)
        rw [List.length_cons, len_ks, len_ks] at this
        omega
  · intro h
    refine ⟨?_, fun p hp => ?_⟩
    · have := (h.perm h1 h2).length_eq
      rw [len_ks, len_ks] at this
      exact this
    · obtain ⟨⟨c, v⟩, hm, rfl⟩ := List.mem_map.mp hp
      rw [hit_dk]
      exact decide_eq_true (by rw [← h c]; exact val_of_mem h1 hm)
theorem eqM_congr {m l o : CM} (h1 : NdK m) (h2 : NdK l) (h3 : NdK o) (h : Same' m l) : eqM m o = eqM l o := by
  rw [Bool.eq_iff_iff, eqM_iff h1 h3, eqM_iff h2 h3]
  exact ⟨fun z c => (h c).symm.trans (z c), fun z c => (h c).trans (z c)⟩
theorem eqM_comm {m o : CM} (h1 : NdK m) (h3 : NdK o) : eqM m o = eqM o m := by
  rw [Bool.eq_iff_iff, eqM_iff h1 h3, eqM_iff h3 h1]
  exact ⟨fun z c => (z c).symm, fun z c => (z c).symm⟩
end My


/-! K19b: the promises of k19's defs; the catalog's making. -/
namespace My
open PySem PySem.Spec PyProof.Rows L2 TL
structure Fl (K : PySem.W.Frag) (C : Addr) : Prop where
  n_lengths : NoAttr K C "_lengths"
  n_letters : NoAttr K C "_letters"
def catF (m : CM) : List (Str × D) := [("_lengths", .dic (dk m)), ("_letters", sgsD (srtN (ks m)))]
def cat (C : Addr) (m : CM) : D := .ins C (catF m)
/-- values of less than n bits -/
def Bd (n : Nat) (m : CM) : Prop := ∀ c v, valD m c = some v → v.natAbs < 2 ^ n
def Asc (m : CM) : Prop := ∀ c ∈ ks m, c < 128
section
variable (C : Addr)
def q_joined_rows : QP := fun ds P => ∃ a b : List Str, ds = [strsD a, strsD b] ∧ a.length + b.length ≤ 1000 ∧ P (strsD (a.merge b leS))
def q_in_order : Nat → QP
  | 0 => fun _ _ => False
  | n + 1 => fun ds P => ∃ zs : List Str, ds = [strsD zs] ∧ zs.length ≤ 2 ^ n ∧ zs.length ≤ 1000 ∧ P (strsD (srt zs))
def q_distinct : QP := fun ds P => ∃ zs : List Str, ds = [strsD zs] ∧ zs.Nodup ∧ zs.length ≤ 256 ∧ P (strsD (srt zs))
def q_Catalog_letters : QP := fun ds P => ∃ m, ds = [cat C m] ∧ m.length ≤ 256 ∧ P (.str (word (srtN (ks m))))
def q_Catalog_length : QP := fun ds P => ∃ m cs, ds = [cat C m, .str (word cs)] ∧ cs.length ≤ 1000 ∧ P (.int (cs.map (gt m)).sum)
def q_Catalog_getitem : QP := fun ds P => ∃ m c, ds = [cat C m, .str (sg c)] ∧ P (.int (gt m c))
def q_Catalog_contains : QP := fun ds P => ∃ m c, ds = [cat C m, .str (sg c)] ∧ P (.bl (valD m c).isSome)
def q_Catalog_add : QP := fun ds P => ∃ m n, ds = [cat C m, cat C n] ∧ m.length + n.length ≤ 256 ∧ P (cat C (mkM (srtN (ks m) ++ srtN (ks n)) fun c => gt m c + gt n c))
def q_Catalog_sub : QP := fun ds P => ∃ m n, ds = [cat C m, cat C n] ∧ m.length + n.length ≤ 256 ∧ P (cat C (mkM (srtN (ks m) ++ srtN (ks n)) fun c => gt m c - gt n c))
def q_Catalog_mul : QP := fun ds P => ∃ m t, ds = [cat C m, .int t] ∧ m.length ≤ 256 ∧ Bd 1000 m ∧ t.natAbs < 2 ^ 1000 ∧ P (cat C (mkM (srtN (ks m)) fun c => gt m c * t))
def q_Catalog_rmul : QP := q_Catalog_mul C
def q_Catalog_eq : QP := fun ds P => ∃ m d, ds = [cat C m, d] ∧ ((∃ n, d = cat C n ∧ P (.bl (eqM m n))) ∨ (isC C d = some false ∧ P (.bl false)))
def q_law_signs : QP := fun ds P => ∃ n : Nat, ds = [.src, .int n] ∧ n ≤ 93 ∧ ∀ cs : List Nat, cs.Nodup → cs.length = n → (∀ c ∈ cs, c < 128) → P (sgsD cs)
def q_law_text : QP := fun ds P => ∃ (cs : List Nat) (n : Nat), ds = [.src, sgsD cs, .int n] ∧ 0 < cs.length ∧ cs.length ≤ 256 ∧ n ≤ 256 ∧ ∀ ts : List Nat, ts.length ≤ 256 → P (.str (word ts))
def q_law_number : QP := fun ds P => ds = [.src] ∧ ∀ i : Int, i.natAbs < 2 ^ 250 → P (.int i)
def q_law_lengths : QP := fun ds P => ∃ cs : List Nat, ds = [.src, sgsD cs] ∧ cs.length ≤ 93 ∧ (∀ c ∈ cs, c < 128) ∧ ∀ m : CM, NdK m → m.length ≤ 93 → Bd 250 m → Asc m → P (.dic (dk m))
def q_law_turned : QP := fun ds P => ∃ m, ds = [.dic (dk m)] ∧ m.length ≤ 256 ∧ P (.dic (dk (mkM (ks m).reverse (gt m))))
def q_law_is_integer : QP := fun ds P => ∃ i, ds = [.int i] ∧ P (.bl true)
def q_law_fits : QP := fun ds P => ∃ (m l : CM) (cs : List Nat) (ts : List (List Nat)), ds = [cat C m, .dic (dk l), sgsD cs, .lst (ts.map fun t => .str (word t))] ∧ Same' m l ∧ NdK m ∧ NdK l ∧ m.length ≤ 256 ∧ Asc m ∧ (∀ t ∈ ts, t.length ≤ 256) ∧ P (.bl true)
def q_law_combined : QP := fun ds P => ∃ m n f, ds = [.dic (dk m), .dic (dk n), .int f] ∧ m.length + n.length ≤ 256 ∧ (f = 1 ∨ f = -1) ∧ Bd 1000 n ∧ P (.dic (dk (mkM (ks m ++ ks n) fun c => gt m c + f * gt n c)))
def q_law_scaled : QP := fun ds P => ∃ m t, ds = [.dic (dk m), .int t] ∧ m.length ≤ 256 ∧ Bd 1000 m ∧ t.natAbs < 2 ^ 1000 ∧ P (.dic (dk (mkM (ks m) fun c => gt m c * t)))
def q_law_equal_right : QP := fun ds P => ∃ m l o, ds = [cat C m, .dic (dk l), .dic (dk o)] ∧ Same' m l ∧ NdK m ∧ NdK l ∧ NdK o ∧ o.length ≤ 256 ∧ P (.bl true)
def q_law_equals_right : QP := fun ds P => ∃ (m l : CM) (cs : List Nat), ds = [.src, cat C m, .dic (dk l), sgsD cs] ∧ Same' m l ∧ NdK m ∧ NdK l ∧ l.length ≤ 250 ∧ 0 < cs.length ∧ cs.length ≤ 256 ∧ P (.bl true)
end
section
variable {C : Addr}
theorem m_joined_rows : Mono (q_joined_rows) := fun _ _ _ m ⟨a, b, h1, h2, h⟩ => ⟨a, b, h1, h2, m _ h⟩
theorem m_in_order : ∀ {n : Nat}, Mono (q_in_order n)
  | 0 => fun _ _ _ _ h => h
  | n + 1 => fun _ _ _ m ⟨a, h1, h2, h3, h⟩ => ⟨a, h1, h2, h3, m _ h⟩
theorem m_distinct : Mono (q_distinct) := fun _ _ _ m ⟨a, h1, h2, h3, h⟩ => ⟨a, h1, h2, h3, m _ h⟩
theorem m_Catalog_letters : Mono (q_Catalog_letters C) := fun _ _ _ m ⟨a, h1, h2, h⟩ => ⟨a, h1, h2, m _ h⟩
theorem m_Catalog_length : Mono (q_Catalog_length C) := fun _ _ _ m ⟨a, b, h1, h2, h⟩ => ⟨a, b, h1, h2, m _ h⟩
theorem m_Catalog_getitem : Mono (q_Catalog_getitem C) := fun _ _ _ m ⟨a, b, h1, h⟩ => ⟨a, b, h1, m _ h⟩
theorem m_Catalog_contains : Mono (q_Catalog_contains C) := fun _ _ _ m ⟨a, b, h1, h⟩ => ⟨a, b, h1, m _ h⟩
theorem m_Catalog_add : Mono (q_Catalog_add C) := fun _ _ _ m ⟨a, b, h1, h2, h⟩ => ⟨a, b, h1, h2, m _ h⟩
theorem m_Catalog_sub : Mono (q_Catalog_sub C) := fun _ _ _ m ⟨a, b, h1, h2, h⟩ => ⟨a, b, h1, h2, m _ h⟩
theorem m_Catalog_mul : Mono (q_Catalog_mul C) := fun _ _ _ m ⟨a, b, h1, h2, h3, h4, h⟩ => ⟨a, b, h1, h2, h3, h4, m _ h⟩
theorem m_Catalog_rmul : Mono (q_Catalog_rmul C) := m_Catalog_mul
theorem m_Catalog_eq : Mono (q_Catalog_eq C) := fun _ _ _ m ⟨a, d, h1, h⟩ => ⟨a, d, h1, h.imp (fun ⟨n, h2, h3⟩ => ⟨n, h2, m _ h3⟩) fun ⟨h2, h3⟩ => ⟨h2, m _ h3⟩⟩
theorem m_law_signs : Mono (q_law_signs) := fun _ _ _ m ⟨a, h1, h2, h⟩ => ⟨a, h1, h2, fun cs x y z => m _ (h cs x y z)⟩
theorem m_law_text : Mono (q_law_text) := fun _ _ _ m ⟨a, b, h1, h2, h3, h4, h⟩ => ⟨a, b, h1, h2, h3, h4, fun ts x => m _ (h ts x)⟩
theorem m_law_number : Mono (q_law_number) := fun _ _ _ m ⟨h1, h⟩ => ⟨h1, fun i x => m _ (h i x)⟩
theorem m_law_lengths : Mono (q_law_lengths) := fun _ _ _ m ⟨a, h1, h2, h3, h⟩ => ⟨a, h1, h2, h3, fun x y z w u => m _ (h x y z w u)⟩
theorem m_law_turned : Mono (q_law_turned) := fun _ _ _ m ⟨a, h1, h2, h⟩ => ⟨a, h1, h2, m _ h⟩
theorem m_law_is_integer : Mono (q_law_is_integer) := fun _ _ _ m ⟨a, h1, h⟩ => ⟨a, h1, m _ h⟩
theorem m_law_fits : Mono (q_law_fits C) := fun _ _ _ m ⟨a, b, c, d, h1, h2, h3, h4, h5, h6, h7, h⟩ => ⟨a, b, c, d, h1, h2, h3, h4, h5, h6, h7, m _ h⟩
theorem m_law_combined : Mono (q_law_combined) := fun _ _ _ m ⟨a, b, f, h1, h2, h3, h4, h⟩ => ⟨a, b, f, h1, h2, h3, h4, m _ h⟩
theorem m_law_scaled : Mono (q_law_scaled) := fun _ _ _ m ⟨a, b, h1, h2, h3, h4, h⟩ => ⟨a, b, h1, h2, h3, h4, m _ h⟩
theorem m_law_equal_right : Mono (q_law_equal_right C) := fun _ _ _ m ⟨a, b, c, h1, h2, h3, h4, h5, h6, h⟩ => ⟨a, b, c, h1, h2, h3, h4, h5, h6, m _ h⟩
theorem m_law_equals_right : Mono (q_law_equals_right C) := fun _ _ _ m ⟨a, b, c, h1, h2, h3, h4, h5, h6, h7, h⟩ => ⟨a, b, c, h1, h2, h3, h4, h5, h6, h7, m _ h⟩
end
/-! ### Catalog(d): d may be a dict that changes later -/
def sp_init (K : PySem.W.Frag) (C : Addr) : Sp := fun vs H Q _ => ∃ (s c : Addr) (Hb : Hp) (x dx a : Addr) (kvs : List (Key × V)) (m : CM), vs = [.ref x, .ref a] ∧ H = upd (upd Hb dx (.own x)) x (.ins C dx []) ∧ Hb x = none ∧ Hb dx = none ∧ dx ≠ x ∧ Src Hb s c ∧ Rd Hb a (.dK kvs) ∧ DRk K s Hb kvs (dk m) ∧ NdK m ∧ m.length ≤ 256 ∧
  ∀ H' dx' fs, H' x = some (.ins C dx' fs) → DRf K s H' fs (catF m) → Stp s c Hb H' → Q .non H'
abbrev n_Catalog_init : List Str := ["self", "lengths"]
def t_Catalog_init (K : PySem.W.Frag) (C : Addr) : TS :=
  tSeq (sFld K (tVar 0) (tFrz (tCB rDictD (tCons (tVar 1) tNil))) "_lengths")
    (sFld K (tVar 0) (tCall (up K q_distinct) [] E0 (tCons (tFrz (tCB rListD (tCons (tVar 1) tNil))) tNil)) "_letters")
section
variable {K : PySem.W.Frag} {C : Addr} {vs : List V} {H : Hp} {Q : VK} {E : XK}
theorem len_init (h : sp_init K C vs H Q E) : vs.length = 2 := by
  obtain ⟨_, _, _, _, _, _, _, _, rfl, _⟩ := h
  rfl
theorem rd_keep {H H' : Hp} {a : Addr} {u : HO} (h : Rd H a u) (k : ∀ o, H a = some o → H' a = some o) : Rd H' a u := by
  rcases h with h | ⟨o, h⟩
  · exact .inl (k _ h)
  · exact .inr ⟨o, k _ h⟩
theorem rd_some {H : Hp} {a : Addr} {u : HO} (h : Rd H a u) : ∃ o, H a = some o := by
  rcases h with h | ⟨o, h⟩
  · exact ⟨_, h⟩
  · exact ⟨_, h⟩
theorem dk_keys_nodup {m : CM} (h : NdK m) : ((ks m).map sg).Nodup := List.Pairwise.map sg (fun a b h z => h (sg_inj z)) h
theorem run_init (Z : ClsK K C) (B : Fl K C) (h : sp_init K C vs H Q E) : t_Catalog_init K C { nx := fun _ H' => Q .non H', rt := Q } (L2.start n_Catalog_init vs) H := by
  obtain ⟨s, c, Hb, x, dx, a, kvs, m, rfl, rfl, hx, hdx, ne, S, ha, hd, nd, hl, fin⟩ := h
  obtain ⟨oa, hoa⟩ := rd_some ha
  have nx := S.ne hx
  have ax : a ≠ x := fun z => by subst z; rw [hx] at hoa; cases hoa
  have adx : a ≠ dx := fun z => by subst z; rw [hdx] at hoa; cases hoa
  have sm1 : Same Hb (upd (upd Hb dx (.own x)) x (.ins C dx [])) := (same_new hdx).trans (same_new (by rw [upd_ne ne.symm]; exact hx))
  refine ⟨_, rfl, a, kvs, rfl, rd_keep ha (fun o e => sm1 _ _ e), fun p hp => ⟨p, _, rfl, upd_same, trivial, fun o => ⟨_, rfl, x, C, dx, [], rfl, ?_, Z.cls, B.n_lengths, by decide, ?_⟩⟩⟩
  · rw [upd_ne (fun z => by subst z; rw [upd_same] at hp; cases hp), upd_ne (fun z => by subst z; rw [upd_same] at hp; cases hp), upd_same]
  have px : p ≠ x := fun z => by subst z; rw [upd_same] at hp; cases hp
  have hpb : Hb p = none := by
    rw [upd_ne px] at hp
    by_cases e : p = dx
    · subst e; rw [upd_same] at hp; cases hp
    · rw [upd_ne e] at hp; exact hp
  have pdx : p ≠ dx := fun z => by
    subst z
    rw [upd_ne px, upd_same] at hp
    cases hp
  have ap : a ≠ p := fun z => by subst z; rw [hpb] at hoa; cases hoa
  rw [upd_upd]
  generalize hH4 : upd (upd (upd (upd Hb dx (.own x)) x (.ins C dx [])) p (.frz o (.dK kvs))) x (.ins C dx (putF "_lengths" (.ref p) [])) = H4
  have h4a : ∀ b u, Hb b = some u → H4 b = some u := fun b u e => by
    have b1 : b ≠ x := fun z => by subst z; rw [hx] at e; cases e
    have b2 : b ≠ p := fun z => by subst z; rw [hpb] at e; cases e
    have b3 : b ≠ dx := fun z => by subst z; rw [hdx] at e; cases e
    rw [← hH4, upd_ne b1, upd_ne b2, upd_ne b1, upd_ne b3]
    exact e
  have h4x : H4 x = some (.ins C dx [("_lengths", .ref p)]) := by rw [← hH4, upd_same]; rfl
  have h4p : H4 p = some (.frz o (.dK kvs)) := by rw [← hH4, upd_ne px, upd_same]
  have sm4 : Same Hb H4 := h4a
  have S4 := S.same sm4
  refine ⟨_, rfl, a, kvs, rfl, rd_keep ha (h4a a), fun l hl4 => ⟨l, _, rfl, upd_same, trivial, fun o2 => ?_⟩⟩
  rw [upd_upd]
  have lx : l ≠ x := fun z => by subst z; rw [h4x] at hl4; cases hl4
  have lp : l ≠ p := fun z => by subst z; rw [h4p] at hl4; cases hl4
  have sm6 := same_new (o := .frz o2 (.lst (kvs.map fun kv => kV kv.1))) hl4
  have S6 := S4.same sm6
  have keysE : (dk m).map (fun kd => keyD kd.1) = ((ks m).map sg).map D.str := by rw [keys_dk, List.map_map]; rfl
  have kd := hd.keys (upd H4 l (.frz o2 (.lst (kvs.map fun kv => kV kv.1))))
  rw [keysE] at kd
  refine ⟨s, c, [strsD ((ks m).map sg)], S6, .cons (.lst upd_same kd) .nil, (ks m).map sg, rfl, dk_keys_nodup nd, by rw [List.length_map, len_ks]; exact hl, fun v H7 rv st7 => ?_⟩
  have h7x : H7 x = some (.ins C dx [("_lengths", .ref p)]) := st7.kp _ _ nx.1 (sm6 _ _ h4x)
  have h7p : H7 p = some (.frz o (.dK kvs)) := (st7.im S6) _ _ rfl (sm6 _ _ h4p)
  refine ⟨_, rfl, x, C, dx, _, rfl, h7x, Z.cls, B.n_letters, (by show 1 < 1000; decide), ?_⟩
  have kl : Kp x H7 (upd H7 x (.ins C dx (putF "_letters" v [("_lengths", .ref p)]))) := Kp.self
  have im := kl.im ⟨_, h7x, rfl⟩
  have st : Stp s c Hb (upd H7 x (.ins C dx (putF "_letters" v [("_lengths", .ref p)]))) :=
    ⟨(((kp_same sm4).trans (kp_same sm6)).trans st7.kp).via hx kl, st7.src.kp nx.1.symm nx.2.symm kl⟩
  have imb : Im Hb (upd H7 x (.ins C dx (putF "_letters" v [("_lengths", .ref p)]))) := st.im S
  refine fin _ dx [("_lengths", .ref p), ("_letters", v)] upd_same (.cons (.dic (im _ _ rfl h7p) (hd.im imb)) (.cons ?_ .nil)) st
  have := rv.im im
  rw [srt_sg] at this
  exact this
def pMk (C : Addr) (a : PEx) : PEx := fun σd P => a σd fun x => ∃ m, dicK x = some (dk m) ∧ NdK m ∧ m.length ≤ 256 ∧ P (.dat (cat C m))
theorem L_mk {s c : Addr} {H0 : Hp} {t : TE} {a : PEx} (ha : LE K s c H0 t a) : LE K s c H0 (tFrz (tMake C (sp_init K C) [] E0 (tCons t tNil))) (pMk C a) := fun σ σd H Q P R h k => by
  refine ha σ σd H _ _ R h fun y v H1 h1 r1 s1 => ?_
  obtain ⟨m, e, nd, hl, h⟩ := h1
  obtain ⟨b, kvs, rfl, hb, hd⟩ := dicK_at r1 e
  intro x dx hx hdx ne
  rw [List.append_nil]
  refine ⟨s, c, H1, x, dx, b, kvs, m, rfl, rfl, hx, hdx, ne, s1.src, hb, hd, nd, hl, fun H' dx' fs hx' hf st => ⟨rfl, x, _, rfl, hx', trivial, fun o => ?_⟩⟩
  have nn := s1.src.ne hx
  have kl : Kp x H' (upd H' x (.frz o (.ins C dx' fs))) := Kp.self
  have im := kl.im ⟨_, hx', rfl⟩
  exact k _ _ _ h (.ins upd_same (hf.im im)) (s1.trans ⟨st.kp.via hx kl, st.src.kp nn.1.symm nn.2.symm kl⟩)
end
end My


/-! readings, printed by gen2.py. -/
namespace My
open PySem PySem.Spec PyProof.Rows L2 TL
section
variable {K : PySem.W.Frag} {C : Addr}
/-- joined_rows -/
abbrev n_joined_rows : List Str := ["first", "second", "rows", "at", "row"]
def t_joined_rows (K : PySem.W.Frag) (C : Addr) : TS :=
    (tSeq (tAsg (tLst tNil) (gName 2))
    (tSeq (tAsg (tC (.int 0)) (gName 3))
    (tSeq (tFor (iList K (tVar 0)) (gName 4) (tSeq (tWhile (tAnd (tTest (tOp rLtI (tVar 3) (tCB (cLenQ K) (tCons (tVar 1) tNil)))) (tTest (tOp rLtS (tOp (rIxL K) (tVar 1) (tVar 3)) (tVar 4)))) (tSeq (tDrop (tBM K "list" rAppend (tVar 2) (tCons (tOp (rIxL K) (tVar 1) (tVar 3)) tNil)))
    (tAsg (tOp rAddI (tVar 3) (tC (.int 1))) (gName 3))))
    (tDrop (tBM K "list" rAppend (tVar 2) (tCons (tVar 4) tNil)))))
    (tRet (tFrz (tOp rCat (tVar 2) (tSl (rSlL K) (tVar 1) (tPart (tVar 3)) tNoPart)))))))
def p_joined_rows (C : Addr) : PSx :=
    (pSeq (pNew (pLst pNil) 2)
    (pSeq (pAsg (pC (cI 0)) (pgName 3))
    (pSeq (pFor (pIL (pVar 0)) (pgName 4) (pSeq (pWhile (pAnd (pTest (pOp (fIB fun i j => decide (i < j)) (pVar 3) (pCB gLenQ (pCons (pVar 1) pNil)))) (pTest (pOp (fSB fun i j => decide (i.cps.toList < j.cps.toList)) (pOp fIxL (pVar 1) (pVar 3)) (pVar 4)))) (pSeq (pApp 2 (pOp fIxL (pVar 1) (pVar 3)))
    (pAsg (pOp (fI fun i j => i + j) (pVar 3) (pC (cI 1))) (pgName 3))))
    (pApp 2 (pVar 4))))
    (pRet (pFrz (pOpN fCat (pVar 2) (pNewL (pSlL (pVar 1) (pPart (pVar 3)) pNoPart))))))))
theorem l_joined_rows (Z : ClsK K C) (B : Fl K C) {s c : Addr} {H0 : Hp} : LS K s c H0 (t_joined_rows K C) (p_joined_rows C) :=
    (S_seq (S_new 2 (L_lst L_nil))
    (S_seq (S_asg (L_int 0) (G_name 3))
    (S_seq (S_for (I_list (L_var 0)) (G_name 4) (S_seq (S_while (L_and (L_test (L_op (O_IB fun i j => decide (i < j)) (L_var 3) (L_cb C_lenQ (L_cons (L_var 1) L_nil)))) (L_test (L_op O_ltS (L_op O_ixL (L_var 1) (L_var 3)) (L_var 4)))) (S_seq (S_app 2 (L_op O_ixL (L_var 1) (L_var 3)))
    (S_asg (L_op (O_I fun i j => i + j) (L_var 3) (L_int 1)) (G_name 3))))
    (S_app 2 (L_var 4))))
    (S_ret (LN.frz (L_opN O_cat (L_var 2) (LN.le (L_slL (L_var 1) (L_part (L_var 3)) L_noPart))))))))
/-- in_order -/
abbrev n_in_order : List Str := ["rows", "middle"]
def t_in_order (K : PySem.W.Frag) (C : Addr) (n : Nat) : TS :=
    (tSeq (tIfS (tTest (tOp rLtI (tCB (cLenQ K) (tCons (tVar 0) tNil)) (tC (.int 2)))) (tRet (tFrz (tCB (cList K) (tCons (tVar 0) tNil)))) tNext)
    (tSeq (tAsg (tOp rDivI (tCB (cLenQ K) (tCons (tVar 0) tNil)) (tC (.int 2))) (gName 1))
    (tRet (tCall (up K (q_joined_rows)) [] E0 (tCons (tCall (up K (q_in_order n)) [] E0 (tCons (tFrz (tSl (rSlL K) (tVar 0) tNoPart (tPart (tVar 1)))) tNil)) (tCons (tCall (up K (q_in_order n)) [] E0 (tCons (tFrz (tSl (rSlL K) (tVar 0) (tPart (tVar 1)) tNoPart)) tNil)) tNil))))))
def p_in_order (C : Addr) (n : Nat) : PSx :=
    (pSeq (pIfS (pTest (pOp (fIB fun i j => decide (i < j)) (pCB gLenQ (pCons (pVar 0) pNil)) (pC (cI 2)))) (pRet (pFrz (pCBN gList (pCons (pVar 0) pNil)))) pNext)
    (pSeq (pAsg (pOp (fIC CDivW fun i j => i / j) (pCB gLenQ (pCons (pVar 0) pNil)) (pC (cI 2))) (pgName 1))
    (pRet (pCall (q_joined_rows) (pCons (pCall (q_in_order n) (pCons (pFrz (pSlL (pVar 0) pNoPart (pPart (pVar 1)))) pNil)) (pCons (pCall (q_in_order n) (pCons (pFrz (pSlL (pVar 0) (pPart (pVar 1)) pNoPart)) pNil)) pNil))))))
theorem l_in_order (Z : ClsK K C) (B : Fl K C) {s c : Addr} {H0 : Hp} {n : Nat} : LS K s c H0 (t_in_order K C n) (p_in_order C n) :=
    (S_seq (S_if (L_test (L_op (O_IB fun i j => decide (i < j)) (L_cb C_lenQ (L_cons (L_var 0) L_nil)) (L_int 2))) (S_ret (LN.frz (L_cbn C_list (L_cons (L_var 0) L_nil)))) S_next)
    (S_seq (S_asg (L_op (O_IC CDivW fun i j => i / j) (L_cb C_lenQ (L_cons (L_var 0) L_nil)) (L_int 2)) (G_name 1))
    (S_ret (L_call m_joined_rows (L_cons (L_call m_in_order (L_cons (LN.frz (L_slL (L_var 0) L_noPart (L_part (L_var 1)))) L_nil)) (L_cons (L_call m_in_order (L_cons (LN.frz (L_slL (L_var 0) (L_part (L_var 1)) L_noPart)) L_nil)) L_nil))))))
/-- distinct -/
abbrev n_distinct : List Str := ["rows", "ordered", "at", "row"]
def t_distinct (K : PySem.W.Frag) (C : Addr) : TS :=
    (tSeq (tAsg (tCall (up K (q_in_order 9)) [] E0 (tCons (tVar 0) tNil)) (gName 1))
    (tRet (tFrz (tLc (iEnum K (tCons (tVar 1) tNil)) (gTup K 2 (gCons (gName 2) (gCons (gName 3) gNil))) (tOr (tTest (tOp rEq (tVar 2) (tC (.int 0)))) (tTest (tOp rNe (tOp (rIxL K) (tVar 1) (tOp rSubI (tVar 2) (tC (.int 1)))) (tVar 3)))) (tVar 3) [2, 3]))))
def p_distinct (C : Addr) : PSx :=
    (pSeq (pAsg (pCall (q_in_order 9) (pCons (pVar 0) pNil)) (pgName 1))
    (pRet (pFrz (pLc (pIE (pCons (pVar 1) pNil)) (pgTup (pgCons (pgName 2) (pgCons (pgName 3) pgNil))) (pOr (pTest (pOp (fEq id) (pVar 2) (pC (cI 0)))) (pTest (pOp (fEq not) (pOp fIxL (pVar 1) (pOp (fI fun i j => i - j) (pVar 2) (pC (cI 1)))) (pVar 3)))) (pVar 3) [2, 3]))))
theorem l_distinct (Z : ClsK K C) (B : Fl K C) {s c : Addr} {H0 : Hp} : LS K s c H0 (t_distinct K C) (p_distinct C) :=
    (S_seq (S_asg (L_call m_in_order (L_cons (L_var 0) L_nil)) (G_name 1))
    (S_ret (LN.frz (L_lc (I_enum (L_cons (L_var 1) L_nil)) (G_tup (G_cons (G_name 2) (G_cons (G_name 3) G_nil)) (fun _ _ _ h => glen_cons (fun _ _ _ h => glen_cons (fun _ _ _ h => glen_nil h) (name_some 3) h) (name_some 2) h)) (L_or (L_test (L_op O_eq (L_var 2) (L_int 0))) (L_test (L_op O_ne (L_op O_ixL (L_var 1) (L_op (O_I fun i j => i - j) (L_var 2) (L_int 1))) (L_var 3)))) (L_var 3)))))
/-- Catalog.letters -/
abbrev n_Catalog_letters : List Str := ["self"]
def t_Catalog_letters (K : PySem.W.Frag) (C : Addr) : TS :=
    (tRet (tM1 (mJoin K) (tC (.str "")) (tFldR K (tVar 0) "_letters")))
def p_Catalog_letters (C : Addr) : PSx :=
    (pRet (pJoin (pC (cS "")) (pFld C "_letters" (pVar 0))))
theorem l_Catalog_letters (Z : ClsK K C) (B : Fl K C) {s c : Addr} {H0 : Hp} : LS K s c H0 (t_Catalog_letters K C) (p_Catalog_letters C) :=
    (S_ret (L_join (L_str "") (L_fld Z.cls B.n_letters (L_var 0))))
/-- Catalog.length -/
abbrev n_Catalog_length : List Str := ["self", "text", "char"]
def t_Catalog_length (K : PySem.W.Frag) (C : Addr) : TS :=
    (tRet (tCB (rSum K) (tCons (tLc (iStr (tVar 1)) (gName 2) tYes (tDGet2 (tFldR K (tVar 0) "_lengths") (tVar 2) (tC (.int 0))) [2]) tNil)))
def p_Catalog_length (C : Addr) : PSx :=
    (pRet (pCB gSum (pCons (pNewL (pLc (pIS (pVar 1)) (pgName 2) pYes (pDGet2 (pFld C "_lengths" (pVar 0)) (pVar 2) (pC (cI 0))) [2])) pNil)))
theorem l_Catalog_length (Z : ClsK K C) (B : Fl K C) {s c : Addr} {H0 : Hp} : LS K s c H0 (t_Catalog_length K C) (p_Catalog_length C) :=
    (S_ret (L_cb C_sum (L_cons (LN.le (L_lc (I_str (L_var 1)) (G_name 2) L_yes (L_dget2 (L_fld Z.cls B.n_lengths (L_var 0)) (L_var 2) (L_int 0)))) L_nil)))
/-- Catalog.__getitem__ -/
abbrev n_Catalog_getitem : List Str := ["self", "char"]
def t_Catalog_getitem (K : PySem.W.Frag) (C : Addr) : TS :=
    (tRet (tDGet2 (tFldR K (tVar 0) "_lengths") (tVar 1) (tC (.int 0))))
def p_Catalog_getitem (C : Addr) : PSx :=
    (pRet (pDGet2 (pFld C "_lengths" (pVar 0)) (pVar 1) (pC (cI 0))))
theorem l_Catalog_getitem (Z : ClsK K C) (B : Fl K C) {s c : Addr} {H0 : Hp} : LS K s c H0 (t_Catalog_getitem K C) (p_Catalog_getitem C) :=
    (S_ret (L_dget2 (L_fld Z.cls B.n_lengths (L_var 0)) (L_var 1) (L_int 0)))
/-- Catalog.__contains__ -/
abbrev n_Catalog_contains : List Str := ["self", "char"]
def t_Catalog_contains (K : PySem.W.Frag) (C : Addr) : TS :=
    (tRet (tDIn (tVar 1) (tFldR K (tVar 0) "_lengths")))
def p_Catalog_contains (C : Addr) : PSx :=
    (pRet (pDIn id (pVar 1) (pFld C "_lengths" (pVar 0))))
theorem l_Catalog_contains (Z : ClsK K C) (B : Fl K C) {s c : Addr} {H0 : Hp} : LS K s c H0 (t_Catalog_contains K C) (p_Catalog_contains C) :=
    (S_ret (L_din (L_var 1) (L_fld Z.cls B.n_lengths (L_var 0))))
/-- Catalog.__add__ -/
abbrev n_Catalog_add : List Str := ["self", "other", "char"]
def t_Catalog_add (K : PySem.W.Frag) (C : Addr) : TS :=
    (tRet (tFrz (tMake C (sp_init K C) [] E0 (tCons (tCB (rDictP K) (tCons (tLc (iStr (tOp rCatS (tPropR C (up K (q_Catalog_letters C)) (tVar 0)) (tPropR C (up K (q_Catalog_letters C)) (tVar 1)))) (gName 2) tYes (tTup (tCons (tVar 2) (tCons (tOp rAddI (tOp (rOwnIx C (up K (q_Catalog_getitem C))) (tVar 0) (tVar 2)) (tOp (rOwnIx C (up K (q_Catalog_getitem C))) (tVar 1) (tVar 2))) tNil))) [2]) tNil)) tNil))))
def p_Catalog_add (C : Addr) : PSx :=
    (pRet (pMk C (pNewM (pCBD gDictP (pCons (pNewL (pLc (pIS (pOp fCatS (pProp C (q_Catalog_letters C) (pVar 0)) (pProp C (q_Catalog_letters C) (pVar 1)))) (pgName 2) pYes (pTup (pCons (pVar 2) (pCons (pOp (fI fun i j => i + j) (pOp (fOwnIx C (q_Catalog_getitem C)) (pVar 0) (pVar 2)) (pOp (fOwnIx C (q_Catalog_getitem C)) (pVar 1) (pVar 2))) pNil))) [2])) pNil)))))
theorem l_Catalog_add (Z : ClsK K C) (B : Fl K C) {s c : Addr} {H0 : Hp} : LS K s c H0 (t_Catalog_add K C) (p_Catalog_add C) :=
    (S_ret (L_mk (LD.le (L_cbd C_dictP (L_cons (LN.le (L_lc (I_str (L_op O_catS (L_prop m_Catalog_letters (L_var 0)) (L_prop m_Catalog_letters (L_var 1)))) (G_name 2) L_yes (L_tup (L_cons (L_var 2) (L_cons (L_op (O_I fun i j => i + j) (L_op (O_ownIx m_Catalog_getitem) (L_var 0) (L_var 2)) (L_op (O_ownIx m_Catalog_getitem) (L_var 1) (L_var 2))) L_nil))))) L_nil)))))
/-- Catalog.__sub__ -/
abbrev n_Catalog_sub : List Str := ["self", "other", "char"]
def t_Catalog_sub (K : PySem.W.Frag) (C : Addr) : TS :=
    (tRet (tFrz (tMake C (sp_init K C) [] E0 (tCons (tCB (rDictP K) (tCons (tLc (iStr (tOp rCatS (tPropR C (up K (q_Catalog_letters C)) (tVar 0)) (tPropR C (up K (q_Catalog_letters C)) (tVar 1)))) (gName 2) tYes (tTup (tCons (tVar 2) (tCons (tOp rSubI (tOp (rOwnIx C (up K (q_Catalog_getitem C))) (tVar 0) (tVar 2)) (tOp (rOwnIx C (up K (q_Catalog_getitem C))) (tVar 1) (tVar 2))) tNil))) [2]) tNil)) tNil))))
def p_Catalog_sub (C : Addr) : PSx :=
    (pRet (pMk C (pNewM (pCBD gDictP (pCons (pNewL (pLc (pIS (pOp fCatS (pProp C (q_Catalog_letters C) (pVar 0)) (pProp C (q_Catalog_letters C) (pVar 1)))) (pgName 2) pYes (pTup (pCons (pVar 2) (pCons (pOp (fI fun i j => i - j) (pOp (fOwnIx C (q_Catalog_getitem C)) (pVar 0) (pVar 2)) (pOp (fOwnIx C (q_Catalog_getitem C)) (pVar 1) (pVar 2))) pNil))) [2])) pNil)))))
theorem l_Catalog_sub (Z : ClsK K C) (B : Fl K C) {s c : Addr} {H0 : Hp} : LS K s c H0 (t_Catalog_sub K C) (p_Catalog_sub C) :=
    (S_ret (L_mk (LD.le (L_cbd C_dictP (L_cons (LN.le (L_lc (I_str (L_op O_catS (L_prop m_Catalog_letters (L_var 0)) (L_prop m_Catalog_letters (L_var 1)))) (G_name 2) L_yes (L_tup (L_cons (L_var 2) (L_cons (L_op (O_I fun i j => i - j) (L_op (O_ownIx m_Catalog_getitem) (L_var 0) (L_var 2)) (L_op (O_ownIx m_Catalog_getitem) (L_var 1) (L_var 2))) L_nil))))) L_nil)))))
/-- Catalog.__mul__ -/
abbrev n_Catalog_mul : List Str := ["self", "times", "char"]
def t_Catalog_mul (K : PySem.W.Frag) (C : Addr) : TS :=
    (tRet (tFrz (tMake C (sp_init K C) [] E0 (tCons (tCB (rDictP K) (tCons (tLc (iStr (tPropR C (up K (q_Catalog_letters C)) (tVar 0))) (gName 2) tYes (tTup (tCons (tVar 2) (tCons (tOp (rI CMulW fun i j => .int (i * j)) (tOp (rOwnIx C (up K (q_Catalog_getitem C))) (tVar 0) (tVar 2)) (tVar 1)) tNil))) [2]) tNil)) tNil))))
def p_Catalog_mul (C : Addr) : PSx :=
    (pRet (pMk C (pNewM (pCBD gDictP (pCons (pNewL (pLc (pIS (pProp C (q_Catalog_letters C) (pVar 0))) (pgName 2) pYes (pTup (pCons (pVar 2) (pCons (pOp (fIC CMulW fun i j => i * j) (pOp (fOwnIx C (q_Catalog_getitem C)) (pVar 0) (pVar 2)) (pVar 1)) pNil))) [2])) pNil)))))
theorem l_Catalog_mul (Z : ClsK K C) (B : Fl K C) {s c : Addr} {H0 : Hp} : LS K s c H0 (t_Catalog_mul K C) (p_Catalog_mul C) :=
    (S_ret (L_mk (LD.le (L_cbd C_dictP (L_cons (LN.le (L_lc (I_str (L_prop m_Catalog_letters (L_var 0))) (G_name 2) L_yes (L_tup (L_cons (L_var 2) (L_cons (L_op (O_IC CMulW fun i j => i * j) (L_op (O_ownIx m_Catalog_getitem) (L_var 0) (L_var 2)) (L_var 1)) L_nil))))) L_nil)))))
/-- Catalog.__rmul__ -/
abbrev n_Catalog_rmul : List Str := ["self", "times"]
def t_Catalog_rmul (K : PySem.W.Frag) (C : Addr) : TS :=
    (tRet (tOp (rOwnI C (up K (q_Catalog_mul C))) (tVar 0) (tVar 1)))
def p_Catalog_rmul (C : Addr) : PSx :=
    (pRet (pOp (fOwnI C (q_Catalog_mul C)) (pVar 0) (pVar 1)))
theorem l_Catalog_rmul (Z : ClsK K C) (B : Fl K C) {s c : Addr} {H0 : Hp} : LS K s c H0 (t_Catalog_rmul K C) (p_Catalog_rmul C) :=
    (S_ret (L_op (O_ownI m_Catalog_mul) (L_var 0) (L_var 1)))
/-- Catalog.__eq__ -/
abbrev n_Catalog_eq : List Str := ["self", "other"]
def t_Catalog_eq (K : PySem.W.Frag) (C : Addr) : TS :=
    (tRet (tAndV (tCB (rIsiD K) (tCons (tVar 1) (tCons (tC (.ref C)) tNil))) (tOp rEqDict (tFldR K (tVar 0) "_lengths") (tFldR K (tVar 1) "_lengths"))))
def p_Catalog_eq (C : Addr) : PSx :=
    (pRet (pAndV (pIsC C (pVar 1)) (pOp fEqDict (pFld C "_lengths" (pVar 0)) (pFld C "_lengths" (pVar 1)))))
theorem l_Catalog_eq (Z : ClsK K C) (B : Fl K C) {s c : Addr} {H0 : Hp} : LS K s c H0 (t_Catalog_eq K C) (p_Catalog_eq C) :=
    (S_ret (L_andV (L_isC Z.ins Z.nb (L_var 1)) (L_op O_eqDict (L_fld Z.cls B.n_lengths (L_var 0)) (L_fld Z.cls B.n_lengths (L_var 1)))))
/-- _law_signs -/
abbrev n_law_signs : List Str := ["_law_source_here", "_law_many", "_law_chars", "_law_found", "_law_k", "_law_left", "_law_char"]
def t_law_signs (K : PySem.W.Frag) (C : Addr) : TS :=
    (tSeq (tAsg (tC (.str "!\"#$&'()*+,-./0123456789:;<=>?@ABCDEFGHIJKLMNOPQRSTUVWXYZ[\\]^_`abcdefghijklmnopqrstuvwxyz{|}~")) (gName 2))
    (tSeq (tAsg (tLst tNil) (gName 3))
    (tSeq (tFor (iRng1 (tCons (tVar 1) tNil)) (gName 4) (tSeq (tAsg (tLc (iStr (tVar 2)) (gName 6) (tTest (tOp (rIn K true) (tVar 6) (tVar 3))) (tVar 6) [6]) (gName 5))
    (tDrop (tBM K "list" rAppend (tVar 3) (tCons (tOp (rIxL K) (tVar 5) (tCall (up K (q_law_take)) [] E0 (tCons (tVar 0) (tCons (tCB (cLenQ K) (tCons (tVar 5) tNil)) tNil)))) tNil)))))
    (tFrzS 3 (tRet (tVar 3))))))
def p_law_signs (C : Addr) : PSx :=
    (pSeq (pAsg (pC (cS "!\"#$&'()*+,-./0123456789:;<=>?@ABCDEFGHIJKLMNOPQRSTUVWXYZ[\\]^_`abcdefghijklmnopqrstuvwxyz{|}~")) (pgName 2))
    (pSeq (pNew (pLst pNil) 3)
    (pSeq (pFor (pIR (pCons (pVar 1) pNil)) (pgName 4) (pSeq (pNew (pLc (pIS (pVar 2)) (pgName 6) (pTest (pOp (fInS not) (pVar 6) (pVar 3))) (pVar 6) [6]) 5)
    (pApp 3 (pOp fIxL (pVar 5) (pCall (q_law_take) (pCons (pVar 0) (pCons (pCB gLenQ (pCons (pVar 5) pNil)) pNil)))))))
    (pFrzC 3 (pRet (pVar 3))))))
theorem l_law_signs (Z : ClsK K C) (B : Fl K C) {s c : Addr} {H0 : Hp} : LS K s c H0 (t_law_signs K C) (p_law_signs C) :=
    (S_seq (S_asg (L_str "!\"#$&'()*+,-./0123456789:;<=>?@ABCDEFGHIJKLMNOPQRSTUVWXYZ[\\]^_`abcdefghijklmnopqrstuvwxyz{|}~") (G_name 2))
    (S_seq (S_new 3 (L_lst L_nil))
    (S_seq (S_for (I_rng1 (L_cons (L_var 1) L_nil)) (G_name 4) (S_seq (S_new 5 (L_lc (I_str (L_var 2)) (G_name 6) (L_test (L_op O_notInS (L_var 6) (L_var 3))) (L_var 6)))
    (S_app 3 (L_op O_ixL (L_var 5) (L_call m_law_take (L_cons (L_var 0) (L_cons (L_cb C_lenQ (L_cons (L_var 5) L_nil)) L_nil)))))))
    (S_frzC 3 (S_ret (L_var 3))))))
/-- _law_text -/
abbrev n_law_text : List Str := ["_law_source_here", "_law_signs_here", "_law_size", "_law_k"]
def t_law_text (K : PySem.W.Frag) (C : Addr) : TS :=
    (tRet (tM1 (mJoin K) (tC (.str "")) (tLc (iRng1 (tCons (tVar 2) tNil)) (gName 3) tYes (tOp (rIxL K) (tVar 1) (tCall (up K (q_law_take)) [] E0 (tCons (tVar 0) (tCons (tCB (cLenQ K) (tCons (tVar 1) tNil)) tNil)))) [3])))
def p_law_text (C : Addr) : PSx :=
    (pRet (pJoin (pC (cS "")) (pNewL (pLc (pIR (pCons (pVar 2) pNil)) (pgName 3) pYes (pOp fIxL (pVar 1) (pCall (q_law_take) (pCons (pVar 0) (pCons (pCB gLenQ (pCons (pVar 1) pNil)) pNil)))) [3]))))
theorem l_law_text (Z : ClsK K C) (B : Fl K C) {s c : Addr} {H0 : Hp} : LS K s c H0 (t_law_text K C) (p_law_text C) :=
    (S_ret (L_join (L_str "") (LN.le (L_lc (I_rng1 (L_cons (L_var 2) L_nil)) (G_name 3) L_yes (L_op O_ixL (L_var 1) (L_call m_law_take (L_cons (L_var 0) (L_cons (L_cb C_lenQ (L_cons (L_var 1) L_nil)) L_nil))))))))
/-- _law_number -/
abbrev n_law_number : List Str := ["_law_source_here", "_law_kind", "_law_sign"]
def t_law_number (K : PySem.W.Frag) (C : Addr) : TS :=
    (tSeq (tAsg (tCall (up K (q_law_take)) [] E0 (tCons (tVar 0) (tCons (tC (.int 6)) tNil))) (gName 1))
    (tSeq (tAsg (tOp rSubI (tC (.int 1)) (tOp (rI CMulW fun i j => .int (i * j)) (tC (.int 2)) (tCall (up K (q_law_take)) [] E0 (tCons (tVar 0) (tCons (tC (.int 2)) tNil))))) (gName 2))
    (tSeq (tIfS (tTest (tOp rEq (tVar 1) (tC (.int 0)))) (tRet (tC (.int 0))) tNext)
    (tSeq (tIfS (tTest (tOp rLtI (tVar 1) (tC (.int 4)))) (tRet (tOp rSubI (tCall (up K (q_law_take)) [] E0 (tCons (tVar 0) (tCons (tC (.int 11)) tNil))) (tC (.int 5)))) tNext)
    (tSeq (tIfS (tTest (tOp rEq (tVar 1) (tC (.int 4)))) (tRet (tOp (rI CMulW fun i j => .int (i * j)) (tVar 2) (tCall (up K (q_law_take)) [] E0 (tCons (tVar 0) (tCons (tOp rPowI (tC (.int 10)) (tC (.int 18))) tNil))))) tNext)
    (tRet (tOp (rI CMulW fun i j => .int (i * j)) (tVar 2) (tOp rAddI (tOp (rI CMulW fun i j => .int (i * j)) (tOp rPowI (tC (.int 10)) (tC (.int 58))) (tOp rAddI (tC (.int 1)) (tCall (up K (q_law_take)) [] E0 (tCons (tVar 0) (tCons (tC (.int 9)) tNil))))) (tCall (up K (q_law_take)) [] E0 (tCons (tVar 0) (tCons (tOp rPowI (tC (.int 10)) (tC (.int 18))) tNil)))))))))))
def p_law_number (C : Addr) : PSx :=
    (pSeq (pAsg (pCall (q_law_take) (pCons (pVar 0) (pCons (pC (cI 6)) pNil))) (pgName 1))
    (pSeq (pAsg (pOp (fI fun i j => i - j) (pC (cI 1)) (pOp (fIC CMulW fun i j => i * j) (pC (cI 2)) (pCall (q_law_take) (pCons (pVar 0) (pCons (pC (cI 2)) pNil))))) (pgName 2))
    (pSeq (pIfS (pTest (pOp (fEq id) (pVar 1) (pC (cI 0)))) (pRet (pC (cI 0))) pNext)
    (pSeq (pIfS (pTest (pOp (fIB fun i j => decide (i < j)) (pVar 1) (pC (cI 4)))) (pRet (pOp (fI fun i j => i - j) (pCall (q_law_take) (pCons (pVar 0) (pCons (pC (cI 11)) pNil))) (pC (cI 5)))) pNext)
    (pSeq (pIfS (pTest (pOp (fEq id) (pVar 1) (pC (cI 4)))) (pRet (pOp (fIC CMulW fun i j => i * j) (pVar 2) (pCall (q_law_take) (pCons (pVar 0) (pCons (pOp (fIC CPow fun i j => i ^ j.toNat) (pC (cI 10)) (pC (cI 18))) pNil))))) pNext)
    (pRet (pOp (fIC CMulW fun i j => i * j) (pVar 2) (pOp (fI fun i j => i + j) (pOp (fIC CMulW fun i j => i * j) (pOp (fIC CPow fun i j => i ^ j.toNat) (pC (cI 10)) (pC (cI 58))) (pOp (fI fun i j => i + j) (pC (cI 1)) (pCall (q_law_take) (pCons (pVar 0) (pCons (pC (cI 9)) pNil))))) (pCall (q_law_take) (pCons (pVar 0) (pCons (pOp (fIC CPow fun i j => i ^ j.toNat) (pC (cI 10)) (pC (cI 18))) pNil)))))))))))
theorem l_law_number (Z : ClsK K C) (B : Fl K C) {s c : Addr} {H0 : Hp} : LS K s c H0 (t_law_number K C) (p_law_number C) :=
    (S_seq (S_asg (L_call m_law_take (L_cons (L_var 0) (L_cons (L_int 6) L_nil))) (G_name 1))
    (S_seq (S_asg (L_op (O_I fun i j => i - j) (L_int 1) (L_op (O_IC CMulW fun i j => i * j) (L_int 2) (L_call m_law_take (L_cons (L_var 0) (L_cons (L_int 2) L_nil))))) (G_name 2))
    (S_seq (S_if (L_test (L_op O_eq (L_var 1) (L_int 0))) (S_ret (L_int 0)) S_next)
    (S_seq (S_if (L_test (L_op (O_IB fun i j => decide (i < j)) (L_var 1) (L_int 4))) (S_ret (L_op (O_I fun i j => i - j) (L_call m_law_take (L_cons (L_var 0) (L_cons (L_int 11) L_nil))) (L_int 5))) S_next)
    (S_seq (S_if (L_test (L_op O_eq (L_var 1) (L_int 4))) (S_ret (L_op (O_IC CMulW fun i j => i * j) (L_var 2) (L_call m_law_take (L_cons (L_var 0) (L_cons (L_op (O_IC CPow fun i j => i ^ j.toNat) (L_int 10) (L_int 18)) L_nil))))) S_next)
    (S_ret (L_op (O_IC CMulW fun i j => i * j) (L_var 2) (L_op (O_I fun i j => i + j) (L_op (O_IC CMulW fun i j => i * j) (L_op (O_IC CPow fun i j => i ^ j.toNat) (L_int 10) (L_int 58)) (L_op (O_I fun i j => i + j) (L_int 1) (L_call m_law_take (L_cons (L_var 0) (L_cons (L_int 9) L_nil))))) (L_call m_law_take (L_cons (L_var 0) (L_cons (L_op (O_IC CPow fun i j => i ^ j.toNat) (L_int 10) (L_int 18)) L_nil)))))))))))
/-- _law_lengths -/
abbrev n_law_lengths : List Str := ["_law_source_here", "_law_signs_here", "_law_lengths_here", "_law_char"]
def t_law_lengths (K : PySem.W.Frag) (C : Addr) : TS :=
    (tSeq (tAsg tDNewK (gName 2))
    (tSeq (tFor (iList K (tVar 1)) (gName 3) (tIfS (tTest (tOp rGtI (tCall (up K (q_law_take)) [] E0 (tCons (tVar 0) (tCons (tC (.int 3)) tNil))) (tC (.int 0)))) (sDPut (tVar 2) (tVar 3) (tCall (up K (q_law_number)) [] E0 (tCons (tVar 0) tNil))) tNext))
    (tFrzS 2 (tRet (tVar 2)))))
def p_law_lengths (C : Addr) : PSx :=
    (pSeq (pNewD pDNil 2)
    (pSeq (pFor (pIL (pVar 1)) (pgName 3) (pIfS (pTest (pOp (fIB fun i j => decide (j < i)) (pCall (q_law_take) (pCons (pVar 0) (pCons (pC (cI 3)) pNil))) (pC (cI 0)))) (pDPutK 2 (pVar 3) (pCall (q_law_number) (pCons (pVar 0) pNil))) pNext))
    (pFrzC 2 (pRet (pVar 2)))))
theorem l_law_lengths (Z : ClsK K C) (B : Fl K C) {s c : Addr} {H0 : Hp} : LS K s c H0 (t_law_lengths K C) (p_law_lengths C) :=
    (S_seq (S_newD 2 L_dnewK)
    (S_seq (S_for (I_list (L_var 1)) (G_name 3) (S_if (L_test (L_op (O_IB fun i j => decide (j < i)) (L_call m_law_take (L_cons (L_var 0) (L_cons (L_int 3) L_nil))) (L_int 0))) (S_dputK 2 (L_var 3) (L_call m_law_number (L_cons (L_var 0) L_nil))) S_next))
    (S_frzC 2 (S_ret (L_var 2)))))
/-- _law_turned -/
abbrev n_law_turned : List Str := ["_law_lengths_here", "_law_turned_here", "_law_char"]
def t_law_turned (K : PySem.W.Frag) (C : Addr) : TS :=
    (tSeq (tAsg tDNewK (gName 1))
    (tSeq (tFor (iList K (tFrz (tRev K (tCB rListD (tCons (tVar 0) tNil))))) (gName 2) (sDPut (tVar 1) (tVar 2) (tDGet (tVar 0) (tVar 2))))
    (tFrzS 1 (tRet (tVar 1)))))
def p_law_turned (C : Addr) : PSx :=
    (pSeq (pNewD pDNil 1)
    (pSeq (pFor (pIL (pFrz (pRev (pNewL (pCBN gListD (pCons (pVar 0) pNil)))))) (pgName 2) (pDPutK 1 (pVar 2) (pDGet (pVar 0) (pVar 2))))
    (pFrzC 1 (pRet (pVar 1)))))
theorem l_law_turned (Z : ClsK K C) (B : Fl K C) {s c : Addr} {H0 : Hp} : LS K s c H0 (t_law_turned K C) (p_law_turned C) :=
    (S_seq (S_newD 1 L_dnewK)
    (S_seq (S_for (I_list (LN.frz (L_rev (LN.le (L_cbn C_listD (L_cons (L_var 0) L_nil)))))) (G_name 2) (S_dputK 1 (L_var 2) (L_dget (L_var 0) (L_var 2))))
    (S_frzC 1 (S_ret (L_var 1)))))
/-- _law_is_integer -/
abbrev n_law_is_integer : List Str := ["_law_value"]
def t_law_is_integer (K : PySem.W.Frag) (C : Addr) : TS :=
    (tRet (tAndV (tCB (rIsiD K) (tCons (tVar 0) (tCons (tC (.ty "int")) tNil))) (tNotV (tCB (rIsiD K) (tCons (tVar 0) (tCons (tC (.ty "bool")) tNil))))))
def p_law_is_integer (C : Addr) : PSx :=
    (pRet (pAndV (pIsT "int" (pVar 0)) (pNotV (pIsT "bool" (pVar 0)))))
theorem l_law_is_integer (Z : ClsK K C) (B : Fl K C) {s c : Addr} {H0 : Hp} : LS K s c H0 (t_law_is_integer K C) (p_law_is_integer C) :=
    (S_ret (L_andV (L_isT (L_var 0)) (L_notV (L_isT (L_var 0)))))
/-- _law_fits -/
abbrev n_law_fits : List Str := ["_law_catalog", "_law_lengths_here", "_law_signs_here", "_law_texts", "_law_ordered", "_law_char", "_law_text_here", "_law_total"]
def t_law_fits (K : PySem.W.Frag) (C : Addr) : TS :=
    (tSeq (tIfS (tNot (tB (tCB (rIsiD K) (tCons (tVar 0) (tCons (tC (.ref C)) tNil))))) (tRet (tC (.bl false))) tNext)
    (tSeq (tAsg (tFrz (tCB (rSortedL K) (tCons (tLc (iKeys (tVar 1)) (gName 5) tYes (tCB cStrS (tCons (tVar 5) tNil)) [5]) tNil))) (gName 4))
    (tSeq (tIfS (tOr (tTest (tOp rNe (tPropR C (up K (q_Catalog_letters C)) (tVar 0)) (tM1 (mJoin K) (tC (.str "")) (tVar 4)))) (tOr (tTest (tOp (rNeD K) (tCB (rListOwn K C "_letters") (tCons (tVar 0) tNil)) (tVar 4))) (tTest (tOp (rNeD K) (tLc (iOwn K C "_letters" (tVar 0)) (gName 5) tYes (tVar 5) [5]) (tVar 4))))) (tRet (tC (.bl false))) tNext)
    (tSeq (tFor (iList K (tVar 2)) (gName 5) (tSeq (tIfS (tOr (tNot (tB (tCall (up K (q_law_is_integer)) [] E0 (tCons (tOp (rOwnIx C (up K (q_Catalog_getitem C))) (tVar 0) (tVar 5)) tNil)))) (tTest (tOp rNe (tOp (rOwnIx C (up K (q_Catalog_getitem C))) (tVar 0) (tVar 5)) (tDGet2 (tVar 1) (tVar 5) (tC (.int 0)))))) (tRet (tC (.bl false))) tNext)
    (tIfS (tTest (tOp rNe (tOp (rOwnIn C (up K (q_Catalog_contains C)) id) (tVar 5) (tVar 0)) (tDIn (tVar 5) (tVar 1)))) (tRet (tC (.bl false))) tNext)))
    (tSeq (tFor (iList K (tVar 3)) (gName 6) (tSeq (tAsg (tMethR C "length" (up K (q_Catalog_length C)) (tVar 0) (tCons (tVar 6) tNil)) (gName 7))
    (tIfS (tOr (tNot (tB (tCall (up K (q_law_is_integer)) [] E0 (tCons (tVar 7) tNil)))) (tTest (tOp rNe (tVar 7) (tCB (rSum K) (tCons (tLc (iStr (tVar 6)) (gName 5) tYes (tDGet2 (tVar 1) (tVar 5) (tC (.int 0))) [5]) tNil))))) (tRet (tC (.bl false))) tNext)))
    (tRet (tC (.bl true))))))))
def p_law_fits (C : Addr) : PSx :=
    (pSeq (pIfS (pNot (pTest (pIsC C (pVar 0)))) (pRet (pC (cB false))) pNext)
    (pSeq (pAsg (pFrz (pCBN gSortedL (pCons (pNewL (pLc (pIK (pVar 1)) (pgName 5) pYes (pCB gStrS (pCons (pVar 5) pNil)) [5])) pNil))) (pgName 4))
    (pSeq (pIfS (pOr (pTest (pOp (fEq not) (pProp C (q_Catalog_letters C) (pVar 0)) (pJoin (pC (cS "")) (pVar 4)))) (pOr (pTest (pOp (fEqD not) (pNewL (pCBN (gListOwn C "_letters") (pCons (pVar 0) pNil))) (pVar 4))) (pTest (pOp (fEqD not) (pNewL (pLc (pIOwn C "_letters" (pVar 0)) (pgName 5) pYes (pVar 5) [5])) (pVar 4))))) (pRet (pC (cB false))) pNext)
    (pSeq (pFor (pIL (pVar 2)) (pgName 5) (pSeq (pIfS (pOr (pNot (pTest (pCall (q_law_is_integer) (pCons (pOp (fOwnIx C (q_Catalog_getitem C)) (pVar 0) (pVar 5)) pNil)))) (pTest (pOp (fEq not) (pOp (fOwnIx C (q_Catalog_getitem C)) (pVar 0) (pVar 5)) (pDGet2 (pVar 1) (pVar 5) (pC (cI 0)))))) (pRet (pC (cB false))) pNext)
    (pIfS (pTest (pOp (fEq not) (pOp (fOwnIn C (q_Catalog_contains C) id) (pVar 5) (pVar 0)) (pDIn id (pVar 5) (pVar 1)))) (pRet (pC (cB false))) pNext)))
    (pSeq (pFor (pIL (pVar 3)) (pgName 6) (pSeq (pAsg (pMeth C "length" (q_Catalog_length C) (pVar 0) (pCons (pVar 6) pNil)) (pgName 7))
    (pIfS (pOr (pNot (pTest (pCall (q_law_is_integer) (pCons (pVar 7) pNil)))) (pTest (pOp (fEq not) (pVar 7) (pCB gSum (pCons (pNewL (pLc (pIS (pVar 6)) (pgName 5) pYes (pDGet2 (pVar 1) (pVar 5) (pC (cI 0))) [5])) pNil))))) (pRet (pC (cB false))) pNext)))
    (pRet (pC (cB true))))))))
theorem l_law_fits (Z : ClsK K C) (B : Fl K C) {s c : Addr} {H0 : Hp} : LS K s c H0 (t_law_fits K C) (p_law_fits C) :=
    (S_seq (S_if (L_not (L_b (L_isC Z.ins Z.nb (L_var 0)))) (S_ret (L_bl false)) S_next)
    (S_seq (S_asg (LN.frz (L_cbn C_sortedL (L_cons (LN.le (L_lc (I_keys (L_var 1)) (G_name 5) L_yes (L_cb C_strS (L_cons (L_var 5) L_nil)))) L_nil))) (G_name 4))
    (S_seq (S_if (L_or (L_test (L_op O_ne (L_prop m_Catalog_letters (L_var 0)) (L_join (L_str "") (L_var 4)))) (L_or (L_test (L_op O_neD (LN.le (L_cbn C_listOwn (L_cons (L_var 0) L_nil))) (L_var 4))) (L_test (L_op O_neD (LN.le (L_lc (I_own (L_var 0)) (G_name 5) L_yes (L_var 5))) (L_var 4))))) (S_ret (L_bl false)) S_next)
    (S_seq (S_for (I_list (L_var 2)) (G_name 5) (S_seq (S_if (L_or (L_not (L_b (L_call m_law_is_integer (L_cons (L_op (O_ownIx m_Catalog_getitem) (L_var 0) (L_var 5)) L_nil)))) (L_test (L_op O_ne (L_op (O_ownIx m_Catalog_getitem) (L_var 0) (L_var 5)) (L_dget2 (L_var 1) (L_var 5) (L_int 0))))) (S_ret (L_bl false)) S_next)
    (S_if (L_test (L_op O_ne (L_op (O_ownIn m_Catalog_contains) (L_var 5) (L_var 0)) (L_din (L_var 5) (L_var 1)))) (S_ret (L_bl false)) S_next)))
    (S_seq (S_for (I_list (L_var 3)) (G_name 6) (S_seq (S_asg (L_meth m_Catalog_length (L_var 0) (L_cons (L_var 6) L_nil)) (G_name 7))
    (S_if (L_or (L_not (L_b (L_call m_law_is_integer (L_cons (L_var 7) L_nil)))) (L_test (L_op O_ne (L_var 7) (L_cb C_sum (L_cons (LN.le (L_lc (I_str (L_var 6)) (G_name 5) L_yes (L_dget2 (L_var 1) (L_var 5) (L_int 0)))) L_nil))))) (S_ret (L_bl false)) S_next)))
    (S_ret (L_bl true)))))))
/-- _law_combined -/
abbrev n_law_combined : List Str := ["_law_one", "_law_two", "_law_factor", "_law_lengths_here", "_law_char"]
def t_law_combined (K : PySem.W.Frag) (C : Addr) : TS :=
    (tSeq (tAsg tDNewK (gName 3))
    (tSeq (tFor (iList K (tFrz (tOp rCat (tCB rListD (tCons (tVar 0) tNil)) (tCB rListD (tCons (tVar 1) tNil))))) (gName 4) (sDPut (tVar 3) (tVar 4) (tOp rAddI (tDGet2 (tVar 0) (tVar 4) (tC (.int 0))) (tOp (rI CMulW fun i j => .int (i * j)) (tVar 2) (tDGet2 (tVar 1) (tVar 4) (tC (.int 0)))))))
    (tFrzS 3 (tRet (tVar 3)))))
def p_law_combined (C : Addr) : PSx :=
    (pSeq (pNewD pDNil 3)
    (pSeq (pFor (pIL (pFrz (pOpN fCat (pNewL (pCBN gListD (pCons (pVar 0) pNil))) (pNewL (pCBN gListD (pCons (pVar 1) pNil)))))) (pgName 4) (pDPutK 3 (pVar 4) (pOp (fI fun i j => i + j) (pDGet2 (pVar 0) (pVar 4) (pC (cI 0))) (pOp (fIC CMulW fun i j => i * j) (pVar 2) (pDGet2 (pVar 1) (pVar 4) (pC (cI 0)))))))
    (pFrzC 3 (pRet (pVar 3)))))
theorem l_law_combined (Z : ClsK K C) (B : Fl K C) {s c : Addr} {H0 : Hp} : LS K s c H0 (t_law_combined K C) (p_law_combined C) :=
    (S_seq (S_newD 3 L_dnewK)
    (S_seq (S_for (I_list (LN.frz (L_opN O_cat (LN.le (L_cbn C_listD (L_cons (L_var 0) L_nil))) (LN.le (L_cbn C_listD (L_cons (L_var 1) L_nil)))))) (G_name 4) (S_dputK 3 (L_var 4) (L_op (O_I fun i j => i + j) (L_dget2 (L_var 0) (L_var 4) (L_int 0)) (L_op (O_IC CMulW fun i j => i * j) (L_var 2) (L_dget2 (L_var 1) (L_var 4) (L_int 0))))))
    (S_frzC 3 (S_ret (L_var 3)))))
/-- _law_scaled -/
abbrev n_law_scaled : List Str := ["_law_lengths_here", "_law_times", "_law_scaled_here", "_law_char"]
def t_law_scaled (K : PySem.W.Frag) (C : Addr) : TS :=
    (tSeq (tAsg tDNewK (gName 2))
    (tSeq (tFor (iKeys (tVar 0)) (gName 3) (sDPut (tVar 2) (tVar 3) (tOp (rI CMulW fun i j => .int (i * j)) (tDGet (tVar 0) (tVar 3)) (tVar 1))))
    (tFrzS 2 (tRet (tVar 2)))))
def p_law_scaled (C : Addr) : PSx :=
    (pSeq (pNewD pDNil 2)
    (pSeq (pFor (pIK (pVar 0)) (pgName 3) (pDPutK 2 (pVar 3) (pOp (fIC CMulW fun i j => i * j) (pDGet (pVar 0) (pVar 3)) (pVar 1))))
    (pFrzC 2 (pRet (pVar 2)))))
theorem l_law_scaled (Z : ClsK K C) (B : Fl K C) {s c : Addr} {H0 : Hp} : LS K s c H0 (t_law_scaled K C) (p_law_scaled C) :=
    (S_seq (S_newD 2 L_dnewK)
    (S_seq (S_for (I_keys (L_var 0)) (G_name 3) (S_dputK 2 (L_var 3) (L_op (O_IC CMulW fun i j => i * j) (L_dget (L_var 0) (L_var 3)) (L_var 1))))
    (S_frzC 2 (S_ret (L_var 2)))))
/-- _law_equal_right -/
abbrev n_law_equal_right : List Str := ["_law_one", "_law_lengths_here", "_law_other", "_law_same", "_law_turned_here"]
def t_law_equal_right (K : PySem.W.Frag) (C : Addr) : TS :=
    (tSeq (tAsg (tOp (rOwnEqD K C (up K (q_Catalog_eq C))) (tVar 0) (tFrz (tMake C (sp_init K C) [] E0 (tCons (tVar 2) tNil)))) (gName 3))
    (tSeq (tAsg (tOp (rOwnEqD K C (up K (q_Catalog_eq C))) (tFrz (tMake C (sp_init K C) [] E0 (tCons (tVar 2) tNil))) (tVar 0)) (gName 4))
    (tRet (tAndV (tCB (rIsiD K) (tCons (tVar 3) (tCons (tC (.ty "bool")) tNil))) (tAndV (tOp rEq (tVar 3) (tOp rEqDict (tVar 1) (tVar 2))) (tAndV (tCB (rIsiD K) (tCons (tVar 4) (tCons (tC (.ty "bool")) tNil))) (tOp rEq (tVar 4) (tVar 3))))))))
def p_law_equal_right (C : Addr) : PSx :=
    (pSeq (pAsg (pOp (fOwnEq C (q_Catalog_eq C)) (pVar 0) (pMk C (pVar 2))) (pgName 3))
    (pSeq (pAsg (pOp (fOwnEq C (q_Catalog_eq C)) (pMk C (pVar 2)) (pVar 0)) (pgName 4))
    (pRet (pAndV (pIsT "bool" (pVar 3)) (pAndV (pOp (fEq id) (pVar 3) (pOp fEqDict (pVar 1) (pVar 2))) (pAndV (pIsT "bool" (pVar 4)) (pOp (fEq id) (pVar 4) (pVar 3))))))))
theorem l_law_equal_right (Z : ClsK K C) (B : Fl K C) {s c : Addr} {H0 : Hp} : LS K s c H0 (t_law_equal_right K C) (p_law_equal_right C) :=
    (S_seq (S_asg (L_op (O_ownEq m_Catalog_eq Z.ins Z.fn) (L_var 0) (L_mk (L_var 2))) (G_name 3))
    (S_seq (S_asg (L_op (O_ownEq m_Catalog_eq Z.ins Z.fn) (L_mk (L_var 2)) (L_var 0)) (G_name 4))
    (S_ret (L_andV (L_isT (L_var 3)) (L_andV (L_op O_eq (L_var 3) (L_op O_eqDict (L_var 1) (L_var 2))) (L_andV (L_isT (L_var 4)) (L_op O_eq (L_var 4) (L_var 3))))))))
/-- _law_equals_right -/
abbrev n_law_equals_right : List Str := ["_law_source_here", "_law_catalog", "_law_lengths_here", "_law_signs_here", "_law_char", "_law_more", "_law_zero", "_law_less", "_law_other", "_law_changed"]
def t_law_equals_right (K : PySem.W.Frag) (C : Addr) : TS :=
    (tSeq (tIfS (tNot (tB (tCall (up K (q_law_equal_right C)) [] E0 (tCons (tVar 1) (tCons (tVar 2) (tCons (tCall (up K (q_law_turned)) [] E0 (tCons (tVar 2) tNil)) tNil)))))) (tRet (tC (.bl false))) tNext)
    (tSeq (tAsg (tOp (rIxL K) (tVar 3) (tCall (up K (q_law_take)) [] E0 (tCons (tVar 0) (tCons (tCB (cLenQ K) (tCons (tVar 3) tNil)) tNil)))) (gName 4))
    (tSeq (tAsg (tCB rDictD (tCons (tVar 2) tNil)) (gName 5))
    (tSeq (sDPut (tVar 5) (tVar 4) (tOp rSubI (tOp rAddI (tDGet2 (tVar 2) (tVar 4) (tC (.int 0))) (tC (.int 1))) (tOp (rI CMulW fun i j => .int (i * j)) (tC (.int 2)) (tCall (up K (q_law_take)) [] E0 (tCons (tVar 0) (tCons (tC (.int 2)) tNil))))))
    (tSeq (tAsg (tCB rDictD (tCons (tVar 2) tNil)) (gName 6))
    (tSeq (sDPut (tVar 6) (tVar 4) (tDGet2 (tVar 2) (tVar 4) (tC (.int 0))))
    (tSeq (tAsg tDNewK (gName 7))
    (tSeq (tFor (iKeys (tVar 2)) (gName 8) (tIfS (tTest (tOp rNe (tVar 8) (tVar 4))) (sDPut (tVar 7) (tVar 8) (tDGet (tVar 2) (tVar 8))) tNext))
    (tSeq (tFrzS 5 (tFrzS 6 (tFrzS 7 (tFor (iList K (tFrz (tLst (tCons (tVar 5) (tCons (tVar 6) (tCons (tVar 7) tNil)))))) (gName 9) (tIfS (tNot (tB (tCall (up K (q_law_equal_right C)) [] E0 (tCons (tVar 1) (tCons (tVar 2) (tCons (tVar 9) tNil)))))) (tRet (tC (.bl false))) tNext)))))
    (tRet (tC (.bl true))))))))))))
def p_law_equals_right (C : Addr) : PSx :=
    (pSeq (pIfS (pNot (pTest (pCall (q_law_equal_right C) (pCons (pVar 1) (pCons (pVar 2) (pCons (pCall (q_law_turned) (pCons (pVar 2) pNil)) pNil)))))) (pRet (pC (cB false))) pNext)
    (pSeq (pAsg (pOp fIxL (pVar 3) (pCall (q_law_take) (pCons (pVar 0) (pCons (pCB gLenQ (pCons (pVar 3) pNil)) pNil)))) (pgName 4))
    (pSeq (pNewD (pCBD gDictD (pCons (pVar 2) pNil)) 5)
    (pSeq (pDPutK 5 (pVar 4) (pOp (fI fun i j => i - j) (pOp (fI fun i j => i + j) (pDGet2 (pVar 2) (pVar 4) (pC (cI 0))) (pC (cI 1))) (pOp (fIC CMulW fun i j => i * j) (pC (cI 2)) (pCall (q_law_take) (pCons (pVar 0) (pCons (pC (cI 2)) pNil))))))
    (pSeq (pNewD (pCBD gDictD (pCons (pVar 2) pNil)) 6)
    (pSeq (pDPutK 6 (pVar 4) (pDGet2 (pVar 2) (pVar 4) (pC (cI 0))))
    (pSeq (pNewD pDNil 7)
    (pSeq (pFor (pIK (pVar 2)) (pgName 8) (pIfS (pTest (pOp (fEq not) (pVar 8) (pVar 4))) (pDPutK 7 (pVar 8) (pDGet (pVar 2) (pVar 8))) pNext))
    (pSeq (pFrzC 5 (pFrzC 6 (pFrzC 7 (pFor (pIL (pFrz (pLst (pCons (pVar 5) (pCons (pVar 6) (pCons (pVar 7) pNil)))))) (pgName 9) (pIfS (pNot (pTest (pCall (q_law_equal_right C) (pCons (pVar 1) (pCons (pVar 2) (pCons (pVar 9) pNil)))))) (pRet (pC (cB false))) pNext)))))
    (pRet (pC (cB true))))))))))))
theorem l_law_equals_right (Z : ClsK K C) (B : Fl K C) {s c : Addr} {H0 : Hp} : LS K s c H0 (t_law_equals_right K C) (p_law_equals_right C) :=
    (S_seq (S_if (L_not (L_b (L_call m_law_equal_right (L_cons (L_var 1) (L_cons (L_var 2) (L_cons (L_call m_law_turned (L_cons (L_var 2) L_nil)) L_nil)))))) (S_ret (L_bl false)) S_next)
    (S_seq (S_asg (L_op O_ixL (L_var 3) (L_call m_law_take (L_cons (L_var 0) (L_cons (L_cb C_lenQ (L_cons (L_var 3) L_nil)) L_nil)))) (G_name 4))
    (S_seq (S_newD 5 (L_cbd C_dictD (L_cons (L_var 2) L_nil)))
    (S_seq (S_dputK 5 (L_var 4) (L_op (O_I fun i j => i - j) (L_op (O_I fun i j => i + j) (L_dget2 (L_var 2) (L_var 4) (L_int 0)) (L_int 1)) (L_op (O_IC CMulW fun i j => i * j) (L_int 2) (L_call m_law_take (L_cons (L_var 0) (L_cons (L_int 2) L_nil))))))
    (S_seq (S_newD 6 (L_cbd C_dictD (L_cons (L_var 2) L_nil)))
    (S_seq (S_dputK 6 (L_var 4) (L_dget2 (L_var 2) (L_var 4) (L_int 0)))
    (S_seq (S_newD 7 L_dnewK)
    (S_seq (S_for (I_keys (L_var 2)) (G_name 8) (S_if (L_test (L_op O_ne (L_var 8) (L_var 4))) (S_dputK 7 (L_var 8) (L_dget (L_var 2) (L_var 8))) S_next))
    (S_seq (S_frzC 5 (S_frzC 6 (S_frzC 7 (S_for (I_list (LN.frz (L_lst (L_cons (L_var 5) (L_cons (L_var 6) (L_cons (L_var 7) L_nil)))))) (G_name 9) (S_if (L_not (L_b (L_call m_law_equal_right (L_cons (L_var 1) (L_cons (L_var 2) (L_cons (L_var 9) L_nil)))))) (S_ret (L_bl false)) S_next)))))
    (S_ret (L_bl true)))))))))))
def t20_law (K : PySem.W.Frag) (C : Addr) : TS :=
    (tSeq (tFrzS 11 (tFor (iList K (tVar 11)) (gName 13) (tIfS (tNot (tB (tCall (up K (q_law_fits C)) [] E0 (tCons (tOp (rIxT K) (tVar 13) (tC (.int 0))) (tCons (tOp (rIxT K) (tVar 13) (tC (.int 1))) (tCons (tVar 3) (tCons (tVar 7) tNil))))))) (tRet (tC (.bl false))) tNext)))
    (tSeq (tFor (iList K (tFrz (tSl (rSlL K) (tVar 11) tNoPart (tPart (tC (.int 4)))))) (gName 13) (tIfS (tNot (tB (tCall (up K (q_law_equals_right C)) [] E0 (tCons (tVar 1) (tCons (tOp (rIxT K) (tVar 13) (tC (.int 0))) (tCons (tOp (rIxT K) (tVar 13) (tC (.int 1))) (tCons (tVar 3) tNil))))))) (tRet (tC (.bl false))) tNext))
    (tSeq (tFor (iList K (tFrz (tLst (tCons (tFrz (tCB rDictD (tCons (tVar 4) tNil))) (tCons (tFrz (tCB rListD (tCons (tVar 4) tNil))) (tCons (tPropR C (up K (q_Catalog_letters C)) (tVar 9)) (tCons (tCB rLenD (tCons (tVar 4) tNil)) (tCons (tC .non) tNil)))))))) (gName 14) (tIfS (tOr (tTest (tOp rNotB (tOp (rOwnEqD K C (up K (q_Catalog_eq C))) (tVar 9) (tVar 14)) (tC (.bl false)))) (tTest (tOp rNotB (tOp (rOwnEqR K C (up K (q_Catalog_eq C))) (tVar 14) (tVar 9)) (tC (.bl false))))) (tRet (tC (.bl false))) tNext))
    (tRet (tCall (up K (q_law_equal_right C)) [] E0 (tCons (tOp (rOwn C (up K (q_Catalog_sub C))) (tOp (rOwn C (up K (q_Catalog_add C))) (tVar 9) (tVar 10)) (tVar 10)) (tCons (tVar 12) (tCons (tVar 4) tNil))))))))
def p20_law (C : Addr) : PSx :=
    (pSeq (pFrzC 11 (pFor (pIL (pVar 11)) (pgName 13) (pIfS (pNot (pTest (pCall (q_law_fits C) (pCons (pOp fIxT (pVar 13) (pC (cI 0))) (pCons (pOp fIxT (pVar 13) (pC (cI 1))) (pCons (pVar 3) (pCons (pVar 7) pNil))))))) (pRet (pC (cB false))) pNext)))
    (pSeq (pFor (pIL (pFrz (pSlL (pVar 11) pNoPart (pPart (pC (cI 4)))))) (pgName 13) (pIfS (pNot (pTest (pCall (q_law_equals_right C) (pCons (pVar 1) (pCons (pOp fIxT (pVar 13) (pC (cI 0))) (pCons (pOp fIxT (pVar 13) (pC (cI 1))) (pCons (pVar 3) pNil))))))) (pRet (pC (cB false))) pNext))
    (pSeq (pFor (pIL (pFrz (pLst (pCons (pFrzM (pCBD gDictD (pCons (pVar 4) pNil))) (pCons (pFrz (pCBN gListD (pCons (pVar 4) pNil))) (pCons (pProp C (q_Catalog_letters C) (pVar 9)) (pCons (pCB gLenD (pCons (pVar 4) pNil)) (pCons (pC cN) pNil)))))))) (pgName 14) (pIfS (pOr (pTest (pOp (fIsB not) (pOp (fOwnEq C (q_Catalog_eq C)) (pVar 9) (pVar 14)) (pC (cB false)))) (pTest (pOp (fIsB not) (pOp (fOwnEqR C (q_Catalog_eq C)) (pVar 14) (pVar 9)) (pC (cB false))))) (pRet (pC (cB false))) pNext))
    (pRet (pCall (q_law_equal_right C) (pCons (pOp (fOwn C (q_Catalog_sub C)) (pOp (fOwn C (q_Catalog_add C)) (pVar 9) (pVar 10)) (pVar 10)) (pCons (pVar 12) (pCons (pVar 4) pNil))))))))
theorem l20_law (Z : ClsK K C) (B : Fl K C) {s c : Addr} {H0 : Hp} : LS K s c H0 (t20_law K C) (p20_law C) :=
    (S_seq (S_frzC 11 (S_for (I_list (L_var 11)) (G_name 13) (S_if (L_not (L_b (L_call m_law_fits (L_cons (L_op O_ixT (L_var 13) (L_int 0)) (L_cons (L_op O_ixT (L_var 13) (L_int 1)) (L_cons (L_var 3) (L_cons (L_var 7) L_nil))))))) (S_ret (L_bl false)) S_next)))
    (S_seq (S_for (I_list (LN.frz (L_slL (L_var 11) L_noPart (L_part (L_int 4))))) (G_name 13) (S_if (L_not (L_b (L_call m_law_equals_right (L_cons (L_var 1) (L_cons (L_op O_ixT (L_var 13) (L_int 0)) (L_cons (L_op O_ixT (L_var 13) (L_int 1)) (L_cons (L_var 3) L_nil))))))) (S_ret (L_bl false)) S_next))
    (S_seq (S_for (I_list (LN.frz (L_lst (L_cons (LD.frz (L_cbd C_dictD (L_cons (L_var 4) L_nil))) (L_cons (LN.frz (L_cbn C_listD (L_cons (L_var 4) L_nil))) (L_cons (L_prop m_Catalog_letters (L_var 9)) (L_cons (L_cb C_lenD (L_cons (L_var 4) L_nil)) (L_cons L_non L_nil)))))))) (G_name 14) (S_if (L_or (L_test (L_op O_notB (L_op (O_ownEq m_Catalog_eq Z.ins Z.fn) (L_var 9) (L_var 14)) (L_bl false))) (L_test (L_op O_notB (L_op (O_ownEqR m_Catalog_eq) (L_var 14) (L_var 9)) (L_bl false)))) (S_ret (L_bl false)) S_next))
    (S_ret (L_call m_law_equal_right (L_cons (L_op (O_own m_Catalog_sub) (L_op (O_own m_Catalog_add) (L_var 9) (L_var 10)) (L_var 10)) (L_cons (L_var 12) (L_cons (L_var 4) L_nil))))))))
def t11_law (K : PySem.W.Frag) (C : Addr) : TS :=
    (tSeq (tAsg (tLst (tCons (tTup (tCons (tVar 9) (tCons (tVar 4) tNil))) (tCons (tTup (tCons (tVar 10) (tCons (tVar 5) tNil))) (tCons (tTup (tCons (tOp (rOwn C (up K (q_Catalog_add C))) (tVar 9) (tVar 10)) (tCons (tCall (up K (q_law_combined)) [] E0 (tCons (tVar 4) (tCons (tVar 5) (tCons (tC (.int 1)) tNil)))) tNil))) tNil)))) (gName 11))
    (tSeq (tDrop (tBM K "list" rAppend (tVar 11) (tCons (tTup (tCons (tOp (rOwn C (up K (q_Catalog_sub C))) (tVar 9) (tVar 10)) (tCons (tCall (up K (q_law_combined)) [] E0 (tCons (tVar 4) (tCons (tVar 5) (tCons (tUn (rU fun i => .int (-i)) (tC (.int 1))) tNil)))) tNil))) tNil)))
    (tSeq (tDrop (tBM K "list" rAppend (tVar 11) (tCons (tTup (tCons (tOp (rOwnI C (up K (q_Catalog_mul C))) (tVar 9) (tVar 6)) (tCons (tCall (up K (q_law_scaled)) [] E0 (tCons (tVar 4) (tCons (tVar 6) tNil))) tNil))) tNil)))
    (tSeq (tDrop (tBM K "list" rAppend (tVar 11) (tCons (tTup (tCons (tOp (rIOwn C (up K (q_Catalog_rmul C))) (tVar 6) (tVar 10)) (tCons (tCall (up K (q_law_scaled)) [] E0 (tCons (tVar 5) (tCons (tVar 6) tNil))) tNil))) tNil)))
    (tSeq (tDrop (tBM K "list" rAppend (tVar 11) (tCons (tTup (tCons (tOp (rOwnI C (up K (q_Catalog_mul C))) (tOp (rOwn C (up K (q_Catalog_add C))) (tVar 9) (tVar 10)) (tVar 6)) (tCons (tCall (up K (q_law_scaled)) [] E0 (tCons (tCall (up K (q_law_combined)) [] E0 (tCons (tVar 4) (tCons (tVar 5) (tCons (tC (.int 1)) tNil)))) (tCons (tVar 6) tNil))) tNil))) tNil)))
    (tSeq (tAsg (tCall (up K (q_law_combined)) [] E0 (tCons (tCall (up K (q_law_combined)) [] E0 (tCons (tVar 4) (tCons (tVar 5) (tCons (tC (.int 1)) tNil)))) (tCons (tVar 5) (tCons (tUn (rU fun i => .int (-i)) (tC (.int 1))) tNil)))) (gName 12))
    (tSeq (tDrop (tBM K "list" rAppend (tVar 11) (tCons (tTup (tCons (tOp (rOwn C (up K (q_Catalog_sub C))) (tOp (rOwn C (up K (q_Catalog_add C))) (tVar 9) (tVar 10)) (tVar 10)) (tCons (tVar 12) tNil))) tNil)))
    (tSeq (tDrop (tBM K "list" rAppend (tVar 11) (tCons (tTup (tCons (tVar 9) (tCons (tVar 4) tNil))) tNil)))
    (tSeq (tDrop (tBM K "list" rAppend (tVar 11) (tCons (tTup (tCons (tVar 10) (tCons (tVar 5) tNil))) tNil)))
    (t20_law K C))))))))))
def p11_law (C : Addr) : PSx :=
    (pSeq (pNew (pLst (pCons (pTup (pCons (pVar 9) (pCons (pVar 4) pNil))) (pCons (pTup (pCons (pVar 10) (pCons (pVar 5) pNil))) (pCons (pTup (pCons (pOp (fOwn C (q_Catalog_add C)) (pVar 9) (pVar 10)) (pCons (pCall (q_law_combined) (pCons (pVar 4) (pCons (pVar 5) (pCons (pC (cI 1)) pNil)))) pNil))) pNil)))) 11)
    (pSeq (pApp 11 (pTup (pCons (pOp (fOwn C (q_Catalog_sub C)) (pVar 9) (pVar 10)) (pCons (pCall (q_law_combined) (pCons (pVar 4) (pCons (pVar 5) (pCons (pUn fNeg (pC (cI 1))) pNil)))) pNil))))
    (pSeq (pApp 11 (pTup (pCons (pOp (fOwnI C (q_Catalog_mul C)) (pVar 9) (pVar 6)) (pCons (pCall (q_law_scaled) (pCons (pVar 4) (pCons (pVar 6) pNil))) pNil))))
    (pSeq (pApp 11 (pTup (pCons (pOp (fIOwn C (q_Catalog_rmul C)) (pVar 6) (pVar 10)) (pCons (pCall (q_law_scaled) (pCons (pVar 5) (pCons (pVar 6) pNil))) pNil))))
    (pSeq (pApp 11 (pTup (pCons (pOp (fOwnI C (q_Catalog_mul C)) (pOp (fOwn C (q_Catalog_add C)) (pVar 9) (pVar 10)) (pVar 6)) (pCons (pCall (q_law_scaled) (pCons (pCall (q_law_combined) (pCons (pVar 4) (pCons (pVar 5) (pCons (pC (cI 1)) pNil)))) (pCons (pVar 6) pNil))) pNil))))
    (pSeq (pAsg (pCall (q_law_combined) (pCons (pCall (q_law_combined) (pCons (pVar 4) (pCons (pVar 5) (pCons (pC (cI 1)) pNil)))) (pCons (pVar 5) (pCons (pUn fNeg (pC (cI 1))) pNil)))) (pgName 12))
    (pSeq (pApp 11 (pTup (pCons (pOp (fOwn C (q_Catalog_sub C)) (pOp (fOwn C (q_Catalog_add C)) (pVar 9) (pVar 10)) (pVar 10)) (pCons (pVar 12) pNil))))
    (pSeq (pApp 11 (pTup (pCons (pVar 9) (pCons (pVar 4) pNil))))
    (pSeq (pApp 11 (pTup (pCons (pVar 10) (pCons (pVar 5) pNil))))
    (p20_law C))))))))))
theorem l11_law (Z : ClsK K C) (B : Fl K C) {s c : Addr} {H0 : Hp} : LS K s c H0 (t11_law K C) (p11_law C) :=
    (S_seq (S_new 11 (L_lst (L_cons (L_tup (L_cons (L_var 9) (L_cons (L_var 4) L_nil))) (L_cons (L_tup (L_cons (L_var 10) (L_cons (L_var 5) L_nil))) (L_cons (L_tup (L_cons (L_op (O_own m_Catalog_add) (L_var 9) (L_var 10)) (L_cons (L_call m_law_combined (L_cons (L_var 4) (L_cons (L_var 5) (L_cons (L_int 1) L_nil)))) L_nil))) L_nil)))))
    (S_seq (S_app 11 (L_tup (L_cons (L_op (O_own m_Catalog_sub) (L_var 9) (L_var 10)) (L_cons (L_call m_law_combined (L_cons (L_var 4) (L_cons (L_var 5) (L_cons (L_un U_neg (L_int 1)) L_nil)))) L_nil))))
    (S_seq (S_app 11 (L_tup (L_cons (L_op (O_ownI m_Catalog_mul) (L_var 9) (L_var 6)) (L_cons (L_call m_law_scaled (L_cons (L_var 4) (L_cons (L_var 6) L_nil))) L_nil))))
    (S_seq (S_app 11 (L_tup (L_cons (L_op (O_Iown m_Catalog_rmul) (L_var 6) (L_var 10)) (L_cons (L_call m_law_scaled (L_cons (L_var 5) (L_cons (L_var 6) L_nil))) L_nil))))
    (S_seq (S_app 11 (L_tup (L_cons (L_op (O_ownI m_Catalog_mul) (L_op (O_own m_Catalog_add) (L_var 9) (L_var 10)) (L_var 6)) (L_cons (L_call m_law_scaled (L_cons (L_call m_law_combined (L_cons (L_var 4) (L_cons (L_var 5) (L_cons (L_int 1) L_nil)))) (L_cons (L_var 6) L_nil))) L_nil))))
    (S_seq (S_asg (L_call m_law_combined (L_cons (L_call m_law_combined (L_cons (L_var 4) (L_cons (L_var 5) (L_cons (L_int 1) L_nil)))) (L_cons (L_var 5) (L_cons (L_un U_neg (L_int 1)) L_nil)))) (G_name 12))
    (S_seq (S_app 11 (L_tup (L_cons (L_op (O_own m_Catalog_sub) (L_op (O_own m_Catalog_add) (L_var 9) (L_var 10)) (L_var 10)) (L_cons (L_var 12) L_nil))))
    (S_seq (S_app 11 (L_tup (L_cons (L_var 9) (L_cons (L_var 4) L_nil))))
    (S_seq (S_app 11 (L_tup (L_cons (L_var 10) (L_cons (L_var 5) L_nil))))
    (l20_law Z B))))))))))
def t2_law (K : PySem.W.Frag) (C : Addr) : TS :=
    (tSeq (tAsg (tCall (up K (q_law_signs)) [] E0 (tCons (tVar 1) (tCons (tVar 2) tNil))) (gName 3))
    (tSeq (tAsg (tCall (up K (q_law_lengths)) [] E0 (tCons (tVar 1) (tCons (tVar 3) tNil))) (gName 4))
    (tSeq (tAsg (tCall (up K (q_law_lengths)) [] E0 (tCons (tVar 1) (tCons (tVar 3) tNil))) (gName 5))
    (tSeq (tAsg (tCall (up K (q_law_number)) [] E0 (tCons (tVar 1) tNil)) (gName 6))
    (tSeq (tAsg (tFrz (tOp rCat (tLc (iRng1 (tCons (tC (.int 3)) tNil)) (gName 15) tYes (tCall (up K (q_law_text)) [] E0 (tCons (tVar 1) (tCons (tVar 3) (tCons (tCall (up K (q_law_take)) [] E0 (tCons (tVar 1) (tCons (tC (.int 9)) tNil))) tNil)))) [15]) (tLst (tCons (tM1 (mJoin K) (tC (.str "")) (tVar 3)) tNil)))) (gName 7))
    (tSeq (tAsg (tCB rDictD (tCons (tVar 4) tNil)) (gName 8))
    (tSeq (tAsg (tFrz (tMake C (sp_init K C) [] E0 (tCons (tVar 8) tNil))) (gName 9))
    (tSeq (sDPut (tVar 8) (tOp (rIxL K) (tVar 3) (tC (.int 0))) (tOp rAddI (tDGet2 (tVar 8) (tOp (rIxL K) (tVar 3) (tC (.int 0))) (tC (.int 0))) (tC (.int 7))))
    (tSeq (tAsg (tFrz (tMake C (sp_init K C) [] E0 (tCons (tCB rDictD (tCons (tVar 5) tNil)) tNil))) (gName 10))
    (t11_law K C))))))))))
def p2_law (C : Addr) : PSx :=
    (pSeq (pAsg (pCall (q_law_signs) (pCons (pVar 1) (pCons (pVar 2) pNil))) (pgName 3))
    (pSeq (pAsg (pCall (q_law_lengths) (pCons (pVar 1) (pCons (pVar 3) pNil))) (pgName 4))
    (pSeq (pAsg (pCall (q_law_lengths) (pCons (pVar 1) (pCons (pVar 3) pNil))) (pgName 5))
    (pSeq (pAsg (pCall (q_law_number) (pCons (pVar 1) pNil)) (pgName 6))
    (pSeq (pAsg (pFrz (pOpN fCat (pNewL (pLc (pIR (pCons (pC (cI 3)) pNil)) (pgName 15) pYes (pCall (q_law_text) (pCons (pVar 1) (pCons (pVar 3) (pCons (pCall (q_law_take) (pCons (pVar 1) (pCons (pC (cI 9)) pNil))) pNil)))) [15])) (pNewL (pLst (pCons (pJoin (pC (cS "")) (pVar 3)) pNil))))) (pgName 7))
    (pSeq (pNewD (pCBD gDictD (pCons (pVar 4) pNil)) 8)
    (pSeq (pAsg (pMk C (pVar 8)) (pgName 9))
    (pSeq (pDPutK 8 (pOp fIxL (pVar 3) (pC (cI 0))) (pOp (fI fun i j => i + j) (pDGet2 (pVar 8) (pOp fIxL (pVar 3) (pC (cI 0))) (pC (cI 0))) (pC (cI 7))))
    (pSeq (pAsg (pMk C (pNewM (pCBD gDictD (pCons (pVar 5) pNil)))) (pgName 10))
    (p11_law C))))))))))
theorem l2_law (Z : ClsK K C) (B : Fl K C) {s c : Addr} {H0 : Hp} : LS K s c H0 (t2_law K C) (p2_law C) :=
    (S_seq (S_asg (L_call m_law_signs (L_cons (L_var 1) (L_cons (L_var 2) L_nil))) (G_name 3))
    (S_seq (S_asg (L_call m_law_lengths (L_cons (L_var 1) (L_cons (L_var 3) L_nil))) (G_name 4))
    (S_seq (S_asg (L_call m_law_lengths (L_cons (L_var 1) (L_cons (L_var 3) L_nil))) (G_name 5))
    (S_seq (S_asg (L_call m_law_number (L_cons (L_var 1) L_nil)) (G_name 6))
    (S_seq (S_asg (LN.frz (L_opN O_cat (LN.le (L_lc (I_rng1 (L_cons (L_int 3) L_nil)) (G_name 15) L_yes (L_call m_law_text (L_cons (L_var 1) (L_cons (L_var 3) (L_cons (L_call m_law_take (L_cons (L_var 1) (L_cons (L_int 9) L_nil))) L_nil)))))) (LN.le (L_lst (L_cons (L_join (L_str "") (L_var 3)) L_nil))))) (G_name 7))
    (S_seq (S_newD 8 (L_cbd C_dictD (L_cons (L_var 4) L_nil)))
    (S_seq (S_asg (L_mk (L_var 8)) (G_name 9))
    (S_seq (S_dputK 8 (L_op O_ixL (L_var 3) (L_int 0)) (L_op (O_I fun i j => i + j) (L_dget2 (L_var 8) (L_op O_ixL (L_var 3) (L_int 0)) (L_int 0)) (L_int 7)))
    (S_seq (S_asg (L_mk (LD.le (L_cbd C_dictD (L_cons (L_var 5) L_nil)))) (G_name 10))
    (l11_law Z B))))))))))
/-- law -/
abbrev n_law : List Str := ["_law_script", "_law_source_here", "_law_many", "_law_signs_here", "_law_one", "_law_two", "_law_times", "_law_texts", "_law_passed", "_law_first", "_law_second", "_law_rows", "_law_back", "_law_row", "_law_other", "_law_k"]
def t_law (K : PySem.W.Frag) (C : Addr) : TS :=
    (tSeq (tAsg (tOp rAddI (tC (.int 1)) (tCall (up K (q_law_take)) [] E0 (tCons (tVar 1) (tCons (tC (.int 6)) tNil)))) (gName 2))
    (tSeq (tIfS (tTest (tOp rEq (tCall (up K (q_law_take)) [] E0 (tCons (tVar 1) (tCons (tC (.int 8)) tNil))) (tC (.int 0)))) (tAsg (tOp rAddI (tC (.int 60)) (tCall (up K (q_law_take)) [] E0 (tCons (tVar 1) (tCons (tC (.int 34)) tNil)))) (gName 2)) tNext)
    (t2_law K C)))
def p_law (C : Addr) : PSx :=
    (pSeq (pAsg (pOp (fI fun i j => i + j) (pC (cI 1)) (pCall (q_law_take) (pCons (pVar 1) (pCons (pC (cI 6)) pNil)))) (pgName 2))
    (pSeq (pIfS (pTest (pOp (fEq id) (pCall (q_law_take) (pCons (pVar 1) (pCons (pC (cI 8)) pNil))) (pC (cI 0)))) (pAsg (pOp (fI fun i j => i + j) (pC (cI 60)) (pCall (q_law_take) (pCons (pVar 1) (pCons (pC (cI 34)) pNil)))) (pgName 2)) pNext)
    (p2_law C)))
theorem l_law (Z : ClsK K C) (B : Fl K C) {s c : Addr} {H0 : Hp} : LS K s c H0 (t_law K C) (p_law C) :=
    (S_seq (S_asg (L_op (O_I fun i j => i + j) (L_int 1) (L_call m_law_take (L_cons (L_var 1) (L_cons (L_int 6) L_nil)))) (G_name 2))
    (S_seq (S_if (L_test (L_op O_eq (L_call m_law_take (L_cons (L_var 1) (L_cons (L_int 8) L_nil))) (L_int 0))) (S_asg (L_op (O_I fun i j => i + j) (L_int 60) (L_call m_law_take (L_cons (L_var 1) (L_cons (L_int 34) L_nil)))) (G_name 2)) S_next)
    (l2_law Z B)))
end
end My


/-! K19c: joined_rows, in_order, distinct. -/
namespace My
open PySem PySem.Spec PyProof.Rows L2 TL
theorem cutL_D {α : Type} (xs : List α) (k : Nat) : cutL xs (some (k : Int)) none = xs.drop k := by
  unfold cutL
  rw [HT.sIx_none, HT.sIx_nat]
  rw [List.take_of_length_le (by rw [List.length_drop]; exact Nat.le_refl _)]
  by_cases h : k ≤ xs.length
  · rw [Nat.min_eq_left h]
  · rw [Nat.min_eq_right (by omega), List.drop_eq_nil_of_le (Nat.le_refl _), List.drop_eq_nil_of_le (by omega)]
theorem cutL_T {α : Type} (xs : List α) (k : Nat) : cutL xs none (some (k : Int)) = xs.take k := by
  unfold cutL
  rw [HT.sIx_none, HT.sIx_nat, List.drop_zero, Nat.sub_zero, List.take_eq_take_iff]
  omega
theorem if2 {b : Bool} {p q : Prop} (h1 : b = true → p) (h2 : b = false → q) : if b = true then p else q := by
  cases b with
  | true => exact h1 rfl
  | false => exact h2 rfl
theorem get_str {zs : List Str} {i : Nat} {d : D} (h : (zs.map D.str)[i]? = some d) : ∃ z, zs[i]? = some z ∧ d = .str z := by
  rw [List.getElem?_map] at h
  obtain ⟨z, h1, rfl⟩ := Option.map_eq_some_iff.mp h
  exact ⟨z, h1, rfl⟩
theorem at_str {zs : List Str} {i : Nat} {z : Str} (h : zs[i]? = some z) : atI (zs.map D.str) (i : Int) = some (.str z) := atI_nat (by rw [List.getElem?_map, h]; rfl)
theorem drop_at {α : Type} {xs : List α} {i : Nat} {x : α} (h : xs[i]? = some x) : xs.drop i = x :: xs.drop (i + 1) := by
  obtain ⟨h1, h2⟩ := List.getElem?_eq_some_iff.mp h
  rw [List.drop_eq_getElem_cons h1, h2]
theorem merge_nilr (xs : List Str) : xs.merge [] leS = xs := by simp [List.merge]
theorem leS_not (a b : Str) : leS a b = !decide (b.cps.toList < a.cps.toList) := by
  unfold leS
  by_cases h : b.cps.toList < a.cps.toList
  · rw [decide_eq_true h, decide_eq_false (fun z => z h)]
    rfl
  · rw [decide_eq_false h, decide_eq_true (show a.cps.toList ≤ b.cps.toList from h)]
    rfl
theorem pr_joined_rows (C : Addr) : ∀ ds P, q_joined_rows ds P → p_joined_rows C { nx := fun _ => P .non, rt := P } (startD n_joined_rows ds) := by
  rintro ds P ⟨a, b, rfl, hl, hP⟩
  refine ⟨[], rfl, by decide, _, rfl, _, rfl, _, rfl, fun i σd => ∃ (k : Nat) (out : List Str) (w : Option Cell), k ≤ b.length ∧ σd = [some (.dat (strsD a)), some (.dat (strsD b)), some (.lm (out.map .str)), some (cI k), w] ∧ out ++ (a.drop i).merge (b.drop k) leS = a.merge b leS ∧ out.length = i + k ∧ i ≤ a.length, ⟨0, [], none, Nat.zero_le _, rfl, rfl, rfl, Nat.zero_le _⟩, ?_, ?_⟩
  · rintro i d σd hd ⟨k, out, w, hk, rfl, hm, ho, hi⟩
    obtain ⟨r, hr, rfl⟩ := get_str hd
    have hi2 : i < a.length := (List.getElem?_eq_some_iff.mp hr).1
    rw [drop_at hr] at hm
    refine ⟨fun n σd => ∃ (k : Nat) (out : List Str), n = b.length - k ∧ k ≤ b.length ∧ σd = [some (.dat (strsD a)), some (.dat (strsD b)), some (.lm (out.map .str)), some (cI k), some (cS r)] ∧ out ++ (r :: a.drop (i + 1)).merge (b.drop k) leS = a.merge b leS ∧ out.length = i + k, ⟨_, k, out, rfl, hk, rfl, hm, ho⟩, ?_⟩
    rintro n σd ⟨k, out, rfl, hk, rfl, hm, ho⟩
    have fin : (r :: a.drop (i + 1)).merge (b.drop k) leS = r :: (a.drop (i + 1)).merge (b.drop k) leS → pApp 2 (pVar 4) { nx := fun σd => ∃ (k : Nat) (out : List Str) (w : Option Cell), k ≤ b.length ∧ σd = [some (.dat (strsD a)), some (.dat (strsD b)), some (.lm (out.map .str)), some (cI k), w] ∧ out ++ (a.drop (i + 1)).merge (b.drop k) leS = a.merge b leS ∧ out.length = (i + 1) + k ∧ i + 1 ≤ a.length, rt := P, bk := fun _ => False, ct := fun _ => False } [some (.dat (strsD a)), some (.dat (strsD b)), some (.lm (out.map .str)), some (cI k), some (cS r)] := fun e => by
      refine ⟨_, rfl, _, rfl, _, rfl, by rw [List.length_map]; omega, k, out ++ [r], some (cS r), hk, ?_, ?_, by rw [List.length_append, List.length_singleton]; omega, by omega⟩
      · rw [List.map_append]
        rfl
      · rw [e] at hm
        rw [← hm, List.append_assoc]
        rfl
    refine ⟨_, rfl, _, rfl, _, _, rfl, rfl, _, _, rfl, rfl, _, rfl, if2 (fun h => ?_) (fun h => ?_)⟩
    · have h := of_decide_eq_true h
      rw [List.length_map] at h
      have hk2 : k < b.length := by omega
      have hy : b[k]? = some b[k] := List.getElem?_eq_getElem hk2
      have hdr := drop_at hy
      refine ⟨_, rfl, _, rfl, _, k, _, rfl, rfl, at_str hy, _, rfl, _, _, rfl, rfl, _, rfl, if2 (fun h2 => ?_) (fun h2 => ?_)⟩
      · have h2 : decide (b[k].cps.toList < r.cps.toList) = true := h2
        refine ⟨_, rfl, _, rfl, _, rfl, _, k, _, rfl, rfl, at_str hy, _, rfl, by rw [List.length_map]; omega, _, rfl, _, _, rfl, rfl, _, rfl, _, by omega, k + 1, out ++ [b[k]], rfl, hk2, ?_, ?_, by rw [List.length_append, List.length_singleton]; omega⟩
        · rw [List.map_append]
          rfl
        · rw [hdr, List.cons_merge_cons_neg _ _ _ (by rw [leS_not, h2]; decide)] at hm
          rw [← hm, List.append_assoc]
          rfl
      · have h2 : decide (b[k].cps.toList < r.cps.toList) = false := h2
        refine fin ?_
        rw [hdr, List.cons_merge_cons_pos _ _ _ (by rw [leS_not, h2]; decide)]
    · have h := of_decide_eq_false h
      rw [List.length_map] at h
      refine fin ?_
      rw [show b.drop k = [] from List.drop_eq_nil_of_le (by omega), merge_nilr, merge_nilr]
  · rintro σd ⟨k, out, w, hk, rfl, hm, ho, hi⟩
    rw [List.length_map] at hm ho
    refine ⟨_, rfl, _, rfl, _, rfl, k, rfl, _, rfl, _, _, rfl, rfl, ?_, _, rfl, ?_⟩
    · rw [cutL_D, List.length_map, List.length_drop, List.length_map]
      omega
    · rw [cutL_D, ← List.map_drop, ← List.map_append]
      rw [List.drop_eq_nil_of_le (Nat.le_refl _), List.nil_merge] at hm
      rw [hm]
      exact hP
theorem pr_in_order (C : Addr) (n : Nat) : ∀ ds P, q_in_order (n + 1) ds P → p_in_order C n { nx := fun _ => P .non, rt := P } (startD n_in_order ds) := by
  rintro ds P ⟨zs, rfl, hl, hz, hP⟩
  refine ⟨_, rfl, _, _, rfl, rfl, _, _, rfl, rfl, _, rfl, if2 (fun h => ?_) (fun h => ?_)⟩
  · have h : decide (((zs.map D.str).length : Int) < 2) = true := h
    have h := of_decide_eq_true h
    rw [List.length_map] at h
    refine ⟨_, rfl, _, _, rfl, rfl, _, rfl, ?_⟩
    have e : srt zs = zs := by
      match zs, h with
      | [], _ => exact List.mergeSort_nil
      | [z], _ => exact List.mergeSort_singleton z
      | a :: b :: r, h => simp only [List.length_cons] at h; omega
    rw [e] at hP
    exact hP
  · have h : decide (((zs.map D.str).length : Int) < 2) = false := h
    have h := of_decide_eq_false h
    rw [List.length_map] at h
    refine ⟨_, rfl, _, _, rfl, rfl, _, _, rfl, rfl, ⟨by decide, by decide⟩, _, rfl, ?_⟩
    have hm : ((zs.map D.str).length : Int) / 2 = ((zs.length / 2 : Nat) : Int) := by rw [List.length_map]; omega
    dsimp only
    rw [hm]
    cases n with
    | zero =>
      exfalso
      simp only [Nat.pow_zero] at hl
      omega
    | succ n =>
      have hp : 2 ^ (n + 1) = 2 * 2 ^ n := by rw [Nat.pow_succ]; omega
      refine ⟨_, rfl, _, rfl, _, rfl, _, rfl, _, rfl, zs.take (zs.length / 2), ?_, ?_, ?_, ?_⟩
      · rw [cutL_T, ← List.map_take]
        rfl
      · rw [List.length_take]
        omega
      · rw [List.length_take]
        omega
      · refine ⟨_, rfl, _, rfl, _, rfl, _, rfl, _, rfl, zs.drop (zs.length / 2), ?_, ?_, ?_, ?_⟩
        · rw [cutL_D, ← List.map_drop]
          rfl
        · rw [List.length_drop]
          omega
        · rw [List.length_drop]
          omega
        · refine ⟨_, rfl, srt (zs.take (zs.length / 2)), srt (zs.drop (zs.length / 2)), rfl, ?_, _, rfl, ?_⟩
          · unfold srt
            rw [List.length_mergeSort, List.length_mergeSort, List.length_take, List.length_drop]
            omega
          · rw [srt_merge, List.take_append_drop]
            exact hP
theorem pr_distinct (C : Addr) : ∀ ds P, q_distinct ds P → p_distinct C { nx := fun _ => P .non, rt := P } (startD n_distinct ds) := by
  rintro ds P ⟨zs, rfl, nd, hl, hP⟩
  have hs : (srt zs).length = zs.length := List.length_mergeSort _
  have nd2 : (srt zs).Nodup := (List.mergeSort_perm zs leS).nodup_iff.mpr nd
  refine ⟨_, rfl, _, rfl, zs, rfl, by omega, by omega, _, rfl, _, rfl, _, rfl, ?_, fun i acc => acc = ((srt zs).take i).map .str ∧ i ≤ zs.length, ⟨rfl, Nat.zero_le _⟩, ?_, ?_⟩
  · rw [enumD_len, List.length_map, hs]
    omega
  · rintro i d acc hd ⟨rfl, hi⟩
    have hlt : i < (srt zs).length := by
      have := (List.getElem?_eq_some_iff.mp hd).1
      rw [enumD_len, List.length_map] at this
      exact this
    have hz : (srt zs)[i]? = some (srt zs)[i] := List.getElem?_eq_getElem hlt
    have hd2 : ((srt zs).map D.str)[i]? = some (.str (srt zs)[i]) := by rw [List.getElem?_map, hz]; rfl
    rw [enumD_at hd2] at hd
    cases hd
    have fin : ∃ y, cS (srt zs)[i] = .dat y ∧ (((srt zs).take i).map D.str ++ [y] = ((srt zs).take (i + 1)).map .str ∧ i + 1 ≤ zs.length) := ⟨_, rfl, by
      rw [List.take_add_one, hz, List.map_append]
      rfl, by omega⟩
    refine ⟨_, rfl, _, _, rfl, _, _, rfl, rfl, _, rfl, _, _, rfl, rfl, rfl, _, rfl, if2 (fun h => ?_) (fun h => ?_)⟩
    · exact ⟨_, rfl, fin⟩
    · have h : decide (V.int (i : Int) = V.int 0) = false := h
      have h := of_decide_eq_false h
      have hi0 : 0 < i := by
        rcases Nat.eq_zero_or_pos i with z | z
        · subst z; exact absurd rfl h
        · exact z
      have hp : (srt zs)[i - 1]? = some ((srt zs)[i - 1]'(by omega)) := List.getElem?_eq_getElem (by omega)
      have ei : ((i : Int) - 1) = ((i - 1 : Nat) : Int) := by omega
      refine ⟨_, rfl, _, rfl, _, _, rfl, rfl, _, _, .str ((srt zs)[i - 1]'(by omega)), rfl, rfl, (by dsimp only; rw [ei]; exact at_str hp), _, rfl, _, _, rfl, rfl, rfl, _, rfl, if2 (fun h2 => ⟨_, rfl, fin⟩) (fun h2 => ?_)⟩
      exfalso
      have h2 : (!decide (V.str ((srt zs)[i - 1]'(by omega)) = V.str (srt zs)[i])) = false := h2
      have h3 : V.str ((srt zs)[i - 1]'(by omega)) = V.str (srt zs)[i] := by
        cases q : decide (V.str ((srt zs)[i - 1]'(by omega)) = V.str (srt zs)[i]) with
        | true => exact of_decide_eq_true q
        | false => rw [q] at h2; cases h2
      exact (List.pairwise_iff_getElem.mp nd2 (i - 1) i (by omega) hlt (by omega)) (V.str.inj h3)
  · rintro acc ⟨rfl, hi⟩
    rw [enumD_len, List.length_map]
    refine ⟨_, rfl, ?_⟩
    rw [List.take_length]
    exact hP
end My


/-! K19d: the catalog's methods. -/
namespace My
open PySem PySem.Spec PyProof.Rows L2 TL
theorem look_lengths (m : CM) : (catF m).lookup ("_lengths" : Str) = some (D.dic (dk m)) := rfl
theorem look_letters (m : CM) : (catF m).lookup ("_letters" : Str) = some (sgsD (srtN (ks m))) := rfl
theorem len2 (a b : D) : [a, b].length ≤ 100000 := by show 2 ≤ 100000; decide
theorem getD_dk (m : CM) (c : Nat) : (valD (dk m) (.inr (sg c))).getD (.int 0) = .int (gt m c) := by
  rw [valD_dk]
  unfold gt
  cases valD m c <;> rfl
/-- [e for x in xs] -/
theorem pLc_map {α : Type} (xs : List α) (dx fx : α → D) {it : PNx} {g : PGx} {el : PEx} {vs : List Nat} {σd : Sd} {P : List D → Prop} (hit : ∀ Q : List D → Prop, Q (xs.map dx) → it σd Q) (hl : xs.length ≤ 100000)
    (step : ∀ x, x ∈ xs → ∀ Q : D → Prop, Q (fx x) → g (dx x) (wipeD σd vs) fun σd2 => el σd2 fun c => ∃ y, c = .dat y ∧ Q y) (mg : ∀ d σd (A B : Sd → Prop), (∀ s, A s → B s) → g d σd A → g d σd B) (fin : P (xs.map fx)) : pLc it g pYes el vs σd P := by
  refine hit _ ⟨by rw [List.length_map]; exact hl, fun i acc => acc = (xs.take i).map fx, rfl, ?_, ?_⟩
  · rintro i d acc hd rfl
    rw [List.getElem?_map] at hd
    obtain ⟨x, hx, rfl⟩ := Option.map_eq_some_iff.mp hd
    refine mg _ _ _ _ (fun s h => ?_) (step x (List.mem_of_getElem? hx) (fun y => (xs.take i).map fx ++ [y] = (xs.take (i + 1)).map fx) ?_)
    · (unfold pYes; dsimp only; rw [if_pos (rfl : true = true)]; exact h)
    · rw [List.take_add_one, hx, List.map_append]
      rfl
  · rintro acc rfl
    rw [List.length_map, List.take_length]
    exact fin
theorem mg_name (i : Nat) : ∀ (d : D) (σd : Sd) (A B : Sd → Prop), (∀ s, A s → B s) → pgName i d σd A → pgName i d σd B := fun _ _ _ _ h => h _
theorem pr_Catalog_letters (C : Addr) : ∀ ds P, q_Catalog_letters C ds P → p_Catalog_letters C { nx := fun _ => P .non, rt := P } (startD n_Catalog_letters ds) := by
  rintro ds P ⟨m, rfl, hl, hP⟩
  refine ⟨"", rfl, _, rfl, catF m, _, .inl rfl, look_letters m, _, rfl, ?_, _, rfl, ?_⟩
  · rw [sgs_len, List.length_map, len_srtN, len_ks]
    show m.length + m.length * 0 ≤ _
    omega
  · rw [join_word]
    exact hP
theorem pr_Catalog_length (C : Addr) : ∀ ds P, q_Catalog_length C ds P → p_Catalog_length C { nx := fun _ => P .non, rt := P } (startD n_Catalog_length ds) := by
  rintro ds P ⟨m, cs, rfl, hl, hP⟩
  refine pLc_map cs (fun c => .str (sg c)) (fun c => .int (gt m c)) (fun Q h => ⟨_, rfl, _, rfl, h⟩) (by omega) (fun c _ Q h => ?_) (mg_name 2) ?_
  · refine ⟨_, rfl, catF m, _, .inl rfl, look_lengths m, .inl ⟨_, rfl⟩, _, rfl, _, rfl, .inl ⟨dk m, .inr (sg c), rfl, rfl, _, rfl, ?_⟩⟩
    rw [getD_dk]
    exact h
  · refine ⟨_, cs.map (gt m), rfl, ?_, _, rfl, hP⟩
    show some _ = some _
    rw [List.map_map]
    rfl
theorem pr_Catalog_getitem (C : Addr) : ∀ ds P, q_Catalog_getitem C ds P → p_Catalog_getitem C { nx := fun _ => P .non, rt := P } (startD n_Catalog_getitem ds) := by
  rintro ds P ⟨m, c, rfl, hP⟩
  refine ⟨_, rfl, catF m, _, .inl rfl, look_lengths m, .inl ⟨_, rfl⟩, _, rfl, _, rfl, .inl ⟨dk m, .inr (sg c), rfl, rfl, _, rfl, ?_⟩⟩
  rw [getD_dk]
  exact hP
theorem pr_Catalog_contains (C : Addr) : ∀ ds P, q_Catalog_contains C ds P → p_Catalog_contains C { nx := fun _ => P .non, rt := P } (startD n_Catalog_contains ds) := by
  rintro ds P ⟨m, c, rfl, hP⟩
  refine ⟨_, rfl, _, rfl, catF m, _, .inl rfl, look_lengths m, .inl ⟨dk m, .inr (sg c), rfl, rfl, _, rfl, ?_⟩⟩
  rw [valD_dk, Option.isSome_map]
  exact hP
/-- dict of pairs, then the catalog -/
theorem mk_pairs {C : Addr} (cs : List Nat) (g : Nat → Int) {P : D → Prop} (hl : cs.length ≤ 256) (hP : P (cat C (mkM cs g))) :
    gDictP [.lm (cs.map fun c => pairD (.inr (sg c), .int (g c)))] fun kds => ∃ m, dicK (.dm kds) = some (dk m) ∧ NdK m ∧ m.length ≤ 256 ∧ ∃ d, Cell.dat (cat C m) = .dat d ∧ P d := by
  refine ⟨_, cs.map fun c => (.inr (sg c), .int (g c)), rfl, ?_, mkM cs g, congrArg some (merge_dk g cs []), nd_mk cs g, Nat.le_trans (len_mk cs g) hl, _, rfl, hP⟩
  show some _ = some _
  rw [List.map_map]
  rfl
theorem len_keys2 (m n : CM) : (srtN (ks m) ++ srtN (ks n)).length = m.length + n.length := by rw [List.length_append, len_srtN, len_srtN, len_ks, len_ks]
theorem pr_Catalog_add (C : Addr) : ∀ ds P, q_Catalog_add C ds P → p_Catalog_add C { nx := fun _ => P .non, rt := P } (startD n_Catalog_add ds) := by
  rintro ds P ⟨m, n, rfl, hl, hP⟩
  have hk := len_keys2 m n
  refine pLc_map (srtN (ks m) ++ srtN (ks n)) (fun c => .str (sg c)) (fun c => pairD (.inr (sg c), .int (gt m c + gt n c))) (fun Q h => ?_) (by omega) (fun c _ Q h => ?_) (mg_name 2) ?_
  · refine ⟨_, rfl, _, rfl, m, rfl, by omega, _, rfl, _, rfl, n, rfl, by omega, _, _, rfl, rfl, ?_, _, rfl, ?_⟩
    · rw [len_word, len_word, ← List.length_append]
      omega
    · rw [word_app]
      exact h
  · exact ⟨_, rfl, _, rfl, _, rfl, catF m, _, rfl, rfl, m, c, rfl, _, rfl, _, rfl, catF n, _, rfl, rfl, n, c, rfl, _, _, rfl, rfl, _, rfl, len2 _ _, _, rfl, h⟩
  · exact mk_pairs _ _ (by omega) hP
theorem pr_Catalog_sub (C : Addr) : ∀ ds P, q_Catalog_sub C ds P → p_Catalog_sub C { nx := fun _ => P .non, rt := P } (startD n_Catalog_sub ds) := by
  rintro ds P ⟨m, n, rfl, hl, hP⟩
  have hk := len_keys2 m n
  refine pLc_map (srtN (ks m) ++ srtN (ks n)) (fun c => .str (sg c)) (fun c => pairD (.inr (sg c), .int (gt m c - gt n c))) (fun Q h => ?_) (by omega) (fun c _ Q h => ?_) (mg_name 2) ?_
  · refine ⟨_, rfl, _, rfl, m, rfl, by omega, _, rfl, _, rfl, n, rfl, by omega, _, _, rfl, rfl, ?_, _, rfl, ?_⟩
    · rw [len_word, len_word, ← List.length_append]
      omega
    · rw [word_app]
      exact h
  · exact ⟨_, rfl, _, rfl, _, rfl, catF m, _, rfl, rfl, m, c, rfl, _, rfl, _, rfl, catF n, _, rfl, rfl, n, c, rfl, _, _, rfl, rfl, _, rfl, len2 _ _, _, rfl, h⟩
  · exact mk_pairs _ _ (by omega) hP
theorem log2_lt {n k : Nat} (h : n < 2 ^ k) : n.log2 ≤ k := by
  rcases Nat.eq_zero_or_pos n with z | z
  · subst z
    exact Nat.zero_le _
  · exact Nat.le_of_lt ((Nat.log2_lt (by omega)).mpr h)
theorem Bd.gt {k : Nat} {m : CM} (h : Bd k m) (c : Nat) : (gt m c).natAbs < 2 ^ k := by
  unfold My.gt
  cases e : valD m c with
  | none => exact Nat.two_pow_pos k
  | some v => exact h c v e
theorem mulW {i j : Int} (h1 : i.natAbs < 2 ^ 1000) (h2 : j.natAbs < 2 ^ 1000) : CMulW i j := by
  have a := log2_lt h1
  have b := log2_lt h2
  show i.natAbs.log2 + j.natAbs.log2 < 1000000
  omega
theorem pr_Catalog_mul (C : Addr) : ∀ ds P, q_Catalog_mul C ds P → p_Catalog_mul C { nx := fun _ => P .non, rt := P } (startD n_Catalog_mul ds) := by
  rintro ds P ⟨m, t, rfl, hl, hb, ht, hP⟩
  have hk : (srtN (ks m)).length = m.length := by rw [len_srtN, len_ks]
  refine pLc_map (srtN (ks m)) (fun c => .str (sg c)) (fun c => pairD (.inr (sg c), .int (gt m c * t))) (fun Q h => ?_) (by omega) (fun c _ Q h => ?_) (mg_name 2) ?_
  · exact ⟨_, rfl, _, rfl, m, rfl, by omega, _, rfl, h⟩
  · exact ⟨_, rfl, _, rfl, _, rfl, catF m, _, rfl, rfl, m, c, rfl, _, rfl, _, _, rfl, rfl, mulW (hb.gt c) ht, _, rfl, len2 _ _, _, rfl, h⟩
  · exact mk_pairs _ _ (by omega) hP
theorem pr_Catalog_rmul (C : Addr) : ∀ ds P, q_Catalog_rmul C ds P → p_Catalog_rmul C { nx := fun _ => P .non, rt := P } (startD n_Catalog_rmul ds) := by
  rintro ds P ⟨m, t, rfl, hl, hb, ht, hP⟩
  exact ⟨_, rfl, _, rfl, catF m, t, rfl, rfl, m, t, rfl, hl, hb, ht, _, rfl, hP⟩
theorem pr_Catalog_eq (C : Addr) : ∀ ds P, q_Catalog_eq C ds P → p_Catalog_eq C { nx := fun _ => P .non, rt := P } (startD n_Catalog_eq ds) := by
  rintro ds P ⟨m, d, rfl, ⟨n, rfl, hP⟩ | ⟨hc, hP⟩⟩
  · refine ⟨_, rfl, _, true, rfl, if_pos rfl, _, rfl, if2 (fun _ => ?_) (fun h => nomatch h)⟩
    exact ⟨_, rfl, catF m, _, .inl rfl, look_lengths m, _, rfl, catF n, _, .inl rfl, look_lengths n, dk m, dk n, rfl, rfl, allInt_dk m, allInt_dk n, _, rfl, hP⟩
  · exact ⟨_, rfl, _, false, rfl, hc, _, rfl, if2 (fun h => nomatch h) (fun _ => ⟨_, rfl, hP⟩)⟩
end My


/-! K19e: the law's helpers. -/
namespace My
open PySem PySem.Spec PyProof.Rows L2 TL
theorem pLc_filter {α : Type} (xs : List α) (dx fx : α → D) (keep : α → Bool) {it : PNx} {g : PGx} {t : PTx} {el : PEx} {vs : List Nat} {σd : Sd} {P : List D → Prop} (hit : ∀ Q : List D → Prop, Q (xs.map dx) → it σd Q) (hl : xs.length ≤ 100000)
    (step : ∀ x, x ∈ xs → ∀ (Q0 : Prop) (Q : D → Prop), (keep x = true → Q (fx x)) → (keep x = false → Q0) → g (dx x) (wipeD σd vs) fun σd2 => t σd2 fun b => if b = true then el σd2 fun c => ∃ y, c = .dat y ∧ Q y else Q0) (fin : P ((xs.filter keep).map fx)) : pLc it g t el vs σd P := by
  refine hit _ ⟨by rw [List.length_map]; exact hl, fun i acc => acc = ((xs.take i).filter keep).map fx, rfl, ?_, ?_⟩
  · rintro i d acc hd rfl
    rw [List.getElem?_map] at hd
    obtain ⟨x, hx, rfl⟩ := Option.map_eq_some_iff.mp hd
    refine step x (List.mem_of_getElem? hx) _ _ (fun h => ?_) (fun h => ?_)
    · show _ = ((xs.take (i + 1)).filter keep).map fx
      rw [List.take_add_one, hx, List.filter_append, List.map_append]
      simp [h]
    · show _ = ((xs.take (i + 1)).filter keep).map fx
      rw [List.take_add_one, hx, List.filter_append, List.map_append]
      simp [h]
  · rintro acc rfl
    rw [List.length_map, List.take_length]
    exact fin
theorem ifT {p q : Prop} (h : p) : if true = true then p else q := by rw [if_pos rfl]; exact h
def CH : Str := "!\"#$&'()*+,-./0123456789:;<=>?@ABCDEFGHIJKLMNOPQRSTUVWXYZ[\\]^_`abcdefghijklmnopqrstuvwxyz{|}~"
theorem CH_len : (tl CH).length = 93 := by decide +kernel
theorem CH_asc : ∀ c ∈ tl CH, c < 128 := by decide +kernel
theorem CH_nd : (tl CH).Nodup := by decide +kernel
theorem range_len (n : Nat) : (rangeD (n : Int)).length = n := by
  unfold rangeD
  rw [List.length_map, List.length_range, Int.toNat_natCast]
theorem map_sg (cs : List Nat) : (cs.map sg).map D.str = cs.map fun c => .str (sg c) := by rw [List.map_map]; rfl
theorem pr_law_signs (C : Addr) : ∀ ds P, q_law_signs ds P → p_law_signs C { nx := fun _ => P .non, rt := P } (startD n_law_signs ds) := by
  rintro ds P ⟨n, rfl, hn, hP⟩
  refine ⟨_, rfl, [], rfl, by decide, _, rfl, (n : Int), rfl, by omega, by omega, fun i σd => ∃ (cs : List Nat) (a b c : Option Cell), σd = [some (.dat .src), some (cI n), some (cS CH), some (.lm ((cs.map sg).map .str)), a, b, c] ∧ cs.Nodup ∧ cs.length = i ∧ ∀ c ∈ cs, c < 128, ⟨[], _, _, _, rfl, List.nodup_nil, rfl, fun c hc => nomatch hc⟩, ?_, ?_⟩
  · rintro i d σd hd ⟨cs, a, b, c, rfl, nd, hl, asc⟩
    have hi : i < n := by
      have := (List.getElem?_eq_some_iff.mp hd).1
      rw [range_len] at this
      exact this
    refine pLc_filter (tl CH) (fun c => .str (sg c)) (fun c => .str (sg c)) (fun c => !decide (sg c ∈ cs.map sg)) (fun Q h => ⟨_, rfl, CH, rfl, h⟩) (by rw [CH_len]; decide) (fun c _ Q0 Q h1 h2 => ?_) ?_
    · refine ⟨_, rfl, _, rfl, sg c, cs.map sg, rfl, rfl, _, rfl, if2 (fun h => ⟨_, rfl, _, rfl, h1 h⟩) (fun h => h2 h)⟩
    · generalize hL : (tl CH).filter (fun c => !decide (sg c ∈ cs.map sg)) = L
      have hsub : ∀ c ∈ L, c ∉ cs := fun c hc z => by
        rw [← hL, List.mem_filter] at hc
        have := hc.2
        rw [decide_eq_true (List.mem_map.mpr ⟨c, z, rfl⟩)] at this
        cases this
      have hlen : 93 ≤ L.length + cs.length := by
        have := List.Nodup.length_le_of_subset (l₂ := L ++ cs) CH_nd (fun c hc => by
          by_cases z : c ∈ cs
          · exact List.mem_append_right _ z
          · refine List.mem_append_left _ ?_
            rw [← hL, List.mem_filter]
            refine ⟨hc, ?_⟩
            rw [decide_eq_false (fun q => ?_)]
            · rfl
            · obtain ⟨e, he, h3⟩ := List.mem_map.mp q
              rw [sg_inj h3] at he
              exact z he)
        rw [CH_len, List.length_append] at this
        exact this
      have hLn : L.length ≤ 93 := by
        rw [← hL, ← CH_len]
        exact List.length_filter_le _ _
      refine ⟨_, rfl, _, rfl, _, rfl, _, rfl, _, _, rfl, rfl, _, rfl, (L.length : Int), ?_, by omega, ?_, fun j h1 h2 => ?_⟩
      · rw [List.length_map]
      · show L.length.log2 < 9000
        exact Nat.lt_of_le_of_lt (Nat.log2_le_self _) (by omega)
      · obtain ⟨k, rfl⟩ : ∃ k : Nat, j = (k : Int) := ⟨j.toNat, by omega⟩
        have hk : k < L.length := by omega
        have hc : L[k]? = some L[k] := List.getElem?_eq_getElem hk
        refine ⟨_, _, .str (sg L[k]), rfl, rfl, atI_nat (by rw [List.getElem?_map, hc]; rfl), _, rfl, by rw [List.length_map, List.length_map]; omega, cs ++ [L[k]], some (.dat d), some (.lm (L.map fun c => .str (sg c))), c, ?_, ?_, by rw [List.length_append, hl]; rfl, fun e he => ?_⟩
        · rw [List.map_append, List.map_append]
          rfl
        · refine List.nodup_append.mpr ⟨nd, List.pairwise_singleton _ _, fun a ha b hb => ?_⟩
          rw [List.mem_singleton.mp hb]
          exact fun z => hsub _ (List.getElem_mem hk) (z ▸ ha)
        · rcases List.mem_append.mp he with he | he
          · exact asc e he
          · rw [List.mem_singleton.mp he]
            have sub : ∀ x ∈ L, x ∈ tl CH := fun x hx => by
              rw [← hL, List.mem_filter] at hx
              exact hx.1
            have hm : L[k] ∈ tl CH := sub _ (List.getElem_mem hk)
            exact CH_asc _ hm
  · rintro σd ⟨cs, a, b, c, rfl, nd, hl, asc⟩
    rw [range_len] at hl
    exact ⟨_, _, rfl, rfl, _, rfl, _, rfl, hP cs nd hl asc⟩
theorem pr_law_text (C : Addr) : ∀ ds P, q_law_text ds P → p_law_text C { nx := fun _ => P .non, rt := P } (startD n_law_text ds) := by
  rintro ds P ⟨cs, n, rfl, h0, hc, hn, hP⟩
  refine ⟨"", rfl, _, rfl, (n : Int), rfl, by omega, by omega, by rw [range_len]; omega, fun i acc => ∃ ts : List Nat, acc = (ts.map sg).map .str ∧ ts.length = i, ⟨[], rfl, rfl⟩, ?_, ?_⟩
  · rintro i d acc hd ⟨ts, rfl, hl⟩
    refine ⟨_, rfl, _, rfl, _, rfl, _, _, rfl, rfl, _, rfl, (cs.length : Int), ?_, by omega, ?_, fun j h1 h2 => ?_⟩
    · rw [List.length_map, List.length_map]
    · show cs.length.log2 < 9000
      exact Nat.lt_of_le_of_lt (Nat.log2_le_self _) (by omega)
    · obtain ⟨k, rfl⟩ : ∃ k : Nat, j = (k : Int) := ⟨j.toNat, by omega⟩
      have hk : k < cs.length := by omega
      have hx : cs[k]? = some cs[k] := List.getElem?_eq_getElem hk
      refine ⟨_, _, .str (sg cs[k]), rfl, rfl, at_str (by rw [List.getElem?_map, hx]; rfl), _, rfl, ts ++ [cs[k]], ?_, by rw [List.length_append, hl]; rfl⟩
      rw [List.map_append, List.map_append]
      rfl
  · rintro acc ⟨ts, rfl, hl⟩
    rw [range_len] at hl
    refine ⟨ts.map sg, rfl, ?_, _, rfl, ?_⟩
    · rw [sgs_len, List.length_map]
      show ts.length + ts.length * 0 ≤ _
      omega
    · rw [join_word]
      exact hP ts (by omega)
theorem scal_int (i j : Int) : scal (.int i) (.int j) = true := rfl
theorem small {i : Int} {k n : Nat} (h : i.natAbs < k) (hk : k ≤ n) : i.natAbs < n := Nat.lt_of_lt_of_le h hk
theorem pr_law_number (C : Addr) : ∀ ds P, q_law_number ds P → p_law_number C { nx := fun _ => P .non, rt := P } (startD n_law_number ds) := by
  rintro ds P ⟨rfl, hP⟩
  have b0 : (10 : Int) ^ 18 < 2 ^ 60 := by decide
  have b1 : (10 : Nat) ^ 59 < 2 ^ 250 := by decide
  refine ⟨_, rfl, _, rfl, 6, rfl, by decide, by decide, fun k hk0 hk6 => ⟨_, rfl, ?_⟩⟩
  refine ⟨_, rfl, _, rfl, 2, rfl, by decide, by decide, fun t ht0 ht2 => ⟨_, _, rfl, rfl, mulW (by decide) (small (k := 2) (by omega) (by decide)), _, _, rfl, rfl, _, rfl, ?_⟩⟩
  have hs : ∀ x : Int, ((1 - 2 * t) * x).natAbs = x.natAbs := fun x => by
    have : t = 0 ∨ t = 1 := by omega
    rcases this with rfl | rfl
    · rw [show (1 - 2 * 0 : Int) * x = x from by omega]
    · rw [show (1 - 2 * 1 : Int) * x = -x from by omega, Int.natAbs_neg]
  have hs1 : (1 - 2 * t).natAbs < 2 ^ 1000 := by
    have := hs 1
    rw [Int.mul_one] at this
    rw [this]
    decide
  refine ⟨_, rfl, _, _, rfl, rfl, rfl, _, rfl, if2 (fun _ => ⟨_, rfl, hP 0 (by decide)⟩) (fun _ => ?_)⟩
  refine ⟨_, rfl, _, _, rfl, rfl, _, rfl, if2 (fun _ => ?_) (fun _ => ?_)⟩
  · refine ⟨_, rfl, _, rfl, 11, rfl, by decide, by decide, fun d h1 h2 => ⟨_, _, rfl, rfl, _, rfl, hP _ ?_⟩⟩
    exact small (k := 20) (by dsimp only; omega) (by decide)
  refine ⟨_, rfl, _, _, rfl, rfl, rfl, _, rfl, if2 (fun _ => ?_) (fun _ => ?_)⟩
  · refine ⟨_, rfl, _, rfl, _, _, rfl, rfl, ⟨by decide, by decide, by decide⟩, _, rfl, (10 : Int) ^ 18, rfl, by decide, by decide, fun d h1 h2 => ?_⟩
    have hd : d.natAbs < 2 ^ 60 := by omega
    refine ⟨_, _, rfl, rfl, mulW hs1 (small hd (by decide)), _, rfl, hP _ ?_⟩
    dsimp only
    rw [hs]
    exact small hd (by decide)
  · refine ⟨_, rfl, _, _, rfl, rfl, ⟨by decide, by decide, by decide⟩, _, rfl, _, rfl, 9, rfl, by decide, by decide, fun d h1 h2 => ?_⟩
    refine ⟨_, _, rfl, rfl, _, _, rfl, rfl, mulW (by decide) (small (k := 10) (by dsimp only; omega) (by decide)), _, rfl, _, _, rfl, rfl, ⟨by decide, by decide, by decide⟩, _, rfl, (10 : Int) ^ 18, rfl, by decide, by decide, fun e h3 h4 => ?_⟩
    have hx : ((10 : Int) ^ (58 : Int).toNat * (1 + d) + e).natAbs < 2 ^ 250 := by
      have e58 : (10 : Int) ^ (58 : Int).toNat = 10000000000000000000000000000000000000000000000000000000000 := by decide
      have e18 : (10 : Int) ^ 18 = 1000000000000000000 := by decide
      rw [e18] at h4
      rw [e58]
      have e250 : (2 : Nat) ^ 250 = 1809251394333065553493296640760748560207343510400633813116524750123642650624 := by decide
      rw [e250]
      omega
    refine ⟨_, _, rfl, rfl, _, _, rfl, rfl, mulW hs1 (small hx (by decide)), _, rfl, hP _ ?_⟩
    dsimp only
    rw [hs]
    exact hx
end My


/-! K19f: dicts of the law. -/
namespace My
open PySem PySem.Spec PyProof.Rows L2 TL
theorem fold_snoc {cs : List Nat} {i c : Nat} (m : CM) (g : Nat → Int) (h : cs[i]? = some c) : foldM m (cs.take (i + 1)) g = putG (foldM m (cs.take i) g) c (g c) := by
  unfold foldM
  rw [List.take_add_one, h, List.foldl_append]
  rfl
theorem val_key {m : CM} {c : Nat} (h : c ∈ ks m) : valD (dk m) (.inr (sg c)) = some (.int (gt m c)) := by
  obtain ⟨v, hv⟩ := Option.isSome_iff_exists.mp (mem_keys.mp h)
  rw [valD_dk]
  unfold gt
  rw [hv]
  rfl
theorem get_sg {cs : List Nat} {i : Nat} {d : D} (h : (cs.map fun c => D.str (sg c))[i]? = some d) : ∃ c, cs[i]? = some c ∧ d = .str (sg c) := by
  rw [List.getElem?_map] at h
  obtain ⟨c, h1, rfl⟩ := Option.map_eq_some_iff.mp h
  exact ⟨c, h1, rfl⟩
theorem Bd.put {k : Nat} {m : CM} (h : Bd k m) {c : Nat} {v : Int} (hv : v.natAbs < 2 ^ k) : Bd k (putG m c v) := fun j w hj => by
  rw [valD_put] at hj
  by_cases e : j = c
  · rw [if_pos e] at hj
    cases hj
    exact hv
  · rw [if_neg e] at hj
    exact h j w hj
theorem Asc.put {m : CM} (h : Asc m) {c : Nat} {v : Int} (hc : c < 128) : Asc (putG m c v) := fun j hj => by
  have hj : j ∈ (putG m c v).map (·.1) := hj
  rw [keys_put] at hj
  split at hj
  · exact h j hj
  · rcases List.mem_append.mp hj with hj | hj
    · exact h j hj
    · rw [List.mem_singleton.mp hj]
      exact hc
theorem Bd.nil {k : Nat} : Bd k [] := fun _ _ h => nomatch h
theorem Bd.le {k n : Nat} {m : CM} (h : Bd k m) (hk : k ≤ n) : Bd n m := fun c v hv => Nat.lt_of_lt_of_le (h c v hv) (Nat.pow_le_pow_right (by decide) hk)
theorem pr_law_lengths (C : Addr) : ∀ ds P, q_law_lengths ds P → p_law_lengths C { nx := fun _ => P .non, rt := P } (startD n_law_lengths ds) := by
  rintro ds P ⟨cs, rfl, hc, asc, hP⟩
  refine ⟨_, rfl, _, rfl, fun i σd => ∃ (m : CM) (a : Option Cell), σd = [some (.dat .src), some (.dat (sgsD cs)), some (.dm (dk m)), a] ∧ NdK m ∧ m.length ≤ i ∧ Bd 250 m ∧ Asc m, ⟨[], _, rfl, List.nodup_nil, Nat.le_refl _, Bd.nil, fun _ h => nomatch h⟩, ?_, ?_⟩
  · rintro i d σd hd ⟨m, a, rfl, nd, hl, hb, ha⟩
    have hi : i < cs.length := by
      have := (List.getElem?_eq_some_iff.mp hd).1
      rw [List.length_map, List.length_map] at this
      exact this
    rw [map_sg] at hd
    obtain ⟨c, h1, rfl⟩ := get_sg hd
    refine ⟨_, rfl, _, rfl, 3, rfl, by decide, by decide, fun k hk0 hk3 => ⟨_, _, rfl, rfl, _, rfl, if2 (fun _ => ?_) (fun _ => ?_)⟩⟩
    · refine ⟨_, rfl, _, rfl, _, rfl, rfl, fun v hv => ⟨_, rfl, _, _, rfl, rfl, by rw [len_dk]; omega, putG m c v, some (cS (sg c)), ?_, nd_put nd c v, Nat.le_trans (len_put m c v) (by omega), hb.put hv, ha.put (asc c (List.mem_of_getElem? h1))⟩⟩
      rw [← put_dk]
      rfl
    · exact ⟨m, _, rfl, nd, by omega, hb, ha⟩
  · rintro σd ⟨m, a, rfl, nd, hl, hb, ha⟩
    rw [List.length_map, List.length_map] at hl
    exact ⟨_, _, rfl, rfl, _, rfl, _, rfl, hP m nd (by omega) hb ha⟩
theorem pr_law_turned (C : Addr) : ∀ ds P, q_law_turned ds P → p_law_turned C { nx := fun _ => P .non, rt := P } (startD n_law_turned ds) := by
  rintro ds P ⟨m, rfl, hl, hP⟩
  have hr : ((dk m).map fun kd => keyD kd.1).reverse = (ks m).reverse.map fun c => D.str (sg c) := by rw [keys_dk, List.map_reverse]
  refine ⟨_, rfl, _, _, rfl, rfl, _, rfl, _, rfl, fun i σd => ∃ a : Option Cell, σd = [some (.dat (.dic (dk m))), some (.dm (dk (foldM [] ((ks m).reverse.take i) (gt m)))), a], ⟨_, rfl⟩, ?_, ?_⟩
  · rintro i d σd hd ⟨a, rfl⟩
    rw [hr] at hd
    obtain ⟨c, h1, rfl⟩ := get_sg hd
    have hm : c ∈ ks m := List.mem_reverse.mp (List.mem_of_getElem? h1)
    refine ⟨_, rfl, _, rfl, _, rfl, .inl ⟨dk m, .inr (sg c), rfl, rfl, .int (gt m c), val_key hm, _, rfl, _, _, rfl, rfl, ?_, some (cS (sg c)), ?_⟩⟩
    · have h2 := len_fold (gt m) ((ks m).reverse.take i) []
      have h3 : ((ks m).reverse.take i).length ≤ m.length := by rw [List.length_take, List.length_reverse, len_ks]; omega
      rw [List.length_nil] at h2
      rw [len_dk]
      omega
    · rw [fold_snoc _ _ h1, ← put_dk]
      rfl
  · rintro σd ⟨a, rfl⟩
    rw [hr, List.length_map, List.take_length]
    exact ⟨_, _, rfl, rfl, _, rfl, _, rfl, hP⟩
theorem pr_law_is_integer (C : Addr) : ∀ ds P, q_law_is_integer ds P → p_law_is_integer C { nx := fun _ => P .non, rt := P } (startD n_law_is_integer ds) := by
  rintro ds P ⟨i, rfl, hP⟩
  refine ⟨_, rfl, .int i, "int", true, rfl, rfl, by decide +kernel, _, rfl, if2 (fun _ => ?_) (fun h => nomatch h)⟩
  exact ⟨_, rfl, .int i, "int", false, rfl, rfl, by decide +kernel, _, rfl, _, rfl, hP⟩
theorem pr_law_combined (C : Addr) : ∀ ds P, q_law_combined ds P → p_law_combined C { nx := fun _ => P .non, rt := P } (startD n_law_combined ds) := by
  rintro ds P ⟨m, n, f, rfl, hl, hf, hb, hP⟩
  have hr : ((dk m).map fun kd => keyD kd.1) ++ ((dk n).map fun kd => keyD kd.1) = (ks m ++ ks n).map fun c => D.str (sg c) := by rw [keys_dk, keys_dk, List.map_append]
  have hk : (ks m ++ ks n).length = m.length + n.length := by rw [List.length_append, len_ks, len_ks]
  refine ⟨_, rfl, _, _, rfl, rfl, _, rfl, _, _, rfl, rfl, _, _, rfl, rfl, by rw [List.length_map, List.length_map, len_dk, len_dk]; omega, _, rfl, fun i σd => ∃ a : Option Cell, σd = [some (.dat (.dic (dk m))), some (.dat (.dic (dk n))), some (cI f), some (.dm (dk (foldM [] ((ks m ++ ks n).take i) fun c => gt m c + f * gt n c))), a], ⟨_, rfl⟩, ?_, ?_⟩
  · rintro i d σd hd ⟨a, rfl⟩
    rw [hr] at hd
    obtain ⟨c, h1, rfl⟩ := get_sg hd
    have hfb : f.natAbs < 2 ^ 1000 := by rcases hf with rfl | rfl <;> decide
    refine ⟨_, rfl, _, rfl, .inl ⟨_, rfl⟩, _, rfl, _, rfl, .inl ⟨dk m, .inr (sg c), rfl, rfl, _, rfl, _, rfl, .inl ⟨_, rfl⟩, _, rfl, _, rfl, .inl ⟨dk n, .inr (sg c), rfl, rfl, ?_⟩⟩⟩
    simp only [getD_dk]
    refine ⟨_, _, rfl, rfl, mulW hfb (hb.gt c), _, _, rfl, rfl, _, rfl, _, _, rfl, rfl, ?_, some (cS (sg c)), ?_⟩
    · have h2 := len_fold (fun c => gt m c + f * gt n c) ((ks m ++ ks n).take i) []
      have h3 : ((ks m ++ ks n).take i).length ≤ (ks m ++ ks n).length := by rw [List.length_take]; omega
      rw [List.length_nil] at h2
      rw [len_dk]
      omega
    · rw [fold_snoc _ _ h1, ← put_dk]
      rfl
  · rintro σd ⟨a, rfl⟩
    rw [hr, List.length_map, List.take_length]
    exact ⟨_, _, rfl, rfl, _, rfl, _, rfl, hP⟩
theorem pr_law_scaled (C : Addr) : ∀ ds P, q_law_scaled ds P → p_law_scaled C { nx := fun _ => P .non, rt := P } (startD n_law_scaled ds) := by
  rintro ds P ⟨m, t, rfl, hl, hb, ht, hP⟩
  refine ⟨_, rfl, _, rfl, fun i σd => ∃ a : Option Cell, σd = [some (.dat (.dic (dk m))), some (cI t), some (.dm (dk (foldM [] ((ks m).take i) fun c => gt m c * t))), a], ⟨_, rfl⟩, ?_, ?_⟩
  · rintro i d σd hd ⟨a, rfl⟩
    rw [keys_dk] at hd
    obtain ⟨c, h1, rfl⟩ := get_sg hd
    have hm : c ∈ ks m := List.mem_of_getElem? h1
    refine ⟨_, rfl, _, rfl, _, rfl, .inl ⟨dk m, .inr (sg c), rfl, rfl, .int (gt m c), val_key hm, _, rfl, _, _, rfl, rfl, mulW (hb.gt c) ht, _, rfl, _, _, rfl, rfl, ?_, some (cS (sg c)), ?_⟩⟩
    · have h2 := len_fold (fun c => gt m c * t) ((ks m).take i) []
      have h3 : ((ks m).take i).length ≤ m.length := by rw [List.length_take, len_ks]; omega
      rw [List.length_nil] at h2
      rw [len_dk]
      omega
    · rw [fold_snoc _ _ h1, ← put_dk]
      rfl
  · rintro σd ⟨a, rfl⟩
    rw [keys_dk, List.length_map, List.take_length]
    exact ⟨_, _, rfl, rfl, _, rfl, _, rfl, hP⟩
end My


/-! K19g: fits, equal_right, equals_right. -/
namespace My
open PySem PySem.Spec PyProof.Rows L2 TL
def pyS (zs : List Str) : PyData := .list (zs.map .str)
theorem toPys_strs : ∀ zs : List Str, toPys (zs.map D.str) = some (zs.map PyData.str)
  | [] => by rw [List.map_nil, List.map_nil, toPys]
  | z :: r => by
    rw [List.map_cons, List.map_cons, toPys, toPys_strs r]
    rw [toPy]
theorem lay_sgs : ∀ cs : List Nat, (∀ c ∈ cs, c < 128) → PyData.canLayAll0 ((cs.map sg).map PyData.str) = true
  | [], _ => rfl
  | c :: r, h => by
    rw [List.map_cons, List.map_cons, PyData.canLayAll0, lay_sgs r fun e he => h e (List.mem_cons_of_mem _ he), PyData.canLay0]
    have hc := h c List.mem_cons_self
    have : PyData.strOk (sg c) = true := by
      unfold PyData.strOk sg
      simp
      omega
    rw [this]
    rfl
theorem depth_strs : ∀ zs : List Str, PyData.depthAll (zs.map PyData.str) = 0
  | [] => rfl
  | z :: r => by
    rw [List.map_cons, PyData.depthAll, depth_strs r]
    rfl
theorem lay_pyS {cs : List Nat} (h : ∀ c ∈ cs, c < 128) : (pyS (cs.map sg)).canLay0 = true := by
  unfold pyS
  rw [PyData.canLay0]
  exact lay_sgs cs h
theorem shp_pyS {cs : List Nat} (h : ∀ c ∈ cs, c < 128) : SeqAt.shaped (pyS (cs.map sg)) = true := by
  unfold SeqAt.shaped
  rw [lay_pyS h]
  unfold pyS
  rw [PyData.depth, depth_strs]
  decide
theorem eqv_pyS {cs : List Nat} (h : ∀ c ∈ cs, c < 128) : PyData.eqv (pyS (cs.map sg)) (pyS (cs.map sg)) = true := SeqAt.eqv_refl _ (lay_pyS h)
theorem toPy_lst (zs : List Str) : toPyC (.dat (strsD zs)) = some (pyS zs) := by
  show toPy (.lst (zs.map .str)) = _
  rw [toPy, toPys_strs]
  rfl
theorem toPy_lm (zs : List Str) : toPyC (.lm (zs.map .str)) = some (pyS zs) := by
  show (toPys (zs.map D.str)).map PyData.list = _
  rw [toPys_strs]
  rfl
theorem isC_cat (C : Addr) (m : CM) : isC C (cat C m) = some true := if_pos rfl
theorem dec_same (v : V) : not (decide (v = v)) = true → False := fun h => by
  rw [decide_eq_true rfl] at h
  cases h
theorem pr_law_fits (C : Addr) : ∀ ds P, q_law_fits C ds P → p_law_fits C { nx := fun _ => P .non, rt := P } (startD n_law_fits ds) := by
  rintro ds P ⟨m, l, cs, ts, rfl, sm, nm, nl, hl, asc, ht, hP⟩
  have pk := sm.perm nm nl
  have hS : srtN (ks l) = srtN (ks m) := srtN_perm pk.symm
  have hml : l.length = m.length := by
    have := pk.length_eq
    rw [len_ks, len_ks] at this
    exact this.symm
  refine ⟨_, rfl, _, true, rfl, isC_cat C m, _, rfl, if2 (fun h => absurd h (by decide)) (fun _ => ?_)⟩
  refine pLc_map (it := pIK (pVar 1)) (g := pgName 5) (el := pCB gStrS (pCons (pVar 5) pNil)) (vs := [5]) (ks l) (fun c => .str (sg c)) (fun c => .str (sg c)) (fun Q h => ⟨_, rfl, dk l, rfl, by rw [keys_dk]; exact h⟩) (by rw [len_ks]; omega) (fun c _ Q h => ⟨_, rfl, _, rfl, _, rfl, h⟩) (mg_name 5) ?_
  refine ⟨_, (ks l).map sg, rfl, congrArg some (map_sg (ks l)).symm, _, rfl, ?_⟩
  have e : ((ks l).map sg).mergeSort leS = (srtN (ks m)).map sg := by
    rw [← hS]
    exact srt_sg (ks l)
  rw [e]
  generalize hs : srtN (ks m) = S
  have hSl : S.length = m.length := by rw [← hs, len_srtN, len_ks]
  have aS : ∀ c ∈ S, c < 128 := fun c hc => asc c (mem_srtN.mp (by rw [hs]; exact hc))
  have lk : (catF m).lookup ("_letters" : Str) = some (sgsD S) := by rw [← hs]; exact look_letters m
  refine ⟨_, rfl, _, rfl, m, rfl, hl, "", rfl, _, rfl, S.map sg, rfl, ?_, _, _, rfl, rfl, rfl, _, rfl, if2 (fun h => ?_) (fun _ => ?_)⟩
  · rw [sgs_len, List.length_map]
    show S.length + S.length * 0 ≤ _
    omega
  · exfalso
    rw [join_word, hs] at h
    exact dec_same _ h
  refine ⟨_, rfl, catF m, _, rfl, lk, _, rfl, pyS (S.map sg), pyS (S.map sg), toPy_lm _, toPy_lst _, shp_pyS aS, shp_pyS aS, _, rfl, if2 (fun h => ?_) (fun _ => ?_)⟩
  · exfalso
    rw [eqv_pyS aS] at h
    cases h
  refine pLc_map (it := pIOwn C "_letters" (pVar 0)) (g := pgName 5) (el := pVar 5) (vs := [5]) (S.map sg) D.str D.str (fun Q h => ⟨_, rfl, catF m, _, rfl, lk, h⟩) (by rw [List.length_map]; omega) (fun c _ Q h => ⟨_, rfl, _, rfl, h⟩) (mg_name 5) ?_
  refine ⟨_, rfl, pyS (S.map sg), pyS (S.map sg), toPy_lm _, toPy_lst _, shp_pyS aS, shp_pyS aS, _, rfl, if2 (fun h => ?_) (fun _ => ?_)⟩
  · exfalso
    rw [eqv_pyS aS] at h
    cases h
  refine ⟨_, rfl, _, rfl, fun _ σd => ∃ a b c : Option Cell, σd = [some (.dat (cat C m)), some (.dat (.dic (dk l))), some (.dat (sgsD cs)), some (.dat (.lst (ts.map fun t => .str (word t)))), some (.dat (sgsD S)), a, b, c], ⟨_, _, _, rfl⟩, ?_, ?_⟩
  · rintro i d σd hd ⟨a, b, c, rfl⟩
    rw [map_sg] at hd
    obtain ⟨c, h1, rfl⟩ := get_sg hd
    refine ⟨_, rfl, _, rfl, catF m, _, rfl, rfl, m, c, rfl, _, rfl, gt m c, rfl, _, rfl, if2 (fun h => absurd h (by decide)) (fun _ => ?_)⟩
    refine ⟨_, rfl, _, rfl, catF m, _, rfl, rfl, m, c, rfl, _, rfl, .inl ⟨_, rfl⟩, _, rfl, _, rfl, .inl ⟨dk l, .inr (sg c), rfl, rfl, ?_⟩⟩
    simp only [getD_dk]
    refine ⟨_, _, rfl, rfl, rfl, _, rfl, if2 (fun h => ?_) (fun _ => ?_)⟩
    · exfalso
      rw [sm.gt c] at h
      exact dec_same _ h
    refine ⟨_, rfl, _, rfl, catF m, _, rfl, rfl, m, c, rfl, _, rfl, _, rfl, _, rfl, .inl ⟨dk l, .inr (sg c), rfl, rfl, _, _, rfl, rfl, rfl, _, rfl, if2 (fun h => ?_) (fun _ => ⟨_, _, _, rfl⟩)⟩⟩
    exfalso
    rw [valD_dk, Option.isSome_map, sm c] at h
    exact dec_same _ h
  · rintro σd ⟨a, b, c, rfl⟩
    refine ⟨_, rfl, _, rfl, fun _ σd => ∃ a b c : Option Cell, σd = [some (.dat (cat C m)), some (.dat (.dic (dk l))), some (.dat (sgsD cs)), some (.dat (.lst (ts.map fun t => .str (word t)))), some (.dat (sgsD S)), a, b, c], ⟨_, _, _, rfl⟩, ?_, ?_⟩
    · rintro i d σd hd ⟨a, b, c, rfl⟩
      rw [List.getElem?_map] at hd
      obtain ⟨t, h1, rfl⟩ := Option.map_eq_some_iff.mp hd
      have htl := ht t (List.mem_of_getElem? h1)
      refine ⟨_, rfl, catF m, rfl, rfl, _, rfl, _, rfl, m, t, rfl, by omega, _, rfl, ?_⟩
      refine ⟨_, rfl, _, rfl, _, rfl, _, rfl, if2 (fun h => absurd h (by decide)) (fun _ => ?_)⟩
      refine ⟨_, rfl, pLc_map (it := pIS (pVar 6)) (g := pgName 5) (el := pDGet2 (pVar 1) (pVar 5) (pC (cI 0))) (vs := [5]) t (fun c => .str (sg c)) (fun c => .int (gt l c)) (fun Q h => ⟨_, rfl, _, rfl, h⟩) (by omega) (fun c _ Q h => ?_) (mg_name 5) ?_⟩
      · refine ⟨_, rfl, .inl ⟨_, rfl⟩, _, rfl, _, rfl, .inl ⟨dk l, .inr (sg c), rfl, rfl, ?_⟩⟩
        simp only [getD_dk]
        exact ⟨_, rfl, h⟩
      · refine ⟨_, t.map (gt l), rfl, ?_, _, _, rfl, rfl, rfl, _, rfl, if2 (fun h => ?_) (fun _ => ⟨_, _, _, rfl⟩)⟩
        · show some _ = some _
          rw [List.map_map]
          rfl
        · exfalso
          rw [show t.map (gt m) = t.map (gt l) from List.map_congr_left fun c _ => sm.gt c] at h
          exact dec_same _ h
    · rintro σd ⟨a, b, c, rfl⟩
      exact ⟨_, rfl, hP⟩
end My


/-! K19h: equal_right, equals_right. -/
namespace My
open PySem PySem.Spec PyProof.Rows L2 TL
theorem eqKD_eqM (m n : CM) : eqKD (dk m) (dk n) = eqM m n := rfl
theorem pr_law_equal_right (C : Addr) : ∀ ds P, q_law_equal_right C ds P → p_law_equal_right C { nx := fun _ => P .non, rt := P } (startD n_law_equal_right ds) := by
  rintro ds P ⟨m, l, o, rfl, sm, nm, nl, no, hl, hP⟩
  refine ⟨_, rfl, _, rfl, o, rfl, no, hl, catF m, cat C o, true, rfl, rfl, isC_cat C o, m, cat C o, rfl, .inl ⟨o, rfl, _, rfl, ?_⟩⟩
  refine ⟨_, rfl, o, rfl, no, hl, _, rfl, catF o, cat C m, true, rfl, rfl, isC_cat C m, o, cat C m, rfl, .inl ⟨m, rfl, _, rfl, ?_⟩⟩
  refine ⟨_, rfl, .bl (eqM m o), "bool", true, rfl, rfl, by decide +kernel, _, rfl, if2 (fun _ => ?_) (fun h => nomatch h)⟩
  refine ⟨_, rfl, _, rfl, _, rfl, dk l, dk o, rfl, rfl, allInt_dk l, allInt_dk o, V.bl (eqM m o), V.bl (eqM l o), rfl, rfl, rfl, _, rfl, if2 (fun _ => ?_) (fun h => ?_)⟩
  · refine ⟨_, rfl, .bl (eqM o m), "bool", true, rfl, rfl, by decide +kernel, _, rfl, if2 (fun _ => ?_) (fun h => nomatch h)⟩
    refine ⟨_, rfl, _, rfl, V.bl (eqM o m), V.bl (eqM m o), rfl, rfl, rfl, _, rfl, ?_⟩
    rw [eqM_comm no nm, decide_eq_true rfl]
    exact hP
  · exfalso
    rw [eqM_congr nm nl no sm, decide_eq_true rfl] at h
    cases h
theorem pr_law_equals_right (C : Addr) : ∀ ds P, q_law_equals_right C ds P → p_law_equals_right C { nx := fun _ => P .non, rt := P } (startD n_law_equals_right ds) := by
  rintro ds P ⟨m, l, cs, rfl, sm, nm, nl, hl, h0, hc, hP⟩
  have hkl : (ks l).reverse.length = l.length := by rw [List.length_reverse, len_ks]
  refine ⟨_, rfl, _, rfl, _, rfl, _, rfl, l, rfl, by omega, _, rfl, m, l, mkM (ks l).reverse (gt l), rfl, sm, nm, nl, nd_mk _ _, Nat.le_trans (len_mk _ _) (by omega), _, rfl, if2 (fun h => absurd h (by decide)) (fun _ => ?_)⟩
  refine ⟨_, rfl, _, rfl, _, rfl, _, _, rfl, rfl, _, rfl, (cs.length : Int), ?_, by omega, ?_, fun j h1 h2 => ?_⟩
  · rw [List.length_map, List.length_map]
  · show cs.length.log2 < 9000
    exact Nat.lt_of_le_of_lt (Nat.log2_le_self _) (by omega)
  obtain ⟨k, rfl⟩ : ∃ k : Nat, j = (k : Int) := ⟨j.toNat, by omega⟩
  have hk : k < cs.length := by omega
  have hx : cs[k]? = some cs[k] := List.getElem?_eq_getElem hk
  generalize hce : cs[k] = c at hx
  refine ⟨_, _, .str (sg c), rfl, rfl, at_str (by rw [List.getElem?_map, hx]; rfl), _, rfl, ?_⟩
  refine ⟨_, rfl, _, dk l, rfl, rfl, dk l, rfl, _, rfl, .inl ⟨_, rfl⟩, _, rfl, _, rfl, .inl ⟨dk l, .inr (sg c), rfl, rfl, ?_⟩⟩
  simp only [getD_dk]
  refine ⟨_, _, rfl, rfl, _, rfl, _, rfl, 2, rfl, by decide, by decide, fun t ht0 ht2 => ⟨_, _, rfl, rfl, mulW (by decide) (small (k := 2) (by omega) (by decide)), _, _, rfl, rfl, _, rfl, _, _, rfl, rfl, by rw [len_dk]; omega, ?_⟩⟩
  rw [put_dk]
  generalize hmo : putG l c (gt l c + 1 - 2 * t) = more
  have nmo : NdK more := by rw [← hmo]; exact nd_put nl _ _
  have lmo : more.length ≤ 256 := by rw [← hmo]; exact Nat.le_trans (len_put _ _ _) (by omega)
  refine ⟨_, rfl, _, dk l, rfl, rfl, dk l, rfl, _, rfl, .inl ⟨_, rfl⟩, _, rfl, _, rfl, .inl ⟨dk l, .inr (sg c), rfl, rfl, ?_⟩⟩
  simp only [getD_dk]
  refine ⟨_, rfl, _, _, rfl, rfl, by rw [len_dk]; omega, ?_⟩
  rw [put_dk]
  generalize hze : putG l c (gt l c) = zero
  have nze : NdK zero := by rw [← hze]; exact nd_put nl _ _
  have lze : zero.length ≤ 256 := by rw [← hze]; exact Nat.le_trans (len_put _ _ _) (by omega)
  refine ⟨_, rfl, _, rfl, fun i σd => ∃ (k : CM) (a : Option Cell), σd = [some (.dat .src), some (.dat (cat C m)), some (.dat (.dic (dk l))), some (.dat (sgsD cs)), some (cS (sg c)), some (.dm (dk more)), some (.dm (dk zero)), some (.dm (dk k)), a, none] ∧ NdK k ∧ k.length ≤ i, ⟨[], _, rfl, List.nodup_nil, Nat.le_refl _⟩, ?_, ?_⟩
  · rintro i d σd hd ⟨k, a, rfl, nk, lk⟩
    have hi : i < l.length := by
      have := (List.getElem?_eq_some_iff.mp hd).1
      rw [List.length_map, len_dk] at this
      exact this
    rw [keys_dk] at hd
    obtain ⟨e, h1, rfl⟩ := get_sg hd
    have hm : e ∈ ks l := List.mem_of_getElem? h1
    refine ⟨_, rfl, _, rfl, _, _, rfl, rfl, rfl, _, rfl, if2 (fun _ => ?_) (fun _ => ⟨k, _, rfl, nk, by omega⟩)⟩
    refine ⟨_, rfl, _, rfl, _, rfl, .inl ⟨dk l, .inr (sg e), rfl, rfl, .int (gt l e), val_key hm, _, rfl, _, _, rfl, rfl, by rw [len_dk]; omega, putG k e (gt l e), some (cS (sg e)), ?_, nd_put nk _ _, Nat.le_trans (len_put _ _ _) (by omega)⟩⟩
    rw [← put_dk]
    rfl
  · rintro σd ⟨less, a, rfl, nle, lle⟩
    rw [List.length_map, len_dk] at lle
    refine ⟨_, _, rfl, rfl, _, _, rfl, rfl, _, _, rfl, rfl, _, rfl, _, rfl, _, rfl, _, rfl, ?_, _, rfl, fun _ σd => ∃ b : Option Cell, σd = [some (.dat .src), some (.dat (cat C m)), some (.dat (.dic (dk l))), some (.dat (sgsD cs)), some (cS (sg c)), some (.dat (.dic (dk more))), some (.dat (.dic (dk zero))), some (.dat (.dic (dk less))), a, b], ⟨_, rfl⟩, ?_, ?_⟩
    · show 3 ≤ 100000
      decide
    · rintro i d σd hd ⟨b, rfl⟩
      obtain ⟨o, rfl, no, lo⟩ : ∃ o : CM, d = .dic (dk o) ∧ NdK o ∧ o.length ≤ 256 := by
        rcases i with _ | _ | _ | i
        · cases hd
          exact ⟨more, rfl, nmo, lmo⟩
        · cases hd
          exact ⟨zero, rfl, nze, lze⟩
        · cases hd
          exact ⟨less, rfl, nle, by omega⟩
        · cases hd
      exact ⟨_, rfl, _, rfl, _, rfl, _, rfl, m, l, o, rfl, sm, nm, nl, no, lo, _, rfl, if2 (fun h => absurd h (by decide)) (fun _ => ⟨_, rfl⟩)⟩
    · rintro σd ⟨b, rfl⟩
      exact ⟨_, rfl, hP⟩
end My


/-! K19i: the law. -/
namespace My
open PySem PySem.Spec PyProof.Rows L2 TL
def addC (a b : CM) : CM := mkM (srtN (ks a) ++ srtN (ks b)) fun c => gt a c + gt b c
def subC (a b : CM) : CM := mkM (srtN (ks a) ++ srtN (ks b)) fun c => gt a c - gt b c
def mulC (a : CM) (t : Int) : CM := mkM (srtN (ks a)) fun c => gt a c * t
def comb (a b : CM) (f : Int) : CM := mkM (ks a ++ ks b) fun c => gt a c + f * gt b c
def scld (a : CM) (t : Int) : CM := mkM (ks a) fun c => gt a c * t
theorem asc_len {m : CM} (h : Asc m) (nd : NdK m) : m.length ≤ 128 := by
  have := List.Nodup.length_le_of_subset (l₁ := ks m) (l₂ := List.range 128) nd fun c hc => List.mem_range.mpr (h c hc)
  rw [len_ks, List.length_range] at this
  exact this
theorem asc_mk {cs : List Nat} {g : Nat → Int} (h : ∀ c ∈ cs, c < 128) : Asc (mkM cs g) := fun c hc => h c (keys_mk.mp hc)
theorem bd_mk {k : Nat} {cs : List Nat} {g : Nat → Int} (h : ∀ c, (g c).natAbs < 2 ^ k) : Bd k (mkM cs g) := fun c v hv => by
  rw [val_mk] at hv
  split at hv
  · cases hv
    exact h c
  · cases hv
theorem same_mk {cs es : List Nat} {g h : Nat → Int} (h1 : ∀ j, j ∈ cs ↔ j ∈ es) (h2 : ∀ j, g j = h j) : Same' (mkM cs g) (mkM es h) := fun j => by
  rw [val_mk, val_mk]
  by_cases e : j ∈ cs
  · rw [if_pos e, if_pos ((h1 j).mp e), h2 j]
  · rw [if_neg e, if_neg (fun z => e ((h1 j).mpr z))]
theorem same_refl' (m : CM) : Same' m m := fun _ => rfl
theorem mem2 {a b : List Nat} {j : Nat} : j ∈ srtN a ++ srtN b ↔ j ∈ a ++ b := by rw [List.mem_append, List.mem_append, mem_srtN, mem_srtN]
theorem same_keys {x y : CM} (h : Same' x y) (j : Nat) : j ∈ ks x ↔ j ∈ ks y := by
  show j ∈ x.map (·.1) ↔ j ∈ y.map (·.1)
  rw [mem_keys, mem_keys, h j]
theorem asc2 {a b : CM} (ha : Asc a) (hb : Asc b) : ∀ c ∈ srtN (ks a) ++ srtN (ks b), c < 128 := fun c hc => by
  rcases List.mem_append.mp (mem2.mp hc) with h | h
  · exact ha c h
  · exact hb c h
theorem asc3 {a b : CM} (ha : Asc a) (hb : Asc b) : ∀ c ∈ ks a ++ ks b, c < 128 := fun c hc => by
  rcases List.mem_append.mp hc with h | h
  · exact ha c h
  · exact hb c h
def RowOk (C : Addr) (d : D) : Prop := ∃ m l : CM, d = .tup [cat C m, .dic (dk l)] ∧ Same' m l ∧ NdK m ∧ NdK l ∧ Asc m ∧ Asc l
theorem rows_snoc {C : Addr} {R : List D} {r : D} (h : ∀ d ∈ R, RowOk C d) (hr : RowOk C r) : ∀ d ∈ R ++ [r], RowOk C d := fun d hd => by
  rcases List.mem_append.mp hd with h1 | h1
  · exact h d h1
  · rw [List.mem_singleton.mp h1]
    exact hr
abbrev e0 : PEnds := { nx := fun _ => False, rt := fun d => d = .bl true }
section
variable {C : Addr} {n t : Int} {cs : List Nat} {ts : List (List Nat)} {a b bk : CM} {pas : List (Key × D)} {R : List D}
theorem pr20_law (hR : ∀ d ∈ R, RowOk C d) (h0 : 0 < cs.length) (hc : cs.length ≤ 93) (hts : ∀ t ∈ ts, t.length ≤ 256) (na : NdK a) (nb : NdK b) (aa : Asc a) (ab : Asc b) (sm : Same' (subC (addC a b) b) bk) (nk : NdK bk) :
    p20_law C e0 [some .un, some (.dat .src), some (cI n), some (.dat (sgsD cs)), some (.dat (.dic (dk a))), some (.dat (.dic (dk b))), some (cI t), some (.dat (.lst (ts.map fun t => .str (word t)))), some (.dm pas), some (.dat (cat C a)), some (.dat (cat C b)), some (.lm R), some (.dat (.dic (dk bk))), none, none, none] := by
  have la := asc_len aa na
  have lb := asc_len ab nb
  have aab : Asc (addC a b) := asc_mk (asc2 aa ab)
  have nab : NdK (addC a b) := nd_mk _ _
  have lab := asc_len aab nab
  refine ⟨_, _, rfl, rfl, _, rfl, _, rfl, fun _ σd => ∃ w : Option Cell, σd = [some .un, some (.dat .src), some (cI n), some (.dat (sgsD cs)), some (.dat (.dic (dk a))), some (.dat (.dic (dk b))), some (cI t), some (.dat (.lst (ts.map fun t => .str (word t)))), some (.dm pas), some (.dat (cat C a)), some (.dat (cat C b)), some (.dat (.lst R)), some (.dat (.dic (dk bk))), w, none, none], ⟨_, rfl⟩, ?_, ?_⟩
  · rintro i d σd hd ⟨w, rfl⟩
    obtain ⟨m, l, rfl, sm, nm, nl, am, al⟩ := hR d (List.mem_of_getElem? hd)
    exact ⟨_, rfl, _, _, _, rfl, rfl, rfl, _, rfl, _, _, _, rfl, rfl, rfl, _, rfl, _, rfl, _, rfl, m, l, cs, ts, rfl, sm, nm, nl, Nat.le_trans (asc_len am nm) (by decide), am, hts, _, rfl, if2 (fun h => absurd h (by decide)) (fun _ => ⟨_, rfl⟩)⟩
  rintro σd ⟨w, rfl⟩
  refine ⟨_, rfl, 4, rfl, R, rfl, _, rfl, fun _ σd => ∃ w : Option Cell, σd = [some .un, some (.dat .src), some (cI n), some (.dat (sgsD cs)), some (.dat (.dic (dk a))), some (.dat (.dic (dk b))), some (cI t), some (.dat (.lst (ts.map fun t => .str (word t)))), some (.dm pas), some (.dat (cat C a)), some (.dat (cat C b)), some (.dat (.lst R)), some (.dat (.dic (dk bk))), w, none, none], ⟨_, rfl⟩, ?_, ?_⟩
  · rintro i d σd hd ⟨w, rfl⟩
    have hm : d ∈ R := by
      have h1 := List.mem_of_getElem? hd
      rw [show (some (4 : Int)) = some ((4 : Nat) : Int) from rfl, cutL_T] at h1
      exact List.mem_of_mem_take h1
    obtain ⟨m, l, rfl, sm, nm, nl, am, al⟩ := hR d hm
    exact ⟨_, rfl, _, rfl, _, _, _, rfl, rfl, rfl, _, rfl, _, _, _, rfl, rfl, rfl, _, rfl, _, rfl, m, l, cs, rfl, sm, nm, nl, Nat.le_trans (asc_len al nl) (by decide), h0, by omega, _, rfl, if2 (fun h => absurd h (by decide)) (fun _ => ⟨_, rfl⟩)⟩
  rintro σd ⟨w, rfl⟩
  refine ⟨_, rfl, _, dk a, rfl, rfl, _, rfl, _, dk a, rfl, rfl, _, rfl, _, rfl, a, rfl, by omega, _, rfl, _, dk a, rfl, rfl, _, rfl, ?_, _, rfl, fun _ σd => ∃ w2 : Option Cell, σd = [some .un, some (.dat .src), some (cI n), some (.dat (sgsD cs)), some (.dat (.dic (dk a))), some (.dat (.dic (dk b))), some (cI t), some (.dat (.lst (ts.map fun t => .str (word t)))), some (.dm pas), some (.dat (cat C a)), some (.dat (cat C b)), some (.dat (.lst R)), some (.dat (.dic (dk bk))), w, w2, none], ⟨_, rfl⟩, ?_, ?_⟩
  · show 5 ≤ 100000
    decide
  · rintro i d σd hd ⟨w2, rfl⟩
    obtain ⟨hC, hL⟩ : isC C d = some false ∧ leftD d = true := by
      rcases i with _ | _ | _ | _ | _ | i
      · cases hd; exact ⟨rfl, rfl⟩
      · cases hd; exact ⟨rfl, rfl⟩
      · cases hd; exact ⟨rfl, rfl⟩
      · cases hd; exact ⟨rfl, rfl⟩
      · cases hd; exact ⟨rfl, rfl⟩
      · cases hd
    refine ⟨_, rfl, _, rfl, catF a, d, false, rfl, rfl, hC, a, d, rfl, .inr ⟨hC, false, false, rfl, rfl, _, rfl, if2 (fun h => absurd h (by decide)) (fun _ => ?_)⟩⟩
    exact ⟨_, rfl, _, rfl, catF a, d, rfl, rfl, hL, a, d, rfl, .inr ⟨hC, false, false, rfl, rfl, _, rfl, if2 (fun h => absurd h (by decide)) (fun _ => ⟨_, rfl⟩)⟩⟩
  rintro σd ⟨w2, rfl⟩
  exact ⟨_, rfl, _, rfl, catF a, catF b, rfl, rfl, a, b, rfl, by omega, _, rfl, catF (addC a b), catF b, rfl, rfl, addC a b, b, rfl, by omega, _, rfl, _, rfl, _, rfl, subC (addC a b) b, bk, a, rfl, sm, nd_mk _ _, nk, na, by omega, _, rfl, rfl⟩
theorem pr11_law (h0 : 0 < cs.length) (hc : cs.length ≤ 93) (hts : ∀ t ∈ ts, t.length ≤ 256) (na : NdK a) (nb : NdK b) (aa : Asc a) (ab : Asc b) (ba : Bd 250 a) (bb : Bd 250 b) (ht : t.natAbs < 2 ^ 250) :
    p11_law C e0 [some .un, some (.dat .src), some (cI n), some (.dat (sgsD cs)), some (.dat (.dic (dk a))), some (.dat (.dic (dk b))), some (cI t), some (.dat (.lst (ts.map fun t => .str (word t)))), some (.dm pas), some (.dat (cat C a)), some (.dat (cat C b)), none, none, none, none, none] := by
  have la := asc_len aa na
  have lb := asc_len ab nb
  have aab : Asc (addC a b) := asc_mk (asc2 aa ab)
  have nab : NdK (addC a b) := nd_mk _ _
  have lab := asc_len aab nab
  have acb : Asc (comb a b 1) := asc_mk (asc3 aa ab)
  have ncb : NdK (comb a b 1) := nd_mk _ _
  have lcb := asc_len acb ncb
  have ba' : Bd 1000 a := ba.le (by decide)
  have bb' : Bd 1000 b := bb.le (by decide)
  have ht' : t.natAbs < 2 ^ 1000 := small ht (by decide)
  have two : ∀ x y : Int, x.natAbs < 2 ^ 250 → y.natAbs < 2 ^ 250 → (x + y).natAbs < 2 ^ 1000 := fun x y hx hy => by
    have h1 : (2 : Nat) ^ 250 + 2 ^ 250 ≤ 2 ^ 1000 := by decide
    have h2 := Int.natAbs_add_le x y
    omega
  have bab : Bd 1000 (addC a b) := bd_mk fun c => two _ _ (ba.gt c) (bb.gt c)
  have bcb : Bd 1000 (comb a b 1) := bd_mk fun c => by rw [Int.one_mul]; exact two _ _ (ba.gt c) (bb.gt c)
  have s3 : Same' (addC a b) (comb a b 1) := same_mk (fun j => mem2) fun j => by rw [Int.one_mul]
  have s4 : Same' (subC a b) (comb a b (-1)) := same_mk (fun j => mem2) fun j => by omega
  have s5 : Same' (mulC a t) (scld a t) := same_mk (fun j => mem_srtN) fun j => rfl
  have s6 : Same' (mulC b t) (scld b t) := same_mk (fun j => mem_srtN) fun j => rfl
  have s7 : Same' (mulC (addC a b) t) (scld (comb a b 1) t) := same_mk (fun j => mem_srtN.trans (same_keys s3 j)) fun j => by rw [s3.gt j]
  have s8 : Same' (subC (addC a b) b) (comb (comb a b 1) b (-1)) := same_mk (fun j => mem2.trans (by rw [List.mem_append, List.mem_append, same_keys s3 j])) fun j => by rw [s3.gt j]; omega
  refine ⟨_, rfl, _, rfl, _, rfl, len2 _ _, _, rfl, _, rfl, _, rfl, len2 _ _, _, rfl, _, rfl, catF a, catF b, rfl, rfl, a, b, rfl, by omega, _, rfl, _, rfl, _, rfl, a, b, 1, rfl, by omega, .inl rfl, bb', _, rfl, len2 _ _, _, rfl, ?_, ?_⟩
  · show 3 ≤ 100000
    decide
  have r3 : ∀ d ∈ [D.tup [cat C a, .dic (dk a)], .tup [cat C b, .dic (dk b)], .tup [cat C (addC a b), .dic (dk (comb a b 1))]], RowOk C d := fun d hd => by
    rcases List.mem_cons.mp hd with rfl | hd
    · exact ⟨a, a, rfl, same_refl' a, na, na, aa, aa⟩
    · rcases List.mem_cons.mp hd with rfl | hd
      · exact ⟨b, b, rfl, same_refl' b, nb, nb, ab, ab⟩
      · rw [List.mem_singleton.mp hd]
        exact ⟨addC a b, comb a b 1, rfl, s3, nab, ncb, aab, acb⟩
  refine ⟨_, rfl, _, rfl, _, rfl, catF a, catF b, rfl, rfl, a, b, rfl, by omega, _, rfl, _, rfl, 1, rfl, _, rfl, a, b, -1, rfl, by omega, .inr rfl, bb', _, rfl, len2 _ _, _, rfl, by show 3 ≤ 100000; decide, ?_⟩
  have r4 := rows_snoc r3 (r := .tup [cat C (subC a b), .dic (dk (comb a b (-1)))]) ⟨subC a b, comb a b (-1), rfl, s4, nd_mk _ _, nd_mk _ _, asc_mk (asc2 aa ab), asc_mk (asc3 aa ab)⟩
  refine ⟨_, rfl, _, rfl, _, rfl, catF a, t, rfl, rfl, a, t, rfl, by omega, ba', ht', _, rfl, _, rfl, _, rfl, a, t, rfl, by omega, ba', ht', _, rfl, len2 _ _, _, rfl, by show 4 ≤ 100000; decide, ?_⟩
  have r5 := rows_snoc r4 (r := .tup [cat C (mulC a t), .dic (dk (scld a t))]) ⟨mulC a t, scld a t, rfl, s5, nd_mk _ _, nd_mk _ _, asc_mk (fun c hc => aa c (mem_srtN.mp hc)), asc_mk aa⟩
  refine ⟨_, rfl, _, rfl, _, rfl, catF b, t, rfl, rfl, b, t, rfl, by omega, bb', ht', _, rfl, _, rfl, _, rfl, b, t, rfl, by omega, bb', ht', _, rfl, len2 _ _, _, rfl, by show 5 ≤ 100000; decide, ?_⟩
  have r6 := rows_snoc r5 (r := .tup [cat C (mulC b t), .dic (dk (scld b t))]) ⟨mulC b t, scld b t, rfl, s6, nd_mk _ _, nd_mk _ _, asc_mk (fun c hc => ab c (mem_srtN.mp hc)), asc_mk ab⟩
  refine ⟨_, rfl, _, rfl, _, rfl, catF a, catF b, rfl, rfl, a, b, rfl, by omega, _, rfl, catF (addC a b), t, rfl, rfl, addC a b, t, rfl, by omega, bab, ht', _, rfl, _, rfl, _, rfl, a, b, 1, rfl, by omega, .inl rfl, bb', _, rfl, _, rfl, comb a b 1, t, rfl, by omega, bcb, ht', _, rfl, len2 _ _, _, rfl, by show 6 ≤ 100000; decide, ?_⟩
  have r7 := rows_snoc r6 (r := .tup [cat C (mulC (addC a b) t), .dic (dk (scld (comb a b 1) t))]) ⟨mulC (addC a b) t, scld (comb a b 1) t, rfl, s7, nd_mk _ _, nd_mk _ _, asc_mk (fun c hc => aab c (mem_srtN.mp hc)), asc_mk acb⟩
  refine ⟨_, rfl, _, rfl, _, rfl, a, b, 1, rfl, by omega, .inl rfl, bb', _, rfl, 1, rfl, _, rfl, comb a b 1, b, -1, rfl, by omega, .inr rfl, bb', _, rfl, ?_⟩
  refine ⟨_, rfl, _, rfl, _, rfl, catF a, catF b, rfl, rfl, a, b, rfl, by omega, _, rfl, catF (addC a b), catF b, rfl, rfl, addC a b, b, rfl, by omega, _, rfl, _, rfl, len2 _ _, _, rfl, by show 7 ≤ 100000; decide, ?_⟩
  have r8 := rows_snoc r7 (r := .tup [cat C (subC (addC a b) b), .dic (dk (comb (comb a b 1) b (-1)))]) ⟨subC (addC a b) b, comb (comb a b 1) b (-1), rfl, s8, nd_mk _ _, nd_mk _ _, asc_mk (asc2 aab ab), asc_mk (asc3 acb ab)⟩
  refine ⟨_, rfl, _, rfl, _, rfl, _, rfl, len2 _ _, _, rfl, by show 8 ≤ 100000; decide, ?_⟩
  have r9 := rows_snoc r8 (r := .tup [cat C a, .dic (dk a)]) ⟨a, a, rfl, same_refl' a, na, na, aa, aa⟩
  refine ⟨_, rfl, _, rfl, _, rfl, _, rfl, len2 _ _, _, rfl, by show 9 ≤ 100000; decide, ?_⟩
  have r10 := rows_snoc r9 (r := .tup [cat C b, .dic (dk b)]) ⟨b, b, rfl, same_refl' b, nb, nb, ab, ab⟩
  exact pr20_law r10 h0 hc hts na nb aa ab s8 (nd_mk _ _)
end
end My


/-! K19j: the law's beginning. -/
namespace My
open PySem PySem.Spec PyProof.Rows L2 TL
theorem pr2_law {C : Addr} {n : Nat} (h1 : 1 ≤ n) (hn : n ≤ 93) : p2_law C e0 [some .un, some (.dat .src), some (cI n), none, none, none, none, none, none, none, none, none, none, none, none, none] := by
  refine ⟨_, rfl, _, rfl, _, rfl, n, rfl, hn, fun cs nd hl asc => ⟨_, rfl, ?_⟩⟩
  refine ⟨_, rfl, _, rfl, _, rfl, cs, rfl, by omega, asc, fun a na la ba aa => ⟨_, rfl, ?_⟩⟩
  refine ⟨_, rfl, _, rfl, _, rfl, cs, rfl, by omega, asc, fun b nb lb bb ab => ⟨_, rfl, ?_⟩⟩
  refine ⟨_, rfl, _, rfl, rfl, fun t ht => ⟨_, rfl, ?_⟩⟩
  refine ⟨3, rfl, by decide, by decide, by decide, fun i acc => ∃ ts : List (List Nat), acc = ts.map (fun t => .str (word t)) ∧ (∀ t ∈ ts, t.length ≤ 256) ∧ ts.length ≤ i, ⟨[], rfl, (fun t h => nomatch h), Nat.le_refl _⟩, ?_, ?_⟩
  · rintro i d acc hd ⟨ts, rfl, hts, hli⟩
    refine ⟨_, rfl, _, rfl, _, rfl, _, rfl, 9, rfl, by decide, by decide, fun k hk0 hk9 => ⟨_, rfl, cs, k.toNat, ?_, by omega, by omega, by omega, fun w hw => ⟨_, rfl, ts ++ [w], ?_, ?_, ?_⟩⟩⟩
    · rw [Int.toNat_of_nonneg hk0]
    · rw [List.map_append]
      rfl
    · intro u hu
      rcases List.mem_append.mp hu with hu | hu
      · exact hts u hu
      · rw [List.mem_singleton.mp hu]
        exact hw
    · rw [List.length_append, List.length_singleton]
      omega
  · rintro acc ⟨ts, rfl, hts, hli⟩
    have hli : ts.length ≤ 3 := hli
    refine ⟨"", rfl, _, rfl, cs.map sg, rfl, ?_, _, rfl, by show 1 ≤ 100000; decide, _, _, rfl, rfl, ?_, _, rfl, ?_⟩
    · rw [sgs_len, List.length_map]
      show cs.length + cs.length * 0 ≤ _
      omega
    · rw [List.length_map]
      show ts.length + 1 ≤ 100000
      omega
    rw [join_word]
    have et : (ts.map fun t => D.str (word t)) ++ [D.str (word cs)] = (ts ++ [cs]).map fun t => D.str (word t) := by rw [List.map_append]; rfl
    rw [et]
    have hts2 : ∀ t ∈ ts ++ [cs], t.length ≤ 256 := fun u hu => by
      rcases List.mem_append.mp hu with hu | hu
      · exact hts u hu
      · rw [List.mem_singleton.mp hu]
        omega
    have h0 : 0 < cs.length := by omega
    have hx : cs[0]? = some cs[0] := List.getElem?_eq_getElem h0
    generalize hce : cs[0] = c at hx
    have at0 : atI ((cs.map sg).map D.str) (0 : Int) = some (.str (sg c)) := at_str (i := 0) (by rw [List.getElem?_map, hx]; rfl)
    refine ⟨_, rfl, _, dk a, rfl, rfl, ?_⟩
    refine ⟨_, rfl, a, rfl, na, by omega, _, rfl, ?_⟩
    refine ⟨dk a, rfl, _, rfl, .inl ⟨_, rfl⟩, _, rfl, _, 0, .str (sg c), rfl, rfl, at0, _, rfl, .inl ⟨dk a, .inr (sg c), rfl, rfl, ?_⟩⟩
    simp only [getD_dk]
    refine ⟨_, _, rfl, rfl, _, rfl, _, 0, .str (sg c), rfl, rfl, at0, _, _, rfl, rfl, by rw [len_dk]; omega, ?_⟩
    refine ⟨_, rfl, _, dk b, rfl, rfl, b, rfl, nb, by omega, _, rfl, ?_⟩
    exact pr11_law h0 (by omega) hts2 na nb aa ab ba bb ht
theorem pr_law (C : Addr) : p_law C { nx := fun _ => False, rt := fun d => d = .bl true } (([some Cell.un] ++ List.replicate 15 none).set 1 (some (.dat .src))) := by
  refine ⟨_, rfl, _, rfl, 6, rfl, by decide, by decide, fun k hk0 hk6 => ⟨_, _, rfl, rfl, _, rfl, ?_⟩⟩
  obtain ⟨k, rfl⟩ : ∃ j : Nat, k = (j : Int) := ⟨k.toNat, by omega⟩
  refine ⟨_, rfl, _, rfl, 8, rfl, by decide, by decide, fun u hu0 hu8 => ⟨_, _, rfl, rfl, rfl, _, rfl, if2 (fun _ => ?_) (fun _ => ?_)⟩⟩
  · refine ⟨_, rfl, _, rfl, 34, rfl, by decide, by decide, fun j hj0 hj34 => ⟨_, _, rfl, rfl, _, rfl, ?_⟩⟩
    obtain ⟨j, rfl⟩ : ∃ i : Nat, j = (i : Int) := ⟨j.toNat, by omega⟩
    have h := pr2_law (C := C) (n := 60 + j) (by omega) (by omega)
    rw [show ((60 + j : Nat) : Int) = 60 + (j : Int) from by omega] at h
    exact h
  · have h := pr2_law (C := C) (n := 1 + k) (by omega) (by omega)
    rw [show ((1 + k : Nat) : Int) = 1 + (k : Int) from by omega] at h
    exact h
end My


namespace My
open PySem PySem.Spec PyProof.Rows L2 TL
def top (i : Nat) : Stmt := PySem.Challenge.pw_drawingoffice_k19_catalogs.main.body.getD i (.Pass ⟨0, 0, 0, 0⟩)
theorem u1 {k : Nat} {A : Around} (r : Room k A) : A.units + 1 < cLine := by have := r.units; omega
theorem u2 {k : Nat} {A : Around} (r : Room k A) : A.units + 2 < cLine := by have := r.units; omega
structure Txt (w : World) (K : PySem.W.Frag) (mg : Str → Option Value) (C : Addr) : Prop where
  abs_ : mg "abs" = none
  bool_ : mg "bool" = none
  dict_ : mg "dict" = none
  enumerate : mg "enumerate" = none
  int_ : mg "int" = none
  isinstance : mg "isinstance" = none
  iter_ : mg "iter" = none
  len : mg "len" = none
  list_ : mg "list" = none
  range : mg "range" = none
  sorted : mg "sorted" = none
  str_ : mg "str" = none
  sum_ : mg "sum" = none
  g_Catalog : mg "Catalog" = some (.ref C)
abbrev s_law_mixed : Stmt := top 7
theorem sc_law_mixed : FnScope n_law_mixed ["_law_cell", "_law_place"] (defScope s_law_mixed) := ⟨rfl, rfl, rfl, by decide +kernel, rfl, by decide +kernel, by decide +kernel⟩
abbrev s_law_source : Stmt := top 8
theorem sc_law_source : FnScope n_law_source ["_law_script"] (defScope s_law_source) := ⟨rfl, rfl, rfl, by decide +kernel, rfl, by decide +kernel, by decide +kernel⟩
abbrev s_law_take : Stmt := top 9
theorem sc_law_take : FnScope n_law_take ["_law_source_here", "_law_many"] (defScope s_law_take) := ⟨rfl, rfl, rfl, by decide +kernel, rfl, by decide +kernel, by decide +kernel⟩
abbrev s_joined_rows : Stmt := top 1
theorem sc_joined_rows : FnScope n_joined_rows ["first", "second"] (defScope s_joined_rows) := ⟨rfl, rfl, rfl, by decide +kernel, rfl, by decide +kernel, by decide +kernel⟩
abbrev s_in_order : Stmt := top 2
theorem sc_in_order : FnScope n_in_order ["rows"] (defScope s_in_order) := ⟨rfl, rfl, rfl, by decide +kernel, rfl, by decide +kernel, by decide +kernel⟩
abbrev s_distinct : Stmt := top 3
theorem sc_distinct : FnScope n_distinct ["rows"] (defScope s_distinct) := ⟨rfl, rfl, rfl, by decide +kernel, rfl, by decide +kernel, by decide +kernel⟩
abbrev s_Catalog_letters : Stmt := inClass (top 5) 1
theorem sc_Catalog_letters : FnScope n_Catalog_letters ["self"] (defScope s_Catalog_letters) := ⟨rfl, rfl, rfl, by decide +kernel, rfl, by decide +kernel, by decide +kernel⟩
abbrev s_Catalog_length : Stmt := inClass (top 5) 2
theorem sc_Catalog_length : FnScope n_Catalog_length ["self", "text"] (defScope s_Catalog_length) := ⟨rfl, rfl, rfl, by decide +kernel, rfl, by decide +kernel, by decide +kernel⟩
abbrev s_Catalog_getitem : Stmt := inClass (top 5) 3
theorem sc_Catalog_getitem : FnScope n_Catalog_getitem ["self", "char"] (defScope s_Catalog_getitem) := ⟨rfl, rfl, rfl, by decide +kernel, rfl, by decide +kernel, by decide +kernel⟩
abbrev s_Catalog_contains : Stmt := inClass (top 5) 5
theorem sc_Catalog_contains : FnScope n_Catalog_contains ["self", "char"] (defScope s_Catalog_contains) := ⟨rfl, rfl, rfl, by decide +kernel, rfl, by decide +kernel, by decide +kernel⟩
abbrev s_Catalog_add : Stmt := inClass (top 5) 6
theorem sc_Catalog_add : FnScope n_Catalog_add ["self", "other"] (defScope s_Catalog_add) := ⟨rfl, rfl, rfl, by decide +kernel, rfl, by decide +kernel, by decide +kernel⟩
abbrev s_Catalog_sub : Stmt := inClass (top 5) 7
theorem sc_Catalog_sub : FnScope n_Catalog_sub ["self", "other"] (defScope s_Catalog_sub) := ⟨rfl, rfl, rfl, by decide +kernel, rfl, by decide +kernel, by decide +kernel⟩
abbrev s_Catalog_mul : Stmt := inClass (top 5) 8
theorem sc_Catalog_mul : FnScope n_Catalog_mul ["self", "times"] (defScope s_Catalog_mul) := ⟨rfl, rfl, rfl, by decide +kernel, rfl, by decide +kernel, by decide +kernel⟩
abbrev s_Catalog_rmul : Stmt := inClass (top 5) 9
theorem sc_Catalog_rmul : FnScope n_Catalog_rmul ["self", "times"] (defScope s_Catalog_rmul) := ⟨rfl, rfl, rfl, by decide +kernel, rfl, by decide +kernel, by decide +kernel⟩
abbrev s_Catalog_eq : Stmt := inClass (top 5) 10
theorem sc_Catalog_eq : FnScope n_Catalog_eq ["self", "other"] (defScope s_Catalog_eq) := ⟨rfl, rfl, rfl, by decide +kernel, rfl, by decide +kernel, by decide +kernel⟩
abbrev s_law_signs : Stmt := top 10
theorem sc_law_signs : FnScope n_law_signs ["_law_source_here", "_law_many"] (defScope s_law_signs) := ⟨rfl, rfl, rfl, by decide +kernel, rfl, by decide +kernel, by decide +kernel⟩
abbrev s_law_text : Stmt := top 11
theorem sc_law_text : FnScope n_law_text ["_law_source_here", "_law_signs_here", "_law_size"] (defScope s_law_text) := ⟨rfl, rfl, rfl, by decide +kernel, rfl, by decide +kernel, by decide +kernel⟩
abbrev s_law_number : Stmt := top 12
theorem sc_law_number : FnScope n_law_number ["_law_source_here"] (defScope s_law_number) := ⟨rfl, rfl, rfl, by decide +kernel, rfl, by decide +kernel, by decide +kernel⟩
abbrev s_law_lengths : Stmt := top 13
theorem sc_law_lengths : FnScope n_law_lengths ["_law_source_here", "_law_signs_here"] (defScope s_law_lengths) := ⟨rfl, rfl, rfl, by decide +kernel, rfl, by decide +kernel, by decide +kernel⟩
abbrev s_law_turned : Stmt := top 14
theorem sc_law_turned : FnScope n_law_turned ["_law_lengths_here"] (defScope s_law_turned) := ⟨rfl, rfl, rfl, by decide +kernel, rfl, by decide +kernel, by decide +kernel⟩
abbrev s_law_is_integer : Stmt := top 15
theorem sc_law_is_integer : FnScope n_law_is_integer ["_law_value"] (defScope s_law_is_integer) := ⟨rfl, rfl, rfl, by decide +kernel, rfl, by decide +kernel, by decide +kernel⟩
abbrev s_law_fits : Stmt := top 16
theorem sc_law_fits : FnScope n_law_fits ["_law_catalog", "_law_lengths_here", "_law_signs_here", "_law_texts"] (defScope s_law_fits) := ⟨rfl, rfl, rfl, by decide +kernel, rfl, by decide +kernel, by decide +kernel⟩
abbrev s_law_combined : Stmt := top 17
theorem sc_law_combined : FnScope n_law_combined ["_law_one", "_law_two", "_law_factor"] (defScope s_law_combined) := ⟨rfl, rfl, rfl, by decide +kernel, rfl, by decide +kernel, by decide +kernel⟩
abbrev s_law_scaled : Stmt := top 18
theorem sc_law_scaled : FnScope n_law_scaled ["_law_lengths_here", "_law_times"] (defScope s_law_scaled) := ⟨rfl, rfl, rfl, by decide +kernel, rfl, by decide +kernel, by decide +kernel⟩
abbrev s_law_equal_right : Stmt := top 19
theorem sc_law_equal_right : FnScope n_law_equal_right ["_law_one", "_law_lengths_here", "_law_other"] (defScope s_law_equal_right) := ⟨rfl, rfl, rfl, by decide +kernel, rfl, by decide +kernel, by decide +kernel⟩
abbrev s_law_equals_right : Stmt := top 20
theorem sc_law_equals_right : FnScope n_law_equals_right ["_law_source_here", "_law_catalog", "_law_lengths_here", "_law_signs_here"] (defScope s_law_equals_right) := ⟨rfl, rfl, rfl, by decide +kernel, rfl, by decide +kernel, by decide +kernel⟩
abbrev s_law : Stmt := top 21
theorem sc_law : FnScope n_law ["_law_script"] (defScope s_law) := ⟨rfl, rfl, rfl, by decide +kernel, rfl, by decide +kernel, by decide +kernel⟩
abbrev s_Catalog_init : Stmt := inClass (top 5) 0
theorem sc_Catalog_init : FnScope n_Catalog_init ["self", "lengths"] (defScope s_Catalog_init) := ⟨rfl, rfl, rfl, by decide +kernel, rfl, by decide +kernel, by decide +kernel⟩
abbrev n_Catalog_iter : List Str := ["self"]
abbrev s_Catalog_iter : Stmt := inClass (top 5) 4
theorem sc_Catalog_iter : FnScope n_Catalog_iter ["self"] (defScope s_Catalog_iter) := ⟨rfl, rfl, rfl, by decide +kernel, rfl, by decide +kernel, by decide +kernel⟩
section
variable {P : Program} {w : World} {K : PySem.W.Frag} {mg : Str → Option Value} {base : Heap} {f C : Addr} {fd : FuncData}
theorem ok_law_mixed (B : Txt w K mg C) (F : FnP K "_law_mixed" s_law_mixed f fd) (hm : mg "_law_mixed" = some (.ref f)) : OkF P w K mg base "_law_mixed" 1 ["_law_cell", "_law_place"] (sp_law_mixed K) := by
  refine ⟨f, fd, hm, F.kp, F.bindsN (fun _ _ _ _ _ _ us hl => match us, hl with | [_, _], _ => rfl), ?_⟩
  refine F.ok sc_law_mixed (fun vs H Q E h => len_law_mixed h) (fun cdv A outer s H vs Q E hr h => ⟨t_law_mixed K, PSs.nox ?_, run_law_mixed h⟩)
  exact (pss_cons (ps_set (i := 2) sc_law_mixed.nd rfl (Or.inl rfl) (pe_op op_mod (pe_callTy call_int1 rfl B.int_ (by decide +kernel) (pa_cons (pe_op op_add (pe_op op_add (pe_op op_mul (pe_callB call_abs rfl B.abs_ (by decide +kernel) (pa_cons (pv 0) pa_nil)) pe_int) (pe_op op_mul (pv 1) pe_int)) pe_int) pa_nil)) pe_int))
      (pss_cons (ps_set (i := 3) sc_law_mixed.nd rfl (Or.inl rfl) (pe_op op_mod (pe_callTy call_int1 rfl B.int_ (by decide +kernel) (pa_cons (pe_op op_add (pe_op op_add (pe_op op_add (pe_op op_mul (pv 2) (pv 2)) (pe_op op_mul (pe_callB call_abs rfl B.abs_ (by decide +kernel) (pa_cons (pv 0) pa_nil)) pe_int)) (pe_op op_mul (pv 1) pe_int)) pe_int) pa_nil)) pe_int))
      (pss_cons (ps_set (i := 4) sc_law_mixed.nd rfl (Or.inl rfl) (pe_op op_mod (pe_callTy call_int1 rfl B.int_ (by decide +kernel) (pa_cons (pe_op op_add (pe_op op_add (pe_op op_mul (pv 3) pe_int) (pe_op op_mul (pv 2) pe_int)) pe_int) pa_nil)) pe_int))
      (pss_one (ps_ret (pe_op op_add (pv 4) pe_int))))))
theorem ok_law_source (B : Txt w K mg C) (F : FnP K "_law_source" s_law_source f fd) (hm : mg "_law_source" = some (.ref f)) : OkF P w K mg base "_law_source" 1 ["_law_script"] (sp_law_source K) := by
  refine ⟨f, fd, hm, F.kp, F.bindsN (fun _ _ _ _ _ _ us hl => match us, hl with | [_], _ => rfl), ?_⟩
  refine F.ok sc_law_source (fun vs H Q E h => len_law_source h) (fun cdv A outer s H vs Q E hr h => ⟨t_law_source K, PSs.nox ?_, run_law_source h⟩)
  exact (pss_one (ps_ret (pe_lst (pa_cons pe_int (pa_cons pe_int (pa_cons (pe_callTy call_list_of rfl B.list_ (by decide +kernel) (pa_cons (pv 0) pa_nil)) pa_nil))))))
theorem ok_law_take (B : Txt w K mg C) (F : FnP K "_law_take" s_law_take f fd) (hm : mg "_law_take" = some (.ref f)) (G_law_mixed : OkF P w K mg base "_law_mixed" 1 ["_law_cell", "_law_place"] (sp_law_mixed K)) : OkF P w K mg base "_law_take" 2 ["_law_source_here", "_law_many"] (sp_law_take K) := by
  refine ⟨f, fd, hm, F.kp, F.bindsN (fun _ _ _ _ _ _ us hl => match us, hl with | [_, _], _ => rfl), ?_⟩
  refine F.ok sc_law_take (fun vs H Q E h => len_law_take h) (fun cdv A outer s H vs Q E hr h => ⟨t_law_take K, PSs.nox ?_, run_law_take h⟩)
  exact (pss_cons (ps_if (pt_cmpR op_lt (pe_ix ix_list (pv 0) pe_int (fun _ _ => rfl)) (pe_op op_mul pe_int (pv 1)) (nomark _)) (pss_cons (ps_set (i := 3) sc_law_take.nd rfl (Or.inl rfl) (pe_ix ix_list (pv 0) pe_int (fun _ _ => rfl)))
      (pss_cons (ps_set (i := 4) sc_law_take.nd rfl (Or.inl rfl) (pe_ix ix_list (pv 0) pe_int (fun _ _ => rfl)))
      (pss_cons (ps_asg (pe_op op_add (pv 4) pe_int) (pg_sub (pv 0) pe_int set_list))
      (pss_one (ps_if (PW.pt (pw_and (pt_cmpR op_lt (pv 4) (pe_callB call_len_seq rfl B.len (by decide +kernel) (pa_cons (pv 3) pa_nil)) (nomark _)) (pw_and1 (pt_cmpR op_ge (pe_callB call_abs rfl B.abs_ (by decide +kernel) (pa_cons (pe_ix ix_list (pv 3) (pv 4) (fun _ _ => rfl)) pa_nil)) (pe_op op_pow pe_int pe_int) (nomark _))))) (pss_one (ps_asg (pe_callB call_abs rfl B.abs_ (by decide +kernel) (pa_cons (pe_ix ix_list (pv 3) (pv 4) (fun _ _ => rfl)) pa_nil)) (pg_sub (pv 0) pe_int set_list))) (pss_one (ps_if (pt_cmpR op_gt (pe_callB call_len_seq rfl B.len (by decide +kernel) (pa_cons (pv 3) pa_nil)) pe_int (nomark _)) (pss_one (ps_asg (pe_fn G_law_mixed (hr.mono (by decide)) rfl (pa_cons (pe_ix ix_list (pv 3) (pe_op op_mod (pe_callTy call_int1 rfl B.int_ (by decide +kernel) (pa_cons (pv 4) pa_nil)) (pe_callB call_len_seq rfl B.len (by decide +kernel) (pa_cons (pv 3) pa_nil))) (fun _ _ => rfl)) (pa_cons (pv 4) pa_nil))) (pg_sub (pv 0) pe_int set_list))) (pss_one (ps_asg (pe_fn G_law_mixed (hr.mono (by decide)) rfl (pa_cons pe_int (pa_cons (pv 4) pa_nil))) (pg_sub (pv 0) pe_int set_list)))))))))) pss_nil)
      (pss_cons (ps_set (i := 2) sc_law_take.nd rfl (Or.inl rfl) (pe_op op_mod (pe_callTy call_int1 rfl B.int_ (by decide +kernel) (pa_cons (pe_ix ix_list (pv 0) pe_int (fun _ _ => rfl)) pa_nil)) (pv 1)))
      (pss_cons (ps_asg (pe_op op_fdivW (pe_callTy call_int1 rfl B.int_ (by decide +kernel) (pa_cons (pe_ix ix_list (pv 0) pe_int (fun _ _ => rfl)) pa_nil)) (pv 1)) (pg_sub (pv 0) pe_int set_list))
      (pss_one (ps_ret (pv 2))))))
theorem okF_weak {x : Str} {k : Nat} {ps : List Str} {sp sp2 : Sp} (G : OkF P w K mg base x k ps sp) (h : ∀ vs H Q E, sp2 vs H Q E → sp vs H Q E) : OkF P w K mg base x k ps sp2 := by
  obtain ⟨f, fd, h1, h2, h3, h4⟩ := G
  exact ⟨f, fd, h1, h2, h3, h4.imp h⟩
theorem ok_joined_rows (B : Txt w K mg C) (Z : ClsK K C) (Y : Fl K C) (F : FnP K "joined_rows" s_joined_rows f fd) (hm : mg "joined_rows" = some (.ref f)) : OkF P w K mg base "joined_rows" 1 ["first", "second"] (up K (q_joined_rows)) := by
  refine ⟨f, fd, hm, F.kp, F.bindsN (fun _ _ _ _ _ _ us hl => match us, hl with | [_, _], _ => rfl), ?_⟩
  refine F.ok sc_joined_rows (fun vs H Q E h => len_up (fun _ _ h => by obtain ⟨_, _, e, _⟩ := h; rw [e]; rfl) h) (fun cdv A outer s H vs Q E hr h => ⟨t_joined_rows K C, PSs.nox ?_, run_up (fun s c H0 => l_joined_rows Z Y) (pr_joined_rows C) h⟩)
  exact (pss_cons (ps_set (i := 2) sc_joined_rows.nd rfl (Or.inl rfl) (pe_lst pa_nil))
      (pss_cons (ps_set (i := 3) sc_joined_rows.nd rfl (Or.inl rfl) pe_int)
      (pss_cons (ps_for PassesOwn.never rfl (pi_list (pv 0)) (pg_name (i := 4) sc_joined_rows.nd rfl (Or.inl rfl)) (pss_cons (ps_while PassesOwn.never (PW.pt (pw_and (pt_cmpR op_lt (pv 3) (pe_callB call_len_seq rfl B.len (by decide +kernel) (pa_cons (pv 1) pa_nil)) (nomark _)) (pw_and1 (pt_cmpR op_lt_str (pe_ix ix_list (pv 1) (pv 3) (fun _ _ => rfl)) (pv 4) (nomark _))))) (pss_cons (ps_expr (pe_bm PySem.F.plainAttrs_list PySem.F.slot_list_append PySem.F.type_list_append mt_append (pv 2) (pa_cons (pe_ix ix_list (pv 1) (pv 3) (fun _ _ => rfl)) pa_nil)))
      (pss_one (ps_set (i := 3) sc_joined_rows.nd rfl (Or.inl rfl) (pe_op op_add (pv 3) pe_int)))))
      (pss_one (ps_expr (pe_bm PySem.F.plainAttrs_list PySem.F.slot_list_append PySem.F.type_list_append mt_append (pv 2) (pa_cons (pv 4) pa_nil))))))
      (pss_one (ps_ret (pe_frz (pe_op op_cat (pv 2) (pe_slice sl_list (pv 1) (po_some (pv 3)) po_none))))))))
theorem ok_in_order (B : Txt w K mg C) (Z : ClsK K C) (Y : Fl K C) (F : FnP K "in_order" s_in_order f fd) (hm : mg "in_order" = some (.ref f)) (G_joined_rows : OkF P w K mg base "joined_rows" 1 ["first", "second"] (up K (q_joined_rows))) : ∀ n : Nat, OkF P w K mg base "in_order" (n + 1) ["rows"] (up K (q_in_order n))
  | 0 => ⟨f, fd, hm, F.kp, F.bindsN (fun _ _ _ _ _ _ us hl => match us, hl with | [_], _ => rfl), ⟨fun _ _ _ _ h => (let ⟨_, _, _, _, _, z⟩ := h; z.elim), fun _ _ _ _ _ _ _ _ _ _ _ _ _ h => (let ⟨_, _, _, _, _, z⟩ := h; z.elim)⟩⟩
  | n + 1 => by
    have G_in_order := ok_in_order B Z Y F hm G_joined_rows n
    have b : FnOk P w K mg base CX0 (n + 1 + 1) f fd ["rows"] (up K (q_in_order (n + 1))) := by
      refine F.ok (k := n + 1) sc_in_order (fun vs H Q E h => len_up (fun _ _ h => by obtain ⟨_, e, _⟩ := h; rw [e]; rfl) h) (fun cdv A outer s H vs Q E hr h => ⟨t_in_order K C n, PSs.nox ?_, run_up (fun s c H0 => l_in_order Z Y) (pr_in_order C n) h⟩)
      exact (pss_cons (ps_if (pt_cmpR op_lt (pe_callB call_len_seq rfl B.len (by decide +kernel) (pa_cons (pv 0) pa_nil)) pe_int (nomark _)) (pss_one (ps_ret (pe_frz (pe_callTy call_list_of rfl B.list_ (by decide +kernel) (pa_cons (pv 0) pa_nil))))) pss_nil)
      (pss_cons (ps_set (i := 1) sc_in_order.nd rfl (Or.inl rfl) (pe_op op_fdivW (pe_callB call_len_seq rfl B.len (by decide +kernel) (pa_cons (pv 0) pa_nil)) pe_int))
      (pss_one (ps_ret (pe_fn G_joined_rows (hr.mono (by omega)) rfl (pa_cons (pe_fn G_in_order (hr.mono (by omega)) rfl (pa_cons (pe_frz (pe_slice sl_list (pv 0) po_none (po_some (pv 1)))) pa_nil)) (pa_cons (pe_fn G_in_order (hr.mono (by omega)) rfl (pa_cons (pe_frz (pe_slice sl_list (pv 0) (po_some (pv 1)) po_none)) pa_nil)) pa_nil)))))))
    exact ⟨f, fd, hm, F.kp, F.bindsN (fun _ _ _ _ _ _ us hl => match us, hl with | [_], _ => rfl), b.mono (by omega)⟩
theorem ok_distinct (B : Txt w K mg C) (Z : ClsK K C) (Y : Fl K C) (F : FnP K "distinct" s_distinct f fd) (hm : mg "distinct" = some (.ref f)) (G_in_order : OkF P w K mg base "in_order" 10 ["rows"] (up K (q_in_order 9))) : OkF P w K mg base "distinct" 11 ["rows"] (up K (q_distinct)) := by
  refine ⟨f, fd, hm, F.kp, F.bindsN (fun _ _ _ _ _ _ us hl => match us, hl with | [_], _ => rfl), ?_⟩
  refine F.ok sc_distinct (fun vs H Q E h => len_up (fun _ _ h => by obtain ⟨_, e, _⟩ := h; rw [e]; rfl) h) (fun cdv A outer s H vs Q E hr h => ⟨t_distinct K C, PSs.nox ?_, run_up (fun s c H0 => l_distinct Z Y) (pr_distinct C) h⟩)
  exact (pss_cons (ps_set (i := 1) sc_distinct.nd rfl (Or.inr rfl) (pe_fn G_in_order (hr.mono (by omega)) rfl (pa_cons (pv 0) pa_nil)))
      (pss_one (ps_ret (pe_frz (pe_lc (own := [("at", 2), ("row", 3)]) (g := (gTup K 2 (gCons (gName 2) (gCons (gName 3) gNil)))) (tt := (tOr (tTest (tOp rEq (tVar 2) (tC (.int 0)))) (tTest (tOp rNe (tOp (rIxL K) (tVar 1) (tOp rSubI (tVar 2) (tC (.int 1)))) (tVar 3))))) rfl sc_distinct.nd (pi_enum rfl B.enumerate (pa_cons (pv 1) pa_nil)) (blkOk_by (N := n_distinct) (sc := defScope s_distinct) (by decide +kernel)) (fun _ _ _ _ _ => (pg_tup rfl (pgs_cons (pg_name (i := 2) sc_distinct.nd rfl (Or.inl rfl)) (pgs_cons (pg_name (i := 3) sc_distinct.nd rfl (Or.inl rfl)) pgs_nil)))) (fun _ _ _ _ _ => (pts_one (PW.pt (pw_or (pt_cmpR op_eq (pv 2) pe_int (nomark _)) (pw_or1 (pt_cmpR op_ne (pe_ix ix_list (pv 1) (pe_op op_sub (pv 2) pe_int) (fun _ _ => rfl)) (pv 3) (nomark _))))))) (fun _ _ _ _ _ => (pv 3)))))))
theorem ok_Catalog_letters (B : Txt w K mg C) (Z : ClsK K C) (Y : Fl K C) {p : Addr} (M : PropOf K C "letters" p f) (F : FunD K "letters" "Catalog.letters" (defArgs s_Catalog_letters) (defBody s_Catalog_letters) (defScope s_Catalog_letters) [] [] f fd) : OkP P w K mg base C "letters" 1 ["self"] (up K (q_Catalog_letters C)) := by
  refine ⟨p, f, fd, M, F.bindsN (fun _ _ _ _ _ _ us hl => match us, hl with | [_], _ => rfl), ?_⟩
  refine F.ok sc_Catalog_letters (fun vs H Q E h => len_up (fun _ _ h => by obtain ⟨_, e, _⟩ := h; rw [e]; rfl) h) (fun cdv A outer s H vs Q E hr h => ⟨t_Catalog_letters K C, PSs.nox ?_, run_up (fun s c H0 => l_Catalog_letters Z Y) (pr_Catalog_letters C) h⟩)
  exact (pss_one (ps_ret (pe_join pe_str (pe_fldR (pv 0)))))
theorem ok_Catalog_length (B : Txt w K mg C) (Z : ClsK K C) (Y : Fl K C) (M : Meth K C "length" f) (hf : PySem.W.fnIn K f = true) (F : FunD K "length" "Catalog.length" (defArgs s_Catalog_length) (defBody s_Catalog_length) (defScope s_Catalog_length) [] [] f fd) : OkM P w K mg base C "length" 1 ["self", "text"] (up K (q_Catalog_length C)) := by
  refine ⟨f, fd, M, hf, F.bindsN (fun _ _ _ _ _ _ us hl => match us, hl with | [_, _], _ => rfl), ?_⟩
  refine F.ok sc_Catalog_length (fun vs H Q E h => len_up (fun _ _ h => by obtain ⟨_, _, e, _⟩ := h; rw [e]; rfl) h) (fun cdv A outer s H vs Q E hr h => ⟨t_Catalog_length K C, PSs.nox ?_, run_up (fun s c H0 => l_Catalog_length Z Y) (pr_Catalog_length C) h⟩)
  exact (pss_one (ps_ret (pe_callB (cr_sum rfl) rfl B.sum_ (by decide +kernel) (pa_cons (pe_lc (own := [("char", 2)]) (g := (gName 2)) (tt := tYes) rfl sc_Catalog_length.nd (pi_str (pv 1)) (blkOk_by (N := n_Catalog_length) (sc := defScope s_Catalog_length) (by decide +kernel)) (fun _ _ _ _ _ => (pg_name (i := 2) sc_Catalog_length.nd rfl (Or.inl rfl))) (fun _ _ _ _ _ => pts_nil) (fun _ _ _ _ _ => (pe_dget2 (u1 hr) (pe_fldR (pv 0)) (pv 2) pe_int ⟨rfl, rfl, rfl, rfl⟩))) pa_nil))))
theorem ok_Catalog_getitem (B : Txt w K mg C) (Z : ClsK K C) (Y : Fl K C) (M : Meth K C "__getitem__" f) (hf : PySem.W.fnIn K f = true) (F : FunD K "__getitem__" "Catalog.__getitem__" (defArgs s_Catalog_getitem) (defBody s_Catalog_getitem) (defScope s_Catalog_getitem) [] [] f fd) : OkM P w K mg base C "__getitem__" 1 ["self", "char"] (up K (q_Catalog_getitem C)) := by
  refine ⟨f, fd, M, hf, F.bindsN (fun _ _ _ _ _ _ us hl => match us, hl with | [_, _], _ => rfl), ?_⟩
  refine F.ok sc_Catalog_getitem (fun vs H Q E h => len_up (fun _ _ h => by obtain ⟨_, _, e, _⟩ := h; rw [e]; rfl) h) (fun cdv A outer s H vs Q E hr h => ⟨t_Catalog_getitem K C, PSs.nox ?_, run_up (fun s c H0 => l_Catalog_getitem Z Y) (pr_Catalog_getitem C) h⟩)
  exact (pss_one (ps_ret (pe_dget2 (u1 hr) (pe_fldR (pv 0)) (pv 1) pe_int ⟨rfl, rfl, rfl, rfl⟩)))
theorem ok_Catalog_contains (B : Txt w K mg C) (Z : ClsK K C) (Y : Fl K C) (M : Meth K C "__contains__" f) (hf : PySem.W.fnIn K f = true) (F : FunD K "__contains__" "Catalog.__contains__" (defArgs s_Catalog_contains) (defBody s_Catalog_contains) (defScope s_Catalog_contains) [] [] f fd) : OkM P w K mg base C "__contains__" 1 ["self", "char"] (up K (q_Catalog_contains C)) := by
  refine ⟨f, fd, M, hf, F.bindsN (fun _ _ _ _ _ _ us hl => match us, hl with | [_, _], _ => rfl), ?_⟩
  refine F.ok sc_Catalog_contains (fun vs H Q E h => len_up (fun _ _ h => by obtain ⟨_, _, e, _⟩ := h; rw [e]; rfl) h) (fun cdv A outer s H vs Q E hr h => ⟨t_Catalog_contains K C, PSs.nox ?_, run_up (fun s c H0 => l_Catalog_contains Z Y) (pr_Catalog_contains C) h⟩)
  exact (pss_one (ps_ret (pe_cmp (pc_din (u1 hr) (pv 1) (pe_fldR (pv 0))))))
theorem ok_Catalog_eq (B : Txt w K mg C) (Z : ClsK K C) (Y : Fl K C) (M : Meth K C "__eq__" f) (hf : PySem.W.fnIn K f = true) (F : FunD K "__eq__" "Catalog.__eq__" (defArgs s_Catalog_eq) (defBody s_Catalog_eq) (defScope s_Catalog_eq) [] [] f fd) : OkM P w K mg base C "__eq__" 1 ["self", "other"] (up K (q_Catalog_eq C)) := by
  refine ⟨f, fd, M, hf, F.bindsN (fun _ _ _ _ _ _ us hl => match us, hl with | [_, _], _ => rfl), ?_⟩
  refine F.ok sc_Catalog_eq (fun vs H Q E h => len_up (fun _ _ h => by obtain ⟨_, _, e, _⟩ := h; rw [e]; rfl) h) (fun cdv A outer s H vs Q E hr h => ⟨t_Catalog_eq K C, PSs.nox ?_, run_up (fun s c H0 => l_Catalog_eq Z Y) (pr_Catalog_eq C) h⟩)
  exact (pss_one (ps_ret (pe_and (pe_callB call_isiD rfl B.isinstance (by decide +kernel) (pa_cons (pv 1) (pa_cons (pe_glob rfl B.g_Catalog rfl) pa_nil))) (pe_one (pe_cmpR (op_eqDict hr.units0) (pe_fldR (pv 0)) (pe_fldR (pv 1)) (nomark _))))))
theorem ok_law_signs (B : Txt w K mg C) (Z : ClsK K C) (Y : Fl K C) (F : FnP K "_law_signs" s_law_signs f fd) (hm : mg "_law_signs" = some (.ref f)) (G_law_take : OkF P w K mg base "_law_take" 2 ["_law_source_here", "_law_many"] (up K q_law_take)) : OkF P w K mg base "_law_signs" 3 ["_law_source_here", "_law_many"] (up K (q_law_signs)) := by
  refine ⟨f, fd, hm, F.kp, F.bindsN (fun _ _ _ _ _ _ us hl => match us, hl with | [_, _], _ => rfl), ?_⟩
  refine F.ok sc_law_signs (fun vs H Q E h => len_up (fun _ _ h => by obtain ⟨_, e, _⟩ := h; rw [e]; rfl) h) (fun cdv A outer s H vs Q E hr h => ⟨t_law_signs K C, PSs.nox ?_, run_up (fun s c H0 => l_law_signs Z Y) (pr_law_signs C) h⟩)
  exact (pss_cons (ps_set (i := 2) sc_law_signs.nd rfl (Or.inl rfl) pe_str)
      (pss_cons (ps_set (i := 3) sc_law_signs.nd rfl (Or.inr rfl) (pe_lst pa_nil))
      (pss_cons (ps_for PassesOwn.never rfl (pi_range1 rfl B.range (pa_cons (pv 1) pa_nil)) (pg_name (i := 4) sc_law_signs.nd rfl (Or.inl rfl)) (pss_cons (ps_setLc (i := 5) (own := [("_law_char", 6)]) (g := (gName 6)) (tt := (tTest (tOp (rIn K true) (tVar 6) (tVar 3)))) rfl sc_law_signs.nd rfl rfl (sw_true rfl rfl rfl (by decide +kernel)) (pi_str (pv 2)) (blkOk_by (N := n_law_signs) (sc := defScope s_law_signs) (by decide +kernel)) (fun _ _ _ _ _ => (pg_name (i := 6) sc_law_signs.nd rfl (Or.inl rfl))) (fun _ _ _ _ _ => (pts_one (pt_cmpR op_notIn_seq (pv 6) (pv 3) rfl))) (fun _ _ _ _ _ => (pv 6)))
      (pss_one (ps_expr (pe_bm PySem.F.plainAttrs_list PySem.F.slot_list_append PySem.F.type_list_append mt_append (pv 3) (pa_cons (pe_ix ix_list (pv 5) (pe_fn G_law_take (hr.mono (by omega)) rfl (pa_cons (pv 0) (pa_cons (pe_callB call_len_seq rfl B.len (by decide +kernel) (pa_cons (pv 5) pa_nil)) pa_nil))) (fun _ _ => rfl)) pa_nil))))))
      (pss_one (ps_frz 3 (ps_ret (pv 3)))))))
theorem ok_law_text (B : Txt w K mg C) (Z : ClsK K C) (Y : Fl K C) (F : FnP K "_law_text" s_law_text f fd) (hm : mg "_law_text" = some (.ref f)) (G_law_take : OkF P w K mg base "_law_take" 2 ["_law_source_here", "_law_many"] (up K q_law_take)) : OkF P w K mg base "_law_text" 3 ["_law_source_here", "_law_signs_here", "_law_size"] (up K (q_law_text)) := by
  refine ⟨f, fd, hm, F.kp, F.bindsN (fun _ _ _ _ _ _ us hl => match us, hl with | [_, _, _], _ => rfl), ?_⟩
  refine F.ok sc_law_text (fun vs H Q E h => len_up (fun _ _ h => by obtain ⟨_, _, e, _⟩ := h; rw [e]; rfl) h) (fun cdv A outer s H vs Q E hr h => ⟨t_law_text K C, PSs.nox ?_, run_up (fun s c H0 => l_law_text Z Y) (pr_law_text C) h⟩)
  exact (pss_one (ps_ret (pe_join pe_str (pe_lc (own := [("_law_k", 3)]) (g := (gName 3)) (tt := tYes) rfl sc_law_text.nd (pi_range1 rfl B.range (pa_cons (pv 2) pa_nil)) (blkOk_by (N := n_law_text) (sc := defScope s_law_text) (by decide +kernel)) (fun _ _ _ _ _ => (pg_name (i := 3) sc_law_text.nd rfl (Or.inl rfl))) (fun _ _ _ _ _ => pts_nil) (fun _ _ _ _ _ => (pe_ix ix_list (pv 1) (pe_fn G_law_take (hr.mono (by omega)) rfl (pa_cons (pv 0) (pa_cons (pe_callB call_len_seq rfl B.len (by decide +kernel) (pa_cons (pv 1) pa_nil)) pa_nil))) (fun _ _ => rfl)))))))
theorem ok_law_number (B : Txt w K mg C) (Z : ClsK K C) (Y : Fl K C) (F : FnP K "_law_number" s_law_number f fd) (hm : mg "_law_number" = some (.ref f)) (G_law_take : OkF P w K mg base "_law_take" 2 ["_law_source_here", "_law_many"] (up K q_law_take)) : OkF P w K mg base "_law_number" 3 ["_law_source_here"] (up K (q_law_number)) := by
  refine ⟨f, fd, hm, F.kp, F.bindsN (fun _ _ _ _ _ _ us hl => match us, hl with | [_], _ => rfl), ?_⟩
  refine F.ok sc_law_number (fun vs H Q E h => len_up (fun _ _ h => by obtain ⟨e, _⟩ := h; rw [e]; rfl) h) (fun cdv A outer s H vs Q E hr h => ⟨t_law_number K C, PSs.nox ?_, run_up (fun s c H0 => l_law_number Z Y) (pr_law_number C) h⟩)
  exact (pss_cons (ps_set (i := 1) sc_law_number.nd rfl (Or.inl rfl) (pe_fn G_law_take (hr.mono (by omega)) rfl (pa_cons (pv 0) (pa_cons pe_int pa_nil))))
      (pss_cons (ps_set (i := 2) sc_law_number.nd rfl (Or.inl rfl) (pe_op op_sub pe_int (pe_op op_mulW pe_int (pe_fn G_law_take (hr.mono (by omega)) rfl (pa_cons (pv 0) (pa_cons pe_int pa_nil))))))
      (pss_cons (ps_if (pt_cmpR op_eq (pv 1) pe_int (nomark _)) (pss_one (ps_ret pe_int)) pss_nil)
      (pss_cons (ps_if (pt_cmpR op_lt (pv 1) pe_int (nomark _)) (pss_one (ps_ret (pe_op op_sub (pe_fn G_law_take (hr.mono (by omega)) rfl (pa_cons (pv 0) (pa_cons pe_int pa_nil))) pe_int))) pss_nil)
      (pss_cons (ps_if (pt_cmpR op_eq (pv 1) pe_int (nomark _)) (pss_one (ps_ret (pe_op op_mulW (pv 2) (pe_fn G_law_take (hr.mono (by omega)) rfl (pa_cons (pv 0) (pa_cons (pe_op op_pow pe_int pe_int) pa_nil)))))) pss_nil)
      (pss_one (ps_ret (pe_op op_mulW (pv 2) (pe_op op_add (pe_op op_mulW (pe_op op_pow pe_int pe_int) (pe_op op_add pe_int (pe_fn G_law_take (hr.mono (by omega)) rfl (pa_cons (pv 0) (pa_cons pe_int pa_nil))))) (pe_fn G_law_take (hr.mono (by omega)) rfl (pa_cons (pv 0) (pa_cons (pe_op op_pow pe_int pe_int) pa_nil))))))))))))
theorem ok_law_lengths (B : Txt w K mg C) (Z : ClsK K C) (Y : Fl K C) (F : FnP K "_law_lengths" s_law_lengths f fd) (hm : mg "_law_lengths" = some (.ref f)) (G_law_take : OkF P w K mg base "_law_take" 2 ["_law_source_here", "_law_many"] (up K q_law_take)) (G_law_number : OkF P w K mg base "_law_number" 3 ["_law_source_here"] (up K (q_law_number))) : OkF P w K mg base "_law_lengths" 4 ["_law_source_here", "_law_signs_here"] (up K (q_law_lengths)) := by
  refine ⟨f, fd, hm, F.kp, F.bindsN (fun _ _ _ _ _ _ us hl => match us, hl with | [_, _], _ => rfl), ?_⟩
  refine F.ok sc_law_lengths (fun vs H Q E h => len_up (fun _ _ h => by obtain ⟨_, e, _⟩ := h; rw [e]; rfl) h) (fun cdv A outer s H vs Q E hr h => ⟨t_law_lengths K C, PSs.nox ?_, run_up (fun s c H0 => l_law_lengths Z Y) (pr_law_lengths C) h⟩)
  exact (pss_cons (ps_set (i := 2) sc_law_lengths.nd rfl (Or.inl rfl) pe_dnewK)
      (pss_cons (ps_for PassesOwn.never rfl (pi_list (pv 1)) (pg_name (i := 3) sc_law_lengths.nd rfl (Or.inl rfl)) (pss_one (ps_if (pt_cmpR op_gt (pe_fn G_law_take (hr.mono (by omega)) rfl (pa_cons (pv 0) (pa_cons pe_int pa_nil))) pe_int (nomark _)) (pss_one (ps_dput (u1 hr) (pv 2) (pv 3) (pe_fn G_law_number (hr.mono (by omega)) rfl (pa_cons (pv 0) pa_nil)) rfl)) pss_nil)))
      (pss_one (ps_frz 2 (ps_ret (pv 2))))))
theorem ok_law_turned (B : Txt w K mg C) (Z : ClsK K C) (Y : Fl K C) (F : FnP K "_law_turned" s_law_turned f fd) (hm : mg "_law_turned" = some (.ref f)) : OkF P w K mg base "_law_turned" 1 ["_law_lengths_here"] (up K (q_law_turned)) := by
  refine ⟨f, fd, hm, F.kp, F.bindsN (fun _ _ _ _ _ _ us hl => match us, hl with | [_], _ => rfl), ?_⟩
  refine F.ok sc_law_turned (fun vs H Q E h => len_up (fun _ _ h => by obtain ⟨_, e, _⟩ := h; rw [e]; rfl) h) (fun cdv A outer s H vs Q E hr h => ⟨t_law_turned K C, PSs.nox ?_, run_up (fun s c H0 => l_law_turned Z Y) (pr_law_turned C) h⟩)
  exact (pss_cons (ps_set (i := 1) sc_law_turned.nd rfl (Or.inl rfl) pe_dnewK)
      (pss_cons (ps_for PassesOwn.never rfl (pi_list (pe_frz (pe_rev (pe_callTy (call_listD rfl) rfl B.list_ (by decide +kernel) (pa_cons (pv 0) pa_nil)) (pe_un un_neg pe_int)))) (pg_name (i := 2) sc_law_turned.nd rfl (Or.inl rfl)) (pss_one (ps_dput (u1 hr) (pv 1) (pv 2) (pe_dget (u1 hr) (pv 0) (pv 2) (fun _ _ => rfl)) rfl)))
      (pss_one (ps_frz 1 (ps_ret (pv 1))))))
theorem ok_law_is_integer (B : Txt w K mg C) (Z : ClsK K C) (Y : Fl K C) (F : FnP K "_law_is_integer" s_law_is_integer f fd) (hm : mg "_law_is_integer" = some (.ref f)) : OkF P w K mg base "_law_is_integer" 1 ["_law_value"] (up K (q_law_is_integer)) := by
  refine ⟨f, fd, hm, F.kp, F.bindsN (fun _ _ _ _ _ _ us hl => match us, hl with | [_], _ => rfl), ?_⟩
  refine F.ok sc_law_is_integer (fun vs H Q E h => len_up (fun _ _ h => by obtain ⟨_, e, _⟩ := h; rw [e]; rfl) h) (fun cdv A outer s H vs Q E hr h => ⟨t_law_is_integer K C, PSs.nox ?_, run_up (fun s c H0 => l_law_is_integer Z Y) (pr_law_is_integer C) h⟩)
  exact (pss_one (ps_ret (pe_and (pe_callB call_isiD rfl B.isinstance (by decide +kernel) (pa_cons (pv 0) (pa_cons (pe_bltn (v := .ty "int") rfl B.int_ (by decide +kernel) rfl) pa_nil))) (pe_one (pe_not (pe_callB call_isiD rfl B.isinstance (by decide +kernel) (pa_cons (pv 0) (pa_cons (pe_bltn (v := .ty "bool") rfl B.bool_ (by decide +kernel) rfl) pa_nil))))))))
theorem ok_law_combined (B : Txt w K mg C) (Z : ClsK K C) (Y : Fl K C) (F : FnP K "_law_combined" s_law_combined f fd) (hm : mg "_law_combined" = some (.ref f)) : OkF P w K mg base "_law_combined" 1 ["_law_one", "_law_two", "_law_factor"] (up K (q_law_combined)) := by
  refine ⟨f, fd, hm, F.kp, F.bindsN (fun _ _ _ _ _ _ us hl => match us, hl with | [_, _, _], _ => rfl), ?_⟩
  refine F.ok sc_law_combined (fun vs H Q E h => len_up (fun _ _ h => by obtain ⟨_, _, _, e, _⟩ := h; rw [e]; rfl) h) (fun cdv A outer s H vs Q E hr h => ⟨t_law_combined K C, PSs.nox ?_, run_up (fun s c H0 => l_law_combined Z Y) (pr_law_combined C) h⟩)
  exact (pss_cons (ps_set (i := 3) sc_law_combined.nd rfl (Or.inl rfl) pe_dnewK)
      (pss_cons (ps_for PassesOwn.never rfl (pi_list (pe_frz (pe_op op_cat (pe_callTy (call_listD rfl) rfl B.list_ (by decide +kernel) (pa_cons (pv 0) pa_nil)) (pe_callTy (call_listD rfl) rfl B.list_ (by decide +kernel) (pa_cons (pv 1) pa_nil))))) (pg_name (i := 4) sc_law_combined.nd rfl (Or.inl rfl)) (pss_one (ps_dput (u1 hr) (pv 3) (pv 4) (pe_op op_add (pe_dget2 (u1 hr) (pv 0) (pv 4) pe_int ⟨rfl, rfl, rfl, rfl⟩) (pe_op op_mulW (pv 2) (pe_dget2 (u1 hr) (pv 1) (pv 4) pe_int ⟨rfl, rfl, rfl, rfl⟩))) rfl)))
      (pss_one (ps_frz 3 (ps_ret (pv 3))))))
theorem ok_law_scaled (B : Txt w K mg C) (Z : ClsK K C) (Y : Fl K C) (F : FnP K "_law_scaled" s_law_scaled f fd) (hm : mg "_law_scaled" = some (.ref f)) : OkF P w K mg base "_law_scaled" 1 ["_law_lengths_here", "_law_times"] (up K (q_law_scaled)) := by
  refine ⟨f, fd, hm, F.kp, F.bindsN (fun _ _ _ _ _ _ us hl => match us, hl with | [_, _], _ => rfl), ?_⟩
  refine F.ok sc_law_scaled (fun vs H Q E h => len_up (fun _ _ h => by obtain ⟨_, _, e, _⟩ := h; rw [e]; rfl) h) (fun cdv A outer s H vs Q E hr h => ⟨t_law_scaled K C, PSs.nox ?_, run_up (fun s c H0 => l_law_scaled Z Y) (pr_law_scaled C) h⟩)
  exact (pss_cons (ps_set (i := 2) sc_law_scaled.nd rfl (Or.inl rfl) pe_dnewK)
      (pss_cons (ps_for PassesOwn.never rfl (pi_keys (pv 0)) (pg_name (i := 3) sc_law_scaled.nd rfl (Or.inl rfl)) (pss_one (ps_dput (u1 hr) (pv 2) (pv 3) (pe_op op_mulW (pe_dget (u1 hr) (pv 0) (pv 3) (fun _ _ => rfl)) (pv 1)) rfl)))
      (pss_one (ps_frz 2 (ps_ret (pv 2))))))
theorem ok_Catalog_init (B : Txt w K mg C) (Z : ClsK K C) (Y : Fl K C) (M : Mk K C f) (F : FunD K "__init__" "Catalog.__init__" (defArgs s_Catalog_init) (defBody s_Catalog_init) (defScope s_Catalog_init) [] [] f fd) (G_distinct : OkF P w K mg base "distinct" 11 ["rows"] (up K (q_distinct))) : OkI P w K mg base C 12 ["self", "lengths"] (sp_init K C) := by
  refine ⟨f, fd, M, F.bindsN (fun _ _ _ _ _ _ us hl => match us, hl with | [_, _], _ => rfl), ?_⟩
  refine F.ok sc_Catalog_init (fun vs H Q E h => len_init h) (fun cdv A outer s H vs Q E hr h => ⟨t_Catalog_init K C, PSs.nox ?_, run_init Z Y h⟩)
  exact (pss_cons (ps_fld (pv 0) (pe_frz (pe_callTy call_dictD rfl B.dict_ (by decide +kernel) (pa_cons (pv 1) pa_nil))) rfl)
      (pss_one (ps_fld (pv 0) (pe_fn G_distinct (hr.mono (by omega)) rfl (pa_cons (pe_frz (pe_callTy (call_listD rfl) rfl B.list_ (by decide +kernel) (pa_cons (pv 1) pa_nil))) pa_nil)) rfl)))
theorem ok_Catalog_add (B : Txt w K mg C) (Z : ClsK K C) (Y : Fl K C) (M : Meth K C "__add__" f) (hf : PySem.W.fnIn K f = true) (F : FunD K "__add__" "Catalog.__add__" (defArgs s_Catalog_add) (defBody s_Catalog_add) (defScope s_Catalog_add) [] [] f fd) (G_Catalog_letters : OkP P w K mg base C "letters" 1 ["self"] (up K (q_Catalog_letters C))) (G_Catalog_getitem : OkM P w K mg base C "__getitem__" 1 ["self", "char"] (up K (q_Catalog_getitem C))) (G_Catalog_init : OkI P w K mg base C 12 ["self", "lengths"] (sp_init K C)) : OkM P w K mg base C "__add__" 14 ["self", "other"] (up K (q_Catalog_add C)) := by
  refine ⟨f, fd, M, hf, F.bindsN (fun _ _ _ _ _ _ us hl => match us, hl with | [_, _], _ => rfl), ?_⟩
  refine F.ok sc_Catalog_add (fun vs H Q E h => len_up (fun _ _ h => by obtain ⟨_, _, e, _⟩ := h; rw [e]; rfl) h) (fun cdv A outer s H vs Q E hr h => ⟨t_Catalog_add K C, PSs.nox ?_, run_up (fun s c H0 => l_Catalog_add Z Y) (pr_Catalog_add C) h⟩)
  exact (pss_one (ps_ret (pe_frz (pe_mkM G_Catalog_init (hr.mono (by omega)) rfl B.g_Catalog (pa_cons (pe_callTy (call_dictP rfl) rfl B.dict_ (by decide +kernel) (pa_cons (pe_lc (own := [("char", 2)]) (g := (gName 2)) (tt := tYes) rfl sc_Catalog_add.nd (pi_str (pe_op op_add_str (pe_propM (pv 0) G_Catalog_letters (hr.mono (by omega)) Z) (pe_propM (pv 1) G_Catalog_letters (hr.mono (by omega)) Z))) (blkOk_by (N := n_Catalog_add) (sc := defScope s_Catalog_add) (by decide +kernel)) (fun _ _ _ _ _ => (pg_name (i := 2) sc_Catalog_add.nd rfl (Or.inl rfl))) (fun _ _ _ _ _ => pts_nil) (fun _ _ _ _ _ => (pe_tup (pa_cons (pv 2) (pa_cons (pe_op op_add (pe_ixM G_Catalog_getitem (hr.mono (by omega)) (pv 0) (pv 2)) (pe_ixM G_Catalog_getitem (hr.mono (by omega)) (pv 1) (pv 2))) pa_nil))))) pa_nil)) pa_nil)))))
theorem ok_Catalog_sub (B : Txt w K mg C) (Z : ClsK K C) (Y : Fl K C) (M : Meth K C "__sub__" f) (hf : PySem.W.fnIn K f = true) (F : FunD K "__sub__" "Catalog.__sub__" (defArgs s_Catalog_sub) (defBody s_Catalog_sub) (defScope s_Catalog_sub) [] [] f fd) (G_Catalog_letters : OkP P w K mg base C "letters" 1 ["self"] (up K (q_Catalog_letters C))) (G_Catalog_getitem : OkM P w K mg base C "__getitem__" 1 ["self", "char"] (up K (q_Catalog_getitem C))) (G_Catalog_init : OkI P w K mg base C 12 ["self", "lengths"] (sp_init K C)) : OkM P w K mg base C "__sub__" 14 ["self", "other"] (up K (q_Catalog_sub C)) := by
  refine ⟨f, fd, M, hf, F.bindsN (fun _ _ _ _ _ _ us hl => match us, hl with | [_, _], _ => rfl), ?_⟩
  refine F.ok sc_Catalog_sub (fun vs H Q E h => len_up (fun _ _ h => by obtain ⟨_, _, e, _⟩ := h; rw [e]; rfl) h) (fun cdv A outer s H vs Q E hr h => ⟨t_Catalog_sub K C, PSs.nox ?_, run_up (fun s c H0 => l_Catalog_sub Z Y) (pr_Catalog_sub C) h⟩)
  exact (pss_one (ps_ret (pe_frz (pe_mkM G_Catalog_init (hr.mono (by omega)) rfl B.g_Catalog (pa_cons (pe_callTy (call_dictP rfl) rfl B.dict_ (by decide +kernel) (pa_cons (pe_lc (own := [("char", 2)]) (g := (gName 2)) (tt := tYes) rfl sc_Catalog_sub.nd (pi_str (pe_op op_add_str (pe_propM (pv 0) G_Catalog_letters (hr.mono (by omega)) Z) (pe_propM (pv 1) G_Catalog_letters (hr.mono (by omega)) Z))) (blkOk_by (N := n_Catalog_sub) (sc := defScope s_Catalog_sub) (by decide +kernel)) (fun _ _ _ _ _ => (pg_name (i := 2) sc_Catalog_sub.nd rfl (Or.inl rfl))) (fun _ _ _ _ _ => pts_nil) (fun _ _ _ _ _ => (pe_tup (pa_cons (pv 2) (pa_cons (pe_op op_sub (pe_ixM G_Catalog_getitem (hr.mono (by omega)) (pv 0) (pv 2)) (pe_ixM G_Catalog_getitem (hr.mono (by omega)) (pv 1) (pv 2))) pa_nil))))) pa_nil)) pa_nil)))))
theorem ok_Catalog_mul (B : Txt w K mg C) (Z : ClsK K C) (Y : Fl K C) (M : Meth K C "__mul__" f) (hf : PySem.W.fnIn K f = true) (F : FunD K "__mul__" "Catalog.__mul__" (defArgs s_Catalog_mul) (defBody s_Catalog_mul) (defScope s_Catalog_mul) [] [] f fd) (G_Catalog_letters : OkP P w K mg base C "letters" 1 ["self"] (up K (q_Catalog_letters C))) (G_Catalog_getitem : OkM P w K mg base C "__getitem__" 1 ["self", "char"] (up K (q_Catalog_getitem C))) (G_Catalog_init : OkI P w K mg base C 12 ["self", "lengths"] (sp_init K C)) : OkM P w K mg base C "__mul__" 14 ["self", "times"] (up K (q_Catalog_mul C)) := by
  refine ⟨f, fd, M, hf, F.bindsN (fun _ _ _ _ _ _ us hl => match us, hl with | [_, _], _ => rfl), ?_⟩
  refine F.ok sc_Catalog_mul (fun vs H Q E h => len_up (fun _ _ h => by obtain ⟨_, _, e, _⟩ := h; rw [e]; rfl) h) (fun cdv A outer s H vs Q E hr h => ⟨t_Catalog_mul K C, PSs.nox ?_, run_up (fun s c H0 => l_Catalog_mul Z Y) (pr_Catalog_mul C) h⟩)
  exact (pss_one (ps_ret (pe_frz (pe_mkM G_Catalog_init (hr.mono (by omega)) rfl B.g_Catalog (pa_cons (pe_callTy (call_dictP rfl) rfl B.dict_ (by decide +kernel) (pa_cons (pe_lc (own := [("char", 2)]) (g := (gName 2)) (tt := tYes) rfl sc_Catalog_mul.nd (pi_str (pe_propM (pv 0) G_Catalog_letters (hr.mono (by omega)) Z)) (blkOk_by (N := n_Catalog_mul) (sc := defScope s_Catalog_mul) (by decide +kernel)) (fun _ _ _ _ _ => (pg_name (i := 2) sc_Catalog_mul.nd rfl (Or.inl rfl))) (fun _ _ _ _ _ => pts_nil) (fun _ _ _ _ _ => (pe_tup (pa_cons (pv 2) (pa_cons (pe_op op_mulW (pe_ixM G_Catalog_getitem (hr.mono (by omega)) (pv 0) (pv 2)) (pv 1)) pa_nil))))) pa_nil)) pa_nil)))))
theorem ok_Catalog_rmul (B : Txt w K mg C) (Z : ClsK K C) (Y : Fl K C) {h : Addr} (M_rmul : Meth K C "__rmul__" h) (M : Meth K C "__rmul__" f) (hf : PySem.W.fnIn K f = true) (F : FunD K "__rmul__" "Catalog.__rmul__" (defArgs s_Catalog_rmul) (defBody s_Catalog_rmul) (defScope s_Catalog_rmul) [] [] f fd) (G_Catalog_mul : OkM P w K mg base C "__mul__" 14 ["self", "times"] (up K (q_Catalog_mul C))) : OkM P w K mg base C "__rmul__" 15 ["self", "times"] (up K (q_Catalog_rmul C)) := by
  refine ⟨f, fd, M, hf, F.bindsN (fun _ _ _ _ _ _ us hl => match us, hl with | [_, _], _ => rfl), ?_⟩
  refine F.ok sc_Catalog_rmul (fun vs H Q E h => len_up (fun _ _ h => by obtain ⟨_, _, e, _⟩ := h; rw [e]; rfl) h) (fun cdv A outer s H vs Q E hr h => ⟨t_Catalog_rmul K C, PSs.nox ?_, run_up (fun s c H0 => l_Catalog_rmul Z Y) (pr_Catalog_rmul C) h⟩)
  exact (pss_one (ps_ret (pe_op (opM_mulA M_rmul G_Catalog_mul (hr.mono (by omega)) Z) (pv 0) (pv 1))))
theorem ok_law_equal_right (B : Txt w K mg C) (Z : ClsK K C) (Y : Fl K C) (F : FnP K "_law_equal_right" s_law_equal_right f fd) (hm : mg "_law_equal_right" = some (.ref f)) (G_Catalog_init : OkI P w K mg base C 12 ["self", "lengths"] (sp_init K C)) (G_Catalog_eq : OkM P w K mg base C "__eq__" 1 ["self", "other"] (up K (q_Catalog_eq C))) : OkF P w K mg base "_law_equal_right" 14 ["_law_one", "_law_lengths_here", "_law_other"] (up K (q_law_equal_right C)) := by
  refine ⟨f, fd, hm, F.kp, F.bindsN (fun _ _ _ _ _ _ us hl => match us, hl with | [_, _, _], _ => rfl), ?_⟩
  refine F.ok sc_law_equal_right (fun vs H Q E h => len_up (fun _ _ h => by obtain ⟨_, _, _, e, _⟩ := h; rw [e]; rfl) h) (fun cdv A outer s H vs Q E hr h => ⟨t_law_equal_right K C, PSs.nox ?_, run_up (fun s c H0 => l_law_equal_right Z Y) (pr_law_equal_right C) h⟩)
  exact (pss_cons (ps_set (i := 3) sc_law_equal_right.nd rfl (Or.inl rfl) (pe_cmpR (opM_eq G_Catalog_eq (hr.mono (by omega))) (pv 0) (pe_frz (pe_mkM G_Catalog_init (hr.mono (by omega)) rfl B.g_Catalog (pa_cons (pv 2) pa_nil))) (nomark _)))
      (pss_cons (ps_set (i := 4) sc_law_equal_right.nd rfl (Or.inl rfl) (pe_cmpR (opM_eq G_Catalog_eq (hr.mono (by omega))) (pe_frz (pe_mkM G_Catalog_init (hr.mono (by omega)) rfl B.g_Catalog (pa_cons (pv 2) pa_nil))) (pv 0) (nomark _)))
      (pss_one (ps_ret (pe_and (pe_callB call_isiD rfl B.isinstance (by decide +kernel) (pa_cons (pv 3) (pa_cons (pe_bltn (v := .ty "bool") rfl B.bool_ (by decide +kernel) rfl) pa_nil))) (pe_and (pe_cmpR op_eq (pv 3) (pe_cmpR (op_eqDict hr.units0) (pv 1) (pv 2) (nomark _)) (nomark _)) (pe_and (pe_callB call_isiD rfl B.isinstance (by decide +kernel) (pa_cons (pv 4) (pa_cons (pe_bltn (v := .ty "bool") rfl B.bool_ (by decide +kernel) rfl) pa_nil))) (pe_one (pe_cmpR op_eq (pv 4) (pv 3) (nomark _))))))))))
theorem ok_law_equals_right (B : Txt w K mg C) (Z : ClsK K C) (Y : Fl K C) (F : FnP K "_law_equals_right" s_law_equals_right f fd) (hm : mg "_law_equals_right" = some (.ref f)) (G_law_turned : OkF P w K mg base "_law_turned" 1 ["_law_lengths_here"] (up K (q_law_turned))) (G_law_equal_right : OkF P w K mg base "_law_equal_right" 14 ["_law_one", "_law_lengths_here", "_law_other"] (up K (q_law_equal_right C))) (G_law_take : OkF P w K mg base "_law_take" 2 ["_law_source_here", "_law_many"] (up K q_law_take)) : OkF P w K mg base "_law_equals_right" 15 ["_law_source_here", "_law_catalog", "_law_lengths_here", "_law_signs_here"] (up K (q_law_equals_right C)) := by
  refine ⟨f, fd, hm, F.kp, F.bindsN (fun _ _ _ _ _ _ us hl => match us, hl with | [_, _, _, _], _ => rfl), ?_⟩
  refine F.ok sc_law_equals_right (fun vs H Q E h => len_up (fun _ _ h => by obtain ⟨_, _, _, e, _⟩ := h; rw [e]; rfl) h) (fun cdv A outer s H vs Q E hr h => ⟨t_law_equals_right K C, PSs.nox ?_, run_up (fun s c H0 => l_law_equals_right Z Y) (pr_law_equals_right C) h⟩)
  exact (pss_cons (ps_if (pt_not (pt_val (pe_fn G_law_equal_right (hr.mono (by omega)) rfl (pa_cons (pv 1) (pa_cons (pv 2) (pa_cons (pe_fn G_law_turned (hr.mono (by omega)) rfl (pa_cons (pv 2) pa_nil)) pa_nil)))))) (pss_one (ps_ret pe_bl)) pss_nil)
      (pss_cons (ps_set (i := 4) sc_law_equals_right.nd rfl (Or.inl rfl) (pe_ix ix_list (pv 3) (pe_fn G_law_take (hr.mono (by omega)) rfl (pa_cons (pv 0) (pa_cons (pe_callB call_len_seq rfl B.len (by decide +kernel) (pa_cons (pv 3) pa_nil)) pa_nil))) (fun _ _ => rfl)))
      (pss_cons (ps_set (i := 5) sc_law_equals_right.nd rfl (Or.inl rfl) (pe_callTy call_dictD rfl B.dict_ (by decide +kernel) (pa_cons (pv 2) pa_nil)))
      (pss_cons (ps_dput (u1 hr) (pv 5) (pv 4) (pe_op op_sub (pe_op op_add (pe_dget2 (u1 hr) (pv 2) (pv 4) pe_int ⟨rfl, rfl, rfl, rfl⟩) pe_int) (pe_op op_mulW pe_int (pe_fn G_law_take (hr.mono (by omega)) rfl (pa_cons (pv 0) (pa_cons pe_int pa_nil))))) rfl)
      (pss_cons (ps_set (i := 6) sc_law_equals_right.nd rfl (Or.inl rfl) (pe_callTy call_dictD rfl B.dict_ (by decide +kernel) (pa_cons (pv 2) pa_nil)))
      (pss_cons (ps_dput (u1 hr) (pv 6) (pv 4) (pe_dget2 (u1 hr) (pv 2) (pv 4) pe_int ⟨rfl, rfl, rfl, rfl⟩) rfl)
      (pss_cons (ps_set (i := 7) sc_law_equals_right.nd rfl (Or.inl rfl) pe_dnewK)
      (pss_cons (ps_for PassesOwn.never rfl (pi_keys (pv 2)) (pg_name (i := 8) sc_law_equals_right.nd rfl (Or.inl rfl)) (pss_one (ps_if (pt_cmpR op_ne (pv 8) (pv 4) (nomark _)) (pss_one (ps_dput (u1 hr) (pv 7) (pv 8) (pe_dget (u1 hr) (pv 2) (pv 8) (fun _ _ => rfl)) rfl)) pss_nil)))
      (pss_cons (ps_frz 5 (ps_frz 6 (ps_frz 7 (ps_for PassesOwn.never rfl (pi_list (pe_frz (pe_lst (pa_cons (pv 5) (pa_cons (pv 6) (pa_cons (pv 7) pa_nil)))))) (pg_name (i := 9) sc_law_equals_right.nd rfl (Or.inl rfl)) (pss_one (ps_if (pt_not (pt_val (pe_fn G_law_equal_right (hr.mono (by omega)) rfl (pa_cons (pv 1) (pa_cons (pv 2) (pa_cons (pv 9) pa_nil)))))) (pss_one (ps_ret pe_bl)) pss_nil))))))
      (pss_one (ps_ret pe_bl)))))))))))
theorem ok_Catalog_iter (B : Txt w K mg C) (Z : ClsK K C) (Y : Fl K C) (M : Meth K C "__iter__" f) (F : FunD K "__iter__" "Catalog.__iter__" (defArgs s_Catalog_iter) (defBody s_Catalog_iter) (defScope s_Catalog_iter) [] [] f fd) : OkIt P w K mg base C "_letters" 1 ["self"] := by
  refine ⟨f, fd, M, F.bindsN (fun _ _ _ _ _ _ us hl => match us, hl with | [_], _ => rfl), ?_⟩
  refine nok_of F sc_Catalog_iter (fun n vs H Q E h => len_itF h) (fun cdv A outer s H vs Q E hr h => ⟨tRet (tCB (ItX.rIterN K s.heap.objs.size) (tCons (tFldR K (tVar 0) "_letters") tNil)), PSs.nox ?_, ?_⟩)
  · exact (pss_one (ps_ret (pe_callB ItX.call_iterN rfl B.iter_ (by decide +kernel) (pa_cons (pe_fldR (pv 0)) pa_nil))))
  · obtain ⟨a, dx, l, fs, xs, rfl, ha, hl, hx, q⟩ := h
    exact ⟨_, rfl, a, C, dx, fs, _, rfl, ha, Z.cls, Y.n_letters, hl, l, xs, rfl, hx, fun it h1 h2 => q it h1 h2⟩
theorem ok_law_fits (B : Txt w K mg C) (Z : ClsK K C) (Y : Fl K C) (F : FnP K "_law_fits" s_law_fits f fd) (hm : mg "_law_fits" = some (.ref f)) (G_Catalog_letters : OkP P w K mg base C "letters" 1 ["self"] (up K (q_Catalog_letters C))) (G_Catalog_iter : OkIt P w K mg base C "_letters" 1 ["self"]) (G_Catalog_getitem : OkM P w K mg base C "__getitem__" 1 ["self", "char"] (up K (q_Catalog_getitem C))) (G_law_is_integer : OkF P w K mg base "_law_is_integer" 1 ["_law_value"] (up K (q_law_is_integer))) (G_Catalog_contains : OkM P w K mg base C "__contains__" 1 ["self", "char"] (up K (q_Catalog_contains C))) (G_Catalog_length : OkM P w K mg base C "length" 1 ["self", "text"] (up K (q_Catalog_length C))) : OkF P w K mg base "_law_fits" 4 ["_law_catalog", "_law_lengths_here", "_law_signs_here", "_law_texts"] (up K (q_law_fits C)) := by
  refine ⟨f, fd, hm, F.kp, F.bindsN (fun _ _ _ _ _ _ us hl => match us, hl with | [_, _, _, _], _ => rfl), ?_⟩
  refine F.ok sc_law_fits (fun vs H Q E h => len_up (fun _ _ h => by obtain ⟨_, _, _, _, e, _⟩ := h; rw [e]; rfl) h) (fun cdv A outer s H vs Q E hr h => ⟨t_law_fits K C, PSs.nox ?_, run_up (fun s c H0 => l_law_fits Z Y) (pr_law_fits C) h⟩)
  exact (pss_cons (ps_if (pt_not (pt_val (pe_callB call_isiD rfl B.isinstance (by decide +kernel) (pa_cons (pv 0) (pa_cons (pe_glob rfl B.g_Catalog rfl) pa_nil))))) (pss_one (ps_ret pe_bl)) pss_nil)
      (pss_cons (ps_set (i := 4) sc_law_fits.nd rfl (Or.inl rfl) (pe_frz (pe_callB (cr_sortedL (u2 hr)) rfl B.sorted (by decide +kernel) (pa_cons (pe_lc (own := [("_law_char", 5)]) (g := (gName 5)) (tt := tYes) rfl sc_law_fits.nd (pi_keys (pv 1)) (blkOk_by (N := n_law_fits) (sc := defScope s_law_fits) (by decide +kernel)) (fun _ _ _ _ _ => (pg_name (i := 5) sc_law_fits.nd rfl (Or.inl rfl))) (fun _ _ _ _ _ => pts_nil) (fun _ _ _ _ _ => (pe_callTy SkE.call_str_str rfl B.str_ (by decide +kernel) (pa_cons (pv 5) pa_nil)))) pa_nil))))
      (pss_cons (ps_if (PW.pt (pw_or (pt_cmpR op_ne (pe_propM (pv 0) G_Catalog_letters (hr.mono (by omega)) Z) (pe_join pe_str (pv 4)) (nomark _)) (pw_or (pt_cmpR (op_neD hr.units) (pe_callTy (call_listM rfl G_Catalog_iter (hr.mono (by omega)) Z) rfl B.list_ (by decide +kernel) (pa_cons (pv 0) pa_nil)) (pv 4) (nomark _)) (pw_or1 (pt_cmpR (op_neD hr.units) (pe_lc (own := [("_law_char", 5)]) (g := (gName 5)) (tt := tYes) rfl sc_law_fits.nd (pi_itM G_Catalog_iter (hr.mono (by omega)) (pv 0)) (blkOk_by (N := n_law_fits) (sc := defScope s_law_fits) (by decide +kernel)) (fun _ _ _ _ _ => (pg_name (i := 5) sc_law_fits.nd rfl (Or.inl rfl))) (fun _ _ _ _ _ => pts_nil) (fun _ _ _ _ _ => (pv 5))) (pv 4) (nomark _)))))) (pss_one (ps_ret pe_bl)) pss_nil)
      (pss_cons (ps_for PassesOwn.never rfl (pi_list (pv 2)) (pg_name (i := 5) sc_law_fits.nd rfl (Or.inl rfl)) (pss_cons (ps_if (PW.pt (pw_or (pt_not (pt_val (pe_fn G_law_is_integer (hr.mono (by omega)) rfl (pa_cons (pe_ixM G_Catalog_getitem (hr.mono (by omega)) (pv 0) (pv 5)) pa_nil)))) (pw_or1 (pt_cmpR op_ne (pe_ixM G_Catalog_getitem (hr.mono (by omega)) (pv 0) (pv 5)) (pe_dget2 (u1 hr) (pv 1) (pv 5) pe_int ⟨rfl, rfl, rfl, rfl⟩) (nomark _))))) (pss_one (ps_ret pe_bl)) pss_nil)
      (pss_one (ps_if (pt_cmpR op_ne (pe_cmpR (opM_in G_Catalog_contains (hr.mono (by omega))) (pv 5) (pv 0) rfl) (pe_cmp (pc_din (u1 hr) (pv 5) (pv 1))) (nomark _)) (pss_one (ps_ret pe_bl)) pss_nil))))
      (pss_cons (ps_for PassesOwn.never rfl (pi_list (pv 3)) (pg_name (i := 6) sc_law_fits.nd rfl (Or.inl rfl)) (pss_cons (ps_set (i := 7) sc_law_fits.nd rfl (Or.inl rfl) (pe_methM (pv 0) G_Catalog_length (hr.mono (by omega)) Z (pa_cons (pv 6) pa_nil)))
      (pss_one (ps_if (PW.pt (pw_or (pt_not (pt_val (pe_fn G_law_is_integer (hr.mono (by omega)) rfl (pa_cons (pv 7) pa_nil)))) (pw_or1 (pt_cmpR op_ne (pv 7) (pe_callB (cr_sum rfl) rfl B.sum_ (by decide +kernel) (pa_cons (pe_lc (own := [("_law_char", 5)]) (g := (gName 5)) (tt := tYes) rfl sc_law_fits.nd (pi_str (pv 6)) (blkOk_by (N := n_law_fits) (sc := defScope s_law_fits) (by decide +kernel)) (fun _ _ _ _ _ => (pg_name (i := 5) sc_law_fits.nd rfl (Or.inl rfl))) (fun _ _ _ _ _ => pts_nil) (fun _ _ _ _ _ => (pe_dget2 (u1 hr) (pv 1) (pv 5) pe_int ⟨rfl, rfl, rfl, rfl⟩))) pa_nil)) (nomark _))))) (pss_one (ps_ret pe_bl)) pss_nil))))
      (pss_one (ps_ret pe_bl)))))))
theorem okAt_law (B : Txt w K mg C) (Z : ClsK K C) (Y : Fl K C) (F : FnP K "law" s_law f fd) (G_law_source : OkF P w K mg base "_law_source" 1 ["_law_script"] (sp_law_source K)) (G_law_take : OkF P w K mg base "_law_take" 2 ["_law_source_here", "_law_many"] (up K q_law_take)) (G_law_signs : OkF P w K mg base "_law_signs" 3 ["_law_source_here", "_law_many"] (up K (q_law_signs))) (G_law_lengths : OkF P w K mg base "_law_lengths" 4 ["_law_source_here", "_law_signs_here"] (up K (q_law_lengths))) (G_law_number : OkF P w K mg base "_law_number" 3 ["_law_source_here"] (up K (q_law_number))) (G_law_text : OkF P w K mg base "_law_text" 3 ["_law_source_here", "_law_signs_here", "_law_size"] (up K (q_law_text))) (G_Catalog_init : OkI P w K mg base C 12 ["self", "lengths"] (sp_init K C)) (G_Catalog_add : OkM P w K mg base C "__add__" 14 ["self", "other"] (up K (q_Catalog_add C))) (G_law_combined : OkF P w K mg base "_law_combined" 1 ["_law_one", "_law_two", "_law_factor"] (up K (q_law_combined))) (G_Catalog_sub : OkM P w K mg base C "__sub__" 14 ["self", "other"] (up K (q_Catalog_sub C))) (G_Catalog_mul : OkM P w K mg base C "__mul__" 14 ["self", "times"] (up K (q_Catalog_mul C))) (G_Catalog_rmul : OkM P w K mg base C "__rmul__" 15 ["self", "times"] (up K (q_Catalog_rmul C))) (G_law_scaled : OkF P w K mg base "_law_scaled" 1 ["_law_lengths_here", "_law_times"] (up K (q_law_scaled))) (G_law_fits : OkF P w K mg base "_law_fits" 4 ["_law_catalog", "_law_lengths_here", "_law_signs_here", "_law_texts"] (up K (q_law_fits C))) (G_law_equals_right : OkF P w K mg base "_law_equals_right" 15 ["_law_source_here", "_law_catalog", "_law_lengths_here", "_law_signs_here"] (up K (q_law_equals_right C))) (G_Catalog_letters : OkP P w K mg base C "letters" 1 ["self"] (up K (q_Catalog_letters C))) (G_Catalog_eq : OkM P w K mg base C "__eq__" 1 ["self", "other"] (up K (q_Catalog_eq C))) (G_law_equal_right : OkF P w K mg base "_law_equal_right" 14 ["_law_one", "_law_lengths_here", "_law_other"] (up K (q_law_equal_right C))) : GOk P w K mg base 16 f fd ["_law_script"] (sp_top K) := by
  refine gok_of F sc_law (fun vs H Q E h => len_top h) (fun cdv A outer s H vs Q E gd hr h => ⟨tSeq (tAsg (tCall (sp_law_source K) [] E0 (tCons (tVar 0) tNil)) (gName 1)) (t_law K C), PSs.nox ?_, run_top (N := n_law) (fun s c H0 => l_law Z Y) rfl (by decide) (pr_law C) h⟩)
  exact (pss_cons (ps_set (i := 1) sc_law.nd rfl (Or.inr rfl) (pe_fn G_law_source (hr.mono (by omega)) rfl (pa_cons (pv 0) pa_nil)))
      (pss_cons (ps_set (i := 2) sc_law.nd rfl (Or.inl rfl) (pe_op op_add pe_int (pe_fn G_law_take (hr.mono (by omega)) rfl (pa_cons (pv 1) (pa_cons pe_int pa_nil)))))
      (pss_cons (ps_if (pt_cmpR op_eq (pe_fn G_law_take (hr.mono (by omega)) rfl (pa_cons (pv 1) (pa_cons pe_int pa_nil))) pe_int (nomark _)) (pss_one (ps_set (i := 2) sc_law.nd rfl (Or.inl rfl) (pe_op op_add pe_int (pe_fn G_law_take (hr.mono (by omega)) rfl (pa_cons (pv 1) (pa_cons pe_int pa_nil)))))) pss_nil)
      (pss_cons (ps_set (i := 3) sc_law.nd rfl (Or.inr rfl) (pe_fn G_law_signs (hr.mono (by omega)) rfl (pa_cons (pv 1) (pa_cons (pv 2) pa_nil))))
      (pss_cons (ps_set (i := 4) sc_law.nd rfl (Or.inl rfl) (pe_fn G_law_lengths (hr.mono (by omega)) rfl (pa_cons (pv 1) (pa_cons (pv 3) pa_nil))))
      (pss_cons (ps_set (i := 5) sc_law.nd rfl (Or.inl rfl) (pe_fn G_law_lengths (hr.mono (by omega)) rfl (pa_cons (pv 1) (pa_cons (pv 3) pa_nil))))
      (pss_cons (ps_set (i := 6) sc_law.nd rfl (Or.inl rfl) (pe_fn G_law_number (hr.mono (by omega)) rfl (pa_cons (pv 1) pa_nil)))
      (pss_cons (ps_set (i := 7) sc_law.nd rfl (Or.inl rfl) (pe_frz (pe_op op_cat (pe_lc (own := [("_law_k", 15)]) (g := (gName 15)) (tt := tYes) rfl sc_law.nd (pi_range1 rfl B.range (pa_cons pe_int pa_nil)) (blkOk_by (N := n_law) (sc := defScope s_law) (by decide +kernel)) (fun _ _ _ _ _ => (pg_name (i := 15) sc_law.nd rfl (Or.inl rfl))) (fun _ _ _ _ _ => pts_nil) (fun _ _ _ _ _ => (pe_fn G_law_text (hr.mono (by omega)) rfl (pa_cons (pv 1) (pa_cons (pv 3) (pa_cons (pe_fn G_law_take (hr.mono (by omega)) rfl (pa_cons (pv 1) (pa_cons pe_int pa_nil))) pa_nil)))))) (pe_lst (pa_cons (pe_join pe_str (pv 3)) pa_nil)))))
      (pss_cons (ps_set (i := 8) sc_law.nd rfl (Or.inl rfl) (pe_callTy call_dictD rfl B.dict_ (by decide +kernel) (pa_cons (pv 4) pa_nil)))
      (pss_cons (ps_set (i := 9) sc_law.nd rfl (Or.inl rfl) (pe_frz (pe_mkM G_Catalog_init (hr.mono (by omega)) rfl B.g_Catalog (pa_cons (pv 8) pa_nil))))
      (pss_cons (ps_dput (u1 hr) (pv 8) (pe_ix ix_list (pv 3) pe_int (fun _ _ => rfl)) (pe_op op_add (pe_dget2 (u1 hr) (pv 8) (pe_ix ix_list (pv 3) pe_int (fun _ _ => rfl)) pe_int ⟨rfl, rfl, rfl, rfl⟩) pe_int) rfl)
      (pss_cons (ps_set (i := 10) sc_law.nd rfl (Or.inl rfl) (pe_frz (pe_mkM G_Catalog_init (hr.mono (by omega)) rfl B.g_Catalog (pa_cons (pe_callTy call_dictD rfl B.dict_ (by decide +kernel) (pa_cons (pv 5) pa_nil)) pa_nil))))
      (pss_cons (ps_set (i := 11) sc_law.nd rfl (Or.inl rfl) (pe_lst (pa_cons (pe_tup (pa_cons (pv 9) (pa_cons (pv 4) pa_nil))) (pa_cons (pe_tup (pa_cons (pv 10) (pa_cons (pv 5) pa_nil))) (pa_cons (pe_tup (pa_cons (pe_op (opM (op := .Add) G_Catalog_add (hr.mono (by omega)) Z) (pv 9) (pv 10)) (pa_cons (pe_fn G_law_combined (hr.mono (by omega)) rfl (pa_cons (pv 4) (pa_cons (pv 5) (pa_cons pe_int pa_nil)))) pa_nil))) pa_nil)))))
      (pss_cons (ps_expr (pe_bm PySem.F.plainAttrs_list PySem.F.slot_list_append PySem.F.type_list_append mt_append (pv 11) (pa_cons (pe_tup (pa_cons (pe_op (opM (op := .Sub) G_Catalog_sub (hr.mono (by omega)) Z) (pv 9) (pv 10)) (pa_cons (pe_fn G_law_combined (hr.mono (by omega)) rfl (pa_cons (pv 4) (pa_cons (pv 5) (pa_cons (pe_un un_neg pe_int) pa_nil)))) pa_nil))) pa_nil)))
      (pss_cons (ps_expr (pe_bm PySem.F.plainAttrs_list PySem.F.slot_list_append PySem.F.type_list_append mt_append (pv 11) (pa_cons (pe_tup (pa_cons (pe_op (opM_mulI G_Catalog_mul G_Catalog_rmul (hr.mono (by omega)) Z) (pv 9) (pv 6)) (pa_cons (pe_fn G_law_scaled (hr.mono (by omega)) rfl (pa_cons (pv 4) (pa_cons (pv 6) pa_nil))) pa_nil))) pa_nil)))
      (pss_cons (ps_expr (pe_bm PySem.F.plainAttrs_list PySem.F.slot_list_append PySem.F.type_list_append mt_append (pv 11) (pa_cons (pe_tup (pa_cons (pe_op (opM_Imul G_Catalog_mul G_Catalog_rmul (hr.mono (by omega)) Z) (pv 6) (pv 10)) (pa_cons (pe_fn G_law_scaled (hr.mono (by omega)) rfl (pa_cons (pv 5) (pa_cons (pv 6) pa_nil))) pa_nil))) pa_nil)))
      (pss_cons (ps_expr (pe_bm PySem.F.plainAttrs_list PySem.F.slot_list_append PySem.F.type_list_append mt_append (pv 11) (pa_cons (pe_tup (pa_cons (pe_op (opM_mulI G_Catalog_mul G_Catalog_rmul (hr.mono (by omega)) Z) (pe_op (opM (op := .Add) G_Catalog_add (hr.mono (by omega)) Z) (pv 9) (pv 10)) (pv 6)) (pa_cons (pe_fn G_law_scaled (hr.mono (by omega)) rfl (pa_cons (pe_fn G_law_combined (hr.mono (by omega)) rfl (pa_cons (pv 4) (pa_cons (pv 5) (pa_cons pe_int pa_nil)))) (pa_cons (pv 6) pa_nil))) pa_nil))) pa_nil)))
      (pss_cons (ps_set (i := 12) sc_law.nd rfl (Or.inl rfl) (pe_fn G_law_combined (hr.mono (by omega)) rfl (pa_cons (pe_fn G_law_combined (hr.mono (by omega)) rfl (pa_cons (pv 4) (pa_cons (pv 5) (pa_cons pe_int pa_nil)))) (pa_cons (pv 5) (pa_cons (pe_un un_neg pe_int) pa_nil)))))
      (pss_cons (ps_expr (pe_bm PySem.F.plainAttrs_list PySem.F.slot_list_append PySem.F.type_list_append mt_append (pv 11) (pa_cons (pe_tup (pa_cons (pe_op (opM (op := .Sub) G_Catalog_sub (hr.mono (by omega)) Z) (pe_op (opM (op := .Add) G_Catalog_add (hr.mono (by omega)) Z) (pv 9) (pv 10)) (pv 10)) (pa_cons (pv 12) pa_nil))) pa_nil)))
      (pss_cons (ps_expr (pe_bm PySem.F.plainAttrs_list PySem.F.slot_list_append PySem.F.type_list_append mt_append (pv 11) (pa_cons (pe_tup (pa_cons (pv 9) (pa_cons (pv 4) pa_nil))) pa_nil)))
      (pss_cons (ps_expr (pe_bm PySem.F.plainAttrs_list PySem.F.slot_list_append PySem.F.type_list_append mt_append (pv 11) (pa_cons (pe_tup (pa_cons (pv 10) (pa_cons (pv 5) pa_nil))) pa_nil)))
      (pss_cons (ps_frz 11 (ps_for PassesOwn.never rfl (pi_list (pv 11)) (pg_name (i := 13) sc_law.nd rfl (Or.inl rfl)) (pss_one (ps_if (pt_not (pt_val (pe_fn G_law_fits (hr.mono (by omega)) rfl (pa_cons (pe_ix ix_tup (pv 13) pe_int (fun _ _ => rfl)) (pa_cons (pe_ix ix_tup (pv 13) pe_int (fun _ _ => rfl)) (pa_cons (pv 3) (pa_cons (pv 7) pa_nil))))))) (pss_one (ps_ret pe_bl)) pss_nil))))
      (pss_cons (ps_for PassesOwn.never rfl (pi_list (pe_frz (pe_slice sl_list (pv 11) po_none (po_some pe_int)))) (pg_name (i := 13) sc_law.nd rfl (Or.inl rfl)) (pss_one (ps_if (pt_not (pt_val (pe_fn G_law_equals_right (hr.mono (by omega)) rfl (pa_cons (pv 1) (pa_cons (pe_ix ix_tup (pv 13) pe_int (fun _ _ => rfl)) (pa_cons (pe_ix ix_tup (pv 13) pe_int (fun _ _ => rfl)) (pa_cons (pv 3) pa_nil))))))) (pss_one (ps_ret pe_bl)) pss_nil)))
      (pss_cons (ps_for PassesOwn.never rfl (pi_list (pe_frz (pe_lst (pa_cons (pe_frz (pe_callTy call_dictD rfl B.dict_ (by decide +kernel) (pa_cons (pv 4) pa_nil))) (pa_cons (pe_frz (pe_callTy (call_listD rfl) rfl B.list_ (by decide +kernel) (pa_cons (pv 4) pa_nil))) (pa_cons (pe_propM (pv 9) G_Catalog_letters (hr.mono (by omega)) Z) (pa_cons (pe_callB call_lenD rfl B.len (by decide +kernel) (pa_cons (pv 4) pa_nil)) (pa_cons pe_non pa_nil)))))))) (pg_name (i := 14) sc_law.nd rfl (Or.inl rfl)) (pss_one (ps_if (PW.pt (pw_or (pt_cmpR op_notBl (pe_cmpR (opM_eq G_Catalog_eq (hr.mono (by omega))) (pv 9) (pv 14) (nomark _)) pe_bl (nomark _)) (pw_or1 (pt_cmpR op_notBl (pe_cmpR (opM_eqR G_Catalog_eq (hr.mono (by omega)) Z) (pv 14) (pv 9) (nomark _)) pe_bl (nomark _))))) (pss_one (ps_ret pe_bl)) pss_nil)))
      (pss_one (ps_ret (pe_fn G_law_equal_right (hr.mono (by omega)) rfl (pa_cons (pe_op (opM (op := .Sub) G_Catalog_sub (hr.mono (by omega)) Z) (pe_op (opM (op := .Add) G_Catalog_add (hr.mono (by omega)) Z) (pv 9) (pv 10)) (pv 10)) (pa_cons (pv 12) (pa_cons (pv 4) pa_nil))))))))))))))))))))))))))))))
end
end My


namespace My
open PySem PySem.Spec PyProof.Rows L2
/-! ### a def at an address that is found by a path of its own -/
structure AtD where
  at_ : PySem.W.Frag → Addr
  name : Str
  qual : Str
  params : Arguments
  body : List Stmt
  scope : Scope
def AtD.see (K : PySem.W.Frag) (d : AtD) : He.FnW := match K.lookup (d.at_ K) with
  | some ⟨_, _, .func z, _⟩ => some (z.name, z.qualname, z.params, z.body, z.scope, z.globals, z.closure, z.builtins)
  | _ => none
def AtD.val (d : AtD) : He.FnW := some (d.name, d.qual, d.params, .stmts d.body, d.scope, mainGlobals, [], builtinsNs)
def AtD.ok (K : PySem.W.Frag) (d : AtD) : Bool := PySem.W.keepIn K (.ref (d.at_ K)) && (match K.lookup (d.at_ K) with
  | some ⟨_, _, .func z, _⟩ => PySem.W.codeIn K z.code d.qual && (He.dflB K z.defaults [] && He.kwdB K z.kwdefaults [])
  | _ => false)
theorem AtD.funD {K : PySem.W.Frag} {d : AtD} (e : d.see K = d.val) (c : d.ok K = true) : ∃ fd, FunD K d.name d.qual d.params d.body d.scope [] [] (d.at_ K) fd := by
  obtain ⟨kp, c2⟩ := Bool.and_eq_true_iff.mp c
  unfold AtD.see at e
  cases q : K.lookup (d.at_ K) with
  | none => rw [q] at c2; cases c2
  | some o =>
    obtain ⟨oc, od, dt, osl⟩ := o
    rw [q] at c2 e
    cases dt with
    | func z =>
      obtain ⟨a1, a2, a3, a4, a5, a6, a7, a8, a9, a10, a11, a12, a13, a14, a15⟩ := z
      have e2 : (some (a1, a2, a3, a4, a5, a6, a7, a15) : He.FnW) = some (d.name, d.qual, d.params, .stmts d.body, d.scope, mainGlobals, [], builtinsNs) := e
      simp only [Option.some.injEq, Prod.mk.injEq] at e2
      obtain ⟨q1, q2, q3, q4, q5, q6, q7, q8⟩ := e2
      subst q1 q2 q3 q4 q5 q6 q7 q8
      have c3 : (PySem.W.codeIn K a13 d.qual && (He.dflB K a8 [] && He.kwdB K a9 [])) = true := c2
      obtain ⟨k1, k2⟩ := Bool.and_eq_true_iff.mp c3
      obtain ⟨k3, k4⟩ := Bool.and_eq_true_iff.mp k2
      exact ⟨_, ⟨oc, od, a8, a9, a10, a11, a12, a13, a14, osl, rfl, q, k1, He.dflB_ok k3, He.kwdB_ok k4⟩, kp⟩
    | _ => cases c2
/-! ### the own class -/
def bO (a b : Option (Option Value)) : Bool := decide (a = b)
def bB (a b : Option Bool) : Bool := decide (a = b)
def clsB (K : PySem.W.Frag) (C : Addr) : Bool := [bO (PySem.W.findIn K (.ref C) "__class__") (some (some (.builtin "object.__class__"))), bO (PySem.W.specialIn K (.builtin "object.__class__") "__get__") (some (some (.builtin "getset_descriptor.__get__"))), bB (PySem.W.takesIn K (.builtin "object.__class__")) (some true), bB (PySem.W.mroIn K C (.type "object")) (some true), bB (PySem.W.kitOne K (.ref C) (.ref C)) (some true),
  notBs K C, firstNo K C, PySem.W.selfFirst K C, bB (PySem.W.subIn K (.type "int") (.ref C)) (some false), bB (PySem.W.subIn K (.ref C) (.type "int")) (some false), subsNo K C, bO (PySem.W.findIn K (.ref C) "__len__") (some none), bO (PySem.W.findIn K (.ref C) "__length_hint__") (some none)].all id
theorem clsB_ok {K : PySem.W.Frag} {C : Addr} (c : Cls K C) (h : clsB K C = true) : ClsK K C := by
  have g : ∀ b ∈ _, id b = true := List.all_eq_true.mp h
  exact ⟨c, ⟨c, of_decide_eq_true (g _ (List.mem_of_getElem? (i := 0) rfl)), of_decide_eq_true (g _ (List.mem_of_getElem? (i := 1) rfl)), of_decide_eq_true (g _ (List.mem_of_getElem? (i := 2) rfl)), of_decide_eq_true (g _ (List.mem_of_getElem? (i := 3) rfl)), of_decide_eq_true (g _ (List.mem_of_getElem? (i := 4) rfl))⟩,
    g _ (List.mem_of_getElem? (i := 5) rfl), g _ (List.mem_of_getElem? (i := 6) rfl), g _ (List.mem_of_getElem? (i := 7) rfl), of_decide_eq_true (g _ (List.mem_of_getElem? (i := 8) rfl)), of_decide_eq_true (g _ (List.mem_of_getElem? (i := 9) rfl)), g _ (List.mem_of_getElem? (i := 10) rfl), of_decide_eq_true (g _ (List.mem_of_getElem? (i := 11) rfl)), of_decide_eq_true (g _ (List.mem_of_getElem? (i := 12) rfl))⟩
/-- the getter of a property -/
def getA (K : PySem.W.Frag) (C : Addr) (x : Str) : Addr := match PySem.W.recIn K (He.ma K C x) "property" with
  | some (.ref g :: _) => g
  | _ => 0
def propB (K : PySem.W.Frag) (C : Addr) (x : Str) : Bool := [bO (PySem.W.findIn K (.ref C) x) (some (some (.ref (He.ma K C x)))), bO (PySem.W.specialIn K (.ref (He.ma K C x)) "__get__") (some (some (.builtin "property.__get__"))), bB (PySem.W.takesIn K (.ref (He.ma K C x))) (some true), (match PySem.W.recIn K (He.ma K C x) "property" with
  | some (.ref _ :: _) => true
  | _ => false)].all id
theorem propB_ok {K : PySem.W.Frag} {C : Addr} {x : Str} (h : propB K C x = true) : PropOf K C x (He.ma K C x) (getA K C x) := by
  have g : ∀ b ∈ _, id b = true := List.all_eq_true.mp h
  refine ⟨of_decide_eq_true (g _ (List.mem_of_getElem? (i := 0) rfl)), of_decide_eq_true (g _ (List.mem_of_getElem? (i := 1) rfl)), of_decide_eq_true (g _ (List.mem_of_getElem? (i := 2) rfl)), ?_⟩
  have h4 := g _ (List.mem_of_getElem? (i := 3) rfl)
  unfold getA
  cases q : PySem.W.recIn K (He.ma K C x) "property" with
  | none => rw [q] at h4; cases h4
  | some l =>
    rw [q] at h4
    cases l with
    | nil => cases h4
    | cons a r =>
      cases a with
      | ref z => exact ⟨r, rfl⟩
      | _ => cases h4
/-! ### the head's facts -/
abbrev AlX : Type := He.AlD × List He.FnW × Bool
section
variable (n : Nat) (fa : List He.Fa) (fn : List He.DefD) (gs : List AtD) (xt : PySem.W.Frag → Bool)
def obsX (K : PySem.W.Frag) : AlX := (He.obsD fa fn K, gs.map (AtD.see K), (gs.all fun d => d.ok K) && xt K)
def valX : AlX := (He.valD fn, gs.map AtD.val, true)
def obsXG (g : Addr → Option Obj) : AlX := obsX fa fn gs xt (He.frG g (He.asD g n))
def hookX : PySem.W.Hook where
  α := AlX
  obs := fun s => obsXG n fa fn gs xt s.heap.get?
  val := fun _ => valX fn gs
  says := fun _ h => ∃ K : PySem.W.Frag, K.In h ∧ obsX fa fn gs xt K = valX fn gs
  of := fun _ _ e => ⟨_, He.frG_in, e⟩
  keeps := fun _ _ _ ⟨K, hK, c⟩ k => ⟨K, PySem.W.Frag.In.keeps hK k, c⟩
theorem obsXG_eq {g : Addr → Option Obj} {s : Shared} (h : ∀ a, g a = s.heap.get? a) : obsXG n fa fn gs xt g = (hookX n fa fn gs xt).obs s := by
  obtain rfl : g = s.heap.get? := funext h
  rfl
variable {fa fn gs xt} {K : PySem.W.Frag}
theorem sx_d (c : obsX fa fn gs xt K = valX fn gs) : He.SaysD fa fn K := congrArg (fun z : AlX => z.1) c
theorem sx_x (c : obsX fa fn gs xt K = valX fn gs) : xt K = true := (Bool.and_eq_true_iff.mp (show ((gs.all fun d => d.ok K) && xt K) = true from congrArg (fun z : AlX => z.2.2) c)).2
theorem sx_g (c : obsX fa fn gs xt K = valX fn gs) (i : Nat) {d : AtD} (h : gs[i]? = some d) : ∃ fd, FunD K d.name d.qual d.params d.body d.scope [] [] (d.at_ K) fd := by
  have h1 := (Bool.and_eq_true_iff.mp (show ((gs.all fun d => d.ok K) && xt K) = true from congrArg (fun z : AlX => z.2.2) c)).1
  have e : gs.map (AtD.see K) = gs.map AtD.val := congrArg (fun z : AlX => z.2.1) c
  have e2 : (gs.map (AtD.see K))[i]? = (gs.map AtD.val)[i]? := by rw [e]
  rw [List.getElem?_map, List.getElem?_map, h] at e2
  exact AtD.funD (Option.some.inj e2) (List.all_eq_true.mp h1 d (List.mem_of_getElem? h))
end
def d_law_mixed : He.DefD := ⟨("_law_mixed", none), "_law_mixed", "_law_mixed", defArgs s_law_mixed, defBody s_law_mixed, defScope s_law_mixed, [], []⟩
def d_law_source : He.DefD := ⟨("_law_source", none), "_law_source", "_law_source", defArgs s_law_source, defBody s_law_source, defScope s_law_source, [], []⟩
def d_law_take : He.DefD := ⟨("_law_take", none), "_law_take", "_law_take", defArgs s_law_take, defBody s_law_take, defScope s_law_take, [], []⟩
def d_joined_rows : He.DefD := ⟨("joined_rows", none), "joined_rows", "joined_rows", defArgs s_joined_rows, defBody s_joined_rows, defScope s_joined_rows, [], []⟩
def d_in_order : He.DefD := ⟨("in_order", none), "in_order", "in_order", defArgs s_in_order, defBody s_in_order, defScope s_in_order, [], []⟩
def d_distinct : He.DefD := ⟨("distinct", none), "distinct", "distinct", defArgs s_distinct, defBody s_distinct, defScope s_distinct, [], []⟩
def d_Catalog_letters : AtD := ⟨fun K => getA K (He.ga K "Catalog") "letters", "letters", "Catalog.letters", defArgs s_Catalog_letters, defBody s_Catalog_letters, defScope s_Catalog_letters⟩
def d_Catalog_length : He.DefD := ⟨("Catalog", some "length"), "length", "Catalog.length", defArgs s_Catalog_length, defBody s_Catalog_length, defScope s_Catalog_length, [], []⟩
def d_Catalog_getitem : He.DefD := ⟨("Catalog", some "__getitem__"), "__getitem__", "Catalog.__getitem__", defArgs s_Catalog_getitem, defBody s_Catalog_getitem, defScope s_Catalog_getitem, [], []⟩
def d_Catalog_contains : He.DefD := ⟨("Catalog", some "__contains__"), "__contains__", "Catalog.__contains__", defArgs s_Catalog_contains, defBody s_Catalog_contains, defScope s_Catalog_contains, [], []⟩
def d_Catalog_eq : He.DefD := ⟨("Catalog", some "__eq__"), "__eq__", "Catalog.__eq__", defArgs s_Catalog_eq, defBody s_Catalog_eq, defScope s_Catalog_eq, [], []⟩
def d_law_signs : He.DefD := ⟨("_law_signs", none), "_law_signs", "_law_signs", defArgs s_law_signs, defBody s_law_signs, defScope s_law_signs, [], []⟩
def d_law_text : He.DefD := ⟨("_law_text", none), "_law_text", "_law_text", defArgs s_law_text, defBody s_law_text, defScope s_law_text, [], []⟩
def d_law_number : He.DefD := ⟨("_law_number", none), "_law_number", "_law_number", defArgs s_law_number, defBody s_law_number, defScope s_law_number, [], []⟩
def d_law_lengths : He.DefD := ⟨("_law_lengths", none), "_law_lengths", "_law_lengths", defArgs s_law_lengths, defBody s_law_lengths, defScope s_law_lengths, [], []⟩
def d_law_turned : He.DefD := ⟨("_law_turned", none), "_law_turned", "_law_turned", defArgs s_law_turned, defBody s_law_turned, defScope s_law_turned, [], []⟩
def d_law_is_integer : He.DefD := ⟨("_law_is_integer", none), "_law_is_integer", "_law_is_integer", defArgs s_law_is_integer, defBody s_law_is_integer, defScope s_law_is_integer, [], []⟩
def d_law_combined : He.DefD := ⟨("_law_combined", none), "_law_combined", "_law_combined", defArgs s_law_combined, defBody s_law_combined, defScope s_law_combined, [], []⟩
def d_law_scaled : He.DefD := ⟨("_law_scaled", none), "_law_scaled", "_law_scaled", defArgs s_law_scaled, defBody s_law_scaled, defScope s_law_scaled, [], []⟩
def d_Catalog_init : He.DefD := ⟨("Catalog", some "__init__"), "__init__", "Catalog.__init__", defArgs s_Catalog_init, defBody s_Catalog_init, defScope s_Catalog_init, [], []⟩
def d_Catalog_add : He.DefD := ⟨("Catalog", some "__add__"), "__add__", "Catalog.__add__", defArgs s_Catalog_add, defBody s_Catalog_add, defScope s_Catalog_add, [], []⟩
def d_Catalog_sub : He.DefD := ⟨("Catalog", some "__sub__"), "__sub__", "Catalog.__sub__", defArgs s_Catalog_sub, defBody s_Catalog_sub, defScope s_Catalog_sub, [], []⟩
def d_Catalog_mul : He.DefD := ⟨("Catalog", some "__mul__"), "__mul__", "Catalog.__mul__", defArgs s_Catalog_mul, defBody s_Catalog_mul, defScope s_Catalog_mul, [], []⟩
def d_Catalog_rmul : He.DefD := ⟨("Catalog", some "__rmul__"), "__rmul__", "Catalog.__rmul__", defArgs s_Catalog_rmul, defBody s_Catalog_rmul, defScope s_Catalog_rmul, [], []⟩
def d_law_equal_right : He.DefD := ⟨("_law_equal_right", none), "_law_equal_right", "_law_equal_right", defArgs s_law_equal_right, defBody s_law_equal_right, defScope s_law_equal_right, [], []⟩
def d_law_equals_right : He.DefD := ⟨("_law_equals_right", none), "_law_equals_right", "_law_equals_right", defArgs s_law_equals_right, defBody s_law_equals_right, defScope s_law_equals_right, [], []⟩
def d_Catalog_iter : He.DefD := ⟨("Catalog", some "__iter__"), "__iter__", "Catalog.__iter__", defArgs s_Catalog_iter, defBody s_Catalog_iter, defScope s_Catalog_iter, [], []⟩
def d_law_fits : He.DefD := ⟨("_law_fits", none), "_law_fits", "_law_fits", defArgs s_law_fits, defBody s_law_fits, defScope s_law_fits, [], []⟩
def d_law : He.DefD := ⟨("law", none), "law", "law", defArgs s_law, defBody s_law, defScope s_law, [], []⟩
def fns : List He.DefD := [d_law_mixed, d_law_source, d_law_take, d_joined_rows, d_in_order, d_distinct, d_Catalog_length, d_Catalog_getitem, d_Catalog_contains, d_Catalog_eq, d_law_signs, d_law_text, d_law_number, d_law_lengths, d_law_turned, d_law_is_integer, d_law_combined, d_law_scaled, d_Catalog_init, d_Catalog_add, d_Catalog_sub, d_Catalog_mul, d_Catalog_rmul, d_law_equal_right, d_law_equals_right, d_Catalog_iter, d_law_fits, d_law]
def gets : List AtD := [d_Catalog_letters]
def facs : List He.Fa := [.free "abs",
  .free "bool",
  .free "dict",
  .free "enumerate",
  .free "int",
  .free "isinstance",
  .free "iter",
  .free "len",
  .free "list",
  .free "range",
  .free "sorted",
  .free "str",
  .free "sum",
  .glo "Catalog",
  .cls "Catalog",
  .mkr "Catalog",
  .noat "Catalog" "_lengths",
  .noat "Catalog" "_letters",
  .meth "Catalog" "length",
  .meth "Catalog" "__getitem__",
  .meth "Catalog" "__contains__",
  .meth "Catalog" "__eq__",
  .meth "Catalog" "__add__",
  .meth "Catalog" "__sub__",
  .meth "Catalog" "__mul__",
  .meth "Catalog" "__rmul__",
  .meth "Catalog" "__iter__",
  .glo "_law_mixed",
  .glo "_law_source",
  .glo "_law_take",
  .glo "joined_rows",
  .glo "in_order",
  .glo "distinct",
  .glo "_law_signs",
  .glo "_law_text",
  .glo "_law_number",
  .glo "_law_lengths",
  .glo "_law_turned",
  .glo "_law_is_integer",
  .glo "_law_combined",
  .glo "_law_scaled",
  .glo "_law_equal_right",
  .glo "_law_equals_right",
  .glo "_law_fits",
  .glo "law"]
def xt (K : PySem.W.Frag) : Bool := clsB K (He.ga K "Catalog") && (((["letters"] : List Str).all fun x => propB K (He.ga K "Catalog") x) && (["length", "__getitem__", "__contains__", "__eq__", "__add__", "__sub__", "__mul__", "__rmul__"] : List Str).all fun m => PySem.W.fnIn K (He.ma K (He.ga K "Catalog") m))
abbrev R : PySem.W.OpenRow := PySem.W.OpenLaw.row PySem.Challenge.rw_drawingoffice_k19_catalogs
abbrev qv : Program := PySem.W.view R.prog [21]
def names : List PySem.Str := (["joined_rows", "in_order", "distinct", "Catalog", "_law_mixed", "_law_source", "_law_take", "_law_signs", "_law_text", "_law_number", "_law_lengths", "_law_turned", "_law_is_integer", "_law_fits", "_law_combined", "_law_scaled", "_law_equal_right", "_law_equals_right"] : List PySem.Str)
abbrev hk : PySem.W.Hook := hookX 7 facs fns gets xt
def ob (s : PySem.W.SharedT) : AlX := obsXG 7 facs fns gets xt (HandSHeadRun.getT s)
theorem ob_eq (s : PySem.W.SharedT) : ob s = hk.obs s.abs := obsXG_eq _ _ _ _ _ (HandSHeadRun.getT_eq s)
theorem runs (w : World) : HandSHeadRun.RunEq R qv hk ob 4000 names w :=
  PySem.W.byRow2 "special-get-raises" (P := fun w => HandSHeadRun.RunEq R qv hk ob 4000 names w) (fun w => by
    intro os
    kernel_rfl) (fun w => by
    intro os
    kernel_rfl) w
theorem facts {P : Program} {w : World} {K : PySem.W.Frag} {h : Heap} {mg : Str → Option Value} {f : Addr} (X : K.In h) (G : h.Ns mainGlobals mg) (hfa : mg ("law" : Str) = some (.ref f)) (c0 : obsX facs fns gets xt K = valX fns gets) :
    ∃ fd : FuncData, (∀ (s : Shared) (v : Value), BindsTo s fd ⟨[v], []⟩ [("_law_script", v)]) ∧ ∀ base : Heap, K.In base → base.Ns mainGlobals mg → GOk P w K mg base 16 f fd ["_law_script"] (sp_top K) := by
  have c := sx_d c0
  obtain ⟨x1, x2⟩ := Bool.and_eq_true_iff.mp (sx_x c0)
  obtain ⟨x2, x3⟩ := Bool.and_eq_true_iff.mp x2
  have B : Txt w K mg (He.ga K "Catalog") := ⟨He.free_ok X G (c.fact 0 (f := .free "abs") rfl),
    He.free_ok X G (c.fact 1 (f := .free "bool") rfl),
    He.free_ok X G (c.fact 2 (f := .free "dict") rfl),
    He.free_ok X G (c.fact 3 (f := .free "enumerate") rfl),
    He.free_ok X G (c.fact 4 (f := .free "int") rfl),
    He.free_ok X G (c.fact 5 (f := .free "isinstance") rfl),
    He.free_ok X G (c.fact 6 (f := .free "iter") rfl),
    He.free_ok X G (c.fact 7 (f := .free "len") rfl),
    He.free_ok X G (c.fact 8 (f := .free "list") rfl),
    He.free_ok X G (c.fact 9 (f := .free "range") rfl),
    He.free_ok X G (c.fact 10 (f := .free "sorted") rfl),
    He.free_ok X G (c.fact 11 (f := .free "str") rfl),
    He.free_ok X G (c.fact 12 (f := .free "sum") rfl),
    He.glo_ok X G (c.fact 13 (f := .glo "Catalog") rfl)⟩
  have Z : ClsK K (He.ga K "Catalog") := clsB_ok (He.cls_ok (c.fact 14 (f := .cls "Catalog") rfl)) x1
  have Y : Fl K (He.ga K "Catalog") := ⟨He.noat_ok (c.fact 16 (f := .noat "Catalog" "_lengths") rfl), He.noat_ok (c.fact 17 (f := .noat "Catalog" "_letters") rfl)⟩
  have fnm : ∀ m ∈ (["length", "__getitem__", "__contains__", "__eq__", "__add__", "__sub__", "__mul__", "__rmul__"] : List Str), PySem.W.fnIn K (He.ma K (He.ga K "Catalog") m) = true := List.all_eq_true.mp x3
  have prm : ∀ m ∈ (["letters"] : List Str), propB K (He.ga K "Catalog") m = true := List.all_eq_true.mp x2
  obtain ⟨fd_law_mixed, F_law_mixed⟩ := c.def_ 0 (d := d_law_mixed) rfl
  obtain ⟨fd_law_source, F_law_source⟩ := c.def_ 1 (d := d_law_source) rfl
  obtain ⟨fd_law_take, F_law_take⟩ := c.def_ 2 (d := d_law_take) rfl
  have G_law_mixed := fun base : Heap => ok_law_mixed (P := P) (base := base) B F_law_mixed (He.glo_ok X G (c.fact 27 (f := .glo "_law_mixed") rfl))
  have G_law_source := fun base : Heap => ok_law_source (P := P) (base := base) B F_law_source (He.glo_ok X G (c.fact 28 (f := .glo "_law_source") rfl))
  have G_law_take := fun base : Heap => okF_weak (ok_law_take (P := P) (base := base) B F_law_take (He.glo_ok X G (c.fact 29 (f := .glo "_law_take") rfl)) (G_law_mixed base)) (sp2 := up K q_law_take) fun _ _ _ _ z => up_take z
  obtain ⟨fd_joined_rows, F_joined_rows⟩ := c.def_ 3 (d := d_joined_rows) rfl
  have G_joined_rows : ∀ base : Heap, OkF P w K mg base "joined_rows" 1 ["first", "second"] (up K (q_joined_rows)) := fun base => ok_joined_rows B Z Y F_joined_rows (He.glo_ok X G (c.fact 30 (f := .glo "joined_rows") rfl)) 
  obtain ⟨fd_in_order, F_in_order⟩ := c.def_ 4 (d := d_in_order) rfl
  have G_in_order : ∀ base : Heap, OkF P w K mg base "in_order" 10 ["rows"] (up K (q_in_order 9)) := fun base => ok_in_order B Z Y F_in_order (He.glo_ok X G (c.fact 31 (f := .glo "in_order") rfl)) (G_joined_rows base) 9
  obtain ⟨fd_distinct, F_distinct⟩ := c.def_ 5 (d := d_distinct) rfl
  have G_distinct : ∀ base : Heap, OkF P w K mg base "distinct" 11 ["rows"] (up K (q_distinct)) := fun base => ok_distinct B Z Y F_distinct (He.glo_ok X G (c.fact 32 (f := .glo "distinct") rfl)) (G_in_order base)
  obtain ⟨fd_Catalog_letters, F_Catalog_letters⟩ := sx_g c0 0 (d := d_Catalog_letters) rfl
  have G_Catalog_letters : ∀ base : Heap, OkP P w K mg base (He.ga K "Catalog") "letters" 1 ["self"] (up K (q_Catalog_letters (He.ga K "Catalog"))) := fun base => ok_Catalog_letters B Z Y (propB_ok (prm "letters" (by decide))) F_Catalog_letters 
  obtain ⟨fd_Catalog_length, F_Catalog_length⟩ := c.def_ 6 (d := d_Catalog_length) rfl
  have G_Catalog_length : ∀ base : Heap, OkM P w K mg base (He.ga K "Catalog") "length" 1 ["self", "text"] (up K (q_Catalog_length (He.ga K "Catalog"))) := fun base => ok_Catalog_length B Z Y (He.meth_ok (c.fact 18 (f := .meth "Catalog" "length") rfl)) (fnm "length" (by decide)) F_Catalog_length 
  obtain ⟨fd_Catalog_getitem, F_Catalog_getitem⟩ := c.def_ 7 (d := d_Catalog_getitem) rfl
  have G_Catalog_getitem : ∀ base : Heap, OkM P w K mg base (He.ga K "Catalog") "__getitem__" 1 ["self", "char"] (up K (q_Catalog_getitem (He.ga K "Catalog"))) := fun base => ok_Catalog_getitem B Z Y (He.meth_ok (c.fact 19 (f := .meth "Catalog" "__getitem__") rfl)) (fnm "__getitem__" (by decide)) F_Catalog_getitem 
  obtain ⟨fd_Catalog_contains, F_Catalog_contains⟩ := c.def_ 8 (d := d_Catalog_contains) rfl
  have G_Catalog_contains : ∀ base : Heap, OkM P w K mg base (He.ga K "Catalog") "__contains__" 1 ["self", "char"] (up K (q_Catalog_contains (He.ga K "Catalog"))) := fun base => ok_Catalog_contains B Z Y (He.meth_ok (c.fact 20 (f := .meth "Catalog" "__contains__") rfl)) (fnm "__contains__" (by decide)) F_Catalog_contains 
  obtain ⟨fd_Catalog_eq, F_Catalog_eq⟩ := c.def_ 9 (d := d_Catalog_eq) rfl
  have G_Catalog_eq : ∀ base : Heap, OkM P w K mg base (He.ga K "Catalog") "__eq__" 1 ["self", "other"] (up K (q_Catalog_eq (He.ga K "Catalog"))) := fun base => ok_Catalog_eq B Z Y (He.meth_ok (c.fact 21 (f := .meth "Catalog" "__eq__") rfl)) (fnm "__eq__" (by decide)) F_Catalog_eq 
  obtain ⟨fd_law_signs, F_law_signs⟩ := c.def_ 10 (d := d_law_signs) rfl
  have G_law_signs : ∀ base : Heap, OkF P w K mg base "_law_signs" 3 ["_law_source_here", "_law_many"] (up K (q_law_signs)) := fun base => ok_law_signs B Z Y F_law_signs (He.glo_ok X G (c.fact 33 (f := .glo "_law_signs") rfl)) (G_law_take base)
  obtain ⟨fd_law_text, F_law_text⟩ := c.def_ 11 (d := d_law_text) rfl
  have G_law_text : ∀ base : Heap, OkF P w K mg base "_law_text" 3 ["_law_source_here", "_law_signs_here", "_law_size"] (up K (q_law_text)) := fun base => ok_law_text B Z Y F_law_text (He.glo_ok X G (c.fact 34 (f := .glo "_law_text") rfl)) (G_law_take base)
  obtain ⟨fd_law_number, F_law_number⟩ := c.def_ 12 (d := d_law_number) rfl
  have G_law_number : ∀ base : Heap, OkF P w K mg base "_law_number" 3 ["_law_source_here"] (up K (q_law_number)) := fun base => ok_law_number B Z Y F_law_number (He.glo_ok X G (c.fact 35 (f := .glo "_law_number") rfl)) (G_law_take base)
  obtain ⟨fd_law_lengths, F_law_lengths⟩ := c.def_ 13 (d := d_law_lengths) rfl
  have G_law_lengths : ∀ base : Heap, OkF P w K mg base "_law_lengths" 4 ["_law_source_here", "_law_signs_here"] (up K (q_law_lengths)) := fun base => ok_law_lengths B Z Y F_law_lengths (He.glo_ok X G (c.fact 36 (f := .glo "_law_lengths") rfl)) (G_law_take base) (G_law_number base)
  obtain ⟨fd_law_turned, F_law_turned⟩ := c.def_ 14 (d := d_law_turned) rfl
  have G_law_turned : ∀ base : Heap, OkF P w K mg base "_law_turned" 1 ["_law_lengths_here"] (up K (q_law_turned)) := fun base => ok_law_turned B Z Y F_law_turned (He.glo_ok X G (c.fact 37 (f := .glo "_law_turned") rfl)) 
  obtain ⟨fd_law_is_integer, F_law_is_integer⟩ := c.def_ 15 (d := d_law_is_integer) rfl
  have G_law_is_integer : ∀ base : Heap, OkF P w K mg base "_law_is_integer" 1 ["_law_value"] (up K (q_law_is_integer)) := fun base => ok_law_is_integer B Z Y F_law_is_integer (He.glo_ok X G (c.fact 38 (f := .glo "_law_is_integer") rfl)) 
  obtain ⟨fd_law_combined, F_law_combined⟩ := c.def_ 16 (d := d_law_combined) rfl
  have G_law_combined : ∀ base : Heap, OkF P w K mg base "_law_combined" 1 ["_law_one", "_law_two", "_law_factor"] (up K (q_law_combined)) := fun base => ok_law_combined B Z Y F_law_combined (He.glo_ok X G (c.fact 39 (f := .glo "_law_combined") rfl)) 
  obtain ⟨fd_law_scaled, F_law_scaled⟩ := c.def_ 17 (d := d_law_scaled) rfl
  have G_law_scaled : ∀ base : Heap, OkF P w K mg base "_law_scaled" 1 ["_law_lengths_here", "_law_times"] (up K (q_law_scaled)) := fun base => ok_law_scaled B Z Y F_law_scaled (He.glo_ok X G (c.fact 40 (f := .glo "_law_scaled") rfl)) 
  obtain ⟨fd_Catalog_init, F_Catalog_init⟩ := c.def_ 18 (d := d_Catalog_init) rfl
  have G_Catalog_init : ∀ base : Heap, OkI P w K mg base (He.ga K "Catalog") 12 ["self", "lengths"] (sp_init K (He.ga K "Catalog")) := fun base => ok_Catalog_init B Z Y (He.mkr_ok (c.fact 15 (f := .mkr "Catalog") rfl)) F_Catalog_init (G_distinct base)
  obtain ⟨fd_Catalog_add, F_Catalog_add⟩ := c.def_ 19 (d := d_Catalog_add) rfl
  have G_Catalog_add : ∀ base : Heap, OkM P w K mg base (He.ga K "Catalog") "__add__" 14 ["self", "other"] (up K (q_Catalog_add (He.ga K "Catalog"))) := fun base => ok_Catalog_add B Z Y (He.meth_ok (c.fact 22 (f := .meth "Catalog" "__add__") rfl)) (fnm "__add__" (by decide)) F_Catalog_add (G_Catalog_letters base) (G_Catalog_getitem base) (G_Catalog_init base)
  obtain ⟨fd_Catalog_sub, F_Catalog_sub⟩ := c.def_ 20 (d := d_Catalog_sub) rfl
  have G_Catalog_sub : ∀ base : Heap, OkM P w K mg base (He.ga K "Catalog") "__sub__" 14 ["self", "other"] (up K (q_Catalog_sub (He.ga K "Catalog"))) := fun base => ok_Catalog_sub B Z Y (He.meth_ok (c.fact 23 (f := .meth "Catalog" "__sub__") rfl)) (fnm "__sub__" (by decide)) F_Catalog_sub (G_Catalog_letters base) (G_Catalog_getitem base) (G_Catalog_init base)
  obtain ⟨fd_Catalog_mul, F_Catalog_mul⟩ := c.def_ 21 (d := d_Catalog_mul) rfl
  have G_Catalog_mul : ∀ base : Heap, OkM P w K mg base (He.ga K "Catalog") "__mul__" 14 ["self", "times"] (up K (q_Catalog_mul (He.ga K "Catalog"))) := fun base => ok_Catalog_mul B Z Y (He.meth_ok (c.fact 24 (f := .meth "Catalog" "__mul__") rfl)) (fnm "__mul__" (by decide)) F_Catalog_mul (G_Catalog_letters base) (G_Catalog_getitem base) (G_Catalog_init base)
  obtain ⟨fd_Catalog_rmul, F_Catalog_rmul⟩ := c.def_ 22 (d := d_Catalog_rmul) rfl
  have G_Catalog_rmul : ∀ base : Heap, OkM P w K mg base (He.ga K "Catalog") "__rmul__" 15 ["self", "times"] (up K (q_Catalog_rmul (He.ga K "Catalog"))) := fun base => ok_Catalog_rmul B Z Y (He.meth_ok (c.fact 25 (f := .meth "Catalog" "__rmul__") rfl)) (He.meth_ok (c.fact 25 (f := .meth "Catalog" "__rmul__") rfl)) (fnm "__rmul__" (by decide)) F_Catalog_rmul (G_Catalog_mul base)
  obtain ⟨fd_law_equal_right, F_law_equal_right⟩ := c.def_ 23 (d := d_law_equal_right) rfl
  have G_law_equal_right : ∀ base : Heap, OkF P w K mg base "_law_equal_right" 14 ["_law_one", "_law_lengths_here", "_law_other"] (up K (q_law_equal_right (He.ga K "Catalog"))) := fun base => ok_law_equal_right B Z Y F_law_equal_right (He.glo_ok X G (c.fact 41 (f := .glo "_law_equal_right") rfl)) (G_Catalog_init base) (G_Catalog_eq base)
  obtain ⟨fd_law_equals_right, F_law_equals_right⟩ := c.def_ 24 (d := d_law_equals_right) rfl
  have G_law_equals_right : ∀ base : Heap, OkF P w K mg base "_law_equals_right" 15 ["_law_source_here", "_law_catalog", "_law_lengths_here", "_law_signs_here"] (up K (q_law_equals_right (He.ga K "Catalog"))) := fun base => ok_law_equals_right B Z Y F_law_equals_right (He.glo_ok X G (c.fact 42 (f := .glo "_law_equals_right") rfl)) (G_law_turned base) (G_law_equal_right base) (G_law_take base)
  obtain ⟨fd_Catalog_iter, F_Catalog_iter⟩ := c.def_ 25 (d := d_Catalog_iter) rfl
  have G_Catalog_iter : ∀ base : Heap, OkIt P w K mg base (He.ga K "Catalog") "_letters" 1 ["self"] := fun base => ok_Catalog_iter B Z Y (He.meth_ok (c.fact 26 (f := .meth "Catalog" "__iter__") rfl)) F_Catalog_iter 
  obtain ⟨fd_law_fits, F_law_fits⟩ := c.def_ 26 (d := d_law_fits) rfl
  have G_law_fits : ∀ base : Heap, OkF P w K mg base "_law_fits" 4 ["_law_catalog", "_law_lengths_here", "_law_signs_here", "_law_texts"] (up K (q_law_fits (He.ga K "Catalog"))) := fun base => ok_law_fits B Z Y F_law_fits (He.glo_ok X G (c.fact 43 (f := .glo "_law_fits") rfl)) (G_Catalog_letters base) (G_Catalog_iter base) (G_Catalog_getitem base) (G_law_is_integer base) (G_Catalog_contains base) (G_Catalog_length base)
  obtain ⟨fd, F⟩ := c.def_ 27 (d := d_law) rfl
  have e := hfa.symm.trans (He.glo_ok X G (c.fact 44 (f := .glo "law") rfl))
  cases e
  have b := FunD.bindsA (ps := ["_law_script"]) F fun _ _ _ _ _ _ us hl => match us, hl with | [_], _ => rfl
  refine ⟨fd, fun s v => b s [v] rfl, fun base _ _ => ?_⟩
  exact okAt_law B Z Y F (G_law_source base) (G_law_take base) (G_law_signs base) (G_law_lengths base) (G_law_number base) (G_law_text base) (G_Catalog_init base) (G_Catalog_add base) (G_law_combined base) (G_Catalog_sub base) (G_Catalog_mul base) (G_Catalog_rmul base) (G_law_scaled base) (G_law_fits base) (G_law_equals_right base) (G_Catalog_letters base) (G_Catalog_eq base) (G_law_equal_right base)
end My
open PySem PySem.W PySem.Calls PyProof.Rows
theorem PySem.Challenge.cw_drawingoffice_k19_catalogs_holds : PySem.Challenge.rw_drawingoffice_k19_catalogs.Holds := by
  w_on; o_law
  refine HandSHeadRun.head_any (r := My.R) (q := My.qv) (H := My.hk) (ob := My.ob) (M := 4000) (loose := My.names) (d := HandSHeadRun.topDef My.R.prog 21) (kwd := []) My.ob_eq
    (by kernel_rfl) (fun s => by kernel_rfl) My.runs (by kernel_rfl) (by kernel_rfl) (by kernel_rfl) (by rfl) (by first | assumption | decide +kernel) (by decide +kernel) ⟨rfl, rfl, rfl, rfl, rfl, by decide +kernel⟩ ?hw ?hc
  case hw => w_witness2
  case hc =>
    refine My.walk_G (l := PySem.Challenge.rw_drawingoffice_k19_catalogs) (n := 63) (k := 16) (x := "_law_script") rfl (by decide) (by kernel_rfl) ⟨rfl, by decide, by decide⟩ ?F
    intro w mg fa h Y G hm0
    obtain ⟨K, KX, c⟩ := Y
    have hm : mg ("law" : PySem.Str) = some (.ref fa) := by
      have e : (HandSHeadRun.topDef My.R.prog 21).name = ("law" : PySem.Str) := by kernel_rfl
      rw [← e]
      exact hm0
    obtain ⟨fd, hb, hF⟩ := My.facts (P := (PySem.Challenge.rw_drawingoffice_k19_catalogs).prog) (w := w) KX G hm c
    exact ⟨K, fd, My.sp_top K, KX, hb, fun H a ns hl hbits hS => ⟨a, ns, rfl, hS, fun _ => rfl⟩, hF⟩
