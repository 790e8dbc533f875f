import PyProof.Rows.All
import Wide.All
import OpenK.AllK
import Wide.FinOn
import KE.KStateDown
import Lean
import PyProof.ReprRoads
import HandS.ForMost
import HandS.More
import HandS.Wide
import HandS.EndBits
import HandS.FStr
import HandS.RaiseMore
import HandS.IsInst
import HandS.Zip
import HandS.Walk
import HandS.Evl
import HandS.Defaults
import HandS.WordsExc
import HandS.Head0
import HandS.Head1
import HandS.Head2
import HandS.HeadEnd
import HandS.HeadHook1
import HandS.HeadHook2
import HandS.HeadHook3
import HandS.FStrTup
import PySem.Challenge.RW_drawingoffice_k51_limits_and_facts_in_te
set_option Elab.async false
set_option linter.all false
set_option maxRecDepth 100000
set_option maxHeartbeats 0
/-! Pre: short words for the readings that gen.py prints; calls by name; a def that knows that no repr is under way; the law's end. -/
namespace My
open PySem PySem.Spec PyProof.Rows L2

/-! ### readings by name -/
abbrev rAddI : R2 := rI0 fun i j => .int (i + j)
abbrev rSubI : R2 := rI0 fun i j => .int (i - j)
abbrev rMulI : R2 := rI CMul fun i j => .int (i * j)
abbrev rModI : R2 := rI (fun _ j => 0 < j) fun i j => .int (i % j)
abbrev rDivI : R2 := rI CDivW fun i j => .int (i / j)
abbrev rPowI : R2 := rI CPow fun i j => .int (i ^ j.toNat)
abbrev rLtI : R2 := rI0 fun i j => .bl (decide (i < j))
abbrev rLeI : R2 := rI0 fun i j => .bl (decide (i ≤ j))
abbrev rGtI : R2 := rI0 fun i j => .bl (decide (j < i))
abbrev rGeI : R2 := rI0 fun i j => .bl (decide (j ≤ i))
def rCatS : R2 := fun x y H Q => ∃ i j, x = .str i ∧ y = .str j ∧ i.length + j.length ≤ sizeLine ∧ Q (.str (i ++ j)) H
def rLtS : R2 := fun x y H Q => ∃ i j, x = .str i ∧ y = .str j ∧ Q (.bl (decide (i.cps.toList < j.cps.toList))) H
def rLeS : R2 := fun x y H Q => ∃ i j, x = .str i ∧ y = .str j ∧ Q (.bl (!decide (j.cps.toList < i.cps.toList))) H
def rInSign : R2 := fun x y H Q => ∃ (c : Nat) (z : Str), x = .str ⟨#[c]⟩ ∧ y = .str z ∧ Q (.bl (decide (c ∈ z.cps.toList))) H
def rNotInSign : R2 := fun x y H Q => ∃ (c : Nat) (z : Str), x = .str ⟨#[c]⟩ ∧ y = .str z ∧ Q (.bl (!decide (c ∈ z.cps.toList))) H
def rIsN : R2 := fun x y H Q => y = .non ∧ Q (.bl (decide (x = .non))) H
def rNotN : R2 := fun x y H Q => y = .non ∧ Q (.bl (!decide (x = .non))) H
def rNotInKd (K : PySem.W.Frag) (d : Addr) : R2 := fun x y H Q => ∃ (z : Str) (r : Option Value), x = .str z ∧ y = .ref d ∧ PySem.W.nsIn K d z = some r ∧ Q (.bl (!r.isSome)) H
def rInKd (K : PySem.W.Frag) (d : Addr) : R2 := fun x y H Q => ∃ (z : Str) (r : Option Value), x = .str z ∧ y = .ref d ∧ PySem.W.nsIn K d z = some r ∧ Q (.bl r.isSome) H
abbrev CR1 := List V → Hp → VK → Prop
def cLenS : CR1 := fun xs H Q => ∃ z, xs = [.str z] ∧ z.length ≤ sizeLine ∧ Q (.int z.length) H
def cLenQ (K : PySem.W.Frag) : CR1 := fun xs H Q => ∃ p ys, xs = [.ref p] ∧ (SqL K H p ys ∨ SqT K H p ys) ∧ Q (.int ys.length) H
def cAbs : CR1 := fun xs H Q => ∃ i, xs = [.int i] ∧ Q (.int (if i < 0 then -i else i)) H
def cInt1 : CR1 := fun xs H Q => (∃ i, xs = [.int i] ∧ Q (.int i) H) ∨ ∃ k, xs = [.bl k] ∧ Q (.int (if k then 1 else 0)) H
def cIntS : CR1 := fun xs H Q => ∃ a n, xs = [.str a] ∧ PySem.intText? a = some n ∧ a.length ≤ 640 ∧ Q (.int n) H
def cStrI : CR1 := fun xs H Q => ∃ i : Int, xs = [.int i] ∧ i.natAbs.log2 < 1920 ∧ Q (.str (toString i)) H
def cStrS : CR1 := fun xs H Q => ∃ a, xs = [.str a] ∧ Q (.str a) H
def cTuple (K : PySem.W.Frag) : CR1 := fun xs H Q => ∃ p ys, xs = [.ref p] ∧ ((SqL K H p ys ∧ ∀ l, H l = none → Q (.ref l) (upd H l (.tup ys))) ∨ (SqT K H p ys ∧ Q (.ref p) H))
def cList (K : PySem.W.Frag) : CR1 := fun xs H Q => ∃ p ys, xs = [.ref p] ∧ (SqL K H p ys ∨ SqT K H p ys) ∧ ∀ l, H l = none → Q (.ref l) (upd H l (.lst ys))
abbrev MR1 := V → List V → Hp → VK → Prop
def mJoin (K : PySem.W.Frag) : MR1 := fun x xs H Q => ∃ a p, ∃ ys : List Str, x = .str a ∧ xs = [.ref p] ∧ (SqL K H p (ys.map V.str) ∨ SqT K H p (ys.map V.str)) ∧ (ys.map (·.length)).sum + ys.length * a.length ≤ 16777216 ∧ Q (.str (Txt.join a ys)) H
def mSplit : MR1 := fun x xs H Q => ∃ a b, x = .str a ∧ xs = [.str b] ∧ (b.length == 0) = false ∧ a.length + 2 ≤ sizeLine ∧ rNewStrs (Txt.split a b) H Q
def mPartition : MR1 := fun x xs H Q => ∃ a b, x = .str a ∧ xs = [.str b] ∧ (b.length == 0) = false ∧ a.length ≤ sizeLine ∧ ∀ p, H p = none → Q (.ref p) (upd H p (.tup [.str (Txt.partition a b).1, .str (Txt.partition a b).2.1, .str (Txt.partition a b).2.2]))
def tJoin (ts : List TE) : TE := fun σ H Q => tJs ts Str.empty σ H fun out H1 => Q (.str out) H1

/-! ### repr of data: the text is a function of the data -/
def cRepr (K : PySem.W.Frag) : CR1 := fun xs H Q => ∃ (a : Addr) (d : PyData), xs = [.ref a] ∧ Dp K H (.ref a) d ∧ PyData.showable d = true ∧ d.hasDict = false ∧ d.depth ≤ 60 ∧ d.shown.length ≤ sizeLine ∧ Q (.str d.shown) H
theorem call_repr_dp {X : Cx} (hg : X.A.guards = some []) (hu : X.A.units + 64 < cLine) : CallR X (.builtin "repr") (cRepr X.K) := by
  intro pins s σ H xs us Q I r h
  obtain ⟨a, d, rfl, hd, h1, h2, h3, h4, q⟩ := h
  obtain ⟨u, rfl, ru⟩ := vals1 r
  cases ru
  obtain ⟨as, rd⟩ := Dp.reads I d (.ref a) (.ref a) hd rfl
  refine repr_of_reads' rd h1 (fun z => ?_) hg (by omega) (fun _ _ z => z) (fun hp t tk hk => ?_) h4
  · rw [h2] at z
    cases z
  · exact ⟨.str d.shown, H, I.kept hk, ⟨t, rfl⟩, q⟩

section
variable {X : Cx}
/-! ### constants of the module -/
theorem pe_gstr {x z : Str} {pos : Pos} (hm : ∃ t, X.mg x = some (.str z t)) (hg : Gl X x := by rfl) (hd : (x == ("__debug__" : Str)) = false := by decide) : PE X (.Name x pos) (tC (.str z)) := by
  obtain ⟨t, e⟩ := hm
  exact pe_glob hg e ⟨t, rfl⟩ hd
theorem pe_gint {x : Str} {i : Int} {pos : Pos} (hm : ∃ t, X.mg x = some (.int i t)) (hg : Gl X x := by rfl) (hd : (x == ("__debug__" : Str)) = false := by decide) : PE X (.Name x pos) (tC (.int i)) := by
  obtain ⟨t, e⟩ := hm
  exact pe_glob hg e ⟨t, rfl⟩ hd
end

/-! ### a written dict with text keys -/
def IsKD (K : PySem.W.Frag) (w : World) (d : Addr) : Prop := ∃ es n, KDict K w d es n
section
variable {X : Cx}
theorem op_kdNotIn {d : Addr} (D : IsKD X.K X.w d) : OpR X (compareOp .NotIn) (rNotInKd X.K d) := by
  obtain ⟨es, n, D⟩ := D
  exact op_notIn_kd D
theorem op_kdIn {d : Addr} (D : IsKD X.K X.w d) : OpR X (compareOp .In) (rInKd X.K d) := by
  obtain ⟨es, n, D⟩ := D
  exact op_in_kd D
def rItemKd (K : PySem.W.Frag) (d : Addr) : R2 := fun x y H Q => ∃ (z : Str) (v : V) (u : Value), x = .ref d ∧ y = .str z ∧ PySem.W.nsIn K d z = some (some u) ∧ RelV v u ∧ Q v H
theorem ix_kd {d : Addr} (D : IsKD X.K X.w d) : IxR X (rItemKd X.K d) := by
  intro value slice pins s σ H x y v u Q I rx ry h hs
  obtain ⟨es, n, D⟩ := D
  obtain ⟨z, v0, u0, ex, ey, e, r, q⟩ := h
  exact ix_kdict value slice pins s σ H x y v u Q I rx ry ⟨d, z, v0, ex, ey, ⟨es, n, u0, D.at_, D.lit, e, r⟩, q⟩ hs
theorem pe_itemKd {d : Addr} {a b : Expr} {ta tb : TE} {pos : Pos} (D : IsKD X.K X.w d) (ha : PE X a ta) (hb : PE X b tb) (hs : PlainIx b := by exact fun _ _ => rfl) : PE X (.Subscript a b pos) (tOp (rItemKd X.K d) ta tb) :=
  pe_ix (ix_kd D) ha hb hs
/-- d.get(k, x) -/
def tGetKd (K : PySem.W.Frag) (d : Addr) (td ty tx : TE) : TE := fun σ H Q => td σ H fun x H1 => x = .ref d ∧ ty σ H1 fun y H2 => tx σ H2 fun z H3 => ∃ (k : Str) (o : Option Value), y = .str k ∧ PySem.W.nsIn K d k = some o ∧
  ((o = none ∧ Q z H3) ∨ ∃ v u, o = some u ∧ RelV v u ∧ Q v H3)
theorem pe_getKd {d : Addr} {o e f : Expr} {apos cpos : Pos} {td ty tx : TE} (D : IsKD X.K X.w d) (m : M2 X o "get" apos e f cpos) (ho : PE X o td) (he : PE X e ty) (hf : PE X f tx) : PE X (.Call (.Attribute o "get" apos) [e, f] [] cpos) (tGetKd X.K d td ty tx) := by
  obtain ⟨es, n, D⟩ := D
  refine ⟨fun pins s σ H Q I h => ?_⟩
  have ht : ∀ (s1 : Shared) (H1 : Hp), Inv X pins σ H1 s1 → s1.TypeIs (.ref d) "dict" := fun s1 H1 I1 => kd_type D I1
  refine wpAny_Call_method m.base m.few m.line PySem.F.plainAttrs_dict PySem.F.slot_dict_get PySem.F.type_dict_get (thn (ho.run pins s σ H _ I h) fun u s1 hv => ?_)
  obtain ⟨x, H1, I1, rx, ex, q1⟩ := hv
  subst ex
  obtain rfl : u = Value.ref d := rx
  refine ⟨ht s1 H1 I1, fun a ea => ?_, ?_⟩
  · cases ea
    exact ⟨_, I1.kIn d _ D.at_, rfl⟩
  · rw [m.trees]
    refine Calls.callWith_builtin rfl (Calls.evalArgs_plain (Calls.spliced_cons (thn (he.run pins s1 σ H1 _ I1 q1) fun kv s2 hk => ?_)))
    obtain ⟨y, H2, I2, ry, q2⟩ := hk
    refine Calls.spliced_cons (thn (hf.run pins s2 σ H2 _ I2 q2) fun fv s3 hz => Calls.spliced_nil ?_)
    obtain ⟨z, H3, I3, rz, k, ov, rfl, en, q3⟩ := hz
    obtain ⟨t, rfl⟩ := ry
    have mp := PySem.W.mapOf_K (prog := X.prog) (w := X.w) I3.kIn D.at_ D.lit
    refine call_meetsIn PySem.F.slot_dict_get (ht s3 H3 I3) PySem.F.entry_dict_get (PySem.F.args_dict_get_3 _ _ _) (meets_dict_get_default (strKind X.prog X.w) d (strKind_is X.prog X.w k t) D.low fv) ⟨_, mp, ?_⟩
    rw [PySem.W.find_K D.at_ en]
    rcases q3 with ⟨rfl, q⟩ | ⟨v, u, rfl, rv, q⟩
    · exact ⟨z, H3, I3.tok _, rz, q⟩
    · exact ⟨v, H3, I3.tok _, rv, q⟩
end

/-! ### a def by its name -/
/-- the module's name x is a def that keeps its promise -/
def OkF (P : Program) (w : World) (K : PySem.W.Frag) (mg : Str → Option Value) (base : Heap) (x : Str) (k : Nat) (ps : List Str) (sp : Sp) : Prop :=
  ∃ f fd, mg x = some (.ref f) ∧ PySem.W.keepIn K (.ref f) = true ∧ Binds K fd ps [] ∧ FnOk P w K mg base CX0 k f fd ps sp
section
variable {X : Cx} {x : Str} {k : Nat} {ps : List Str} {sp : Sp} {p pos : Pos} {e : Expr} {es : List Expr} {t : TA}
theorem pe_fn (C : OkF X.prog X.w X.K X.mg X.base x k ps sp) (hr : Room k X.A) (hg : Gl X x) (ha : PA X (e :: es) t) (hdb : (x == ("__debug__" : Str)) = false := by decide)
    (he : starEach (e :: es) X.env = (false, eval e X.env) :: starEach es X.env := by rfl) (hpl : (backTo pos (starEach es X.env)).any (·.1) = false := by rfl) : PE X (.Call (.Name x p) (e :: es) [] pos) (tCall sp [] E0 t) := by
  obtain ⟨f, fd, hm, hk, hb, F⟩ := C
  exact pe_call F hr hg hm hk hb .nil pass0 ha hdb he hpl
theorem pe_fn0 (C : OkF X.prog X.w X.K X.mg X.base x k ps sp) (hr : Room k X.A) (hg : Gl X x) (hdb : (x == ("__debug__" : Str)) = false := by decide) : PE X (.Call (.Name x p) [] [] pos) (tCall sp [] E0 tNil) := by
  obtain ⟨f, fd, hm, hk, hb, F⟩ := C
  exact pe_call0 F hr hg hm hk hb .nil pass0 hdb
end

/-! ### a def that is called where no repr is under way -/
structure GOk (P : Program) (w : World) (K : PySem.W.Frag) (mg : Str → Option Value) (base : Heap) (k : Nat) (f : Addr) (fd : FuncData) (ps : List Str) (sp : Sp) : Prop where
  len : ∀ vs H Q E, sp vs H Q E → vs.length = ps.length
  go : ∀ (A : Around) (outer : List Env) (s : Shared) (H : Hp) (args : Args) (us : List Value) (vs : List V) (Q : VK) (E : XK), A.guards = some [] → Room k A → Env0 P w K mg base A outer s H →
    BindsTo s fd args (ps.zip us) → Vals vs us → sp vs H Q E → codeAny (model P w) A (.call (.ref f) args) (CR CX0 outer P w H s Q E) s
abbrev FnP (K : PySem.W.Frag) (x : Str) (st : Stmt) (f : Addr) (fd : FuncData) : Prop := FunD K x x (defArgs st) (defBody st) (defScope st) [] [] f fd
section
variable {P : Program} {w : World} {K : PySem.W.Frag} {mg : Str → Option Value} {base : Heap}
theorem gok_of {x : Str} {st : Stmt} {f : Addr} {fd : FuncData} {N ps : List Str} {k : Nat} {sp : Sp} (F : FnP K x st f fd) (S : FnScope N ps (defScope st)) (len : ∀ vs H Q E, sp vs H Q E → vs.length = ps.length)
    (hb : ∀ (cdv : Value) (A : Around) (outer : List Env) (s : Shared) (H : Hp) (vs : List V) (Q : VK) (E : XK), A.guards = some [] → Room k (A.deeper (envOfC x (defScope st) s.heap.objs.size f cdv)) → sp vs H Q E →
      ∃ t, PSs (cxOf CX0 P w K mg base N x (defScope st) f cdv A outer s H E) (defBody st) t ∧ t { nx := fun _ H' => Q .non H', rt := Q } (start N vs) H) : GOk P w K mg base (k + 1) f fd ps sp := by
  obtain ⟨oc, od, dV, kV, doc, pm, an, cdv, ct, osl, rfl, lk, hcd, _, _⟩ := F.ex
  refine ⟨len, fun A outer s H args us vs Q E gd hr e0 bt r hsp => ?_⟩
  have hl := len _ _ _ _ hsp
  have kx : K.In s.heap := e0.mod.kin.keeps fun b o e => (e0.bs b o e).1
  have nl : s.heap.NoLimit := e0.mod.nolimit.keeps fun b o e => (e0.bs b o e).1
  refine codeAny_call_function hr.depth (kx _ _ lk) rfl S.co S.gen rfl (PySem.W.codeRec_of kx hcd) (bt _ _ _ _ ?_)
  refine wpAny_newFunctionEnv_cells S.kind (fun y hy => ?_) fun env he s1 z => ?_
  · obtain ⟨n, v⟩ := y
    rcases S.par n (List.of_mem_zip hy).1 with q | q
    · exact .inl q
    · exact .inr ⟨q, PySem.W.cellsFrom_some _ _ _ (.inl q)⟩
  · subst he
    refine ⟨nl.keeps z.toInCall.keep, codeAny_func ?_⟩
    obtain ⟨t, ht, hq⟩ := hb cdv A outer s H vs Q E gd (hr.deeper _) hsp
    have J := inv_start (CX := CX0) (E := E) (mg := mg) (base := base) (P := P) (w := w) (K := K) S hr.hd e0 hl r z
    refine wpAny_mono (ht.run [] s1 (start N vs) H _ J hq) (fun fl s' hs => ?_) fun e s' hs => hs
    cases fl with
    | ret u =>
      obtain ⟨v, σ', H', L, rv, q⟩ := hs
      exact ⟨v, H', L.os, L.bare, L.base, L.hok, rv, q⟩
    | next =>
      obtain ⟨σ', H', L, q⟩ := hs
      exact ⟨V.non, H', L.os, L.bare, L.base, L.hok, rfl, q⟩
    | brk =>
      obtain ⟨_, _, _, q⟩ := hs
      exact q.elim
    | cont =>
      obtain ⟨_, _, _, q⟩ := hs
      exact q.elim
end
def OkG (P : Program) (w : World) (K : PySem.W.Frag) (mg : Str → Option Value) (base : Heap) (x : Str) (k : Nat) (ps : List Str) (sp : Sp) : Prop :=
  ∃ f fd, mg x = some (.ref f) ∧ PySem.W.keepIn K (.ref f) = true ∧ Binds K fd ps [] ∧ GOk P w K mg base k f fd ps sp
section
variable {X : Cx} {x : Str} {k : Nat} {ps : List Str} {sp : Sp} {p pos : Pos} {e : Expr} {es : List Expr} {t : TA}
theorem pe_gfn (gd : X.A.guards = some []) (C : OkG X.prog X.w X.K X.mg X.base x k ps sp) (hr : Room k X.A) (hg : Gl X x) (ha : PA X (e :: es) t) (hdb : (x == ("__debug__" : Str)) = false := by decide)
    (he : starEach (e :: es) X.env = (false, eval e X.env) :: starEach es X.env := by rfl) (hpl : (backTo pos (starEach es X.env)).any (·.1) = false := by rfl) : PE X (.Call (.Name x p) (e :: es) [] pos) (tCall sp [] E0 t) := by
  obtain ⟨f, fd, hm, hk, hb, F⟩ := C
  refine ⟨fun pins s σ H Q I h => wpAny_Call_Name_kw (ld_glob I hg hm ?_ hdb)⟩
  refine PySem.W.callWith_K (h₀ := X.base) I.ok.mod.kin hk (thn (ha.run pos pins s σ H _ I h) fun us s1 hz => ?_) he hpl
  obtain ⟨vs, H1, J, r, q⟩ := hz
  refine ⟨J.kIn, ?_⟩
  have hl : (us ++ []).length = ps.length := by
    rw [← (r.append (.nil : Vals [] [])).length]
    exact F.len _ _ _ _ q
  refine wpAny_call (codeAny_mono (F.go X.A X.stack s1 H1 ⟨us, []⟩ (us ++ []) (vs ++ []) Q E0 gd hr J.env0 (hb s1 us J.kIn hl) (r.append .nil) q) fun fl s' hq => ?_)
  cases fl with
  | error e => exact False.elim hq
  | ok fl =>
    cases fl with
    | ret u => exact J.after hq
    | next => exact False.elim hq
    | brk => exact False.elim hq
    | cont => exact False.elim hq
end
end My


/-! Fin: the law's end for a def that is called where no repr is under way, the script's bits told. -/
namespace My
open PySem PySem.Spec PyProof.Rows L2
section
variable {P : Program} {w : World} {K : PySem.W.Frag} {mg mb : Str → Option Value} {k : Nat} {fa a : Addr} {fd : FuncData} {x : Str} {sp : Sp} {t : Shared} {vs : List Value} {ns : List Int}
/-- from a heap that tracks the script or nothing -/
theorem law_from {H : Hp} (kx : K.In t.heap) (gl : t.heap.Ns mainGlobals mg) (bl : t.heap.Ns builtinsNs mb) (bb : ∀ y : Str, y ≠ "__name__" → mb y = bootBuiltins y) (nl : t.heap.NoLimit) (ge : t.gens = #[])
    (sc : t.heap.get? a = some { cls := .type "list", data := .seq vs.toArray }) (rm : Room k callerA) (F : ∀ bs : Heap, K.In bs → bs.Ns mainGlobals mg → GOk P w K mg bs k fa fd [x] sp)
    (bi : ∀ (s : Shared) (u : Value), BindsTo s fd ⟨[u], []⟩ [(x, u)]) (oh : Only H) (ok : HOk P w H t.heap) (one : ∀ b, H b ≠ none → b = a) (fr : H a ≠ none → K.lookup a = none)
    (pr : sp [.ref a] H (fun v _ => v = .bl true) fun _ _ _ => False) :
    codeAny (model P w) callerA (.call (.ref fa) ⟨[.ref a], []⟩) (fun r t' => r = .ok (.ret (.bool true)) ∧ OldK t.heap t'.heap ∧ t'.os = t.os ∧ AllBare t'.gens) t := by
  have dfree : ∀ b o es n, t.heap.get? b = some o → o.data = .dict es n → H b = none := by
    intro b o es n e d
    cases q : H b with
    | none => rfl
    | some u =>
      obtain rfl := one b (by rw [q]; exact fun z => nomatch z)
      rw [sc] at e
      cases e
      exact absurd d (fun z => nomatch z)
  have nsH : ∀ {b : Addr} {m : Str → Option Value}, t.heap.Ns b m → (hidT t.heap H).Ns b m := by
    rintro b m ⟨o, es, ep, e, d, r⟩
    exact ⟨o, es, ep, hidT_get e (dfree b o es ep e d), d, r⟩
  have kh : K.In (hidT t.heap H) := by
    intro b o e
    refine hidT_get (kx b o e) ?_
    cases q : H b with
    | none => rfl
    | some u =>
      have z : H b ≠ none := by rw [q]; exact fun z => nomatch z
      obtain rfl := one b z
      rw [fr z] at e
      cases e
  have md : Mod K mg (hidT t.heap H) := by
    refine ⟨kh, nsH gl, ⟨mb, nsH bl, bb⟩, ?_⟩
    obtain ⟨mc, c1, c2⟩ := nl
    exact ⟨mc, nsH c1, c2⟩
  have ev : Env0 P w K mg (hidT t.heap H) callerA [] t H :=
    ⟨rfl, md, fun b o e => of_hidT e, Nat.le_of_eq (hidT_size _ _), trivial, fun b m => absurd m (List.not_mem_nil), ok, .of_eq ge⟩
  have run := (F _ kh (nsH gl)).go callerA [] t H ⟨[.ref a], []⟩ [.ref a] [.ref a] _ _ rfl rm ev (bi t (.ref a)) (.cons rfl .nil) pr
  refine codeAny_mono run fun r t' h => ?_
  match r, h with
  | .ok (.ret u), h =>
    obtain ⟨v, H', c1, c2, c3, c4, c5, c6⟩ := h
    cases (show v = .bl true from c6)
    cases (show u = Value.bool true from c5)
    refine ⟨rfl, OldK.of_keep fun b o e => ?_, c1, c2⟩
    rcases oh b with z | ⟨ob, xs, z⟩
    · exact c3.keep b o e z (List.not_mem_nil) (List.not_mem_nil)
    · obtain ⟨g1, _⟩ := ok b _ z
      obtain ⟨g2, _⟩ := c4 b _ (c3.frzs b ob _ z)
      rw [e] at g1
      cases g1
      exact g2
  | .ok .next, h => exact h.elim
  | .ok .brk, h => exact h.elim
  | .ok .cont, h => exact h.elim
  | .error e, h => exact h.elim
theorem law_goes (kx : K.In t.heap) (gl : t.heap.Ns mainGlobals mg) (bl : t.heap.Ns builtinsNs mb) (bb : ∀ y : Str, y ≠ "__name__" → mb y = bootBuiltins y) (nl : t.heap.NoLimit) (ge : t.gens = #[])
    (sc : t.heap.get? a = some { cls := .type "list", data := .seq vs.toArray }) (hi : IntsAre vs ns) (hl : ns.length ≤ sizeLine) (rm : Room k callerA) (F : ∀ bs : Heap, K.In bs → bs.Ns mainGlobals mg → GOk P w K mg bs k fa fd [x] sp)
    (bi : ∀ (s : Shared) (u : Value), BindsTo s fd ⟨[u], []⟩ [(x, u)]) (pr : ∀ H : Hp, SqL K H a (ns.map V.int) → sp [.ref a] H (fun v _ => v = .bl true) fun _ _ _ => False) :
    codeAny (model P w) callerA (.call (.ref fa) ⟨[.ref a], []⟩) (fun r t' => r = .ok (.ret (.bool true)) ∧ OldK t.heap t'.heap ∧ t'.os = t.os ∧ AllBare t'.gens) t := by
  have rv := vals_ints hi
  have ln : vs.length = ns.length := hi.length
  cases hk : K.lookup a with
  | some o =>
    have e := kx a o hk
    rw [sc] at e
    cases e
    refine law_from (H := fun _ => none) kx gl bl bb nl ge sc rm F bi (fun _ => .inl rfl) (fun b u z => nomatch z) (fun b z => absurd rfl z) (fun z => absurd rfl z) (pr _ (.inr ?_))
    exact ⟨_, vs.toArray, _, hk, rfl, rfl, rfl, by rw [List.size_toArray, ln]; exact hl, by simpa using rv⟩
  | none =>
    have at_ : ∀ b : Addr, b = a → (fun b => if b = a then some (HO.frz { cls := .type "list", data := .seq vs.toArray } (.lst (ns.map V.int))) else none : Hp) b = some (HO.frz { cls := .type "list", data := .seq vs.toArray } (.lst (ns.map V.int))) := fun b e => if_pos e
    have off : ∀ b : Addr, b ≠ a → (fun b => if b = a then some (HO.frz { cls := .type "list", data := .seq vs.toArray } (.lst (ns.map V.int))) else none : Hp) b = none := fun b e => if_neg e
    refine law_from (H := fun b => if b = a then some (HO.frz { cls := .type "list", data := .seq vs.toArray } (.lst (ns.map V.int))) else none) kx gl bl bb nl ge sc rm F bi ?_ ?_ ?_ (fun _ => hk) (pr _ (.inl (.inr ⟨_, at_ a rfl⟩)))
    · intro b
      by_cases e : b = a
      · exact .inr ⟨_, _, at_ b e⟩
      · exact .inl (off b e)
    · intro b u z
      by_cases e : b = a
      · rw [at_ b e] at z
        cases z
        subst e
        exact ⟨sc, by rw [List.length_map]; exact hl, vs, _, rv, sc⟩
      · rw [off b e] at z
        cases z
    · intro b z
      by_cases e : b = a
      · exact e
      · exact absurd (off b e) z
end
/-- the end of a law: YP gives the written part and the law's def by facts -/
theorem walk_G {l : PySem.W.OpenLaw} {n k : Nat} {q : Program} {loose : List Str} {XP : (Str → Option Value) → Heap → Prop} {YP : World → Heap → Prop} {d : DefRec} {x : Str}
    (hn : l.most = some n) (hz : n ≤ sizeLine) (hd : d.params.defaults = []) (hr : Room k callerA)
    (F : ∀ (w : World) (mg : Str → Option Value) (fa : Addr) (h : Heap), YP w h → h.Ns mainGlobals mg → mg d.name = some (.ref fa) →
      ∃ (K : PySem.W.Frag) (fd : FuncData) (sp : Sp), K.In h ∧ (∀ (s : Shared) (u : Value), BindsTo s fd ⟨[u], []⟩ [(x, u)]) ∧
        (∀ (H : Hp) (a : Addr) (ns : List Int), ns.length ≤ n → (∀ z ∈ ns, Builtin.Int.intBits z ≤ 1048576) → SqL K H a (ns.map V.int) → sp [.ref a] H (fun v _ => v = .bl true) fun _ _ _ => False) ∧
        ∀ bs : Heap, K.In bs → bs.Ns mainGlobals mg → GOk l.prog w K mg bs k fa fd [x] sp) :
    PySem.W.WalkO q loose XP YP l.row.toRowW d [] (fun f vs => PySem.call f vs) := by
  refine Att.attach_callB hn hd fun w s₀ s₁ mg mb fa o pm cd doc a vs ns G Y ho hdo hcd hmg hobj hints hlen hbits hg => ?_
  obtain ⟨K, fd, sp, kx, hb, hsp, hF⟩ := F w mg fa _ Y G.T.g hmg
  exact law_goes kx G.T.g G.T.b G.T.builtins G.T.nolimit hg hobj hints (Nat.le_trans hlen hz) hr hF hb (fun H hS => hsp H a ns hlen hbits hS)
end My


/-! Draws: the law's own draws (_law_mixed, _law_source, _law_take): what each leaves. -/
namespace My
open PySem PySem.Spec PyProof.Rows L2

/-! ### heaps: all that was tracked, but what stands at s, is as it was -/
def Kp (s : Addr) (H H' : Hp) : Prop := ∀ b o, b ≠ s → H b = some o → H' b = some o
section
variable {s p : Addr} {H H1 H2 : Hp} {o : HO}
theorem Kp.refl (s : Addr) (H : Hp) : Kp s H H := fun _ _ _ h => h
theorem Kp.trans (a : Kp s H H1) (b : Kp s H1 H2) : Kp s H H2 := fun c u n h => b c u n (a c u n h)
theorem kp_same (a : Same H H1) : Kp s H H1 := fun c u _ h => a c u h
theorem same_new (h : H p = none) : Same H (upd H p o) := fun a u e => by
  rw [upd_ne (ne_of_none e h)]
  exact e
theorem Kp.new (h : H p = none) : Kp s H (upd H p o) := kp_same (same_new h)
theorem Kp.self : Kp s H (upd H s o) := fun c u n e => by
  rw [upd_ne n]
  exact e
theorem Kp.seq {K : PySem.W.Frag} {a : Addr} {xs : List V} (e : Kp s H H1) (n : a ≠ s) (h : SqL K H a xs) : SqL K H1 a xs := by
  rcases h with (h | ⟨u, h⟩) | h
  · exact .inl (.inl (e _ _ n h))
  · exact .inl (.inr ⟨u, e _ _ n h⟩)
  · exact .inr h
theorem Kp.tup {K : PySem.W.Frag} {a : Addr} {xs : List V} (e : Kp s H H1) (n : a ≠ s) (h : SqT K H a xs) : SqT K H1 a xs := by
  rcases h with (h | ⟨u, h⟩) | h
  · exact .inl (.inl (e _ _ n h))
  · exact .inl (.inr ⟨u, e _ _ n h⟩)
  · exact .inr h
theorem same_tup {K : PySem.W.Frag} {a : Addr} {xs : List V} (e : Same H H1) (h : SqT K H a xs) : SqT K H1 a xs := by
  rcases h with (h | ⟨u, h⟩) | h
  · exact .inl (.inl (e _ _ h))
  · exact .inl (.inr ⟨u, e _ _ h⟩)
  · exact .inr h
end

/-! ### the source -/
/-- the draws' list at s: a number, a place, the cells at c -/
def Src (H : Hp) (s c : Addr) : Prop := ∃ (n pl : Int) (ns : List Int), H s = some (.lst [.int n, .int pl, .ref c]) ∧ 0 ≤ pl ∧ H c = some (.lst (ns.map V.int))
theorem Src.same {H H' : Hp} {s c : Addr} (S : Src H s c) (e : Same H H') : Src H' s c := by
  obtain ⟨n, pl, ns, h1, h2, h3⟩ := S
  exact ⟨n, pl, ns, e _ _ h1, h2, e _ _ h3⟩
theorem Src.at {H : Hp} {s c : Addr} (S : Src H s c) : ∃ xs, H s = some (.lst xs) := by
  obtain ⟨n, pl, ns, h1, h2, h3⟩ := S
  exact ⟨_, h1⟩
theorem Src.cells {H : Hp} {s c : Addr} (S : Src H s c) : ∃ xs, H c = some (.lst xs) := by
  obtain ⟨n, pl, ns, h1, h2, h3⟩ := S
  exact ⟨_, h3⟩
/-- what stands elsewhere may change -/
theorem Src.kp {H H' : Hp} {s c p : Addr} (S : Src H s c) (hs : s ≠ p) (hc : c ≠ p) (e : Kp p H H') : Src H' s c := by
  obtain ⟨n, pl, ns, h1, h2, h3⟩ := S
  exact ⟨n, pl, ns, e _ _ hs h1, h2, e _ _ hc h3⟩
theorem Src.ne {H : Hp} {s c p : Addr} (S : Src H s c) (h : H p = none) : p ≠ s ∧ p ≠ c := by
  obtain ⟨n, pl, ns, h1, h2, h3⟩ := S
  exact ⟨(ne_of_none h1 h).symm, (ne_of_none h3 h).symm⟩
theorem src_ne {H : Hp} {s c : Addr} {n pl : Int} {ns : List Int} (h1 : H s = some (.lst [.int n, .int pl, .ref c])) (h3 : H c = some (.lst (ns.map V.int))) : c ≠ s := by
  intro e
  subst e
  rw [h1] at h3
  have q : [V.int n, V.int pl, V.ref c] = ns.map V.int := by
    injection h3 with h3
    injection h3
  have : V.ref c ∈ ns.map V.int := by
    rw [← q]
    exact List.mem_cons_of_mem _ (List.mem_cons_of_mem _ List.mem_cons_self)
  obtain ⟨z, _, e⟩ := List.mem_map.mp this
  cases e

/-! ### _law_mixed -/
def sp_law_mixed (K : PySem.W.Frag) : Sp := fun vs H Q _ => ∃ c p : Int, vs = [.int c, .int p] ∧ ∀ r : Int, Q (.int r) H
abbrev n_law_mixed : List Str := ["_law_cell", "_law_place", "_law_first", "_law_second", "_law_third"]
def t_law_mixed (K : PySem.W.Frag) : TS :=
    (tSeq (tAsg (tOp rModI (tCB cInt1 (tCons (tOp rAddI (tOp rAddI (tOp rMulI (tCB cAbs (tCons (tVar 0) tNil)) (tC (.int 48271))) (tOp rMulI (tVar 1) (tC (.int 69621)))) (tC (.int 1013))) tNil)) (tC (.int 2147483647))) (gName 2))
    (tSeq (tAsg (tOp rModI (tCB cInt1 (tCons (tOp rAddI (tOp rAddI (tOp rAddI (tOp rMulI (tVar 2) (tVar 2)) (tOp rMulI (tCB cAbs (tCons (tVar 0) tNil)) (tC (.int 16807)))) (tOp rMulI (tVar 1) (tC (.int 7919)))) (tC (.int 11))) tNil)) (tC (.int 2305843009213693951))) (gName 3))
    (tSeq (tAsg (tOp rModI (tCB cInt1 (tCons (tOp rAddI (tOp rAddI (tOp rMulI (tVar 3) (tC (.int 1442695040888963407))) (tOp rMulI (tVar 2) (tC (.int 69621)))) (tC (.int 1013))) tNil)) (tC (.int 2305843009213693951))) (gName 4))
    (tRet (tOp rAddI (tVar 4) (tC (.int 2305843009213693951)))))))
theorem len_law_mixed {K : PySem.W.Frag} {vs : List V} {H : Hp} {Q : VK} {E : XK} (h : sp_law_mixed K vs H Q E) : vs.length = 2 := by
  obtain ⟨c, p, rfl, _⟩ := h
  rfl
theorem small_mod {a b : Int} (h : 0 < b) (hb : b < 2 ^ 64) : -(2 ^ 64) < a % b ∧ a % b < 2 ^ 64 := by
  have h1 := Int.emod_nonneg a (by omega : b ≠ 0)
  have h2 := Int.emod_lt_of_pos a h
  omega
theorem run_law_mixed {K : PySem.W.Frag} {vs : List V} {H : Hp} {Q : VK} {E : XK} (h : sp_law_mixed K vs H Q E) : t_law_mixed K { nx := fun _ H' => Q .non H', rt := Q } (start n_law_mixed vs) H := by
  obtain ⟨c, p, rfl, k⟩ := h
  unfold t_law_mixed
  refine ⟨_, rfl, _, rfl, _, _, rfl, rfl, .inr ⟨by decide, by decide⟩, _, rfl, _, _, rfl, rfl, .inr ⟨by decide, by decide⟩, _, _, rfl, rfl, _, _, rfl, rfl, .inl ⟨_, rfl, _, _, rfl, rfl, (show (0 : Int) < 2147483647 by decide), ?_⟩⟩
  refine ⟨_, rfl, _, rfl, _, _, rfl, rfl, .inl (small_mod (by decide) (by decide)), _, rfl, _, rfl, _, _, rfl, rfl, .inr ⟨by decide, by decide⟩, _, _, rfl, rfl, _, rfl, _, _, rfl, rfl, .inr ⟨by decide, by decide⟩, _, _, rfl, rfl, _, _, rfl, rfl, .inl ⟨_, rfl, _, _, rfl, rfl, (show (0 : Int) < 2305843009213693951 by decide), ?_⟩⟩
  refine ⟨_, rfl, _, _, rfl, rfl, .inr ⟨by decide, by decide⟩, _, rfl, _, _, rfl, rfl, .inr ⟨by decide, by decide⟩, _, _, rfl, rfl, _, _, rfl, rfl, .inl ⟨_, rfl, _, _, rfl, rfl, (show (0 : Int) < 2305843009213693951 by decide), ?_⟩⟩
  refine ⟨_, rfl, _, _, rfl, rfl, ?_⟩
  exact k _

/-! ### _law_source -/
def sp_law_source (K : PySem.W.Frag) : Sp := fun vs H Q _ => ∃ (a : Addr) (ns : List Int), vs = [.ref a] ∧ SqL K H a (ns.map V.int) ∧ ∀ s c H', H s = none → H c = none → Same H H' → Src H' s c → Q (.ref s) H'
abbrev n_law_source : List Str := ["_law_script"]
def t_law_source (K : PySem.W.Frag) : TS :=
    (tRet (tLst (tCons (tC (.int 0)) (tCons (tC (.int 0)) (tCons (tCB (cList K) (tCons (tVar 0) tNil)) tNil)))))
theorem len_law_source {K : PySem.W.Frag} {vs : List V} {H : Hp} {Q : VK} {E : XK} (h : sp_law_source K vs H Q E) : vs.length = 1 := by
  obtain ⟨c, p, rfl, _⟩ := h
  rfl
theorem run_law_source {K : PySem.W.Frag} {vs : List V} {H : Hp} {Q : VK} {E : XK} (h : sp_law_source K vs H Q E) : t_law_source K { nx := fun _ H' => Q .non H', rt := Q } (start n_law_source vs) H := by
  obtain ⟨a, ns, rfl, hs, k⟩ := h
  unfold t_law_source
  refine ⟨_, rfl, a, _, rfl, .inl hs, fun l hl => ⟨by show 3 ≤ sizeLine; decide, fun s hs' => ?_⟩⟩
  have e1 : Same H (upd H l (.lst (ns.map V.int))) := same_new hl
  have ne : l ≠ s := ne_of_none upd_same hs'
  refine k s l _ (e1.free hs') hl (e1.trans (same_new hs')) ⟨0, 0, ns, upd_same, by decide, ?_⟩
  rw [upd_ne ne, upd_same]

/-! ### _law_take -/
def sp_law_take (K : PySem.W.Frag) : Sp := fun vs H Q _ => ∃ (s c : Addr) (m : Int), vs = [.ref s, .int m] ∧ 0 < m ∧ m.natAbs.log2 < 9000 ∧ Src H s c ∧ ∀ d H', 0 ≤ d → d < m → Src H' s c → Kp s H H' → Q (.int d) H'
abbrev n_law_take : List Str := ["_law_source_here", "_law_many", "_law_digit", "_law_cells", "_law_place"]
def t_law_take (K : PySem.W.Frag) : TS :=
    (tSeq (tIfS (tTest (tOp rLtI (tOp (rIxL K) (tVar 0) (tC (.int 0))) (tOp rMulI (tC (.int 2)) (tVar 1)))) (tSeq (tAsg (tOp (rIxL K) (tVar 0) (tC (.int 2))) (gName 3))
    (tSeq (tAsg (tOp (rIxL K) (tVar 0) (tC (.int 1))) (gName 4))
    (tSeq (tAsg (tOp rAddI (tVar 4) (tC (.int 1))) (gSub (tVar 0) (tC (.int 1)) rSetL))
    (tIfS (tAnd (tTest (tOp rLtI (tVar 4) (tCB (cLenQ K) (tCons (tVar 3) tNil)))) (tTest (tOp rGeI (tCB cAbs (tCons (tOp (rIxL K) (tVar 3) (tVar 4)) tNil)) (tOp rPowI (tC (.int 10)) (tC (.int 18)))))) (tAsg (tCB cAbs (tCons (tOp (rIxL K) (tVar 3) (tVar 4)) tNil)) (gSub (tVar 0) (tC (.int 0)) rSetL)) (tIfS (tTest (tOp rGtI (tCB (cLenQ K) (tCons (tVar 3) tNil)) (tC (.int 0)))) (tAsg (tCall (sp_law_mixed K) [] E0 (tCons (tOp (rIxL K) (tVar 3) (tOp rModI (tCB cInt1 (tCons (tVar 4) tNil)) (tCB (cLenQ K) (tCons (tVar 3) tNil)))) (tCons (tVar 4) tNil))) (gSub (tVar 0) (tC (.int 0)) rSetL)) (tAsg (tCall (sp_law_mixed K) [] E0 (tCons (tC (.int 0)) (tCons (tVar 4) tNil))) (gSub (tVar 0) (tC (.int 0)) rSetL))))))) tNext)
    (tSeq (tAsg (tOp rModI (tCB cInt1 (tCons (tOp (rIxL K) (tVar 0) (tC (.int 0))) tNil)) (tVar 1)) (gName 2))
    (tSeq (tAsg (tOp rDivI (tCB cInt1 (tCons (tOp (rIxL K) (tVar 0) (tC (.int 0))) tNil)) (tVar 1)) (gSub (tVar 0) (tC (.int 0)) rSetL))
    (tRet (tVar 2)))))
theorem len_law_take {K : PySem.W.Frag} {vs : List V} {H : Hp} {Q : VK} {E : XK} (h : sp_law_take K vs H Q E) : vs.length = 2 := by
  obtain ⟨c, p, m, rfl, _⟩ := h
  rfl
theorem at3 {a b c : V} : atI [a, b, c] 0 = some a ∧ atI [a, b, c] 1 = some b ∧ atI [a, b, c] 2 = some c := ⟨rfl, rfl, rfl⟩
theorem run_law_take {K : PySem.W.Frag} {vs : List V} {H : Hp} {Q : VK} {E : XK} (h : sp_law_take K vs H Q E) : t_law_take K { nx := fun _ H' => Q .non H', rt := Q } (start n_law_take vs) H := by
  obtain ⟨s, c, m, rfl, hm, hz, S, k⟩ := h
  unfold t_law_take
  -- what follows the if, from any source
  have rest : ∀ (σ : L2.St) (H' : Hp) (u v : Option V), σ = [some (.ref s), some (.int m), none, u, v] → Src H' s c → Kp s H H' →
      (tSeq (tAsg (tOp rModI (tCB cInt1 (tCons (tOp (rIxL K) (tVar 0) (tC (.int 0))) tNil)) (tVar 1)) (gName 2))
      (tSeq (tAsg (tOp rDivI (tCB cInt1 (tCons (tOp (rIxL K) (tVar 0) (tC (.int 0))) tNil)) (tVar 1)) (gSub (tVar 0) (tC (.int 0)) rSetL))
      (tRet (tVar 2)))) { nx := fun _ H' => Q .non H', rt := Q } σ H' := by
    rintro σ H' u v rfl ⟨n, pl, ns, h1, h2, h3⟩ kp
    have nc := src_ne h1 h3
    refine ⟨_, rfl, s, _, _, _, rfl, rfl, SqL.of h1, at3.1, .inl ⟨_, rfl, _, rfl, _, _, rfl, rfl, hm, ?_⟩⟩
    refine ⟨_, rfl, s, _, _, _, rfl, rfl, SqL.of h1, at3.1, .inl ⟨_, rfl, _, rfl, _, _, rfl, rfl, ⟨hm, hz⟩, ?_⟩⟩
    refine ⟨_, rfl, s, _, _, 0, rfl, rfl, h1, rfl, _, rfl, ?_⟩
    refine k (n % m) _ (Int.emod_nonneg _ (by omega)) (Int.emod_lt_of_pos _ hm) ⟨n / m, pl, ns, upd_same, h2, ?_⟩ (kp.trans Kp.self)
    rw [upd_ne nc]
    exact h3
  obtain ⟨n, pl, ns, h1, h2, h3⟩ := S
  have nc := src_ne h1 h3
  refine ⟨_, rfl, s, _, _, _, rfl, rfl, SqL.of h1, at3.1, _, rfl, _, _, rfl, rfl, .inl ⟨by decide, by decide⟩, _, _, rfl, rfl, _, rfl, ?_⟩
  refine ite2 (fun _ => ?_) (fun _ => rest _ H none none rfl ⟨n, pl, ns, h1, h2, h3⟩ (Kp.refl s H))
  refine ⟨_, rfl, s, _, _, _, rfl, rfl, SqL.of h1, at3.2.2, ?_⟩
  refine ⟨_, rfl, s, _, _, _, rfl, rfl, SqL.of h1, at3.2.1, ?_⟩
  refine ⟨_, rfl, _, _, rfl, rfl, _, rfl, s, _, _, 1, rfl, rfl, h1, rfl, ?_⟩
  have g1 : upd H s (.lst [.int n, .int (pl + 1), .ref c]) s = some (.lst [.int n, .int (pl + 1), .ref c]) := upd_same
  have g3 : upd H s (.lst [.int n, .int (pl + 1), .ref c]) c = some (.lst (ns.map V.int)) := by
    rw [upd_ne nc]
    exact h3
  have kp1 : Kp s H (upd H s (.lst [.int n, .int (pl + 1), .ref c])) := Kp.self
  generalize hH1 : upd H s (.lst [.int n, .int (pl + 1), .ref c]) = H1 at g1 g3 kp1
  have hset : ([.int n, .int pl, .ref c] : List V).set 1 (.int (pl + 1)) = [.int n, .int (pl + 1), .ref c] := rfl
  rw [hset, hH1]
  have fin : ∀ r : Int, rSetL (.ref s) (.int 0) (.int r) H1 fun H3 => (tSeq (tAsg (tOp rModI (tCB cInt1 (tCons (tOp (rIxL K) (tVar 0) (tC (.int 0))) tNil)) (tVar 1)) (gName 2))
      (tSeq (tAsg (tOp rDivI (tCB cInt1 (tCons (tOp (rIxL K) (tVar 0) (tC (.int 0))) tNil)) (tVar 1)) (gSub (tVar 0) (tC (.int 0)) rSetL))
      (tRet (tVar 2)))) { nx := fun _ H' => Q .non H', rt := Q } [some (.ref s), some (.int m), none, some (.ref c), some (.int pl)] H3 := fun r =>
    ⟨s, _, _, 0, rfl, rfl, g1, rfl, rest _ _ _ _ rfl ⟨r, pl + 1, ns, upd_same, by omega, by rw [upd_ne nc]; exact g3⟩ (kp1.trans Kp.self)⟩
  refine ⟨_, rfl, _, rfl, c, _, rfl, .inl (SqL.of g3), _, _, rfl, rfl, _, rfl, ?_⟩
  have third : tIfS (tTest (tOp rGtI (tCB (cLenQ K) (tCons (tVar 3) tNil)) (tC (.int 0)))) (tAsg (tCall (sp_law_mixed K) [] E0 (tCons (tOp (rIxL K) (tVar 3) (tOp rModI (tCB cInt1 (tCons (tVar 4) tNil)) (tCB (cLenQ K) (tCons (tVar 3) tNil)))) (tCons (tVar 4) tNil))) (gSub (tVar 0) (tC (.int 0)) rSetL)) (tAsg (tCall (sp_law_mixed K) [] E0 (tCons (tC (.int 0)) (tCons (tVar 4) tNil))) (gSub (tVar 0) (tC (.int 0)) rSetL))
      { nx := fun σ' H' => (tSeq (tAsg (tOp rModI (tCB cInt1 (tCons (tOp (rIxL K) (tVar 0) (tC (.int 0))) tNil)) (tVar 1)) (gName 2))
      (tSeq (tAsg (tOp rDivI (tCB cInt1 (tCons (tOp (rIxL K) (tVar 0) (tC (.int 0))) tNil)) (tVar 1)) (gSub (tVar 0) (tC (.int 0)) rSetL))
      (tRet (tVar 2)))) { nx := fun _ H' => Q .non H', rt := Q } σ' H', rt := Q } [some (.ref s), some (.int m), none, some (.ref c), some (.int pl)] H1 := by
    refine ⟨_, rfl, c, _, rfl, .inl (SqL.of g3), _, _, rfl, rfl, _, rfl, ?_⟩
    refine ite2 (fun hpos => ?_) (fun _ => ?_)
    · have hpos := of_decide_eq_true hpos
      have hlen : 0 < ((ns.map V.int).length : Int) := by exact hpos
      have h5 := Int.emod_nonneg pl (by omega : ((ns.map V.int).length : Int) ≠ 0)
      have h6 := Int.emod_lt_of_pos pl hlen
      obtain ⟨j, hj⟩ : ∃ j : Nat, pl % ((ns.map V.int).length : Int) = (j : Int) := ⟨_, (Int.toNat_of_nonneg h5).symm⟩
      have hjl : j < (ns.map V.int).length := by omega
      have hjn : j < ns.length := by rw [List.length_map] at hjl; exact hjl
      refine ⟨_, rfl, _, rfl, .inl ⟨_, rfl, _, rfl, c, _, rfl, .inl (SqL.of g3), _, _, rfl, rfl, hlen, c, _, _, V.int ns[j], rfl, rfl, SqL.of g3, ?_, _, rfl, _, _, rfl, fun r => ⟨_, rfl, fin r⟩⟩⟩
      rw [hj]
      exact atI_nat (by rw [List.getElem?_map, List.getElem?_eq_getElem hjn] <;> rfl)
    · exact ⟨_, rfl, _, _, rfl, fun r => ⟨_, rfl, fin r⟩⟩
  refine ite2 (fun hlt => ?_) (fun _ => third)
  have hlt := of_decide_eq_true hlt
  have hlt : pl < ((ns.map V.int).length : Int) := hlt
  obtain ⟨j, rfl⟩ : ∃ j : Nat, pl = (j : Int) := ⟨_, (Int.toNat_of_nonneg h2).symm⟩
  have hjl : j < (ns.map V.int).length := by omega
  have hjn : j < ns.length := by rw [List.length_map] at hjl; exact hjl
  have hat : atI (ns.map V.int) (j : Int) = some (V.int ns[j]) := atI_nat (by rw [List.getElem?_map, List.getElem?_eq_getElem hjn] <;> rfl)
  refine ⟨_, rfl, _, rfl, c, _, _, _, rfl, rfl, SqL.of g3, hat, _, rfl, _, _, rfl, rfl, ⟨by decide, by decide, by decide⟩, _, _, rfl, rfl, _, rfl, ?_⟩
  refine ite2 (fun _ => ?_) (fun _ => third)
  refine ⟨_, rfl, _, rfl, c, _, _, _, rfl, rfl, SqL.of g3, hat, _, rfl, _, rfl, fin _⟩
end My


/-! Names: comprehensions whose elements change nothing; names (is_name, is_step_name, is_text). -/
namespace My
open PySem PySem.Spec PyProof.Rows L2 TL

/-! ### a comprehension without a test whose element is a value and leaves all as it was -/
theorem lc_ev {J : It} {n : Nat} {G : Hp → Prop} {Y : Nat → Hp → V → Hp → Prop} (w : Walk J n G Y) {g : TG} {te : TE} {vs : List Nat} {σ : L2.St} {H1 : Hp} {D : Addr} {Qd : Hp → Prop} (f : Nat → V)
    (hn : n ≤ 1000000) (hD : H1 D = none) (hY : ∀ i H x H', Y i H x H' → Same H H') (hG : ∀ H, Same H1 H → G H)
    (he : ∀ i x H H' (Q : VK), i < n → Same H1 H → Y i H x H' → (∀ H2, Same H' H2 → Q (f i) H2) → g x (wipe σ vs) H' fun σ2 H2 => wipe σ2 vs = wipe σ vs ∧ te σ2 H2 Q)
    (hQ : ∀ H2, Same H1 H2 → H2 D = some (.lst ((List.range n).map f)) → Qd H2) :
    ∃ W : Nat → Nat → Hp → Prop, (∃ m, W 0 m (upd H1 D (.lst []))) ∧ ∀ i m H, W i m H →
      (J.stop i H ∧ Qd H) ∨ (J.go i H ∧ ∃ Nx : Hp → Prop, (∀ H', Nx H' → ∃ m', m' < m ∧ W (i + 1) m' H') ∧ ∀ x H', J.yld i H x H' → g x (wipe σ vs) H' fun σ2 H2 => wipe σ2 vs = wipe σ vs ∧ tYes σ2 H2 fun b H3 =>
        if b = true then te σ2 H3 fun y H4 => ∃ acc, H4 D = some (.lst acc) ∧ acc.length < sizeLine ∧ Nx (upd H4 D (.lst (acc ++ [y]))) else Nx H3) := by
  refine lc_it w (fun i H => Same H1 H ∧ H D = some (.lst ((List.range i).map f))) ⟨same_new hD, upd_same⟩ (fun i H _ p => hG H p.1) ?_ (fun H p => hQ H p.1 p.2)
  rintro i x H H' hi ⟨p1, p2⟩ y
  have s1 := hY i H x H' y
  have z := he i x H H' (fun y H4 => ∃ acc, H4 D = some (.lst acc) ∧ acc.length < sizeLine ∧ (Same H1 (upd H4 D (.lst (acc ++ [y]))) ∧ upd H4 D (.lst (acc ++ [y])) D = some (.lst ((List.range (i + 1)).map f)))) hi p1 y ?_
  · exact z
  · intro H2 s2
    refine ⟨_, s2 _ _ (s1 _ _ p2), ?_, ?_, ?_⟩
    · rw [List.length_map, List.length_range]
      exact Nat.lt_of_lt_of_le (by omega : i < 1000000) (by decide)
    · intro b o e
      rw [upd_ne (ne_of_none e hD)]
      exact s2 _ _ (s1 _ _ (p1 _ _ e))
    · rw [upd_same, List.range_succ, List.map_append] <;> rfl
theorem same_refl {H H' : Hp} (e : H' = H) : Same H H' := by
  rw [e]
  exact Same.refl H

/-! ### texts -/
theorem tl_size (z : Str) : z.cps.size = z.length := rfl
theorem map_range_tl (z : Str) (f : Nat → Bool) (g : Nat → V) (h : ∀ i c, z.cps[i]? = some c → g i = V.bl (f c)) : (List.range z.cps.size).map g = ((tl z).map f).map V.bl := by
  apply List.ext_getElem
  · simp [tl]
  · intro i h1 h2
    simp only [List.getElem_map, List.getElem_range]
    have hi : i < z.cps.size := by simpa using h1
    rw [h i z.cps[i] (by simp [hi])]
    simp [tl]
/-- all([f(c) for c in z]) for a text z in slot j, the comprehension's name in slot i -/
theorem all_signs {K : PySem.W.Frag} {i j : Nat} {te : TE} {σ : L2.St} {H : Hp} {Q : VK} {z : Str} (f : Nat → Bool) (hj : σ[j]? = some (some (.str z))) (hz : z.length ≤ 1000000)
    (hw : ∀ v, wipe ((wipe σ [i]).set i (some v)) [i] = wipe σ [i])
    (he : ∀ c (H' : Hp) (R : VK), c ∈ tl z → R (.bl (f c)) H' → te ((wipe σ [i]).set i (some (.str ⟨#[c]⟩))) H' R)
    (k : ∀ H', Same H H' → Q (.bl ((tl z).all f)) H') :
    tCB (rAll K) (tCons (tLc (iStr (tVar j)) (gName i) tYes te [i]) tNil) σ H Q := by
  refine ⟨_, hj, z, rfl, fun D hD => ?_⟩
  refine lc_ev (w := walk_str) (fun m => match z.cps[m]? with | some c => .bl (f c) | none => .non) hz hD ?_ (fun _ _ => True.intro) ?_ ?_
  · rintro m H1 x H' ⟨e, _⟩
    exact same_refl e
  · rintro m x H1 H' R hm s1 ⟨rfl, c, hc, rfl⟩ hR
    refine ⟨hw _, he c H' R ?_ ?_⟩
    · have e : (tl z)[m]? = some c := by simpa [tl] using hc
      exact List.mem_of_getElem? e
    · have q := hR H' (Same.refl _)
      rw [hc] at q
      exact q
  · intro H2 s2 h2
    refine ⟨D, (tl z).map f, rfl, SqL.of ?_, ?_⟩
    · rw [h2]
      congr 2
      exact map_range_tl z f _ fun m c hc => by rw [hc]
    · rw [List.all_map]
      exact k H2 s2
theorem ix_str0 {z : Str} {c : Nat} {l : List Nat} (h : tl z = c :: l) : atI z.cps.toList 0 = some c := by
  have e : z.cps.toList = c :: l := h
  rw [e]
  exact atI_nat (j := 0) rfl
theorem len_cons {z : Str} {c : Nat} {l : List Nat} (h : tl z = c :: l) : z.length = l.length + 1 := by
  rw [len_tl, h]
  rfl

/-! ### names -/
def c_LETTERS : Str := "abcdefghijklmnopqrstuvwxyz"
def c_DIGITS : Str := "0123456789"
def c_FRAME : Str := "frame"
def c_CHARACTERS : Str := "!\"#$&'()*+,-./0123456789:;<=>?@ABCDEFGHIJKLMNOPQRSTUVWXYZ[\\]^_`abcdefghijklmnopqrstuvwxyz{|}~"
def isLet (c : Nat) : Bool := decide (c ∈ tl c_LETTERS)
def isDig (c : Nat) : Bool := decide (c ∈ tl c_DIGITS)
def isSign (c : Nat) : Bool := decide (c ∈ tl c_CHARACTERS)
def nameOk : List Nat → Bool
  | [] => false
  | c :: l => decide (l.length < 12) && (isLet c && (c :: l).all fun d => isLet d || isDig d)
def isName (z : Str) : Bool := nameOk (tl z)
def isText (z : Str) : Bool := (tl z).all isSign
section
variable {K : PySem.W.Frag} {vs : List V} {H : Hp} {Q : VK} {E : XK}
def sp_is_name (K : PySem.W.Frag) : Sp := fun vs H Q _ => ∃ z : Str, vs = [.str z] ∧ z.length ≤ 1000000 ∧ ∀ H', Same H H' → Q (.bl (isName z)) H'
abbrev n_is_name : List Str := ["text", "char"]
def t_is_name (K : PySem.W.Frag) : TS :=
    (tSeq (tIfS (tOr (tNot (tTest (tChain rLeI rLeI (tC (.int 1)) (tCB cLenS (tCons (tVar 0) tNil)) (tC (.int 12))))) (tTest (tOp rNotInSign (tOp rIxS (tVar 0) (tC (.int 0))) (tC (.str c_LETTERS))))) (tRet (tC (.bl false))) tNext)
    (tRet (tCB (rAll K) (tCons (tLc (iStr (tVar 0)) (gName 1) tYes (tOrV (tOp rInSign (tVar 1) (tC (.str c_LETTERS))) (tOp rInSign (tVar 1) (tC (.str c_DIGITS)))) [1]) tNil))))
theorem len_is_name (h : sp_is_name K vs H Q E) : vs.length = 1 := by
  obtain ⟨z, rfl, _⟩ := h
  rfl
theorem run_is_name (h : sp_is_name K vs H Q E) : t_is_name K { nx := fun _ H' => Q .non H', rt := Q } (start n_is_name vs) H := by
  obtain ⟨z, rfl, hz, k⟩ := h
  unfold t_is_name
  have hsz : z.length ≤ sizeLine := Nat.le_trans hz (by decide)
  refine ⟨_, rfl, z, rfl, hsz, _, _, rfl, rfl, _, rfl, ?_⟩
  cases e : tl z with
  | nil =>
    have hl : z.length = 0 := by rw [len_tl, e]; rfl
    have d1 : decide ((1 : Int) ≤ (z.length : Int)) = false := by rw [hl]; rfl
    rw [d1]
    refine iteF ⟨_, rfl, iteT (iteT ?_)⟩
    have := k H (Same.refl H)
    rw [isName, e] at this
    exact this
  | cons c l =>
    have hl := len_cons e
    have d1 : decide ((1 : Int) ≤ (z.length : Int)) = true := decide_eq_true (by omega)
    rw [d1]
    refine iteT ⟨_, _, rfl, rfl, _, rfl, ?_⟩
    by_cases h12 : l.length < 12
    · have d2 : decide ((z.length : Int) ≤ 12) = true := decide_eq_true (by omega)
      rw [d2]
      refine iteF ⟨_, rfl, z, _, c, rfl, rfl, hsz, ix_str0 e, c, _, rfl, rfl, _, rfl, ?_⟩
      by_cases hc : isLet c = true
      · have d3 : (!decide (c ∈ c_LETTERS.cps.toList)) = false := by
          have : decide (c ∈ c_LETTERS.cps.toList) = true := hc
          rw [this]; rfl
        rw [d3]
        refine iteF ?_
        refine all_signs (fun d => isLet d || isDig d) rfl hz (fun _ => rfl) ?_ ?_
        · intro d H' R hd hR
          refine ⟨_, rfl, d, _, rfl, rfl, _, rfl, ?_⟩
          by_cases hd1 : isLet d = true
          · have d4 : decide (d ∈ c_LETTERS.cps.toList) = true := hd1
            rw [d4]
            rw [hd1] at hR
            exact iteT hR
          · have d4 : decide (d ∈ c_LETTERS.cps.toList) = false := Bool.eq_false_iff.mpr hd1
            rw [d4]
            refine iteF ⟨_, rfl, d, _, rfl, rfl, ?_⟩
            have d5 : isLet d = false := by simpa using hd1
            rw [d5, Bool.false_or] at hR
            exact hR
        · intro H' s
          have := k H' s
          rw [isName, e] at this
          rw [e]
          rw [nameOk, decide_eq_true h12, hc, Bool.true_and, Bool.true_and] at this
          exact this
      · have hc' : isLet c = false := by simpa using hc
        have d3 : (!decide (c ∈ c_LETTERS.cps.toList)) = true := by
          have : decide (c ∈ c_LETTERS.cps.toList) = false := hc'
          rw [this]; rfl
        rw [d3]
        refine iteT ?_
        have := k H (Same.refl H)
        rw [isName, e, nameOk, hc', Bool.false_and, Bool.and_false] at this
        exact this
    · have d2 : decide ((z.length : Int) ≤ 12) = false := decide_eq_false (by omega)
      rw [d2]
      refine iteT (iteT ?_)
      have := k H (Same.refl H)
      rw [isName, e, nameOk, decide_eq_false h12, Bool.false_and] at this
      exact this

def sp_is_step_name (K : PySem.W.Frag) : Sp := fun vs H Q _ => ∃ z : Str, vs = [.str z] ∧ z.length ≤ 1000000 ∧ ∀ H', Same H H' → Q (.bl (isName z && !decide (z = c_FRAME))) H'
abbrev n_is_step_name : List Str := ["text"]
def t_is_step_name (K : PySem.W.Frag) : TS :=
    (tRet (tAndV (tCall (sp_is_name K) [] E0 (tCons (tVar 0) tNil)) (tOp rNe (tVar 0) (tC (.str c_FRAME)))))
theorem len_is_step_name (h : sp_is_step_name K vs H Q E) : vs.length = 1 := by
  obtain ⟨z, rfl, _⟩ := h
  rfl
theorem run_is_step_name (h : sp_is_step_name K vs H Q E) : t_is_step_name K { nx := fun _ H' => Q .non H', rt := Q } (start n_is_step_name vs) H := by
  obtain ⟨z, rfl, hz, k⟩ := h
  unfold t_is_step_name
  refine ⟨_, rfl, z, rfl, hz, fun H' s => ⟨_, rfl, ?_⟩⟩
  cases hc : isName z with
  | false =>
    have := k H' s
    rw [hc] at this
    exact iteF this
  | true =>
    have := k H' s
    rw [hc] at this
    refine iteT ⟨_, rfl, rfl, ?_⟩
    have e : decide ((V.str z) = V.str c_FRAME) = decide (z = c_FRAME) := by
      by_cases q : z = c_FRAME
      · subst q; simp
      · rw [decide_eq_false q]; exact decide_eq_false (fun r => q (V.str.inj r))
    show Q (.bl (!decide (V.str z = V.str c_FRAME))) H'
    rw [e]
    exact this

def sp_is_text (K : PySem.W.Frag) : Sp := fun vs H Q _ => ∃ z : Str, vs = [.str z] ∧ z.length ≤ 1000000 ∧ ∀ H', Same H H' → Q (.bl (isText z)) H'
abbrev n_is_text : List Str := ["text", "char"]
def t_is_text (K : PySem.W.Frag) : TS :=
    (tRet (tCB (rAll K) (tCons (tLc (iStr (tVar 0)) (gName 1) tYes (tOp rInSign (tVar 1) (tC (.str c_CHARACTERS))) [1]) tNil)))
theorem len_is_text (h : sp_is_text K vs H Q E) : vs.length = 1 := by
  obtain ⟨z, rfl, _⟩ := h
  rfl
theorem run_is_text (h : sp_is_text K vs H Q E) : t_is_text K { nx := fun _ H' => Q .non H', rt := Q } (start n_is_text vs) H := by
  obtain ⟨z, rfl, hz, k⟩ := h
  unfold t_is_text
  refine all_signs isSign rfl hz (fun _ => rfl) ?_ k
  intro d H' R _ hR
  exact ⟨_, rfl, d, _, rfl, rfl, hR⟩
end
end My


/-! Nums: numbers as texts, cuts of texts and lists, data on the heap. -/
namespace My
open PySem PySem.Spec PyProof.Rows L2 TL

/-! ### texts by their signs -/
theorem str_iff {a b : Str} : V.str a = V.str b ↔ tl a = tl b := ⟨fun h => by rw [V.str.inj h], fun h => by rw [ext_tl h]⟩
theorem dec_str (a b : Str) : decide (V.str a = V.str b) = decide (tl a = tl b) := decide_eq_decide.mpr str_iff
theorem tl_cutT (z : Str) (k : Nat) : tl (cutS z none (some (k : Int))) = (tl z).take k := by
  show ((z.cps.toList.drop (HT.sIx z.length 0 none)).take (HT.sIx z.length z.length (some (k : Int)) - HT.sIx z.length 0 none)) = _
  rw [HT.sIx_none, HT.sIx_nat, List.drop_zero, Nat.sub_zero, len_tl]
  show List.take (min k (tl z).length) (tl z) = List.take k (tl z)
  rw [List.take_eq_take_iff]
  omega
theorem tl_cutD (z : Str) (k : Nat) : tl (cutS z (some (k : Int)) none) = (tl z).drop k := by
  show ((z.cps.toList.drop (HT.sIx z.length 0 (some (k : Int)))).take (HT.sIx z.length z.length none - HT.sIx z.length 0 (some (k : Int)))) = _
  rw [HT.sIx_none, HT.sIx_nat, len_tl]
  rw [List.take_of_length_le (by rw [List.length_drop]; exact Nat.le_refl _)]
  by_cases h : k ≤ (tl z).length
  · rw [Nat.min_eq_left h]
  · rw [Nat.min_eq_right (by omega), List.drop_eq_nil_of_le (Nat.le_refl _), List.drop_eq_nil_of_le (by omega)]
theorem cutV_D (xs : List V) (k : Nat) : cutV xs (some (k : Int)) none = xs.drop k := by
  unfold cutV
  rw [HT.sIx_none, HT.sIx_nat]
  rw [List.take_of_length_le (by rw [List.length_drop]; exact Nat.le_refl _)]
  by_cases h : k ≤ xs.length
  · rw [Nat.min_eq_left h]
  · rw [Nat.min_eq_right (by omega), List.drop_eq_nil_of_le (Nat.le_refl _), List.drop_eq_nil_of_le (by omega)]
theorem cutV_T (xs : List V) (k : Nat) : cutV xs none (some (k : Int)) = xs.take k := by
  unfold cutV
  rw [HT.sIx_none, HT.sIx_nat, List.drop_zero, Nat.sub_zero, List.take_eq_take_iff]
  omega
theorem cutV_DT (xs : List V) (k m : Nat) (h : k ≤ m) (hm : m ≤ xs.length) : cutV xs (some (k : Int)) (some (m : Int)) = (xs.drop k).take (m - k) := by
  unfold cutV
  rw [HT.sIx_nat, HT.sIx_nat, Nat.min_eq_left hm, Nat.min_eq_left (by omega)]

/-! ### numbers -/
def numS (i : Int) : Str := Str.ofString (toString i)
def numC (i : Int) : List Nat := if i < 0 then 45 :: numL i.natAbs else numL i.natAbs
theorem tl_numS (i : Int) : tl (numS i) = numC i := by
  unfold numS numC
  by_cases h : i < 0
  · rw [if_pos h]
    obtain ⟨n, rfl⟩ : ∃ n : Nat, i = Int.negSucc n := ⟨(-i - 1).toNat, by omega⟩
    have e : toString (Int.negSucc n) = "-" ++ toString ((n + 1 : Nat) : Int) := rfl
    rw [e, tl_ofString, String.toList_append, List.map_append, ← tl_ofString, ← tl_ofString, tl_num]
    have e2 : tl (Str.ofString "-") = [45] := by decide +kernel
    rw [e2]
    rfl
  · rw [if_neg h]
    obtain ⟨n, rfl⟩ : ∃ n : Nat, i = (n : Int) := ⟨i.toNat, by omega⟩
    exact tl_num n
theorem numC_free {i : Int} {s : Nat} (h : s < 45 ∨ 57 < s) : s ∉ numC i := by
  unfold numC
  have q := numL_free (n := i.natAbs) (s := s) (by omega)
  by_cases hi : i < 0
  · rw [if_pos hi]
    intro m
    rcases List.mem_cons.mp m with e | e
    · omega
    · exact q e
  · rw [if_neg hi]
    exact q
theorem numC_len {i : Int} (h : i.natAbs < 10 ^ 60) : (numC i).length ≤ 61 := by
  have q := numL_len (n := i.natAbs) (k := 60) (by decide) h
  unfold numC
  by_cases hi : i < 0
  · rw [if_pos hi, List.length_cons]
    omega
  · rw [if_neg hi]
    omega
theorem numS_len {i : Int} (h : i.natAbs < 10 ^ 60) : (numS i).length ≤ 61 := by
  rw [len_tl, tl_numS]
  exact numC_len h
theorem int_numS {i : Int} (h : i.natAbs < 10 ^ 60) : intText? (numS i) = some i := by
  have hl := numS_len h
  have et : (numS i).cps.toList = numC i := tl_numS i
  by_cases hi : i < 0
  · have e : numC i = 45 :: numL i.natAbs := if_pos hi
    rw [intText_neg (x := numS i) (cs := numL i.natAbs) (et.trans e) (numL_digits _) (numL_ne _) (by omega), numL_val]
    congr 1
    omega
  · have e : numC i = numL i.natAbs := if_neg hi
    rw [intText_digits (x := numS i) (by rw [et, e]; exact numL_digits _) (by rw [et, e]; exact numL_ne _) (by omega), et, e, numL_val]
    congr 1
    omega
/-- the first digit of a number above 9 .. -/
theorem numL_head : ∀ n : Nat, 0 < n → ∃ c l, numL n = c :: l ∧ c ≠ 48 := by
  intro n
  induction n using Nat.strongRecOn with
  | _ n ih =>
    intro h
    by_cases h10 : n < 10
    · exact ⟨48 + n, [], numL_lt h10, by omega⟩
    · obtain ⟨c, l, e, hc⟩ := ih (n / 10) (by omega) (by omega)
      exact ⟨c, l ++ [48 + n % 10], by rw [numL_step (by omega), e]; rfl, hc⟩
theorem numL_dig (n : Nat) : (numL n).all isDig = true := by
  rw [List.all_eq_true]
  intro c hc
  have h : 48 ≤ c ∧ c ≤ 57 := by
    rcases Nat.lt_or_ge c 48 with h | h
    · exact absurd hc (numL_free (.inl h))
    · rcases Nat.lt_or_ge 57 c with h2 | h2
      · exact absurd hc (numL_free (.inr h2))
      · exact ⟨h, h2⟩
  have hall : ∀ c : Nat, c < 58 → 48 ≤ c → isDig c = true := by decide +kernel
  exact hall c (by omega) h.1
theorem log2_small {i : Int} (h : i.natAbs < 10 ^ 60) : i.natAbs.log2 < 1920 :=
  Nat.lt_of_lt_of_le (PySem.Flt.log2_lt_of (k := 200) (by decide) (Nat.lt_of_lt_of_le h (by decide +kernel))) (by decide)

/-! ### data on the heap -/
section
variable {K : PySem.W.Frag} {H H' : Hp}
mutual
theorem Dp.same' (e : Same H H') : ∀ (d : PyData) (v : V), Dp K H v d → Dp K H' v d
  | .none, _, h => by cases h; exact .non
  | .bool b, _, h => by cases h; exact .bl b
  | .int i, _, h => by cases h; exact .int i
  | .str x, _, h => by cases h; exact .str x
  | .list ds, _, h => by
    cases h with
    | lst hs ha => exact .lst (e.seq hs) (DpAll.same' e ds _ ha)
  | .tuple ds, _, h => by
    cases h with
    | tup hs ha => exact .tup (same_tup e hs) (DpAll.same' e ds _ ha)
  | .dict _, _, h => by cases h
theorem DpAll.same' (e : Same H H') : ∀ (ds : List PyData) (vs : List V), DpAll K H vs ds → DpAll K H' vs ds
  | [], _, h => by cases h; exact .nil
  | d :: ds, _, h => by
    cases h with
    | cons h1 h2 => exact .cons (Dp.same' e d _ h1) (DpAll.same' e ds _ h2)
end
theorem dp_same {v : V} {d : PyData} (h : Dp K H v d) (e : Same H H') : Dp K H' v d := Dp.same' e d v h
theorem dpAll_same {vs : List V} {ds : List PyData} (h : DpAll K H vs ds) (e : Same H H') : DpAll K H' vs ds := DpAll.same' e ds vs h
mutual
def noL : PyData → Bool
  | .list _ => false
  | .dict _ => false
  | .tuple ds => noLs ds
  | _ => true
def noLs : List PyData → Bool
  | [] => true
  | d :: ds => noL d && noLs ds
end
theorem tup_kp {s a : Addr} {xs zs : List V} (e : Kp s H H') (hs : H s = some (.lst zs)) (h : SqT K H a xs) : SqT K H' a xs := by
  rcases h with (h | ⟨u, h⟩) | h
  · exact .inl (.inl (e _ _ (ne_of h hs (fun z => nomatch z)) h))
  · exact .inl (.inr ⟨u, e _ _ (ne_of h hs (fun z => nomatch z)) h⟩)
  · exact .inr h
mutual
theorem Dp.kp' {s : Addr} {zs : List V} (e : Kp s H H') (hs : H s = some (.lst zs)) : ∀ (d : PyData) (v : V), noL d = true → Dp K H v d → Dp K H' v d
  | .none, _, _, h => by cases h; exact .non
  | .bool b, _, _, h => by cases h; exact .bl b
  | .int i, _, _, h => by cases h; exact .int i
  | .str x, _, _, h => by cases h; exact .str x
  | .list ds, _, n, h => by cases n
  | .tuple ds, _, n, h => by
    cases h with
    | tup ht ha => exact .tup (tup_kp e hs ht) (DpAll.kp' e hs ds _ n ha)
  | .dict _, _, n, h => by cases n
theorem DpAll.kp' {s : Addr} {zs : List V} (e : Kp s H H') (hs : H s = some (.lst zs)) : ∀ (ds : List PyData) (vs : List V), noLs ds = true → DpAll K H vs ds → DpAll K H' vs ds
  | [], _, _, h => by cases h; exact .nil
  | d :: ds, _, n, h => by
    have n2 : (noL d && noLs ds) = true := n
    cases h with
    | cons h1 h2 => exact .cons (Dp.kp' e hs d _ (Bool.and_eq_true_iff.mp n2).1 h1) (DpAll.kp' e hs ds _ (Bool.and_eq_true_iff.mp n2).2 h2)
end
theorem dp_tup {v : V} {ds : List PyData} (h : Dp K H v (.tuple ds)) : ∃ a xs, v = .ref a ∧ SqT K H a xs ∧ DpAll K H xs ds := by
  cases h with
  | tup h1 h2 => exact ⟨_, _, rfl, h1, h2⟩
theorem dp_str {v : V} {z : Str} (h : Dp K H v (.str z)) : v = .str z := by cases h; rfl
theorem dp_int {v : V} {i : Int} (h : Dp K H v (.int i)) : v = .int i := by cases h; rfl
theorem dpAll_nil {xs : List V} (h : DpAll K H xs []) : xs = [] := by cases h; rfl
theorem dpAll_cons {xs : List V} {d : PyData} {ds : List PyData} (h : DpAll K H xs (d :: ds)) : ∃ v vs, xs = v :: vs ∧ Dp K H v d ∧ DpAll K H vs ds := by
  cases h with
  | cons h1 h2 => exact ⟨_, _, rfl, h1, h2⟩
theorem dpAll_len : ∀ {xs : List V} {ds : List PyData}, DpAll K H xs ds → xs.length = ds.length
  | _, _, .nil => rfl
  | _, _, .cons _ h => by rw [List.length_cons, List.length_cons, dpAll_len h]
theorem dpAll_get : ∀ {xs : List V} {ds : List PyData} {i : Nat} {v : V}, DpAll K H xs ds → xs[i]? = some v → ∃ d, ds[i]? = some d ∧ Dp K H v d
  | _, _, i, v, .nil, e => by simp at e
  | _, _, 0, v, .cons h _, e => by simp at e; subst e; exact ⟨_, rfl, h⟩
  | _, _, i + 1, v, .cons _ h, e => by
    obtain ⟨d, e1, e2⟩ := dpAll_get (i := i) (v := v) h (by simpa using e)
    exact ⟨d, by simpa using e1, e2⟩
theorem dpAll_strs : ∀ {xs : List V} {zs : List Str}, DpAll K H xs (zs.map PyData.str) → xs = zs.map V.str
  | _, [], h => dpAll_nil h
  | _, z :: zs, h => by
    obtain ⟨v, vs, rfl, h1, h2⟩ := dpAll_cons h
    rw [dp_str h1, dpAll_strs h2]
    rfl
theorem strs_dpAll : ∀ (zs : List Str), DpAll K H (zs.map V.str) (zs.map PyData.str)
  | [] => .nil
  | z :: zs => .cons (.str z) (strs_dpAll zs)
theorem dpAll_append : ∀ {xs ys : List V} {ds es : List PyData}, DpAll K H xs ds → DpAll K H ys es → DpAll K H (xs ++ ys) (ds ++ es)
  | _, _, _, _, .nil, h => h
  | _, _, _, _, .cons h1 h2, h => .cons h1 (dpAll_append h2 h)
end
end My


/-! Comps: comprehensions whose elements are new objects; joins; membership. -/
namespace My
open PySem PySem.Spec PyProof.Rows L2 TL
theorem lc_rel {J : It} {n : Nat} {G : Hp → Prop} {Y : Nat → Hp → V → Hp → Prop} (w : Walk J n G Y) {g : TG} {te : TE} {vs : List Nat} {σ : L2.St} {H1 : Hp} {D : Addr} {Qd : Hp → Prop} (R : Nat → V → Hp → Prop)
    (hR : ∀ i y H H', (∀ b o, b ≠ D → H b = some o → H' b = some o) → R i y H → R i y H')
    (hn : n ≤ 1000000) (hD : H1 D = none) (hY : ∀ i H x H', Y i H x H' → Same H H') (hG : ∀ H, Same H1 H → G H)
    (he : ∀ i x H H' (Q : VK), i < n → Same H1 H → (∃ l, H D = some (.lst l)) → Y i H x H' → (∀ y H2, Same H' H2 → R i y H2 → Q y H2) → g x (wipe σ vs) H' fun σ2 H2 => wipe σ2 vs = wipe σ vs ∧ te σ2 H2 Q)
    (hQ : ∀ acc H2, Same H1 H2 → H2 D = some (.lst acc) → acc.length = n → (∀ i y, acc[i]? = some y → R i y H2) → Qd H2) :
    ∃ W : Nat → Nat → Hp → Prop, (∃ m, W 0 m (upd H1 D (.lst []))) ∧ ∀ i m H, W i m H →
      (J.stop i H ∧ Qd H) ∨ (J.go i H ∧ ∃ Nx : Hp → Prop, (∀ H', Nx H' → ∃ m', m' < m ∧ W (i + 1) m' H') ∧ ∀ x H', J.yld i H x H' → g x (wipe σ vs) H' fun σ2 H2 => wipe σ2 vs = wipe σ vs ∧ tYes σ2 H2 fun b H3 =>
        if b = true then te σ2 H3 fun y H4 => ∃ acc, H4 D = some (.lst acc) ∧ acc.length < sizeLine ∧ Nx (upd H4 D (.lst (acc ++ [y]))) else Nx H3) := by
  refine lc_it w (fun i H => Same H1 H ∧ ∃ acc, H D = some (.lst acc) ∧ acc.length = i ∧ ∀ j y, acc[j]? = some y → R j y H) ⟨same_new hD, [], upd_same, rfl, fun j y e => by simp at e⟩ (fun i H _ p => hG H p.1) ?_ (fun H p => ?_)
  · rintro i x H H' hi ⟨p1, acc, p2, p3, p4⟩ y
    have s1 := hY i H x H' y
    refine he i x H H' _ hi p1 ⟨acc, p2⟩ y ?_
    intro z H2 s2 r
    refine ⟨acc, s2 _ _ (s1 _ _ p2), ?_, ?_, acc ++ [z], upd_same, ?_, ?_⟩
    · rw [p3]
      exact Nat.lt_of_lt_of_le (by omega : i < 1000000) (by decide)
    · intro b o e
      rw [upd_ne (ne_of_none e hD)]
      exact s2 _ _ (s1 _ _ (p1 _ _ e))
    · rw [List.length_append, List.length_singleton, p3]
    · have up : ∀ b o, b ≠ D → H2 b = some o → upd H2 D (.lst (acc ++ [z])) b = some o := fun b o nb e => by rw [upd_ne nb]; exact e
      intro j u e
      by_cases hj : j < acc.length
      · rw [List.getElem?_append_left hj] at e
        refine hR j u H2 _ up (hR j u H H2 (fun b o _ e => s2 _ _ (s1 _ _ e)) (p4 j u e))
      · rw [List.getElem?_append_right (by omega)] at e
        have hj0 : j = i := by
          have : j - acc.length < 1 := by
            have := (List.getElem?_eq_some_iff.mp e).1
            simpa using this
          omega
        subst hj0
        rw [p3, Nat.sub_self] at e
        have : z = u := by simpa using e
        subst this
        exact hR _ z H2 _ up r
  · obtain ⟨p1, acc, p2, p3, p4⟩ := p
    exact hQ acc H p1 p2 p3 p4

/-! ### joins by signs -/
theorem tl_joinT (y : Str) (ps : List Str) : tl (Txt.join y ps) = joinL (tl y) (ps.map tl) := by rw [join_eq, tl_join]
theorem joinL_cons {S p : List Nat} {r : List (List Nat)} (h : r ≠ []) : joinL S (p :: r) = p ++ (S ++ joinL S r) := by
  cases r with
  | nil => exact absurd rfl h
  | cons q r => rfl
theorem joinL_snoc {S p : List Nat} : ∀ {r : List (List Nat)}, r ≠ [] → joinL S (r ++ [p]) = joinL S r ++ (S ++ p)
  | [], h => absurd rfl h
  | [q], _ => rfl
  | q :: q2 :: r, _ => by
    rw [List.cons_append, joinL_cons (by simp), joinL_snoc (r := q2 :: r) (by simp), joinL_cons (r := q2 :: r) (by simp)]
    simp only [List.append_assoc]
theorem joinL_append {S : List Nat} : ∀ {r q : List (List Nat)}, r ≠ [] → q ≠ [] → joinL S (r ++ q) = joinL S r ++ (S ++ joinL S q)
  | [], _, h, _ => absurd rfl h
  | [p], q, _, h => by rw [List.singleton_append, joinL_cons h]; rfl
  | p :: p2 :: r, q, _, h => by
    rw [List.cons_append, joinL_cons (by simp), joinL_append (r := p2 :: r) (by simp) h, joinL_cons (r := p2 :: r) (by simp)]
    simp only [List.append_assoc]
theorem joinL_len (S : List Nat) : ∀ (r : List (List Nat)) (m : Nat), (∀ p ∈ r, p.length ≤ m) → (joinL S r).length ≤ r.length * (m + S.length)
  | [], _, _ => by simp [joinL]
  | [p], m, h => by
    have := h p List.mem_cons_self
    show p.length ≤ _
    simp
    omega
  | p :: q :: r, m, h => by
    have h1 := h p List.mem_cons_self
    have h2 := joinL_len S (q :: r) m fun z hz => h z (List.mem_cons_of_mem _ hz)
    rw [joinL_cons (by simp), List.length_append, List.length_append, List.length_cons (as := q :: r), Nat.succ_mul]
    omega
theorem sum_le {l : List Nat} {m : Nat} (h : ∀ x ∈ l, x ≤ m) : l.sum ≤ l.length * m := by
  induction l with
  | nil => simp
  | cons a l ih =>
    have h1 := h a List.mem_cons_self
    have h2 := ih fun x hx => h x (List.mem_cons_of_mem _ hx)
    rw [List.sum_cons, List.length_cons, Nat.succ_mul]
    omega
/-- what join asks of the sizes -/
theorem join_room {ys : List Str} {y : Str} {n m : Nat} (hn : ys.length ≤ n) (hm : ∀ z ∈ ys, z.length ≤ m) (h : n * m + n * y.length ≤ 16777216) : (ys.map (·.length)).sum + ys.length * y.length ≤ 16777216 := by
  have h1 : (ys.map (·.length)).sum ≤ ys.length * m := by
    have := sum_le (l := ys.map (·.length)) (m := m) (fun x hx => by
      obtain ⟨z, hz, rfl⟩ := List.mem_map.mp hx
      exact hm z hz)
    rwa [List.length_map] at this
  have h2 : ys.length * m ≤ n * m := Nat.mul_le_mul_right _ hn
  have h3 : ys.length * y.length ≤ n * y.length := Nat.mul_le_mul_right _ hn
  omega

/-! ### in -/
theorem inV_strs (z : Str) (zs : List Str) : inV (.str z) (zs.map V.str) = decide (z ∈ zs) := by
  unfold inV
  rw [List.any_map]
  by_cases h : z ∈ zs
  · rw [decide_eq_true h, List.any_eq_true]
    exact ⟨z, h, by show (z == z) = true; simp⟩
  · rw [decide_eq_false h, List.any_eq_false]
    intro y hy
    show ¬ (y == z) = true
    intro e
    exact h (by rw [← eq_of_beq e]; exact hy)
theorem flat_strs (zs : List Str) : (zs.map V.str).all flatV = true := by
  rw [List.all_map, List.all_eq_true]
  intro _ _
  rfl
theorem flat_ints (zs : List Int) : (zs.map V.int).all flatV = true := by
  rw [List.all_map, List.all_eq_true]
  intro _ _
  rfl
theorem inV_non (zs : List Int) : inV .non (zs.map V.int) = false := by
  unfold inV
  rw [List.any_map, List.any_eq_false]
  intro y _ h
  cases h
theorem atI_pos {α : Type} {xs : List α} (j : Nat) {v : α} (h : xs[j]? = some v) : atI xs (j : Int) = some v := atI_nat h
theorem map_range_get {α β : Type} (xs : List α) (f : α → β) (g : Nat → β) (h : ∀ i x, xs[i]? = some x → g i = f x) : (List.range xs.length).map g = xs.map f := by
  apply List.ext_getElem
  · simp
  · intro i h1 h2
    simp only [List.getElem_map, List.getElem_range]
    have hi : i < xs.length := by simpa using h1
    exact h i xs[i] (by simp [hi])
end My


/-! Reprs: what repr of data asks. -/
namespace My
open PySem PySem.Spec PyProof.Rows L2 TL
structure Show (d : PyData) (n k : Nat) : Prop where
  sh : PyData.showable d = true
  nd : d.hasDict = false
  dp : d.depth ≤ k
  len : d.shown.length ≤ n
theorem Show.mono {d : PyData} {n m k j : Nat} (h : Show d n k) (h1 : n ≤ m) (h2 : k ≤ j) : Show d m j := ⟨h.sh, h.nd, Nat.le_trans h.dp h2, Nat.le_trans h.len h1⟩
theorem Show.str {z : Str} {n k : Nat} (h : ∀ c ∈ tl z, c < 16 ^ 8) (hn : 10 * z.length + 2 ≤ n) : Show (.str z) n k := ⟨rfl, rfl, Nat.zero_le _, Nat.le_trans (StrLaws.reprText_len z h) hn⟩
theorem Show.int {i : Int} {n k : Nat} (h : i.natAbs < 10 ^ 60) (hn : 61 ≤ n) : Show (.int i) n k :=
  ⟨decide_eq_true (log2_small h), rfl, Nat.zero_le _, Nat.le_trans (numS_len h) hn⟩
theorem showAll {n k : Nat} : ∀ {ds : List PyData}, (∀ d ∈ ds, Show d n k) → PyData.showableAll ds = true ∧ PyData.hasDictAll ds = false ∧ PyData.depthAll ds ≤ k ∧ piled (PyData.shownAll ds) ≤ ds.length * (n + 2)
  | [], _ => ⟨rfl, rfl, Nat.zero_le _, Nat.zero_le _⟩
  | d :: ds, h => by
    have h1 := h d List.mem_cons_self
    obtain ⟨a1, a2, a3, a4⟩ := showAll (ds := ds) fun x hx => h x (List.mem_cons_of_mem _ hx)
    refine ⟨?_, ?_, ?_, ?_⟩
    · show (PyData.showable d && PyData.showableAll ds) = true
      rw [h1.sh, a1]; rfl
    · show (PyData.hasDict d || PyData.hasDictAll ds) = false
      rw [h1.nd, a2]; rfl
    · show max d.depth (PyData.depthAll ds) ≤ k
      exact Nat.max_le.mpr ⟨h1.dp, a3⟩
    · show piled (d.shown :: PyData.shownAll ds) ≤ _
      rw [piled_cons, List.length_cons, Nat.succ_mul]
      have := h1.len
      omega
theorem Show.tup {ds : List PyData} {n k m j : Nat} (h : ∀ d ∈ ds, Show d n k) (hm : ds.length * (n + 2) + 3 ≤ m) (hk : k + 1 ≤ j) : Show (.tuple ds) m j := by
  obtain ⟨a1, a2, a3, a4⟩ := showAll h
  refine ⟨a1, a2, ?_, ?_⟩
  · show PyData.depthAll ds + 1 ≤ j
    omega
  · show (tupleText (PyData.shownAll ds)).length ≤ m
    have := fmt_text (PyData.shownAll ds)
    omega
/-- repr of a thing whose data is known -/
theorem repr_at {K : PySem.W.Frag} {H : Hp} {Q : VK} {v : V} {d : PyData} {n k : Nat} {xs : List V} (h : Dp K H v d) (hv : ∃ a, v = .ref a) (s : Show d n k) (hn : n ≤ 1000000) (hk : k ≤ 60) (q : Q (.str d.shown) H) : cRepr K [v] H Q := by
  obtain ⟨a, rfl⟩ := hv
  exact ⟨a, d, rfl, h, s.sh, s.nd, Nat.le_trans s.dp hk, Nat.le_trans s.len (Nat.le_trans hn (by decide)), q⟩
end My


/-! K51a: limits and facts as data and as words; what the writing defs do. -/
namespace My
open PySem PySem.Spec PyProof.Rows L2 TL

/-! ### data -/
abbrev Sm := Int × List (Str × Int)
def tmD (t : Str × Int) : PyData := .tuple [.str t.1, .int t.2]
def smD (s : Sm) : PyData := .tuple [.int s.1, .tuple (s.2.map tmD)]
structure SmOk (s : Sm) : Prop where
  c : s.1.natAbs < 10 ^ 60
  t : ∀ p ∈ s.2, isName p.1 = true ∧ p.1 ≠ c_FRAME ∧ p.2 ≠ 0 ∧ p.2.natAbs < 10 ^ 60
  up : s.2.Pairwise fun p q => tl p.1 < tl q.1
  few : s.2.length ≤ 6
inductive Lm where
  | room (u l st : Str) (s : Sm)
  | reach (u l : Str) (s : Sm)
def lmD : Lm → PyData
  | .room u l st s => .tuple [.str "room", .str u, .str l, .str st, smD s]
  | .reach u l s => .tuple [.str "reach", .str u, .str l, smD s]
structure ULOk (a b : Str) : Prop where
  u : isName a = true
  l : isName b = true
  ne : a ≠ b
def LmOk : Lm → Prop
  | .room u l st s => ULOk u l ∧ isText st = true ∧ st.length ≤ 45 ∧ SmOk s
  | .reach u l s => ULOk u l ∧ SmOk s
def starS : Str := "*"
def tmW (t : Str × Int) : Str := numS t.2 ++ "*" ++ t.1
def smW (s : Sm) : List Str := numS s.1 :: s.2.map tmW
def eqlS (st : Str) : Str := "=" ++ st
def lmW : Lm → List Str
  | .room u l st s => "room" :: u :: l :: eqlS st :: smW s
  | .reach u l s => "reach" :: u :: l :: smW s
def lmT (L : Lm) : Str := Txt.join " " (lmW L)
theorem isName_len {z : Str} (h : isName z = true) : 1 ≤ z.length ∧ z.length ≤ 12 := by
  unfold isName at h
  rw [len_tl]
  cases e : tl z with
  | nil => rw [e] at h; cases h
  | cons c l =>
    rw [e] at h
    unfold nameOk at h
    simp only [Bool.and_eq_true, decide_eq_true_eq] at h
    rw [List.length_cons]
    omega
theorem let_range : ∀ c : Nat, isLet c = true → 97 ≤ c ∧ c ≤ 122 := by
  intro c h
  have h1 : c ∈ tl c_LETTERS := of_decide_eq_true h
  have h2 : ∀ c ∈ tl c_LETTERS, 97 ≤ c ∧ c ≤ 122 := by decide +kernel
  exact h2 c h1
theorem dig_range : ∀ c : Nat, isDig c = true → 48 ≤ c ∧ c ≤ 57 := by
  intro c h
  have h1 : c ∈ tl c_DIGITS := of_decide_eq_true h
  have h2 : ∀ c ∈ tl c_DIGITS, 48 ≤ c ∧ c ≤ 57 := by decide +kernel
  exact h2 c h1
theorem sign_range : ∀ c : Nat, isSign c = true → 33 ≤ c ∧ c ≤ 126 := by
  intro c h
  have h1 : c ∈ tl c_CHARACTERS := of_decide_eq_true h
  have h2 : ∀ c ∈ tl c_CHARACTERS, 33 ≤ c ∧ c ≤ 126 := by decide +kernel
  exact h2 c h1
theorem name_signs {z : Str} (h : isName z = true) : ∀ c ∈ tl z, (48 ≤ c ∧ c ≤ 57) ∨ (97 ≤ c ∧ c ≤ 122) := by
  unfold isName at h
  intro c hc
  cases e : tl z with
  | nil => rw [e] at hc; cases hc
  | cons d l =>
    rw [e] at h hc
    unfold nameOk at h
    simp only [Bool.and_eq_true, decide_eq_true_eq, List.all_eq_true, Bool.or_eq_true] at h
    rcases h.2.2 c hc with q | q
    · exact .inr (let_range c q)
    · exact .inl (dig_range c q)
theorem name_head {z : Str} (h : isName z = true) : ∃ c l, tl z = c :: l ∧ 97 ≤ c ∧ c ≤ 122 := by
  unfold isName at h
  cases e : tl z with
  | nil => rw [e] at h; cases h
  | cons c l =>
    rw [e] at h
    unfold nameOk at h
    simp only [Bool.and_eq_true, decide_eq_true_eq] at h
    exact ⟨c, l, rfl, let_range c h.2.1⟩

/-! ### written texts -/
theorem tl_star : tl ("*" : Str) = [42] := by decide +kernel
theorem tl_blank : tl (" " : Str) = [32] := by decide +kernel
theorem tl_eq1 : tl ("=" : Str) = [61] := by decide +kernel
theorem tl_minus : tl ("-" : Str) = [45] := by decide +kernel
theorem tl_plus : tl ("+" : Str) = [43] := by decide +kernel
theorem tl_nul : tl ("0" : Str) = [48] := by decide +kernel
theorem tl_room : tl ("room" : Str) = [114, 111, 111, 109] := by decide +kernel
theorem tl_reach : tl ("reach" : Str) = [114, 101, 97, 99, 104] := by decide +kernel
theorem one_sign {z : Str} {c : Nat} (h : tl z = [c]) : z = ⟨#[c]⟩ := ext_tl h
theorem dec_same (z : Str) : decide (V.str z = V.str z) = true := decide_eq_true rfl
theorem dec_ne {a b : Str} (h : decide (tl a = tl b) = false) : decide (V.str a = V.str b) = false := by rw [dec_str]; exact h
theorem reach_room : decide (V.str ("reach" : Str) = V.str ("room" : Str)) = false := dec_ne (by decide +kernel)

/-! ### sizes -/
theorem tl_tmW (t : Str × Int) : tl (tmW t) = numC t.2 ++ (42 :: tl t.1) := by
  unfold tmW
  rw [tl_append, tl_append, tl_numS, tl_star, List.append_assoc]
  rfl
theorem tmW_len {t : Str × Int} (h1 : isName t.1 = true) (h2 : t.2.natAbs < 10 ^ 60) : (tmW t).length ≤ 74 := by
  have q1 := (isName_len h1).2
  have q2 := numC_len h2
  rw [len_tl] at q1
  rw [len_tl, tl_tmW, List.length_append, List.length_cons]
  omega
theorem smW_len {s : Sm} (ok : SmOk s) : ∀ z ∈ smW s, z.length ≤ 74 := by
  intro z hz
  unfold smW at hz
  rcases List.mem_cons.mp hz with rfl | hz
  · have := numS_len ok.c
    omega
  · obtain ⟨t, ht, rfl⟩ := List.mem_map.mp hz
    exact tmW_len (ok.t t ht).1 (ok.t t ht).2.2.2
theorem smW_few {s : Sm} (ok : SmOk s) : (smW s).length ≤ 7 := by
  unfold smW
  rw [List.length_cons, List.length_map]
  have := ok.few
  omega
theorem lmW_len {L : Lm} (ok : LmOk L) : ∀ z ∈ lmW L, z.length ≤ 74 := by
  intro z hz
  cases L with
  | room u l st s =>
    obtain ⟨o1, o2, o3, o4⟩ := ok
    rcases List.mem_cons.mp hz with rfl | hz
    · decide +kernel
    rcases List.mem_cons.mp hz with rfl | hz
    · have := (isName_len o1.u).2; omega
    rcases List.mem_cons.mp hz with rfl | hz
    · have := (isName_len o1.l).2; omega
    rcases List.mem_cons.mp hz with rfl | hz
    · unfold eqlS
      rw [len_tl, tl_append, tl_eq1, List.length_append, List.length_singleton, ← len_tl]
      omega
    · exact smW_len o4 z hz
  | reach u l s =>
    obtain ⟨o1, o4⟩ := ok
    rcases List.mem_cons.mp hz with rfl | hz
    · decide +kernel
    rcases List.mem_cons.mp hz with rfl | hz
    · have := (isName_len o1.u).2; omega
    rcases List.mem_cons.mp hz with rfl | hz
    · have := (isName_len o1.l).2; omega
    · exact smW_len o4 z hz
theorem lmW_few {L : Lm} (ok : LmOk L) : (lmW L).length ≤ 11 := by
  cases L with
  | room u l st s =>
    have := smW_few ok.2.2.2
    show (smW s).length + 4 ≤ 11
    omega
  | reach u l s =>
    have := smW_few ok.2
    show (smW s).length + 3 ≤ 11
    omega
theorem lmT_len {L : Lm} (ok : LmOk L) : (lmT L).length ≤ 1000 := by
  unfold lmT
  rw [len_tl, tl_joinT, tl_blank]
  have h := joinL_len [32] ((lmW L).map tl) 74 (fun p hp => by
    obtain ⟨z, hz, rfl⟩ := List.mem_map.mp hp
    rw [← len_tl]
    exact lmW_len ok z hz)
  rw [List.length_map] at h
  have h2 := lmW_few ok
  have h3 : (lmW L).length * (74 + 1) ≤ 11 * (74 + 1) := Nat.mul_le_mul_right _ h2
  have h4 : ([32] : List Nat).length = 1 := rfl
  rw [h4] at h
  omega

section
variable {K : PySem.W.Frag} {vs : List V} {H : Hp} {Q : VK} {E : XK}
/-! ### sum_words -/
def sp_sum_words (K : PySem.W.Frag) : Sp := fun vs H Q _ => ∃ (v : V) (s : Sm), vs = [v] ∧ Dp K H v (smD s) ∧ SmOk s ∧ ∀ p H', Same H H' → H' p = some (.lst ((smW s).map V.str)) → Q (.ref p) H'
abbrev n_sum_words : List Str := ["amount", "name", "times"]
def t_sum_words (K : PySem.W.Frag) : TS :=
    (tRet (tOp rCat (tLst (tCons (tCB cStrI (tCons (tOp (rIxT K) (tVar 0) (tC (.int 0))) tNil)) tNil)) (tLc (iTup K (tOp (rIxT K) (tVar 0) (tC (.int 1)))) (gTup K 2 (gCons (gName 1) (gCons (gName 2) gNil))) tYes (tJoin [(tFmt (tVar 2)), (tC (.str "*")), (tFmt (tVar 1))]) [1, 2])))
theorem len_sum_words (h : sp_sum_words K vs H Q E) : vs.length = 1 := by
  obtain ⟨z, _, rfl, _⟩ := h
  rfl
theorem run_sum_words (h : sp_sum_words K vs H Q E) : t_sum_words K { nx := fun _ H' => Q .non H', rt := Q } (start n_sum_words vs) H := by
  obtain ⟨v, s, rfl, hd, ok, k⟩ := h
  obtain ⟨a, xs, rfl, ha, hx⟩ := dp_tup hd
  obtain ⟨v1, _, rfl, h1, hx⟩ := dpAll_cons hx
  obtain ⟨v2, _, rfl, h2, hx⟩ := dpAll_cons hx
  cases dpAll_nil hx
  cases dp_int h1
  obtain ⟨b, ps, rfl, hb, hps⟩ := dp_tup h2
  unfold t_sum_words
  refine ⟨_, rfl, a, _, _, _, rfl, rfl, ha, atI_pos 0 rfl, _, rfl, log2_small ok.c, (by show 1 ≤ sizeLine; decide), fun l hl => ?_⟩
  have e1 : Same H (upd H l (.lst [V.str (toString s.1)])) := same_new hl
  refine ⟨_, rfl, a, _, _, _, rfl, rfl, same_tup e1 ha, atI_pos 1 rfl, b, rfl, ⟨_, same_tup e1 hb⟩, fun D hD => ?_⟩
  have hlen : ps.length = s.2.length := by
    have := dpAll_len hps
    rwa [List.length_map] at this
  refine lc_ev (w := walk_tup (xs := ps)) (fun i => match s.2[i]? with | some t => .str (tmW t) | none => .non) (by have := ok.few; omega) hD ?_ (fun H' e => same_tup (e1.trans e) hb) ?_ ?_
  · rintro m H1 x H' ⟨e, _⟩
    exact same_refl e
  · rintro i x H1 H' R hi s1 ⟨rfl, hxi⟩ hR
    obtain ⟨d, hd1, hd2⟩ := dpAll_get hps hxi
    rw [List.getElem?_map] at hd1
    cases ht : s.2[i]? with
    | none => rw [ht] at hd1; cases hd1
    | some t =>
      rw [ht] at hd1 hR
      cases hd1
      have okt := ok.t t (List.mem_of_getElem? ht)
      obtain ⟨p, ys, rfl, hp, hy⟩ := dp_tup (dp_same hd2 (e1.trans s1))
      obtain ⟨y1, _, rfl, g1, hy⟩ := dpAll_cons hy
      obtain ⟨y2, _, rfl, g2, hy⟩ := dpAll_cons hy
      cases dpAll_nil hy
      cases dp_str g1
      cases dp_int g2
      refine ⟨p, _, rfl, hp, rfl, _, _, rfl, _, _, rfl, rfl, rfl, ?_⟩
      have l1 := numS_len okt.2.2.2
      have l2 := (isName_len okt.1).2
      have l3 := tmW_len okt.1 okt.2.2.2
      refine ⟨_, rfl, .inr ⟨_, rfl, log2_small okt.2.2.2, _, rfl, ?_, _, rfl, ?_, _, rfl, .inl ⟨_, rfl, Nat.le_trans l2 (by decide), _, rfl, ?_, ?_⟩⟩⟩
      · rw [len_tl, tl_append]
        show (([] : List Nat) ++ tl (numS t.2)).length ≤ _
        rw [List.nil_append, ← len_tl]
        exact Nat.le_trans l1 (by decide)
      · rw [len_tl, tl_append, tl_append, tl_star]
        show (([] : List Nat) ++ tl (numS t.2) ++ [42]).length ≤ _
        rw [List.nil_append, List.length_append, ← len_tl]
        exact Nat.le_trans (Nat.add_le_add_right l1 1) (by decide)
      · rw [len_tl, tl_append, tl_append, tl_append, tl_star]
        show ((([] : List Nat) ++ tl (numS t.2) ++ [42]) ++ tl t.1).length ≤ _
        rw [List.nil_append, List.length_append, List.length_append, ← len_tl, ← len_tl]
        exact Nat.le_trans (Nat.add_le_add (Nat.add_le_add_right l1 1) l2) (by decide)
      · have e : (Str.empty ++ Str.ofString (toString t.2) ++ "*" ++ t.1 : Str) = tmW t := by
          apply ext_tl
          rw [tl_tmW, tl_append, tl_append, tl_append, tl_star]
          show (([] : List Nat) ++ tl (numS t.2) ++ [42]) ++ tl t.1 = _
          rw [List.nil_append, tl_numS, List.append_assoc]
          rfl
        show R (.str (Str.empty ++ Str.ofString (toString t.2) ++ "*" ++ t.1)) H'
        rw [e]
        exact hR H' (Same.refl _)
  · intro H2 s2 h2
    have hl2 : H2 l = some (.lst [V.str (toString s.1)]) := s2 _ _ upd_same
    have hm : (List.range ps.length).map (fun i => match s.2[i]? with | some t => V.str (tmW t) | none => .non) = (s.2.map tmW).map V.str := by
      rw [hlen, List.map_map]
      exact map_range_get s.2 _ _ fun i x e => by rw [e]; rfl
    rw [hm] at h2
    refine ⟨l, D, _, _, rfl, rfl, hl2, h2, ?_, fun p hp => ?_⟩
    · rw [List.length_map, List.length_map]
      have := ok.few
      exact Nat.le_trans (by show 1 + s.2.length ≤ 7; omega) (by decide : 7 ≤ sizeLine)
    · exact k p _ ((e1.trans s2).trans (same_new hp)) upd_same
end
end My


/-! K51b: limit_words, write_limit, write_fact; number_of, sum_of. -/
namespace My
open PySem PySem.Spec PyProof.Rows L2 TL
section
variable {K : PySem.W.Frag} {vs : List V} {H : Hp} {Q : VK} {E : XK}
/-! ### limit_words -/
def sp_limit_words (K : PySem.W.Frag) : Sp := fun vs H Q _ => ∃ (v : V) (L : Lm), vs = [v] ∧ Dp K H v (lmD L) ∧ LmOk L ∧ ∀ p H', Same H H' → H' p = some (.lst ((lmW L).map V.str)) → Q (.ref p) H'
abbrev n_limit_words : List Str := ["limit"]
def t_limit_words (K : PySem.W.Frag) : TS :=
    (tSeq (tIfS (tTest (tOp rEq (tOp (rIxT K) (tVar 0) (tC (.int 0))) (tC (.str "room")))) (tRet (tOp rCat (tLst (tCons (tC (.str "room")) (tCons (tOp (rIxT K) (tVar 0) (tC (.int 1))) (tCons (tOp (rIxT K) (tVar 0) (tC (.int 2))) (tCons (tOp rCatS (tC (.str "=")) (tOp (rIxT K) (tVar 0) (tC (.int 3)))) tNil))))) (tCall (sp_sum_words K) [] E0 (tCons (tOp (rIxT K) (tVar 0) (tC (.int 4))) tNil)))) tNext)
    (tRet (tOp rCat (tLst (tCons (tC (.str "reach")) (tCons (tOp (rIxT K) (tVar 0) (tC (.int 1))) (tCons (tOp (rIxT K) (tVar 0) (tC (.int 2))) tNil)))) (tCall (sp_sum_words K) [] E0 (tCons (tOp (rIxT K) (tVar 0) (tC (.int 3))) tNil)))))
theorem len_limit_words (h : sp_limit_words K vs H Q E) : vs.length = 1 := by
  obtain ⟨z, _, rfl, _⟩ := h
  rfl
theorem dp_room {H : Hp} {v : V} {u l st : Str} {s : Sm} (h : Dp K H v (lmD (.room u l st s))) : ∃ a w, v = .ref a ∧ SqT K H a [.str "room", .str u, .str l, .str st, w] ∧ Dp K H w (smD s) := by
  obtain ⟨a, xs, rfl, ha, hx⟩ := dp_tup h
  obtain ⟨v1, _, rfl, h1, hx⟩ := dpAll_cons hx
  obtain ⟨v2, _, rfl, h2, hx⟩ := dpAll_cons hx
  obtain ⟨v3, _, rfl, h3, hx⟩ := dpAll_cons hx
  obtain ⟨v4, _, rfl, h4, hx⟩ := dpAll_cons hx
  obtain ⟨v5, _, rfl, h5, hx⟩ := dpAll_cons hx
  cases dpAll_nil hx
  cases dp_str h1
  cases dp_str h2
  cases dp_str h3
  cases dp_str h4
  exact ⟨a, v5, rfl, ha, h5⟩
theorem dp_reach {H : Hp} {v : V} {u l : Str} {s : Sm} (h : Dp K H v (lmD (.reach u l s))) : ∃ a w, v = .ref a ∧ SqT K H a [.str "reach", .str u, .str l, w] ∧ Dp K H w (smD s) := by
  obtain ⟨a, xs, rfl, ha, hx⟩ := dp_tup h
  obtain ⟨v1, _, rfl, h1, hx⟩ := dpAll_cons hx
  obtain ⟨v2, _, rfl, h2, hx⟩ := dpAll_cons hx
  obtain ⟨v3, _, rfl, h3, hx⟩ := dpAll_cons hx
  obtain ⟨v5, _, rfl, h5, hx⟩ := dpAll_cons hx
  cases dpAll_nil hx
  cases dp_str h1
  cases dp_str h2
  cases dp_str h3
  exact ⟨a, v5, rfl, ha, h5⟩
theorem few_ok {n : Nat} (h : n ≤ 100000) : n ≤ sizeLine := Nat.le_trans h (by decide)
theorem run_limit_words (h : sp_limit_words K vs H Q E) : t_limit_words K { nx := fun _ H' => Q .non H', rt := Q } (start n_limit_words vs) H := by
  obtain ⟨v, L, rfl, hd, ok, k⟩ := h
  unfold t_limit_words
  have few := lmW_few ok
  cases L with
  | room u l st s =>
    obtain ⟨a, w, rfl, ha, hw⟩ := dp_room hd
    obtain ⟨o1, o2, o3, o4⟩ := ok
    refine ⟨_, rfl, a, _, _, _, rfl, rfl, ha, atI_pos 0 rfl, rfl, _, rfl, ?_⟩
    rw [dec_same]
    refine iteT ?_
    refine ⟨_, rfl, a, _, _, _, rfl, rfl, ha, atI_pos 1 rfl, _, rfl, a, _, _, _, rfl, rfl, ha, atI_pos 2 rfl, _, rfl, a, _, _, _, rfl, rfl, ha, atI_pos 3 rfl, _, _, rfl, rfl, ?_, few_ok (by show 4 ≤ _; decide), fun q0 hl => ?_⟩
    · have : ("=" : Str).length = 1 := by decide +kernel
      rw [this]
      exact few_ok (by omega)
    have e1 := same_new (o := .lst [V.str "room", V.str u, V.str l, V.str ("=" ++ st)]) hl
    refine ⟨_, rfl, a, _, _, _, rfl, rfl, same_tup e1 ha, atI_pos 4 rfl, w, s, rfl, dp_same hw e1, o4, fun p H' s1 hp => ?_⟩
    refine ⟨q0, p, _, _, rfl, rfl, s1 _ _ upd_same, hp, ?_, fun q hq => k q _ ((e1.trans s1).trans (same_new hq)) upd_same⟩
    rw [List.length_map]
    exact few_ok (by have := smW_few o4; show 4 + _ ≤ _; omega)
  | reach u l s =>
    obtain ⟨a, w, rfl, ha, hw⟩ := dp_reach hd
    obtain ⟨o1, o4⟩ := ok
    refine ⟨_, rfl, a, _, _, _, rfl, rfl, ha, atI_pos 0 rfl, rfl, _, rfl, ?_⟩
    rw [reach_room]
    refine iteF ?_
    refine ⟨_, rfl, a, _, _, _, rfl, rfl, ha, atI_pos 1 rfl, _, rfl, a, _, _, _, rfl, rfl, ha, atI_pos 2 rfl, few_ok (by show 3 ≤ _; decide), fun q0 hl => ?_⟩
    have e1 := same_new (o := .lst [V.str "reach", V.str u, V.str l]) hl
    refine ⟨_, rfl, a, _, _, _, rfl, rfl, same_tup e1 ha, atI_pos 3 rfl, w, s, rfl, dp_same hw e1, o4, fun p H' s1 hp => ?_⟩
    refine ⟨q0, p, _, _, rfl, rfl, s1 _ _ upd_same, hp, ?_, fun q hq => k q _ ((e1.trans s1).trans (same_new hq)) upd_same⟩
    rw [List.length_map]
    exact few_ok (by have := smW_few o4; show 3 + _ ≤ _; omega)

/-! ### write_limit -/
def sp_write_limit (K : PySem.W.Frag) : Sp := fun vs H Q _ => ∃ (v : V) (L : Lm), vs = [v] ∧ Dp K H v (lmD L) ∧ LmOk L ∧ ∀ H', Same H H' → Q (.str (lmT L)) H'
abbrev n_write_limit : List Str := ["limit"]
def t_write_limit (K : PySem.W.Frag) : TS :=
    (tRet (tM1 (mJoin K) (tC (.str " ")) (tCall (sp_limit_words K) [] E0 (tCons (tVar 0) tNil))))
theorem len_write_limit (h : sp_write_limit K vs H Q E) : vs.length = 1 := by
  obtain ⟨z, _, rfl, _⟩ := h
  rfl
theorem run_write_limit (h : sp_write_limit K vs H Q E) : t_write_limit K { nx := fun _ H' => Q .non H', rt := Q } (start n_write_limit vs) H := by
  obtain ⟨v, L, rfl, hd, ok, k⟩ := h
  unfold t_write_limit
  refine ⟨⟨_, rfl⟩, _, rfl, v, L, rfl, hd, ok, fun p H' s hp => ⟨_, p, lmW L, rfl, rfl, .inl (SqL.of hp), ?_, k H' s⟩⟩
  refine join_room (n := 11) (m := 74) (lmW_few ok) (lmW_len ok) ?_
  have : (" " : Str).length = 1 := by decide +kernel
  rw [this]
  decide

/-! ### facts -/
inductive Fc where
  | one (w : Str) (r : List Str)
  | two (w : Str) (r q : List Str)
def Fc.word : Fc → Str
  | .one w _ => w
  | .two w _ _ => w
def Fc.runs : Fc → List (List Str)
  | .one _ r => [r]
  | .two _ r q => [r, q]
def runD (r : List Str) : PyData := .tuple (r.map .str)
def fcD (f : Fc) : PyData := .tuple (.str f.word :: f.runs.map runD)
def fcW : Fc → List Str
  | .one w r => w :: r
  | .two w r q => w :: (r ++ ("=" : Str) :: q)
def fcT (f : Fc) : Str := Txt.join " " (fcW f)
def stepL : List Nat → Bool
  | [] => false
  | c :: l => (decide (c = 43) || decide (c = 45)) && nameOk l
def stepOk (z : Str) : Bool := stepL (tl z)
structure RunOk (r : List Str) : Prop where
  ex : ∃ n ss, r = n :: ss ∧ isName n = true ∧ ∀ z ∈ ss, stepOk z = true
  few : r.length ≤ 61
def FcOk : Fc → Prop
  | .one w r => (w = "goes" ∨ w = "fails") ∧ RunOk r
  | .two w r q => (w = "alike" ∨ w = "apart") ∧ RunOk r ∧ RunOk q
theorem step_head {z : Str} (h : stepOk z = true) : ∃ c l, tl z = c :: l ∧ (c = 43 ∨ c = 45) ∧ nameOk l = true := by
  unfold stepOk at h
  cases e : tl z with
  | nil => rw [e] at h; cases h
  | cons c l =>
    rw [e] at h
    unfold stepL at h
    simp only [Bool.and_eq_true, Bool.or_eq_true, decide_eq_true_eq] at h
    exact ⟨c, l, rfl, h.1, h.2⟩
theorem nameOk_len {l : List Nat} (h : nameOk l = true) : 1 ≤ l.length ∧ l.length ≤ 12 := by
  have := isName_len (z := ⟨l.toArray⟩) h
  rw [len_tl] at this
  exact this
theorem nameOk_signs {l : List Nat} (h : nameOk l = true) : ∀ c ∈ l, (48 ≤ c ∧ c ≤ 57) ∨ (97 ≤ c ∧ c ≤ 122) := name_signs (z := ⟨l.toArray⟩) h
theorem step_len {z : Str} (h : stepOk z = true) : z.length ≤ 13 := by
  obtain ⟨c, l, e, _, h2⟩ := step_head h
  have := (nameOk_len h2).2
  rw [len_tl, e, List.length_cons]
  omega
theorem run_len {r : List Str} (h : RunOk r) : ∀ z ∈ r, z.length ≤ 13 := by
  obtain ⟨n, ss, rfl, h1, h2⟩ := h.ex
  intro z hz
  rcases List.mem_cons.mp hz with rfl | hz
  · have := (isName_len h1).2; omega
  · exact step_len (h2 z hz)
theorem run_free {r : List Str} (h : RunOk r) {s : Nat} (hs : s < 43 ∨ 57 < s ∧ s < 97) : ∀ z ∈ r, s ∉ tl z := by
  obtain ⟨n, ss, rfl, h1, h2⟩ := h.ex
  intro z hz m
  rcases List.mem_cons.mp hz with rfl | hz
  · have := name_signs h1 s m; omega
  · obtain ⟨c, l, e, hc, hl⟩ := step_head (h2 z hz)
    rw [e] at m
    rcases List.mem_cons.mp m with rfl | m
    · omega
    · have := nameOk_signs hl s m; omega
theorem run_ne {r : List Str} (h : RunOk r) : r ≠ [] := by
  obtain ⟨n, ss, rfl, h1, h2⟩ := h.ex
  exact List.cons_ne_nil _ _
theorem run_join {r : List Str} (h : RunOk r) : (Txt.join " " r).length ≤ 900 := by
  rw [len_tl, tl_joinT, tl_blank]
  have q := joinL_len [32] (r.map tl) 13 (fun p hp => by
    obtain ⟨z, hz, rfl⟩ := List.mem_map.mp hp
    rw [← len_tl]
    exact run_len h z hz)
  rw [List.length_map] at q
  have h2 := h.few
  have h3 : r.length * (13 + 1) ≤ 61 * (13 + 1) := Nat.mul_le_mul_right _ h2
  have h4 : ([32] : List Nat).length = 1 := rfl
  rw [h4] at q
  omega
theorem len_blank : (" " : Str).length = 1 := by decide +kernel
theorem len_sep : (" = " : Str).length = 3 := by decide +kernel
theorem tl_sep : tl (" = " : Str) = [32, 61, 32] := by decide +kernel
theorem run_room {r : List Str} (h : RunOk r) : (r.map (·.length)).sum + r.length * (" " : Str).length ≤ 16777216 :=
  join_room (n := 61) (m := 13) h.few (run_len h) (by rw [len_blank]; decide)
theorem word_len {f : Fc} (h : FcOk f) : f.word.length ≤ 5 := by
  cases f with
  | one w r =>
    rcases h.1 with e | e
    · show w.length ≤ 5; rw [e]; decide +kernel
    · show w.length ≤ 5; rw [e]; decide +kernel
  | two w r q =>
    rcases h.1 with e | e
    · show w.length ≤ 5; rw [e]; decide +kernel
    · show w.length ≤ 5; rw [e]; decide +kernel
theorem runs_ok {f : Fc} (h : FcOk f) : ∀ r ∈ f.runs, RunOk r := by
  cases f with
  | one w r =>
    intro z hz
    rcases List.mem_cons.mp hz with rfl | hz
    · exact h.2
    · cases hz
  | two w r q =>
    intro z hz
    rcases List.mem_cons.mp hz with rfl | hz
    · exact h.2.1
    rcases List.mem_cons.mp hz with rfl | hz
    · exact h.2.2
    · cases hz
theorem runs_few (f : Fc) : f.runs.length ≤ 2 := by
  cases f with
  | one w r => show 1 ≤ 2; decide
  | two w r q => exact Nat.le_refl 2
/-- the fact's text, piece by piece -/
theorem fact_text {f : Fc} (h : FcOk f) : f.word ++ " " ++ Txt.join " = " (f.runs.map (Txt.join " ")) = fcT f := by
  apply ext_tl
  cases f with
  | one w r =>
    have hne : r.map tl ≠ [] := fun e => run_ne h.2 (List.map_eq_nil_iff.mp e)
    rw [tl_append, tl_append, tl_blank, tl_joinT, fcT, tl_joinT, tl_blank]
    show tl w ++ [32] ++ tl (Txt.join " " r) = joinL [32] (tl w :: r.map tl)
    rw [joinL_cons hne, tl_joinT, tl_blank, List.append_assoc]
  | two w r q =>
    have h1 : r.map tl ≠ [] := fun e => run_ne h.2.1 (List.map_eq_nil_iff.mp e)
    have h2 : q.map tl ≠ [] := fun e => run_ne h.2.2 (List.map_eq_nil_iff.mp e)
    rw [tl_append, tl_append, tl_blank, tl_joinT, fcT, tl_joinT, tl_blank, tl_sep]
    show tl w ++ [32] ++ (tl (Txt.join " " r) ++ ([32, 61, 32] ++ tl (Txt.join " " q))) = joinL [32] (tl w :: (r ++ ("=" : Str) :: q).map tl)
    rw [List.map_append, joinL_cons (by intro e; exact h1 (List.append_eq_nil_iff.mp e).1), List.map_cons, joinL_append h1 (List.cons_ne_nil _ _), joinL_cons h2, tl_joinT, tl_joinT, tl_blank, tl_eq1]
    simp only [List.append_assoc]
    rfl
theorem fcT_len {f : Fc} (h : FcOk f) : (fcT f).length ≤ 2000 := by
  rw [← fact_text h, len_tl, tl_append, tl_append, List.length_append, List.length_append, ← len_tl, ← len_tl, ← len_tl, len_blank]
  have h1 := word_len h
  cases f with
  | one w r =>
    have h2 := run_join h.2
    have e : Txt.join " = " ((Fc.one w r).runs.map (Txt.join " ")) = Txt.join " " r := by
      apply ext_tl
      rw [tl_joinT]
      rfl
    rw [e]
    omega
  | two w r q =>
    have h2 := run_join h.2.1
    have h3 := run_join h.2.2
    have e : tl (Txt.join " = " ((Fc.two w r q).runs.map (Txt.join " "))) = tl (Txt.join " " r) ++ ([32, 61, 32] ++ tl (Txt.join " " q)) := by
      rw [tl_joinT, tl_sep]
      rfl
    rw [len_tl (Txt.join " = " _), e]
    show _ + 1 + (tl (Txt.join " " r) ++ ([32, 61, 32] ++ tl (Txt.join " " q))).length ≤ 2000
    rw [List.length_append, List.length_append, ← len_tl, ← len_tl]
    show _ + 1 + (_ + (3 + _)) ≤ 2000
    omega
theorem dp_fact {H : Hp} {v : V} {f : Fc} (h : Dp K H v (fcD f)) : ∃ a xs, v = .ref a ∧ SqT K H a (.str f.word :: xs) ∧ DpAll K H xs (f.runs.map runD) := by
  obtain ⟨a, xs, rfl, ha, hx⟩ := dp_tup h
  obtain ⟨v1, r, rfl, h1, h2⟩ := dpAll_cons hx
  cases dp_str h1
  exact ⟨a, r, rfl, ha, h2⟩
theorem dp_run {H : Hp} {v : V} {r : List Str} (h : Dp K H v (runD r)) : ∃ a, v = .ref a ∧ SqT K H a (r.map V.str) := by
  obtain ⟨a, xs, rfl, ha, hx⟩ := dp_tup h
  cases dpAll_strs hx
  exact ⟨a, rfl, ha⟩

def sp_write_fact (K : PySem.W.Frag) : Sp := fun vs H Q _ => ∃ (v : V) (f : Fc), vs = [v] ∧ Dp K H v (fcD f) ∧ FcOk f ∧ ∀ H', Same H H' → Q (.str (fcT f)) H'
abbrev n_write_fact : List Str := ["fact", "run"]
def t_write_fact (K : PySem.W.Frag) : TS :=
    (tRet (tOp rCatS (tOp rCatS (tOp (rIxT K) (tVar 0) (tC (.int 0))) (tC (.str " "))) (tM1 (mJoin K) (tC (.str " = ")) (tLc (iTup K (tSl (rSlT K) (tVar 0) (tPart (tC (.int 1))) tNoPart)) (gName 1) tYes (tM1 (mJoin K) (tC (.str " ")) (tVar 1)) [1]))))
theorem len_write_fact (h : sp_write_fact K vs H Q E) : vs.length = 1 := by
  obtain ⟨z, _, rfl, _⟩ := h
  rfl
theorem cut1 {H : Hp} {v : V} (xs : List V) : ¬ (HT.sIx (v :: xs).length 0 (some 1) = 0 ∧ HT.sIx (v :: xs).length (v :: xs).length none = (v :: xs).length) := by
  intro h
  have := h.1
  rw [show (1 : Int) = ((1 : Nat) : Int) from rfl, HT.sIx_nat, List.length_cons] at this
  omega
theorem run_write_fact (h : sp_write_fact K vs H Q E) : t_write_fact K { nx := fun _ H' => Q .non H', rt := Q } (start n_write_fact vs) H := by
  obtain ⟨v, f, rfl, hd, ok, k⟩ := h
  obtain ⟨a, xs, rfl, ha, hx⟩ := dp_fact hd
  unfold t_write_fact
  have w5 := word_len ok
  refine ⟨_, rfl, a, _, _, _, rfl, rfl, ha, atI_pos 0 rfl, _, _, rfl, rfl, ?_, ⟨_, rfl⟩, _, rfl, 1, rfl, a, _, rfl, ha, cut1 (H := H) xs, fun p hp => ?_⟩
  · rw [len_blank]
    exact few_ok (by omega)
  rw [show (1 : Int) = ((1 : Nat) : Int) from rfl, cutV_D]
  have e1 := same_new (o := .tup xs) hp
  have hp1 : SqT K (upd H p (.tup xs)) p xs := SqT.of upd_same
  refine ⟨p, rfl, ⟨_, hp1⟩, fun D hD => ?_⟩
  have hlen : xs.length = f.runs.length := by
    have := dpAll_len hx
    rwa [List.length_map] at this
  have hfew := runs_few f
  refine lc_ev (w := walk_tup (xs := xs)) (fun i => match f.runs[i]? with | some r => .str (Txt.join " " r) | none => .non) (by omega) hD ?_ (fun H' e => same_tup e hp1) ?_ ?_
  · rintro m H1 x H' ⟨e, _⟩
    exact same_refl e
  · rintro i x H1 H' R hi s1 ⟨rfl, hxi⟩ hR
    obtain ⟨d, hd1, hd2⟩ := dpAll_get hx hxi
    rw [List.getElem?_map] at hd1
    cases ht : f.runs[i]? with
    | none => rw [ht] at hd1; cases hd1
    | some r =>
      rw [ht] at hd1 hR
      cases hd1
      have okr := runs_ok ok r (List.mem_of_getElem? ht)
      obtain ⟨b, rfl, hb⟩ := dp_run (dp_same hd2 (e1.trans s1))
      exact ⟨rfl, ⟨_, rfl⟩, _, rfl, _, b, r, rfl, rfl, .inr hb, run_room okr, hR H' (Same.refl _)⟩
  · intro H2 s2 h2
    have hm : (List.range xs.length).map (fun i => match f.runs[i]? with | some r => V.str (Txt.join " " r) | none => .non) = (f.runs.map (Txt.join " ")).map V.str := by
      rw [hlen, List.map_map]
      exact map_range_get f.runs _ _ fun i x e => by rw [e]; rfl
    rw [hm] at h2
    refine ⟨_, D, f.runs.map (Txt.join " "), rfl, rfl, .inl (SqL.of h2), ?_, _, _, rfl, rfl, ?_, ?_⟩
    · refine join_room (n := 2) (m := 900) (by rw [List.length_map]; exact hfew) ?_ (by rw [len_sep]; decide)
      intro z hz
      obtain ⟨r, hr, rfl⟩ := List.mem_map.mp hz
      exact run_join (runs_ok ok r hr)
    · have := fcT_len ok
      rw [← fact_text ok, len_tl, tl_append, List.length_append, ← len_tl, ← len_tl] at this
      exact few_ok (by omega)
    · show Q (.str (f.word ++ " " ++ Txt.join " = " (f.runs.map (Txt.join " ")))) H2
      rw [fact_text ok]
      exact k H2 (e1.trans s2)
end
end My


/-! K51c: number_of, sum_of, is_sum, is_step, is_run. -/
namespace My
open PySem PySem.Spec PyProof.Rows L2 TL
section
variable {K : PySem.W.Frag} {vs : List V} {H : Hp} {Q : VK} {E : XK}
theorem dpAll_of : ∀ {xs : List V} {ds : List PyData}, xs.length = ds.length → (∀ (i : Nat) v d, xs[i]? = some v → ds[i]? = some d → Dp K H v d) → DpAll K H xs ds
  | [], [], _, _ => .nil
  | [], _ :: _, h, _ => by cases h
  | _ :: _, [], h, _ => by cases h
  | x :: xs, d :: ds, h, f => .cons (f 0 x d rfl rfl) (dpAll_of (by simpa using h) fun i v e h1 h2 => f (i + 1) v e (by simpa using h1) (by simpa using h2))

/-! ### number_of -/
def sp_number_of (K : PySem.W.Frag) : Sp := fun vs H Q _ => ∃ i : Int, vs = [.str (numS i)] ∧ i.natAbs < 10 ^ 60 ∧ ∀ H', Same H H' → Q (.int i) H'
abbrev n_number_of : List Str := ["word", "digits", "char"]
def t_number_of (K : PySem.W.Frag) : TS :=
    (tSeq (tAsg (tIf (tTest (tOp rEq (tSl rSlS (tVar 0) tNoPart (tPart (tC (.int 1)))) (tC (.str "-")))) (tSl rSlS (tVar 0) (tPart (tC (.int 1))) tNoPart) (tVar 0)) (gName 1))
    (tSeq (tIfS (tOr (tNot (tTest (tChain rLeI rLeI (tC (.int 1)) (tCB cLenS (tCons (tVar 1) tNil)) (tC (.int 60))))) (tNot (tB (tCB (rAll K) (tCons (tLc (iStr (tVar 1)) (gName 2) tYes (tOp rInSign (tVar 2) (tC (.str c_DIGITS))) [2]) tNil))))) (tRet (tC .non)) tNext)
    (tSeq (tIfS (tAnd (tTest (tOp rEq (tOp rIxS (tVar 1) (tC (.int 0))) (tC (.str "0")))) (tTest (tOp rNe (tVar 0) (tC (.str "0"))))) (tRet (tC .non)) tNext)
    (tRet (tCB cIntS (tCons (tVar 0) tNil))))))
theorem len_number_of (h : sp_number_of K vs H Q E) : vs.length = 1 := by
  obtain ⟨z, rfl, _⟩ := h
  rfl
theorem run_number_of (h : sp_number_of K vs H Q E) : t_number_of K { nx := fun _ H' => Q .non H', rt := Q } (start n_number_of vs) H := by
  obtain ⟨i, rfl, hi, k⟩ := h
  unfold t_number_of
  have l61 := numS_len hi
  have hz : (numS i).length ≤ sizeLine := few_ok (by omega)
  have rest : ∀ d : Str, tl d = numL i.natAbs →
      (tSeq (tIfS (tOr (tNot (tTest (tChain rLeI rLeI (tC (.int 1)) (tCB cLenS (tCons (tVar 1) tNil)) (tC (.int 60))))) (tNot (tB (tCB (rAll K) (tCons (tLc (iStr (tVar 1)) (gName 2) tYes (tOp rInSign (tVar 2) (tC (.str c_DIGITS))) [2]) tNil))))) (tRet (tC .non)) tNext)
      (tSeq (tIfS (tAnd (tTest (tOp rEq (tOp rIxS (tVar 1) (tC (.int 0))) (tC (.str "0")))) (tTest (tOp rNe (tVar 0) (tC (.str "0"))))) (tRet (tC .non)) tNext)
      (tRet (tCB cIntS (tCons (tVar 0) tNil))))) { nx := fun _ H' => Q .non H', rt := Q } [some (.str (numS i)), some (.str d), none] H := by
    intro d ed
    have l60 : (numL i.natAbs).length ≤ 60 := numL_len (by decide) hi
    have lpos : 0 < (numL i.natAbs).length := List.length_pos_iff.mpr (numL_ne _)
    have ld : d.length = (numL i.natAbs).length := by rw [len_tl, ed]
    have hd : d.length ≤ sizeLine := few_ok (by omega)
    refine ⟨_, rfl, d, rfl, hd, _, _, rfl, rfl, _, rfl, ?_⟩
    have d1 : decide ((1 : Int) ≤ (d.length : Int)) = true := decide_eq_true (by omega)
    rw [d1]
    refine iteT ⟨_, _, rfl, rfl, _, rfl, ?_⟩
    have d2 : decide ((d.length : Int) ≤ 60) = true := decide_eq_true (by omega)
    rw [d2]
    refine iteF ?_
    refine all_signs isDig rfl (by omega) (fun _ => rfl) (fun c H' R _ hR => ⟨_, rfl, c, _, rfl, rfl, hR⟩) (fun H' s => ⟨_, rfl, ?_⟩)
    rw [ed, numL_dig]
    refine iteF ?_
    obtain ⟨c, l, ec⟩ : ∃ c l, numL i.natAbs = c :: l := by
      cases e : numL i.natAbs with
      | nil => exact absurd e (numL_ne _)
      | cons c l => exact ⟨c, l, rfl⟩
    refine ⟨_, rfl, d, _, c, rfl, rfl, hd, ix_str0 (ed.trans ec), rfl, _, rfl, ?_⟩
    have fin : tRet (tCB cIntS (tCons (tVar 0) tNil)) { nx := fun _ H' => Q .non H', rt := Q } [some (.str (numS i)), some (.str d), none] H' :=
      ⟨_, rfl, _, i, rfl, int_numS hi, by omega, k H' s⟩
    by_cases h0 : i = 0
    · subst h0
      have e0 : numS 0 = "0" := by decide +kernel
      have d3 : decide (V.str (⟨#[c]⟩ : Str) = V.str "0") = true := by
        rw [dec_str, tl_nul]
        have : numL (0 : Int).natAbs = [48] := by decide +kernel
        rw [this] at ec
        cases ec
        decide
      rw [d3]
      refine iteT ⟨_, rfl, rfl, _, rfl, ?_⟩
      have d4 : (!decide (V.str (numS 0) = V.str "0")) = false := by rw [e0, dec_same]; rfl
      rw [d4]
      exact iteF fin
    · obtain ⟨c', l', ec', hc'⟩ := numL_head i.natAbs (by omega)
      rw [ec] at ec'
      cases ec'
      have d3 : decide (V.str (⟨#[c]⟩ : Str) = V.str "0") = false := by
        rw [dec_str, tl_nul]
        exact decide_eq_false (fun e => hc' (by injection e))
      rw [d3]
      exact iteF (iteF fin)
  refine ⟨_, rfl, 1, rfl, numS i, rfl, hz, rfl, _, rfl, ?_⟩
  by_cases hn : i < 0
  · have e : tl (numS i) = 45 :: numL i.natAbs := (tl_numS i).trans (if_pos hn)
    have d1 : decide (V.str (cutS (numS i) none (some 1)) = V.str "-") = true := by
      rw [dec_str, show (1 : Int) = ((1 : Nat) : Int) from rfl, tl_cutT, e, tl_minus]
      rfl
    rw [d1]
    refine iteT ⟨_, rfl, 1, rfl, numS i, rfl, hz, ?_⟩
    refine rest _ ?_
    rw [show (1 : Int) = ((1 : Nat) : Int) from rfl, tl_cutD, e]
    rfl
  · have e : tl (numS i) = numL i.natAbs := (tl_numS i).trans (if_neg hn)
    have d1 : decide (V.str (cutS (numS i) none (some 1)) = V.str "-") = false := by
      rw [dec_str, show (1 : Int) = ((1 : Nat) : Int) from rfl, tl_cutT, e, tl_minus]
      refine decide_eq_false fun q => ?_
      have m : 45 ∈ numL i.natAbs := by
        have : 45 ∈ (numL i.natAbs).take 1 := by rw [q]; exact List.mem_singleton.mpr rfl
        exact List.mem_of_mem_take this
      exact numL_free (.inl (by decide)) m
    rw [d1]
    exact iteF ⟨_, rfl, rest _ e⟩

/-! ### sum_of -/
def smN (s : Sm) : List Int := s.1 :: s.2.map (·.2)
theorem star_sign : ("*" : Str) = ⟨#[42]⟩ := one_sign tl_star
theorem star_len : (("*" : Str).length == 0) = false := by decide +kernel
theorem part_num (i : Int) : Txt.partition (numS i) "*" = (numS i, Str.empty, Str.empty) := partition_none tl_star (by rw [tl_numS]; exact numC_free (.inl (by decide)))
theorem part_tm (t : Str × Int) : Txt.partition (tmW t) "*" = (numS t.2, ("*" : Str), t.1) := partition_app tl_star (by rw [tl_numS]; exact numC_free (.inl (by decide)))
theorem sm_get {s : Sm} {i : Nat} {z : Str} (h : (smW s)[i]? = some z) : ∃ j, (smN s)[i]? = some j ∧ (Txt.partition z "*").1 = numS j := by
  cases i with
  | zero =>
    have e : z = numS s.1 := by simpa [smW] using h.symm
    subst e
    exact ⟨s.1, rfl, by rw [part_num]⟩
  | succ i =>
    have h : (s.2.map tmW)[i]? = some z := by simpa [smW] using h
    rw [List.getElem?_map] at h
    cases ht : s.2[i]? with
    | none => rw [ht] at h; cases h
    | some t =>
      rw [ht] at h
      cases h
      refine ⟨t.2, ?_, by rw [part_tm]⟩
      show (s.2.map (·.2))[i]? = some t.2
      rw [List.getElem?_map, ht]
      rfl
theorem smN_ok {s : Sm} (ok : SmOk s) : ∀ j ∈ smN s, j.natAbs < 10 ^ 60 := by
  intro j hj
  rcases List.mem_cons.mp hj with rfl | hj
  · exact ok.c
  · obtain ⟨t, ht, rfl⟩ := List.mem_map.mp hj
    exact (ok.t t ht).2.2.2
def IsTp (H : Hp) (v : V) : Prop := ∃ p xs, v = .ref p ∧ H p = some (.tup xs)
def sp_sum_of (K : PySem.W.Frag) : Sp := fun vs H Q _ => ∃ (a : Addr) (s : Sm), vs = [.ref a] ∧ SqL K H a ((smW s).map V.str) ∧ SmOk s ∧ ∀ v H', Same H H' → IsTp H' v → Dp K H' v (smD s) → Q v H'
abbrev n_sum_of : List Str := ["words", "numbers", "word", "times"]
def t_sum_of (K : PySem.W.Frag) : TS :=
    (tSeq (tAsg (tLc (iList K (tVar 0)) (gName 2) tYes (tCall (sp_number_of K) [] E0 (tCons (tOp (rIxT K) (tM1 mPartition (tVar 2) (tC (.str "*"))) (tC (.int 0))) tNil)) [2]) (gName 1))
    (tSeq (tIfS (tOr (tTest (tOp rEq (tCB (cLenQ K) (tCons (tVar 0) tNil)) (tC (.int 0)))) (tOr (tTest (tOp (rIn K false) (tC .non) (tVar 1))) (tOr (tTest (tOp rInSign (tC (.str "*")) (tOp (rIxL K) (tVar 0) (tC (.int 0))))) (tNot (tB (tCB (rAll K) (tCons (tLc (iList K (tSl (rSlL K) (tVar 0) (tPart (tC (.int 1))) tNoPart)) (gName 2) tYes (tOp rInSign (tC (.str "*")) (tVar 2)) [2]) tNil))))))) (tRet (tC .non)) tNext)
    (tRet (tTup (tCons (tOp (rIxL K) (tVar 1) (tC (.int 0))) (tCons (tCB (cTuple K) (tCons (tLc (iZip K (tCons (tSl (rSlL K) (tVar 0) (tPart (tC (.int 1))) tNoPart) (tCons (tSl (rSlL K) (tVar 1) (tPart (tC (.int 1))) tNoPart) tNil))) (gTup K 2 (gCons (gName 2) (gCons (gName 3) gNil))) tYes (tTup (tCons (tOp (rIxT K) (tM1 mPartition (tVar 2) (tC (.str "*"))) (tC (.int 2))) (tCons (tVar 3) tNil))) [2, 3]) tNil)) tNil))))))
theorem len_sum_of (h : sp_sum_of K vs H Q E) : vs.length = 1 := by
  obtain ⟨z, _, rfl, _⟩ := h
  rfl
theorem run_sum_of (h : sp_sum_of K vs H Q E) : t_sum_of K { nx := fun _ H' => Q .non H', rt := Q } (start n_sum_of vs) H := by
  obtain ⟨a, s, rfl, ha, ok, k⟩ := h
  unfold t_sum_of
  have few := smW_few ok
  have lenN : (smN s).length = (smW s).length := by simp [smN, smW]
  have lenV : ((smW s).map V.str).length = (smW s).length := List.length_map ..
  -- numbers
  refine ⟨_, rfl, a, rfl, ⟨_, ha⟩, fun D hD => ?_⟩
  refine lc_ev (w := walk_list (xs := (smW s).map V.str)) (fun i => match (smN s)[i]? with | some j => .int j | none => .non) (by rw [lenV]; omega) hD ?_ (fun H' e => e.seq ha) ?_ ?_
  · rintro m H1 x H' ⟨e, _⟩
    exact same_refl e
  · rintro i x H1 H' R hi s1 ⟨rfl, hxi⟩ hR
    rw [List.getElem?_map] at hxi
    cases hw : (smW s)[i]? with
    | none => rw [hw] at hxi; cases hxi
    | some z =>
      rw [hw] at hxi
      cases hxi
      obtain ⟨j, hj, ej⟩ := sm_get hw
      have hzl := smW_len ok z (List.mem_of_getElem? hw)
      refine ⟨rfl, _, rfl, ⟨_, rfl⟩, z, _, rfl, rfl, star_len, few_ok (by omega), fun p hp => ?_⟩
      refine ⟨p, _, _, _, rfl, rfl, SqT.of upd_same, atI_pos 0 rfl, j, ?_, smN_ok ok j (List.mem_of_getElem? hj), fun H2 s2 => ?_⟩
      · rw [ej]
        rfl
      · have q := hR H2 ((same_new hp).trans s2)
        rw [hj] at q
        exact q
  intro H2 s2 h2
  have hm : (List.range ((smW s).map V.str).length).map (fun i => match (smN s)[i]? with | some j => V.int j | none => .non) = (smN s).map V.int := by
    rw [lenV, ← lenN]
    exact map_range_get (smN s) _ _ fun i x e => by rw [e]
  rw [hm] at h2
  clear hm
  have ha2 := s2.seq ha
  have hD2 : SqL K H2 D ((smN s).map V.int) := SqL.of h2
  -- len(words) == 0
  refine ⟨_, rfl, a, _, rfl, .inl ha2, rfl, _, rfl, ?_⟩
  have d1 : decide (V.int (((smW s).map V.str).length : Int) = V.int 0) = false := by
    refine decide_eq_false fun e => ?_
    have e := V.int.inj e
    rw [lenV] at e
    have : (smW s).length = s.2.length + 1 := by simp [smW]
    omega
  rw [d1]
  refine iteF ?_
  -- None in numbers
  refine ⟨_, rfl, D, _, rfl, .inl hD2, rfl, flat_ints _, _, rfl, ?_⟩
  rw [inV_non]
  refine iteF ?_
  -- '*' in words[0]
  refine ⟨_, rfl, a, _, _, _, rfl, rfl, ha2, atI_pos 0 rfl, 42, numS s.1, congrArg V.str star_sign, rfl, _, rfl, ?_⟩
  have d3 : decide (42 ∈ (numS s.1).cps.toList) = false := by
    refine decide_eq_false fun m => ?_
    have m : 42 ∈ tl (numS s.1) := m
    rw [tl_numS] at m
    exact numC_free (.inl (by decide)) m
  rw [d3]
  refine iteF ?_
  -- all(['*' in word ..])
  refine ⟨_, rfl, 1, rfl, a, _, rfl, ha2, fun p hp => ?_⟩
  rw [show (1 : Int) = ((1 : Nat) : Int) from rfl, cutV_D]
  have ep := same_new (o := .lst (((smW s).map V.str).drop 1)) hp
  have edrop : ((smW s).map V.str).drop 1 = (s.2.map tmW).map V.str := rfl
  rw [edrop] at ep ⊢
  have hp1 : SqL K (upd H2 p (.lst ((s.2.map tmW).map V.str))) p ((s.2.map tmW).map V.str) := SqL.of upd_same
  generalize hG : upd H2 p (.lst ((s.2.map tmW).map V.str)) = H3 at ep hp1
  refine ⟨p, rfl, ⟨_, hp1⟩, fun D2 hD2' => ?_⟩
  have lenT : ((s.2.map tmW).map V.str).length = s.2.length := by simp
  refine lc_ev (w := walk_list (xs := (s.2.map tmW).map V.str)) (fun _ => .bl true) (by rw [lenT]; have := ok.few; omega) hD2' ?_ (fun H' e => e.seq hp1) ?_ ?_
  · rintro m H1 x H' ⟨e, _⟩
    exact same_refl e
  · rintro i x H1 H' R hi s1 ⟨rfl, hxi⟩ hR
    rw [List.getElem?_map, List.getElem?_map] at hxi
    cases ht : s.2[i]? with
    | none => rw [ht] at hxi; cases hxi
    | some t =>
      rw [ht] at hxi
      cases hxi
      refine ⟨rfl, _, rfl, 42, tmW t, congrArg V.str star_sign, rfl, ?_⟩
      have d4 : decide (42 ∈ (tmW t).cps.toList) = true := by
        refine decide_eq_true ?_
        show 42 ∈ tl (tmW t)
        rw [tl_tmW]
        exact List.mem_append_right _ List.mem_cons_self
      rw [d4]
      exact hR H' (Same.refl _)
  intro H4 s4 h4
  have hb : (List.range ((s.2.map tmW).map V.str).length).map (fun _ => V.bl true) = (List.replicate s.2.length true).map V.bl := by
    rw [lenT]
    apply List.ext_getElem <;> simp
  rw [hb] at h4
  refine ⟨D2, List.replicate s.2.length true, rfl, SqL.of h4, _, rfl, ?_⟩
  have d5 : (List.replicate s.2.length true).all id = true := by
    rw [List.all_eq_true]
    intro x hx
    exact (List.mem_replicate.mp hx).2
  rw [d5]
  refine iteF ?_
  have e24 : Same H2 H4 := ep.trans s4
  have ha4 := e24.seq ha2
  have hD4 := e24.seq hD2
  -- (numbers[0], tuple([..]))
  refine ⟨_, rfl, D, _, _, _, rfl, rfl, hD4, atI_pos 0 rfl, ?_⟩
  refine ⟨_, rfl, 1, rfl, a, _, rfl, ha4, fun p1 hp1' => ?_⟩
  rw [show (1 : Int) = ((1 : Nat) : Int) from rfl, cutV_D]
  have e5 := same_new (o := .lst (((smW s).map V.str).drop 1)) hp1'
  refine ⟨_, rfl, 1, rfl, D, _, rfl, e5.seq hD4, fun p2 hp2 => ?_⟩
  rw [show (1 : Int) = ((1 : Nat) : Int) from rfl, cutV_D]
  have e6 := same_new (o := .lst (((smN s).map V.int).drop 1)) hp2
  have edropN : ((smN s).map V.int).drop 1 = (s.2.map (·.2)).map V.int := rfl
  rw [edropN] at e6 ⊢
  rw [edrop] at e5 e6 hp2 ⊢
  have q1 : SqL K (upd (upd H4 p1 (.lst ((s.2.map tmW).map V.str))) p2 (.lst ((s.2.map (·.2)).map V.int))) p1 ((s.2.map tmW).map V.str) := e6.seq (SqL.of upd_same)
  have q2 : SqL K (upd (upd H4 p1 (.lst ((s.2.map tmW).map V.str))) p2 (.lst ((s.2.map (·.2)).map V.int))) p2 ((s.2.map (·.2)).map V.int) := SqL.of upd_same
  have e56 := e5.trans e6
  generalize hG5 : upd (upd H4 p1 (.lst ((s.2.map tmW).map V.str))) p2 (.lst ((s.2.map (·.2)).map V.int)) = H5 at q1 q2 e56
  refine ⟨p1, p2, _, _, rfl, q1, q2, fun D3 hD3 => ?_⟩
  refine lc_rel (w := walk_zip (n := s.2.length) (xs := (s.2.map tmW).map V.str) (ys := (s.2.map (·.2)).map V.int) (by simp)) (fun i y H => ∃ q t, y = .ref q ∧ q ≠ D3 ∧ s.2[i]? = some t ∧ H q = some (.tup [.str t.1, .int t.2]))
    ?_ (by have := ok.few; omega) hD3 ?_ (fun H' e => ⟨e.seq q1, e.seq q2⟩) ?_ ?_
  · rintro i y H1 H1' hk ⟨q, t, rfl, hq, ht, h⟩
    exact ⟨q, t, rfl, hq, ht, hk _ _ hq h⟩
  · rintro m H1 x H' ⟨T, x1, y1, rfl, hT, rfl, _, _⟩
    exact same_new hT
  · rintro i x H1 H' R hi s1 ⟨dl, hdl⟩ ⟨T, x1, y1, rfl, hT, rfl, hx1, hy1⟩ hR
    have hx1 : ((s.2.map tmW).map V.str)[i]? = some x1 := hx1
    have hy1 : ((s.2.map (·.2)).map V.int)[i]? = some y1 := hy1
    rw [List.getElem?_map, List.getElem?_map] at hx1 hy1
    cases ht : s.2[i]? with
    | none => rw [ht] at hx1; cases hx1
    | some t =>
      rw [ht] at hx1 hy1
      cases hx1
      cases hy1
      have okt := ok.t t (List.mem_of_getElem? ht)
      have l3 := tmW_len okt.1 okt.2.2.2
      refine ⟨T, _, rfl, SqT.of upd_same, rfl, _, _, rfl, _, _, rfl, rfl, rfl, ?_⟩
      refine ⟨_, rfl, ⟨_, rfl⟩, tmW t, _, rfl, rfl, star_len, few_ok (by omega), fun p hp => ?_⟩
      refine ⟨p, _, _, _, rfl, rfl, SqT.of upd_same, atI_pos 2 rfl, _, rfl, few_ok (by show 2 ≤ _; decide), fun q hq => ?_⟩
      have hD7 : upd (upd H1 T (.tup [V.str (tmW t), V.int t.2])) p (.tup [.str (Txt.partition (tmW t) "*").1, .str (Txt.partition (tmW t) "*").2.1, .str (Txt.partition (tmW t) "*").2.2]) D3 = some (.lst dl) := by
        rw [upd_ne (ne_of_none (by rw [upd_ne (ne_of_none hdl hT)]; exact hdl) hp), upd_ne (ne_of_none hdl hT)]
        exact hdl
      refine hR _ _ ((same_new hp).trans (same_new hq)) ⟨q, t, rfl, (ne_of_none hD7 hq).symm, ht, ?_⟩
      rw [upd_same, part_tm]
  · intro acc H6 s6 h6 hl6 hr6
    refine ⟨D3, acc, rfl, .inl ⟨SqL.of h6, fun l hl => ?_⟩⟩
    refine ⟨few_ok (by show 2 ≤ _; decide), fun q hq => ?_⟩
    have e7 := same_new (o := .tup acc) hl
    have e8 := same_new (o := .tup [V.int s.1, V.ref l]) hq
    refine k (.ref q) _ ((((s2.trans e24).trans (e56.trans s6)).trans e7).trans e8) ⟨q, _, rfl, upd_same⟩ ?_
    refine .tup (SqT.of upd_same) (.cons (.int _) (.cons (.tup (same_tup e8 (SqT.of upd_same)) ?_) .nil))
    refine dpAll_of (by rw [hl6, List.length_map]) fun i v d h1 h2 => ?_
    obtain ⟨q', t, rfl, _, ht, hq'⟩ := hr6 i v h1
    rw [List.getElem?_map, ht] at h2
    cases h2
    exact .tup (same_tup (e7.trans e8) (SqT.of hq')) (.cons (.str _) (.cons (.int _) .nil))
end
end My


/-! K51d: is_sum, is_limit, limit_of, read_limit, is_step, is_run, is_fact, fact_of, read_fact. -/
namespace My
open PySem PySem.Spec PyProof.Rows L2 TL
structure Txt (w : World) (K : PySem.W.Frag) (mg : Str → Option Value) : Prop where
  abs_ : mg "abs" = none
  all_ : mg "all" = none
  int_ : mg "int" = none
  isinstance : mg "isinstance" = none
  len : mg "len" = none
  list_ : mg "list" = none
  range : mg "range" = none
  repr_ : mg "repr" = none
  sorted : mg "sorted" = none
  str_ : mg "str" = none
  tuple_ : mg "tuple" = none
  zip : mg "zip" = none
  c_CHARACTERS : ∃ t, mg "CHARACTERS" = some (.str c_CHARACTERS t)
  c_DIGITS : ∃ t, mg "DIGITS" = some (.str c_DIGITS t)
  c_FRAME : ∃ t, mg "FRAME" = some (.str c_FRAME t)
  c_ITEM_COUNTS : mg "ITEM_COUNTS" = some (.ref (He.ga K "ITEM_COUNTS"))
  d_ITEM_COUNTS : IsKD K w (He.ga K "ITEM_COUNTS")
  v_ITEM_COUNTS_room : ∃ u, PySem.W.nsIn K (He.ga K "ITEM_COUNTS") "room" = some (some u) ∧ RelV (.int 5) u
  v_ITEM_COUNTS_reach : ∃ u, PySem.W.nsIn K (He.ga K "ITEM_COUNTS") "reach" = some (some u) ∧ RelV (.int 4) u
  c_LETTERS : ∃ t, mg "LETTERS" = some (.str c_LETTERS t)
  c_LONGEST_NAME : ∃ t, mg "LONGEST_NAME" = some (.int 12 t)
  c_MOST_DIGITS : ∃ t, mg "MOST_DIGITS" = some (.int 60 t)
  c_RUN_COUNTS : mg "RUN_COUNTS" = some (.ref (He.ga K "RUN_COUNTS"))
  d_RUN_COUNTS : IsKD K w (He.ga K "RUN_COUNTS")
  v_RUN_COUNTS_goes : ∃ u, PySem.W.nsIn K (He.ga K "RUN_COUNTS") "goes" = some (some u) ∧ RelV (.int 1) u
  v_RUN_COUNTS_fails : ∃ u, PySem.W.nsIn K (He.ga K "RUN_COUNTS") "fails" = some (some u) ∧ RelV (.int 1) u
  v_RUN_COUNTS_alike : ∃ u, PySem.W.nsIn K (He.ga K "RUN_COUNTS") "alike" = some (some u) ∧ RelV (.int 2) u
  v_RUN_COUNTS_apart : ∃ u, PySem.W.nsIn K (He.ga K "RUN_COUNTS") "apart" = some (some u) ∧ RelV (.int 2) u
section
variable {w : World} {mg : Str → Option Value} {K : PySem.W.Frag} {vs : List V} {H : Hp} {Q : VK} {E : XK}
theorem dec_vne {v : V} {p : Addr} (h : v = .ref p) : decide (v = .non) = false := by
  subst h
  exact decide_eq_false (fun z => nomatch z)

/-! ### is_sum -/
def sp_is_sum (K : PySem.W.Frag) : Sp := fun vs H Q _ => ∃ (v : V) (s : Sm), vs = [v] ∧ Dp K H v (smD s) ∧ SmOk s ∧ ∀ H', Same H H' → Q (.bl true) H'
abbrev n_is_sum : List Str := ["value", "before", "name", "times"]
def t_is_sum (K : PySem.W.Frag) : TS :=
    (tSeq (tAsg (tC (.str "")) (gName 1))
    (tSeq (tFor (iTup K (tOp (rIxT K) (tVar 0) (tC (.int 1)))) (gTup K 2 (gCons (gName 2) (gCons (gName 3) gNil))) (tSeq (tIfS (tOr (tNot (tB (tCall (sp_is_step_name K) [] E0 (tCons (tVar 2) tNil)))) (tOr (tTest (tOp rLeS (tVar 2) (tVar 1))) (tTest (tOp rEq (tVar 3) (tC (.int 0)))))) (tRet (tC (.bl false))) tNext)
    (tAsg (tVar 2) (gName 1))))
    (tRet (tC (.bl true)))))
theorem len_is_sum (h : sp_is_sum K vs H Q E) : vs.length = 1 := by
  obtain ⟨z, _, rfl, _⟩ := h
  rfl
theorem run_is_sum (h : sp_is_sum K vs H Q E) : t_is_sum K { nx := fun _ H' => Q .non H', rt := Q } (start n_is_sum vs) H := by
  obtain ⟨v, s, rfl, hd, ok, k⟩ := h
  obtain ⟨a, xs, rfl, ha, hx⟩ := dp_tup hd
  obtain ⟨v1, _, rfl, h1, hx⟩ := dpAll_cons hx
  obtain ⟨v2, _, rfl, h2, hx⟩ := dpAll_cons hx
  cases dpAll_nil hx
  cases dp_int h1
  obtain ⟨b, ps, rfl, hb, hps⟩ := dp_tup h2
  unfold t_is_sum
  refine ⟨_, rfl, a, _, _, _, rfl, rfl, ha, atI_pos 1 rfl, b, rfl, ⟨_, hb⟩, ?_⟩
  refine for_it (walk_tup (xs := ps)) (fun i σ H' => ∃ (z : Str) (n t : Option V), σ = [some (.ref a), some (.str z), n, t] ∧ Same H H' ∧ ((i = 0 ∧ tl z = []) ∨ ∃ j p, i = j + 1 ∧ s.2[j]? = some p ∧ z = p.1))
    ⟨"", none, none, rfl, Same.refl H, .inl ⟨rfl, by decide +kernel⟩⟩ (fun i σ H' _ ⟨_, _, _, _, e, _⟩ => same_tup e hb) ?_ ?_
  · rintro i x σ H1 H' hi ⟨z, n, t, rfl, s1, hz⟩ ⟨rfl, hxi⟩
    obtain ⟨d, hd1, hd2⟩ := dpAll_get hps hxi
    rw [List.getElem?_map] at hd1
    cases ht : s.2[i]? with
    | none => rw [ht] at hd1; cases hd1
    | some t =>
      rw [ht] at hd1
      cases hd1
      have okt := ok.t t (List.mem_of_getElem? ht)
      obtain ⟨p, ys, rfl, hp, hy⟩ := dp_tup (dp_same hd2 s1)
      obtain ⟨y1, _, rfl, g1, hy⟩ := dpAll_cons hy
      obtain ⟨y2, _, rfl, g2, hy⟩ := dpAll_cons hy
      cases dpAll_nil hy
      cases dp_str g1
      cases dp_int g2
      have l2 := (isName_len okt.1).2
      refine ⟨p, _, rfl, hp, rfl, _, _, rfl, _, _, rfl, rfl, ?_⟩
      refine ⟨_, rfl, t.1, rfl, by omega, fun H2 s2 => ⟨_, rfl, ?_⟩⟩
      have d1 : (isName t.1 && !decide (t.1 = c_FRAME)) = true := by
        rw [okt.1, decide_eq_false okt.2.1]
        rfl
      rw [d1]
      refine iteF ?_
      refine ⟨_, rfl, _, rfl, t.1, z, rfl, rfl, _, rfl, ?_⟩
      have lt : tl z < tl t.1 := by
        rcases hz with ⟨_, e⟩ | ⟨j, p', rfl, hj, rfl⟩
        · rw [e]
          obtain ⟨c, l, ec, _⟩ := name_head okt.1
          rw [ec]
          exact List.Lex.nil
        · have := List.pairwise_iff_getElem.mp ok.up j (j + 1) (List.getElem?_eq_some_iff.mp hj).1 (List.getElem?_eq_some_iff.mp ht).1 (by omega)
          rw [(List.getElem?_eq_some_iff.mp hj).2, (List.getElem?_eq_some_iff.mp ht).2] at this
          exact this
      have d2 : (!decide (z.cps.toList < t.1.cps.toList)) = false := by
        have : decide (z.cps.toList < t.1.cps.toList) = true := decide_eq_true lt
        rw [this]
        rfl
      rw [d2]
      refine iteF ⟨_, rfl, rfl, _, rfl, ?_⟩
      have d3 : decide (V.int t.2 = V.int 0) = false := decide_eq_false fun e => okt.2.2.1 (V.int.inj e)
      rw [d3]
      refine iteF ⟨_, rfl, ?_⟩
      exact ⟨t.1, _, _, rfl, s1.trans s2, .inr ⟨i, t, rfl, ht, rfl⟩⟩
  · rintro σ H' ⟨z, n, t, rfl, s1, hz⟩
    exact k H' s1

/-! ### is_limit -/
def sp_is_limit (K : PySem.W.Frag) : Sp := fun vs H Q _ => ∃ (v : V) (L : Lm), vs = [v] ∧ Dp K H v (lmD L) ∧ LmOk L ∧ ∀ H', Same H H' → Q (.bl true) H'
abbrev n_is_limit : List Str := ["value", "upper", "lower"]
def t_is_limit (K : PySem.W.Frag) : TS :=
    (tSeq (tIfS (tOr (tTest (tOp rEq (tCB (cLenQ K) (tCons (tVar 0) tNil)) (tC (.int 0)))) (tTest (tOp rNe (tGetKd K (He.ga K "ITEM_COUNTS") (tC (.ref (He.ga K "ITEM_COUNTS"))) (tOp (rIxT K) (tVar 0) (tC (.int 0))) (tC (.int 0))) (tCB (cLenQ K) (tCons (tVar 0) tNil))))) (tRet (tC (.bl false))) tNext)
    (tSeq (tPar 1 2 (tCons (tOp (rIxT K) (tVar 0) (tC (.int 1))) (tCons (tOp (rIxT K) (tVar 0) (tC (.int 2))) tNil)))
    (tSeq (tIfS (tOr (tNot (tB (tCall (sp_is_name K) [] E0 (tCons (tVar 1) tNil)))) (tOr (tNot (tB (tCall (sp_is_name K) [] E0 (tCons (tVar 2) tNil)))) (tTest (tOp rEq (tVar 1) (tVar 2))))) (tRet (tC (.bl false))) tNext)
    (tSeq (tIfS (tAnd (tTest (tOp rEq (tOp (rIxT K) (tVar 0) (tC (.int 0))) (tC (.str "room")))) (tNot (tB (tCall (sp_is_text K) [] E0 (tCons (tOp (rIxT K) (tVar 0) (tC (.int 3))) tNil))))) (tRet (tC (.bl false))) tNext)
    (tRet (tCall (sp_is_sum K) [] E0 (tCons (tOp (rIxT K) (tVar 0) (tUn (rU fun i => .int (-i)) (tC (.int 1)))) tNil)))))))
theorem len_is_limit (h : sp_is_limit K vs H Q E) : vs.length = 1 := by
  obtain ⟨z, _, rfl, _⟩ := h
  rfl
theorem dec_ul {u l : Str} (h : u ≠ l) : decide (V.str u = V.str l) = false := decide_eq_false fun e => h (V.str.inj e)
theorem run_is_limit (B : Txt w K mg) (h : sp_is_limit K vs H Q E) : t_is_limit K { nx := fun _ H' => Q .non H', rt := Q } (start n_is_limit vs) H := by
  obtain ⟨v, L, rfl, hd, ok, k⟩ := h
  unfold t_is_limit
  cases L with
  | room u l st s =>
    obtain ⟨a, sv, rfl, ha, hw⟩ := dp_room hd
    obtain ⟨o1, o2, o3, o4⟩ := ok
    obtain ⟨uv, en, ru⟩ := B.v_ITEM_COUNTS_room
    refine ⟨_, rfl, a, _, rfl, .inr ha, rfl, _, rfl, ?_⟩
    refine iteF ⟨rfl, _, rfl, a, _, _, _, rfl, rfl, ha, atI_pos 0 rfl, _, _, rfl, en, .inr ⟨_, _, rfl, ru, _, rfl, a, _, rfl, .inr ha, rfl, _, rfl, ?_⟩⟩
    refine iteF ⟨_, rfl, a, _, _, _, rfl, rfl, ha, atI_pos 1 rfl, _, rfl, a, _, _, _, rfl, rfl, ha, atI_pos 2 rfl, _, _, rfl, ?_⟩
    refine ⟨_, rfl, u, rfl, by have := (isName_len o1.u).2; omega, fun H1 s1 => ⟨_, rfl, ?_⟩⟩
    rw [o1.u]
    refine iteF ⟨_, rfl, l, rfl, by have := (isName_len o1.l).2; omega, fun H2 s2 => ⟨_, rfl, ?_⟩⟩
    rw [o1.l]
    refine iteF ⟨_, rfl, _, rfl, rfl, _, rfl, ?_⟩
    rw [dec_ul o1.ne]
    have s12 := s1.trans s2
    refine iteF ⟨_, rfl, a, _, _, _, rfl, rfl, same_tup s12 ha, atI_pos 0 rfl, rfl, _, rfl, ?_⟩
    rw [dec_same]
    refine iteT ⟨_, rfl, a, _, _, _, rfl, rfl, same_tup s12 ha, atI_pos 3 rfl, st, rfl, by omega, fun H3 s3 => ⟨_, rfl, ?_⟩⟩
    rw [o2]
    have s13 := s12.trans s3
    exact iteF ⟨_, rfl, _, rfl, a, _, _, _, rfl, rfl, same_tup s13 ha, rfl, sv, s, rfl, dp_same hw s13, o4, fun H4 s4 => k H4 (s13.trans s4)⟩
  | reach u l s =>
    obtain ⟨a, sv, rfl, ha, hw⟩ := dp_reach hd
    obtain ⟨o1, o4⟩ := ok
    obtain ⟨uv, en, ru⟩ := B.v_ITEM_COUNTS_reach
    refine ⟨_, rfl, a, _, rfl, .inr ha, rfl, _, rfl, ?_⟩
    refine iteF ⟨rfl, _, rfl, a, _, _, _, rfl, rfl, ha, atI_pos 0 rfl, _, _, rfl, en, .inr ⟨_, _, rfl, ru, _, rfl, a, _, rfl, .inr ha, rfl, _, rfl, ?_⟩⟩
    refine iteF ⟨_, rfl, a, _, _, _, rfl, rfl, ha, atI_pos 1 rfl, _, rfl, a, _, _, _, rfl, rfl, ha, atI_pos 2 rfl, _, _, rfl, ?_⟩
    refine ⟨_, rfl, u, rfl, by have := (isName_len o1.u).2; omega, fun H1 s1 => ⟨_, rfl, ?_⟩⟩
    rw [o1.u]
    refine iteF ⟨_, rfl, l, rfl, by have := (isName_len o1.l).2; omega, fun H2 s2 => ⟨_, rfl, ?_⟩⟩
    rw [o1.l]
    refine iteF ⟨_, rfl, _, rfl, rfl, _, rfl, ?_⟩
    rw [dec_ul o1.ne]
    have s12 := s1.trans s2
    refine iteF ⟨_, rfl, a, _, _, _, rfl, rfl, same_tup s12 ha, atI_pos 0 rfl, rfl, _, rfl, ?_⟩
    rw [reach_room]
    exact iteF (iteF ⟨_, rfl, _, rfl, a, _, _, _, rfl, rfl, same_tup s12 ha, rfl, sv, s, rfl, dp_same hw s12, o4, fun H4 s4 => k H4 (s12.trans s4)⟩)

/-! ### limit_of -/
def sp_limit_of (K : PySem.W.Frag) : Sp := fun vs H Q _ => ∃ (a : Addr) (L : Lm), vs = [.ref a] ∧ SqL K H a ((lmW L).map V.str) ∧ LmOk L ∧ ∀ v H', Same H H' → IsTp H' v → Dp K H' v (lmD L) → Q v H'
abbrev n_limit_of : List Str := ["words", "start", "amount"]
def t_limit_of (K : PySem.W.Frag) : TS :=
    (tSeq (tIfS (tAnd (tTest (tOp (rEqD K) (tSl (rSlL K) (tVar 0) tNoPart (tPart (tC (.int 1)))) (tLst (tCons (tC (.str "room")) tNil)))) (tAnd (tTest (tOp rGtI (tCB (cLenQ K) (tCons (tVar 0) tNil)) (tC (.int 4)))) (tTest (tOp rEq (tSl rSlS (tOp (rIxL K) (tVar 0) (tC (.int 3))) tNoPart (tPart (tC (.int 1)))) (tC (.str "=")))))) (tPar 1 2 (tCons (tTup (tCons (tC (.str "room")) (tCons (tOp (rIxL K) (tVar 0) (tC (.int 1))) (tCons (tOp (rIxL K) (tVar 0) (tC (.int 2))) (tCons (tSl rSlS (tOp (rIxL K) (tVar 0) (tC (.int 3))) (tPart (tC (.int 1))) tNoPart) tNil))))) (tCons (tCall (sp_sum_of K) [] E0 (tCons (tSl (rSlL K) (tVar 0) (tPart (tC (.int 4))) tNoPart) tNil)) tNil))) (tIfS (tAnd (tTest (tOp (rEqD K) (tSl (rSlL K) (tVar 0) tNoPart (tPart (tC (.int 1)))) (tLst (tCons (tC (.str "reach")) tNil)))) (tTest (tOp rGtI (tCB (cLenQ K) (tCons (tVar 0) tNil)) (tC (.int 3))))) (tPar 1 2 (tCons (tTup (tCons (tC (.str "reach")) (tCons (tOp (rIxL K) (tVar 0) (tC (.int 1))) (tCons (tOp (rIxL K) (tVar 0) (tC (.int 2))) tNil)))) (tCons (tCall (sp_sum_of K) [] E0 (tCons (tSl (rSlL K) (tVar 0) (tPart (tC (.int 3))) tNoPart) tNil)) tNil))) (tRet (tC .non))))
    (tSeq (tIfS (tOr (tTest (tOp rIsN (tVar 2) (tC .non))) (tNot (tB (tCall (sp_is_limit K) [] E0 (tCons (tOp (rCatT K) (tVar 1) (tTup (tCons (tVar 2) tNil))) tNil))))) (tRet (tC .non)) tNext)
    (tRet (tOp (rCatT K) (tVar 1) (tTup (tCons (tVar 2) tNil))))))
theorem len_limit_of (h : sp_limit_of K vs H Q E) : vs.length = 1 := by
  obtain ⟨z, _, rfl, _⟩ := h
  rfl
theorem shp_room : SeqAt.shaped (.list [.str "room"]) = true := by decide +kernel
theorem shp_reach : SeqAt.shaped (.list [.str "reach"]) = true := by decide +kernel
theorem eqv_rr : PyData.eqv (.list [.str "room"]) (.list [.str "room"]) = true := by decide +kernel
theorem eqv_er : PyData.eqv (.list [.str "reach"]) (.list [.str "room"]) = false := by decide +kernel
theorem eqv_ee : PyData.eqv (.list [.str "reach"]) (.list [.str "reach"]) = true := by decide +kernel
theorem eql_cut (st : Str) : tl (eqlS st) = 61 :: tl st := by
  unfold eqlS
  rw [tl_append, tl_eq1]
  rfl
/-- the end: start + (amount,), with ss what stands in start -/
theorem limit_end {a p : Addr} {sv : V} {L : Lm} {s : Sm} {ss : List V} {H1 : Hp} (o : ∀ (q : Addr) (H2 : Hp), H2 q = some (.tup (ss ++ [sv])) → Dp K H2 sv (smD s) → Dp K H2 (.ref q) (lmD L)) (ok : LmOk L)
    (hne : ss ≠ []) (hl : ss.length ≤ 5) (hp : H1 p = some (.tup ss)) (tp : IsTp H1 sv) (hs : Dp K H1 sv (smD s)) (s0 : Same H H1) (k : ∀ v H', Same H H' → IsTp H' v → Dp K H' v (lmD L) → Q v H') :
    tSeq (tIfS (tOr (tTest (tOp rIsN (tVar 2) (tC .non))) (tNot (tB (tCall (sp_is_limit K) [] E0 (tCons (tOp (rCatT K) (tVar 1) (tTup (tCons (tVar 2) tNil))) tNil))))) (tRet (tC .non)) tNext)
      (tRet (tOp (rCatT K) (tVar 1) (tTup (tCons (tVar 2) tNil)))) { nx := fun _ H' => Q .non H', rt := Q } [some (.ref a), some (.ref p), some sv] H1 := by
  obtain ⟨r, rs, rfl, hr⟩ := tp
  refine ⟨_, rfl, rfl, _, rfl, ?_⟩
  rw [dec_vne rfl]
  refine iteF ⟨_, rfl, _, rfl, few_ok (by show 1 ≤ _; decide), fun q1 hq1 => ?_⟩
  have e1 := same_new (o := .tup [V.ref r]) hq1
  refine ⟨p, q1, ss, [V.ref r], rfl, rfl, SqT.of (e1 _ _ hp), SqT.of upd_same, hne, few_ok (by show _ + 1 ≤ _; omega), fun z => absurd z (List.cons_ne_nil _ _), fun _ q2 hq2 => ?_⟩
  have e2 := same_new (o := .tup (ss ++ [V.ref r])) hq2
  have e12 := e1.trans e2
  refine ⟨.ref q2, L, rfl, o q2 _ upd_same (dp_same hs e12), ok, fun H3 s3 => ⟨_, rfl, ?_⟩⟩
  have e13 := e12.trans s3
  refine iteF ⟨_, rfl, _, rfl, few_ok (by show 1 ≤ _; decide), fun q3 hq3 => ?_⟩
  have e3 := same_new (o := .tup [V.ref r]) hq3
  refine ⟨p, q3, ss, [V.ref r], rfl, rfl, SqT.of (e3 _ _ (e13 _ _ hp)), SqT.of upd_same, hne, few_ok (by show _ + 1 ≤ _; omega), fun z => absurd z (List.cons_ne_nil _ _), fun _ q4 hq4 => ?_⟩
  have e4 := same_new (o := .tup (ss ++ [V.ref r])) hq4
  exact k _ _ (((s0.trans e13).trans e3).trans e4) ⟨q4, _, rfl, upd_same⟩ (o q4 _ upd_same (dp_same hs ((e13.trans e3).trans e4)))
theorem run_limit_of (h : sp_limit_of K vs H Q E) : t_limit_of K { nx := fun _ H' => Q .non H', rt := Q } (start n_limit_of vs) H := by
  obtain ⟨a, L, rfl, ha, ok, k⟩ := h
  unfold t_limit_of
  cases L with
  | room u l st s =>
    have ha : SqL K H a (.str "room" :: .str u :: .str l :: .str (eqlS st) :: (smW s).map V.str) := ha
    obtain ⟨o1, o2, o3, o4⟩ := id ok
    refine ⟨_, rfl, 1, rfl, a, _, rfl, ha, fun p hp => ⟨few_ok (by show 1 ≤ _; decide), fun q hq => ?_⟩⟩
    rw [show (1 : Int) = ((1 : Nat) : Int) from rfl, cutV_T] at hq ⊢
    have e1 := same_new (o := .lst [V.str "room"]) hp
    have e2 := same_new (o := .lst [V.str "room"]) hq
    refine ⟨.list [.str "room"], .list [.str "room"], .lst (e2.seq (SqL.of upd_same)) (.cons (.str _) .nil), .lst (SqL.of upd_same) (.cons (.str _) .nil), shp_room, shp_room, _, rfl, ?_⟩
    rw [eqv_rr]
    have s2 := e1.trans e2
    have ha2 := s2.seq ha
    refine iteT ⟨_, rfl, a, _, rfl, .inl ha2, _, _, rfl, rfl, _, rfl, ?_⟩
    have d1 : decide ((4 : Int) < ((V.str "room" :: V.str u :: V.str l :: V.str (eqlS st) :: (smW s).map V.str).length : Int)) = true := decide_eq_true (by simp [smW]; omega)
    rw [d1]
    have hlen : (eqlS st).length ≤ sizeLine := by
      rw [len_tl, eql_cut, List.length_cons, ← len_tl]
      exact few_ok (by omega)
    refine iteT ⟨_, rfl, a, _, _, _, rfl, rfl, ha2, atI_pos 3 rfl, 1, rfl, eqlS st, rfl, hlen, rfl, _, rfl, ?_⟩
    have d2 : decide (V.str (cutS (eqlS st) none (some 1)) = V.str "=") = true := by
      rw [dec_str, show (1 : Int) = ((1 : Nat) : Int) from rfl, tl_cutT, eql_cut, tl_eq1]
      rfl
    rw [d2]
    refine iteT ⟨_, rfl, a, _, _, _, rfl, rfl, ha2, atI_pos 1 rfl, _, rfl, a, _, _, _, rfl, rfl, ha2, atI_pos 2 rfl, _, rfl, a, _, _, _, rfl, rfl, ha2, atI_pos 3 rfl, 1, rfl, eqlS st, rfl, hlen, few_ok (by show 4 ≤ _; decide), fun q3 hq3 => ?_⟩
    have e3 := same_new (o := .tup [V.str "room", V.str u, V.str l, V.str (cutS (eqlS st) (some 1) none)]) hq3
    have est : cutS (eqlS st) (some 1) none = st := by
      apply ext_tl
      rw [show (1 : Int) = ((1 : Nat) : Int) from rfl, tl_cutD, eql_cut]
      rfl
    refine ⟨_, rfl, 4, rfl, a, _, rfl, e3.seq ha2, fun q4 hq4 => ?_⟩
    rw [show (4 : Int) = ((4 : Nat) : Int) from rfl, cutV_D]
    have e4 := same_new (o := .lst ((smW s).map V.str)) hq4
    refine ⟨q4, s, rfl, SqL.of upd_same, o4, fun sv H5 s5 tp hs => ⟨_, _, rfl, ?_⟩⟩
    refine limit_end (ss := [V.str "room", V.str u, V.str l, V.str (cutS (eqlS st) (some 1) none)]) (fun q H2 hq hsv => ?_) ok (List.cons_ne_nil _ _) (by show 4 ≤ 5; decide) (s5 _ _ (e4 _ _ upd_same)) tp hs (((s2.trans e3).trans e4).trans s5) k
    rw [est] at hq
    exact .tup (SqT.of hq) (.cons (.str _) (.cons (.str _) (.cons (.str _) (.cons (.str _) (.cons hsv .nil)))))
  | reach u l s =>
    have ha : SqL K H a (.str "reach" :: .str u :: .str l :: (smW s).map V.str) := ha
    obtain ⟨o1, o4⟩ := id ok
    refine ⟨_, rfl, 1, rfl, a, _, rfl, ha, fun p hp => ⟨few_ok (by show 1 ≤ _; decide), fun q hq => ?_⟩⟩
    rw [show (1 : Int) = ((1 : Nat) : Int) from rfl, cutV_T] at hq ⊢
    have e1 := same_new (o := .lst [V.str "reach"]) hp
    have e2 := same_new (o := .lst [V.str "room"]) hq
    refine ⟨.list [.str "reach"], .list [.str "room"], .lst (e2.seq (SqL.of upd_same)) (.cons (.str _) .nil), .lst (SqL.of upd_same) (.cons (.str _) .nil), shp_reach, shp_room, _, rfl, ?_⟩
    rw [eqv_er]
    have s2 := e1.trans e2
    have ha2 := s2.seq ha
    refine iteF (iteF ⟨_, rfl, 1, rfl, a, _, rfl, ha2, fun p hp => ⟨few_ok (by show 1 ≤ _; decide), fun q hq => ?_⟩⟩)
    rw [show (1 : Int) = ((1 : Nat) : Int) from rfl, cutV_T] at hq ⊢
    have e1' := same_new (o := .lst [V.str "reach"]) hp
    have e2' := same_new (o := .lst [V.str "reach"]) hq
    refine ⟨.list [.str "reach"], .list [.str "reach"], .lst (e2'.seq (SqL.of upd_same)) (.cons (.str _) .nil), .lst (SqL.of upd_same) (.cons (.str _) .nil), shp_reach, shp_reach, _, rfl, ?_⟩
    rw [eqv_ee]
    have s3 := (s2.trans e1').trans e2'
    have ha3 := s3.seq ha
    refine iteT ⟨_, rfl, a, _, rfl, .inl ha3, _, _, rfl, rfl, _, rfl, ?_⟩
    have d1 : decide ((3 : Int) < ((V.str "reach" :: V.str u :: V.str l :: (smW s).map V.str).length : Int)) = true := decide_eq_true (by simp [smW]; omega)
    rw [d1]
    refine iteT ⟨_, rfl, a, _, _, _, rfl, rfl, ha3, atI_pos 1 rfl, _, rfl, a, _, _, _, rfl, rfl, ha3, atI_pos 2 rfl, few_ok (by show 3 ≤ _; decide), fun q3 hq3 => ?_⟩
    have e3 := same_new (o := .tup [V.str "reach", V.str u, V.str l]) hq3
    refine ⟨_, rfl, 3, rfl, a, _, rfl, e3.seq ha3, fun q4 hq4 => ?_⟩
    rw [show (3 : Int) = ((3 : Nat) : Int) from rfl, cutV_D]
    have e4 := same_new (o := .lst ((smW s).map V.str)) hq4
    refine ⟨q4, s, rfl, SqL.of upd_same, o4, fun sv H5 s5 tp hs => ⟨_, _, rfl, ?_⟩⟩
    refine limit_end (ss := [V.str "reach", V.str u, V.str l]) (fun q H2 hq hsv => ?_) ok (List.cons_ne_nil _ _) (by show 3 ≤ 5; decide) (s5 _ _ (e4 _ _ upd_same)) tp hs (((s3.trans e3).trans e4).trans s5) k
    exact .tup (SqT.of hq) (.cons (.str _) (.cons (.str _) (.cons (.str _) (.cons hsv .nil))))

/-! ### read_limit -/
theorem blank_len : ((" " : Str).length == 0) = false := by decide +kernel
theorem blank_low : (" " : Str).cps.all (· < 256) = true := by decide +kernel
theorem name_free {z : Str} (h : isName z = true) {s : Nat} (hs : s < 48 ∨ 57 < s ∧ s < 97) : s ∉ tl z := fun m => by
  have := name_signs h s m
  omega
theorem smW_free {s : Sm} (ok : SmOk s) : ∀ z ∈ smW s, 32 ∉ tl z := by
  intro z hz
  rcases List.mem_cons.mp hz with rfl | hz
  · rw [tl_numS]
    exact numC_free (.inl (by decide))
  · obtain ⟨t, ht, rfl⟩ := List.mem_map.mp hz
    rw [tl_tmW]
    intro m
    rcases List.mem_append.mp m with m | m
    · exact numC_free (.inl (by decide)) m
    · rcases List.mem_cons.mp m with m | m
      · cases m
      · exact name_free (ok.t t ht).1 (.inl (by decide)) m
theorem lmW_free {L : Lm} (ok : LmOk L) : ∀ z ∈ lmW L, 32 ∉ tl z := by
  intro z hz
  cases L with
  | room u l st s =>
    obtain ⟨o1, o2, o3, o4⟩ := ok
    rcases List.mem_cons.mp hz with rfl | hz
    · rw [tl_room]; decide
    rcases List.mem_cons.mp hz with rfl | hz
    · exact name_free o1.u (.inl (by decide))
    rcases List.mem_cons.mp hz with rfl | hz
    · exact name_free o1.l (.inl (by decide))
    rcases List.mem_cons.mp hz with rfl | hz
    · rw [eql_cut]
      intro m
      rcases List.mem_cons.mp m with m | m
      · cases m
      · have := sign_range 32 (List.all_eq_true.mp o2 32 m)
        omega
    · exact smW_free o4 z hz
  | reach u l s =>
    obtain ⟨o1, o4⟩ := ok
    rcases List.mem_cons.mp hz with rfl | hz
    · rw [tl_reach]; decide
    rcases List.mem_cons.mp hz with rfl | hz
    · exact name_free o1.u (.inl (by decide))
    rcases List.mem_cons.mp hz with rfl | hz
    · exact name_free o1.l (.inl (by decide))
    · exact smW_free o4 z hz
theorem lmW_ne (L : Lm) : lmW L ≠ [] := by
  cases L <;> exact List.cons_ne_nil _ _
def sp_read_limit (K : PySem.W.Frag) : Sp := fun vs H Q _ => ∃ L : Lm, vs = [.str (lmT L)] ∧ LmOk L ∧ ∀ v H', Same H H' → IsTp H' v → Dp K H' v (lmD L) → Q v H'
abbrev n_read_limit : List Str := ["text", "limit"]
def t_read_limit (K : PySem.W.Frag) : TS :=
    (tSeq (tAsg (tCall (sp_limit_of K) [] E0 (tCons (tM1 mSplit (tVar 0) (tC (.str " "))) tNil)) (gName 1))
    (tSeq (tIfS (tTest (tOp rIsN (tVar 1) (tC .non))) tNever tNext)
    (tRet (tVar 1))))
theorem len_read_limit (h : sp_read_limit K vs H Q E) : vs.length = 1 := by
  obtain ⟨_, rfl, _⟩ := h
  rfl
theorem run_read_limit (h : sp_read_limit K vs H Q E) : t_read_limit K { nx := fun _ H' => Q .non H', rt := Q } (start n_read_limit vs) H := by
  obtain ⟨L, rfl, ok, k⟩ := h
  unfold t_read_limit
  have hl := lmT_len ok
  refine ⟨_, rfl, ⟨_, rfl⟩, _, _, rfl, rfl, blank_len, few_ok (by omega), fun p hp => ?_⟩
  have e : Txt.split (lmT L) " " = lmW L := split_join tl_blank blank_low (lmW_ne L) (lmW_free ok)
  rw [e]
  have e1 := same_new (o := .lst ((lmW L).map V.str)) hp
  refine ⟨p, L, rfl, SqL.of upd_same, ok, fun v H1 s1 tp hd => ?_⟩
  obtain ⟨q, xs, rfl, hq⟩ := id tp
  refine ⟨_, rfl, rfl, _, rfl, ?_⟩
  rw [dec_vne rfl]
  exact iteF ⟨_, rfl, k _ H1 (e1.trans s1) tp hd⟩
end
end My


/-! K51e: is_step, is_run, is_fact, fact_of, read_fact. -/
namespace My
open PySem PySem.Spec PyProof.Rows L2 TL
section
variable {w : World} {mg : Str → Option Value} {K : PySem.W.Frag} {vs : List V} {H : Hp} {Q : VK} {E : XK}
/-! ### is_step -/
def sp_is_step (K : PySem.W.Frag) : Sp := fun vs H Q _ => ∃ z : Str, vs = [.str z] ∧ z.length ≤ 100000 ∧ ∀ H', Same H H' → Q (.bl (stepOk z)) H'
abbrev n_is_step : List Str := ["text"]
def t_is_step (K : PySem.W.Frag) : TS :=
    (tRet (tAndV (tOp (rIn K false) (tSl rSlS (tVar 0) tNoPart (tPart (tC (.int 1)))) (tTup (tCons (tC (.str "+")) (tCons (tC (.str "-")) tNil)))) (tCall (sp_is_name K) [] E0 (tCons (tSl rSlS (tVar 0) (tPart (tC (.int 1))) tNoPart) tNil))))
theorem len_is_step (h : sp_is_step K vs H Q E) : vs.length = 1 := by
  obtain ⟨z, rfl, _⟩ := h
  rfl
theorem run_is_step (h : sp_is_step K vs H Q E) : t_is_step K { nx := fun _ H' => Q .non H', rt := Q } (start n_is_step vs) H := by
  obtain ⟨z, rfl, hz, k⟩ := h
  unfold t_is_step
  have hzl : z.length ≤ sizeLine := few_ok hz
  refine ⟨_, rfl, 1, rfl, z, rfl, hzl, few_ok (by show 2 ≤ _; decide), fun p hp => ?_⟩
  have e1 := same_new (o := .tup [V.str "+", V.str "-"]) hp
  refine ⟨p, _, rfl, .inr (SqT.of upd_same), rfl, rfl, _, rfl, ?_⟩
  have em : inV (.str (cutS z none (some 1))) [V.str "+", V.str "-"] = decide (cutS z none (some 1) ∈ (["+", "-"] : List Str)) := inV_strs _ ["+", "-"]
  rw [em]
  have et : tl (cutS z none (some 1)) = (tl z).take 1 := tl_cutT z 1
  have ed : tl (cutS z (some 1) none) = (tl z).drop 1 := tl_cutD z 1
  have hcut : (cutS z (some 1) none).length ≤ 1000000 := by
    have := cutS_length z (some 1) none
    omega
  have mem : cutS z none (some 1) ∈ (["+", "-"] : List Str) ↔ (tl z).take 1 = [43] ∨ (tl z).take 1 = [45] := by
    constructor
    · intro m
      rcases List.mem_cons.mp m with m | m
      · left
        rw [← et, m, tl_plus]
      · rcases List.mem_cons.mp m with m | m
        · right
          rw [← et, m, tl_minus]
        · cases m
    · rintro (q | q)
      · have : cutS z none (some 1) = "+" := ext_tl (by rw [et, q, tl_plus])
        rw [this]
        exact List.mem_cons_self
      · have : cutS z none (some 1) = "-" := ext_tl (by rw [et, q, tl_minus])
        rw [this]
        exact List.mem_cons_of_mem _ List.mem_cons_self
  by_cases hm : (tl z).take 1 = [43] ∨ (tl z).take 1 = [45]
  · rw [decide_eq_true (mem.mpr hm)]
    refine iteT ⟨_, rfl, 1, rfl, z, rfl, hzl, _, rfl, hcut, fun H1 s1 => ?_⟩
    have q := k H1 (e1.trans s1)
    have e : isName (cutS z (some 1) none) = stepOk z := by
      unfold isName stepOk
      rw [ed]
      cases ez : tl z with
      | nil => rw [ez] at hm; rcases hm with hm | hm <;> cases hm
      | cons c l =>
        rw [ez] at hm
        show nameOk l = ((decide (c = 43) || decide (c = 45)) && nameOk l)
        have : (decide (c = 43) || decide (c = 45)) = true := by
          rcases hm with hm | hm
          · have : c = 43 := by injection hm
            rw [this]; rfl
          · have : c = 45 := by injection hm
            rw [this]; rfl
        rw [this, Bool.true_and]
    rw [e]
    exact q
  · rw [decide_eq_false (fun m => hm (mem.mp m))]
    have q := k _ e1
    have e : stepOk z = false := by
      unfold stepOk
      cases ez : tl z with
      | nil => rfl
      | cons c l =>
        rw [ez] at hm
        show ((decide (c = 43) || decide (c = 45)) && nameOk l) = false
        have h1 : c ≠ 43 := fun q => hm (.inl (by rw [q]; rfl))
        have h2 : c ≠ 45 := fun q => hm (.inr (by rw [q]; rfl))
        rw [decide_eq_false h1, decide_eq_false h2]
        rfl
    rw [e] at q
    exact iteF q

/-! ### is_run -/
def sp_is_run (K : PySem.W.Frag) : Sp := fun vs H Q _ => ∃ (v : V) (r : List Str), vs = [v] ∧ Dp K H v (runD r) ∧ RunOk r ∧ ∀ H', Same H H' → Q (.bl true) H'
abbrev n_is_run : List Str := ["run", "step"]
def t_is_run (K : PySem.W.Frag) : TS :=
    (tRet (tAndV (tOp rGtI (tCB (cLenQ K) (tCons (tVar 0) tNil)) (tC (.int 0))) (tAndV (tCall (sp_is_name K) [] E0 (tCons (tOp (rIxT K) (tVar 0) (tC (.int 0))) tNil)) (tCB (rAll K) (tCons (tLc (iTup K (tSl (rSlT K) (tVar 0) (tPart (tC (.int 1))) tNoPart)) (gName 1) tYes (tCall (sp_is_step K) [] E0 (tCons (tVar 1) tNil)) [1]) tNil)))))
theorem len_is_run (h : sp_is_run K vs H Q E) : vs.length = 1 := by
  obtain ⟨z, _, rfl, _⟩ := h
  rfl
theorem all_true (n : Nat) : (List.replicate n true).all id = true := by
  rw [List.all_eq_true]
  intro x hx
  exact (List.mem_replicate.mp hx).2
theorem range_true (n : Nat) : (List.range n).map (fun _ => V.bl true) = (List.replicate n true).map V.bl := by
  apply List.ext_getElem <;> simp
/-- all([f(x) for x in t[1:]]) with every answer True -/
theorem all_rest {i j : Nat} {te : TE} {σ : L2.St} {a : Addr} {v : V} {xs : List V} (hj : σ[j]? = some (some (.ref a))) (ha : SqT K H a (v :: xs)) (hx : xs.length ≤ 1000)
    (hw : ∀ v, wipe ((wipe σ [i]).set i (some v)) [i] = wipe σ [i])
    (he : ∀ (m : Nat) x (H' : Hp) (R : VK), xs[m]? = some x → Same H H' → (∀ H2, Same H' H2 → R (.bl true) H2) → te ((wipe σ [i]).set i (some x)) H' R)
    (k : ∀ H', Same H H' → Q (.bl true) H') :
    tCB (rAll K) (tCons (tLc (iTup K (tSl (rSlT K) (tVar j) (tPart (tC (.int 1))) tNoPart)) (gName i) tYes te [i]) tNil) σ H Q := by
  refine ⟨_, hj, 1, rfl, a, _, rfl, ha, cut1 (H := H) xs, fun p hp => ?_⟩
  rw [show (1 : Int) = ((1 : Nat) : Int) from rfl, cutV_D]
  have e1 := same_new (o := .tup xs) hp
  have hp1 : SqT K (upd H p (.tup xs)) p xs := SqT.of upd_same
  refine ⟨p, rfl, ⟨_, hp1⟩, fun D hD => ?_⟩
  refine lc_ev (w := walk_tup (xs := xs)) (fun _ => .bl true) (by omega) hD ?_ (fun H' e => same_tup e hp1) ?_ ?_
  · rintro m H1 x H' ⟨e, _⟩
    exact same_refl e
  · rintro m x H1 H' R hi s1 ⟨rfl, hxi⟩ hR
    exact ⟨hw x, he m x H' R hxi (e1.trans s1) hR⟩
  · intro H2 s2 h2
    rw [range_true] at h2
    refine ⟨D, _, rfl, SqL.of h2, ?_⟩
    rw [all_true]
    exact k H2 (e1.trans s2)
theorem run_is_run (h : sp_is_run K vs H Q E) : t_is_run K { nx := fun _ H' => Q .non H', rt := Q } (start n_is_run vs) H := by
  obtain ⟨v, r, rfl, hd, ok, k⟩ := h
  obtain ⟨a, rfl, ha⟩ := dp_run hd
  obtain ⟨n, ss, rfl, h1, h2⟩ := ok.ex
  have few := ok.few
  rw [List.length_cons] at few
  have ha : SqT K H a (.str n :: ss.map V.str) := ha
  unfold t_is_run
  refine ⟨_, rfl, a, _, rfl, .inr ha, _, _, rfl, rfl, _, rfl, ?_⟩
  have d1 : decide ((0 : Int) < ((V.str n :: ss.map V.str).length : Int)) = true := decide_eq_true (by rw [List.length_cons]; omega)
  rw [d1]
  refine iteT ⟨_, rfl, a, _, _, _, rfl, rfl, ha, atI_pos 0 rfl, n, rfl, by have := (isName_len h1).2; omega, fun H1 s1 => ⟨_, rfl, ?_⟩⟩
  rw [h1]
  refine iteT ?_
  refine all_rest rfl (same_tup s1 ha) (by rw [List.length_map]; omega) (fun _ => rfl) ?_ (fun H' s => k H' (s1.trans s))
  intro m x H' R hx s2 hR
  rw [List.getElem?_map] at hx
  cases hs : ss[m]? with
  | none => rw [hs] at hx; cases hx
  | some z =>
    rw [hs] at hx
    cases hx
    have okz := h2 z (List.mem_of_getElem? hs)
    refine ⟨_, rfl, z, rfl, by have := step_len okz; omega, fun H2 s3 => ?_⟩
    rw [okz]
    exact hR H2 s3

/-! ### is_fact -/
def sp_is_fact (K : PySem.W.Frag) : Sp := fun vs H Q _ => ∃ (v : V) (f : Fc), vs = [v] ∧ Dp K H v (fcD f) ∧ FcOk f ∧ ∀ H', Same H H' → Q (.bl true) H'
abbrev n_is_fact : List Str := ["fact", "run"]
def t_is_fact (K : PySem.W.Frag) : TS :=
    (tSeq (tIfS (tOr (tTest (tOp rEq (tCB (cLenQ K) (tCons (tVar 0) tNil)) (tC (.int 0)))) (tOr (tTest (tOp (rNotInKd K (He.ga K "RUN_COUNTS")) (tOp (rIxT K) (tVar 0) (tC (.int 0))) (tC (.ref (He.ga K "RUN_COUNTS"))))) (tTest (tOp rNe (tCB (cLenQ K) (tCons (tVar 0) tNil)) (tOp rAddI (tOp (rItemKd K (He.ga K "RUN_COUNTS")) (tC (.ref (He.ga K "RUN_COUNTS"))) (tOp (rIxT K) (tVar 0) (tC (.int 0)))) (tC (.int 1))))))) (tRet (tC (.bl false))) tNext)
    (tRet (tCB (rAll K) (tCons (tLc (iTup K (tSl (rSlT K) (tVar 0) (tPart (tC (.int 1))) tNoPart)) (gName 1) tYes (tCall (sp_is_run K) [] E0 (tCons (tVar 1) tNil)) [1]) tNil))))
theorem len_is_fact (h : sp_is_fact K vs H Q E) : vs.length = 1 := by
  obtain ⟨z, _, rfl, _⟩ := h
  rfl
theorem run_counts (B : Txt w K mg) {f : Fc} (ok : FcOk f) : ∃ u, PySem.W.nsIn K (He.ga K "RUN_COUNTS") f.word = some (some u) ∧ RelV (.int (f.runs.length : Int)) u := by
  cases f with
  | one w r =>
    rcases ok.1 with e | e
    · show ∃ u, PySem.W.nsIn K (He.ga K "RUN_COUNTS") w = some (some u) ∧ _; rw [e]; exact B.v_RUN_COUNTS_goes
    · show ∃ u, PySem.W.nsIn K (He.ga K "RUN_COUNTS") w = some (some u) ∧ _; rw [e]; exact B.v_RUN_COUNTS_fails
  | two w r q =>
    rcases ok.1 with e | e
    · show ∃ u, PySem.W.nsIn K (He.ga K "RUN_COUNTS") w = some (some u) ∧ _; rw [e]; exact B.v_RUN_COUNTS_alike
    · show ∃ u, PySem.W.nsIn K (He.ga K "RUN_COUNTS") w = some (some u) ∧ _; rw [e]; exact B.v_RUN_COUNTS_apart
theorem run_is_fact (B : Txt w K mg) (h : sp_is_fact K vs H Q E) : t_is_fact K { nx := fun _ H' => Q .non H', rt := Q } (start n_is_fact vs) H := by
  obtain ⟨v, f, rfl, hd, ok, k⟩ := h
  obtain ⟨a, xs, rfl, ha, hx⟩ := dp_fact hd
  obtain ⟨u, en, ru⟩ := run_counts B ok
  have hlen : xs.length = f.runs.length := by
    have := dpAll_len hx
    rwa [List.length_map] at this
  have hfew := runs_few f
  unfold t_is_fact
  refine ⟨_, rfl, a, _, rfl, .inr ha, rfl, _, rfl, ?_⟩
  have d1 : decide (V.int ((V.str f.word :: xs).length : Int) = V.int 0) = false := decide_eq_false fun e => by
    have := V.int.inj e
    rw [List.length_cons] at this
    omega
  rw [d1]
  refine iteF ⟨_, rfl, a, _, _, _, rfl, rfl, ha, atI_pos 0 rfl, _, _, rfl, rfl, en, _, rfl, ?_⟩
  refine iteF ⟨_, rfl, a, _, rfl, .inr ha, _, rfl, a, _, _, _, rfl, rfl, ha, atI_pos 0 rfl, _, _, _, rfl, rfl, en, ru, _, _, rfl, rfl, rfl, _, rfl, ?_⟩
  have d2 : (!decide (V.int ((V.str f.word :: xs).length : Int) = V.int ((f.runs.length : Int) + 1))) = false := by
    have : decide (V.int ((V.str f.word :: xs).length : Int) = V.int ((f.runs.length : Int) + 1)) = true := decide_eq_true (by rw [List.length_cons, hlen]; rfl)
    rw [this]
    rfl
  rw [d2]
  refine iteF ?_
  refine all_rest rfl ha (by omega) (fun _ => rfl) ?_ k
  intro m x H' R hxm s2 hR
  obtain ⟨d, hd1, hd2⟩ := dpAll_get hx hxm
  rw [List.getElem?_map] at hd1
  cases hr : f.runs[m]? with
  | none => rw [hr] at hd1; cases hd1
  | some r =>
    rw [hr] at hd1
    cases hd1
    exact ⟨_, rfl, x, r, rfl, dp_same hd2 s2, runs_ok ok r (List.mem_of_getElem? hr), hR⟩

/-! ### fact_of -/
def sp_fact_of (K : PySem.W.Frag) : Sp := fun vs H Q _ => ∃ (a : Addr) (f : Fc), vs = [.ref a] ∧ SqL K H a ((fcW f).map V.str) ∧ FcOk f ∧ ∀ v H', Same H H' → IsTp H' v → Dp K H' v (fcD f) → Q v H'
abbrev n_fact_of : List Str := ["words", "fact", "middle"]
def t_fact_of (K : PySem.W.Frag) : TS :=
    (tSeq (tAsg (tTup (tCons (tOp (rIxL K) (tVar 0) (tC (.int 0))) (tCons (tCB (cTuple K) (tCons (tSl (rSlL K) (tVar 0) (tPart (tC (.int 1))) tNoPart) tNil)) tNil))) (gName 1))
    (tSeq (tIfS (tAnd (tTest (tOp (rIn K false) (tOp (rIxL K) (tVar 0) (tC (.int 0))) (tTup (tCons (tC (.str "alike")) (tCons (tC (.str "apart")) tNil))))) (tTest (tOp (rIn K false) (tC (.str "=")) (tVar 0)))) (tSeq (tAsg (tBM K "list" (rIndex K) (tVar 0) (tCons (tC (.str "=")) tNil)) (gName 2))
    (tAsg (tTup (tCons (tOp (rIxL K) (tVar 0) (tC (.int 0))) (tCons (tCB (cTuple K) (tCons (tSl (rSlL K) (tVar 0) (tPart (tC (.int 1))) (tPart (tVar 2))) tNil)) (tCons (tCB (cTuple K) (tCons (tSl (rSlL K) (tVar 0) (tPart (tOp rAddI (tVar 2) (tC (.int 1)))) tNoPart) tNil)) tNil)))) (gName 1))) tNext)
    (tRet (tIf (tB (tCall (sp_is_fact K) [] E0 (tCons (tVar 1) tNil))) (tVar 1) (tC .non)))))
theorem len_fact_of (h : sp_fact_of K vs H Q E) : vs.length = 1 := by
  obtain ⟨z, _, rfl, _⟩ := h
  rfl
theorem inAA (z : Str) : inV (.str z) [V.str "alike", V.str "apart"] = decide (z ∈ (["alike", "apart"] : List Str)) := inV_strs z ["alike", "apart"]
theorem aa_goes : decide (("goes" : Str) ∈ (["alike", "apart"] : List Str)) = false := by decide +kernel
theorem aa_fails : decide (("fails" : Str) ∈ (["alike", "apart"] : List Str)) = false := by decide +kernel
theorem aa_alike : decide (("alike" : Str) ∈ (["alike", "apart"] : List Str)) = true := by decide +kernel
theorem aa_apart : decide (("apart" : Str) ∈ (["alike", "apart"] : List Str)) = true := by decide +kernel
theorem run_eq {r : List Str} (h : RunOk r) : ∀ z ∈ r, z ≠ "=" := by
  intro z hz e
  have := run_free h (s := 61) (by omega) z hz
  rw [e, tl_eq1] at this
  exact this (List.mem_singleton.mpr rfl)
theorem fact_end {a p : Addr} {f : Fc} {m : Option V} {H1 : Hp} {xs : List V} (hp : H1 p = some (.tup xs)) (hd : Dp K H1 (.ref p) (fcD f)) (ok : FcOk f) (s0 : Same H H1) (k : ∀ v H', Same H H' → IsTp H' v → Dp K H' v (fcD f) → Q v H') :
    tRet (tIf (tB (tCall (sp_is_fact K) [] E0 (tCons (tVar 1) tNil))) (tVar 1) (tC .non)) { nx := fun _ H' => Q .non H', rt := Q } [some (.ref a), some (.ref p), m] H1 := by
  refine ⟨_, rfl, _, f, rfl, hd, ok, fun H2 s2 => ⟨_, rfl, ?_⟩⟩
  exact iteT ⟨_, rfl, k _ H2 (s0.trans s2) ⟨p, _, rfl, s2 _ _ hp⟩ (dp_same hd s2)⟩
theorem dp_mkrun {H1 : Hp} {p : Addr} {r : List Str} (h : SqT K H1 p (r.map V.str)) : Dp K H1 (.ref p) (runD r) := .tup h (strs_dpAll r)
theorem run_fact_of (h : sp_fact_of K vs H Q E) : t_fact_of K { nx := fun _ H' => Q .non H', rt := Q } (start n_fact_of vs) H := by
  obtain ⟨a, f, rfl, ha, ok, k⟩ := h
  unfold t_fact_of
  cases f with
  | one w r =>
    have ha : SqL K H a (.str w :: r.map V.str) := ha
    obtain ⟨ow, okr⟩ := id ok
    refine ⟨_, rfl, a, _, _, _, rfl, rfl, ha, atI_pos 0 rfl, _, rfl, 1, rfl, a, _, rfl, ha, fun p hp => ?_⟩
    rw [show (1 : Int) = ((1 : Nat) : Int) from rfl, cutV_D]
    have e1 := same_new (o := .lst (r.map V.str)) hp
    refine ⟨p, r.map V.str, rfl, .inl ⟨SqL.of upd_same, fun q hq => ⟨few_ok (by show 2 ≤ _; decide), fun q2 hq2 => ?_⟩⟩⟩
    have e2 := same_new (o := .tup (r.map V.str)) hq
    have e3 := same_new (o := .tup [V.str w, V.ref q]) hq2
    have s3 := (e1.trans e2).trans e3
    refine ⟨_, rfl, a, _, _, _, rfl, rfl, s3.seq ha, atI_pos 0 rfl, few_ok (by show 2 ≤ _; decide), fun q4 hq4 => ?_⟩
    have e4 := same_new (o := .tup [V.str "alike", V.str "apart"]) hq4
    refine ⟨q4, _, rfl, .inr (SqT.of upd_same), rfl, rfl, _, rfl, ?_⟩
    rw [inAA]
    have d : decide (w ∈ (["alike", "apart"] : List Str)) = false := by
      rcases ow with rfl | rfl
      · exact aa_goes
      · exact aa_fails
    rw [d]
    refine iteF (iteF ?_)
    have hq2' : upd (upd (upd (upd H p (.lst (r.map V.str))) q (.tup (r.map V.str))) q2 (.tup [V.str w, V.ref q])) q4 (.tup [V.str "alike", V.str "apart"]) q2 = some (.tup [V.str w, V.ref q]) := e4 _ _ upd_same
    exact fact_end hq2' (.tup (SqT.of hq2') (.cons (.str _) (.cons (dp_mkrun (same_tup (e3.trans e4) (SqT.of upd_same))) .nil))) ok (s3.trans e4) k
  | two w r q =>
    have ha : SqL K H a ((w :: (r ++ ("=" : Str) :: q)).map V.str) := ha
    obtain ⟨ow, okr, okq⟩ := id ok
    have hf1 := okr.few
    have hf2 := okq.few
    refine ⟨_, rfl, a, _, _, V.str w, rfl, rfl, ha, atI_pos 0 rfl, _, rfl, 1, rfl, a, _, rfl, ha, fun p hp => ?_⟩
    rw [show (1 : Int) = ((1 : Nat) : Int) from rfl, cutV_D]
    have e1 := same_new (o := .lst ((r ++ ("=" : Str) :: q).map V.str)) hp
    refine ⟨p, (r ++ ("=" : Str) :: q).map V.str, rfl, .inl ⟨SqL.of upd_same, fun p1 hp1 => ⟨few_ok (by show 2 ≤ _; decide), fun p2 hp2 => ?_⟩⟩⟩
    have e2 := same_new (o := .tup ((r ++ ("=" : Str) :: q).map V.str)) hp1
    have e3 := same_new (o := .tup [V.str w, V.ref p1]) hp2
    have s3 := (e1.trans e2).trans e3
    refine ⟨_, rfl, a, _, _, V.str w, rfl, rfl, s3.seq ha, atI_pos 0 rfl, few_ok (by show 2 ≤ _; decide), fun p4 hp4 => ?_⟩
    have e4 := same_new (o := .tup [V.str "alike", V.str "apart"]) hp4
    have s4 := s3.trans e4
    refine ⟨p4, _, rfl, .inr (SqT.of upd_same), rfl, rfl, _, rfl, ?_⟩
    rw [inAA]
    have d : decide (w ∈ (["alike", "apart"] : List Str)) = true := by
      rcases ow with rfl | rfl
      · exact aa_alike
      · exact aa_apart
    rw [d]
    refine iteT ⟨_, rfl, a, _, rfl, .inl (s4.seq ha), rfl, flat_strs _, _, rfl, ?_⟩
    rw [inV_strs]
    have d2 : decide (("=" : Str) ∈ w :: (r ++ ("=" : Str) :: q)) = true := decide_eq_true (List.mem_cons_of_mem _ (List.mem_append_right _ List.mem_cons_self))
    rw [d2]
    -- index
    have wne : w ≠ "=" := by
      rcases ow with rfl | rfl
      · decide +kernel
      · decide +kernel
    have hget : ((w :: (r ++ ("=" : Str) :: q)).map V.str)[r.length + 1]? = some (V.str "=") := by
      rw [List.map_cons, List.getElem?_cons_succ, List.map_append, List.getElem?_append_right (by rw [List.length_map]; exact Nat.le_refl _), List.length_map, Nat.sub_self]
      rfl
    refine iteT ⟨_, rfl, .inl ⟨rfl, _, s4.seq ha⟩, a, _, _, r.length + 1, V.str "=", rfl, rfl, s4.seq ha, rfl, flat_strs _, hget, by decide +kernel, ?_, ?_⟩
    · intro m z' hm hz'
      rw [List.getElem?_map] at hz'
      cases hx : (w :: (r ++ ("=" : Str) :: q))[m]? with
      | none => rw [hx] at hz'; cases hz'
      | some x =>
        rw [hx] at hz'
        cases hz'
        have xne : x ≠ "=" := by
          cases m with
          | zero =>
            have : w = x := by simpa using hx
            rw [← this]
            exact wne
          | succ m =>
            rw [List.getElem?_cons_succ, List.getElem?_append_left (by omega)] at hx
            exact run_eq okr x (List.mem_of_getElem? hx)
        show (x == "=") = false
        exact beq_eq_false_iff_ne.mpr xne
    -- the tuple of three
    have ha4 := s4.seq ha
    refine ⟨_, rfl, a, _, _, V.str w, rfl, rfl, ha4, atI_pos 0 rfl, _, rfl, 1, rfl, _, rfl, _, rfl, a, _, rfl, ha4, fun q5 hq5 => ?_⟩
    have ec1 : cutV ((w :: (r ++ ("=" : Str) :: q)).map V.str) (some 1) (some ((r.length + 1 : Nat) : Int)) = r.map V.str := by
      rw [show (1 : Int) = ((1 : Nat) : Int) from rfl, cutV_DT _ _ _ (by omega) (by simp)]
      show (((r ++ ("=" : Str) :: q).map V.str)).take (r.length + 1 - 1) = _
      rw [List.map_append, Nat.add_sub_cancel, List.take_left' (List.length_map ..)]
    rw [ec1]
    have e5 := same_new (o := .lst (r.map V.str)) hq5
    refine ⟨q5, r.map V.str, rfl, .inl ⟨SqL.of upd_same, fun q6 hq6 => ?_⟩⟩
    have e6 := same_new (o := .tup (r.map V.str)) hq6
    have s6 := (s4.trans e5).trans e6
    refine ⟨_, rfl, _, rfl, _, _, rfl, rfl, ((r.length + 1 : Nat) : Int) + 1, rfl, a, _, rfl, s6.seq ha, fun q7 hq7 => ?_⟩
    have ec2 : cutV ((w :: (r ++ ("=" : Str) :: q)).map V.str) (some (((r.length + 1 : Nat) : Int) + 1)) none = q.map V.str := by
      rw [show (((r.length + 1 : Nat) : Int) + 1) = ((r.length + 2 : Nat) : Int) from by omega, cutV_D]
      show ((r ++ ("=" : Str) :: q).map V.str).drop (r.length + 1) = _
      rw [List.map_append, List.drop_append, List.length_map, List.drop_eq_nil_of_le (by rw [List.length_map]; omega), List.nil_append, show r.length + 1 - r.length = 1 from by omega]
      rfl
    rw [ec2]
    have e7 := same_new (o := .lst (q.map V.str)) hq7
    refine ⟨q7, q.map V.str, rfl, .inl ⟨SqL.of upd_same, fun q8 hq8 => ⟨few_ok (by show 3 ≤ _; decide), fun q9 hq9 => ?_⟩⟩⟩
    have e8 := same_new (o := .tup (q.map V.str)) hq8
    have e9 := same_new (o := .tup [V.str w, V.ref q6, V.ref q8]) hq9
    refine fact_end upd_same (.tup (SqT.of upd_same) (.cons (.str _) (.cons (dp_mkrun (same_tup ((e7.trans e8).trans e9) (SqT.of upd_same))) (.cons (dp_mkrun (same_tup e9 (SqT.of upd_same))) .nil)))) ok (((s6.trans e7).trans e8).trans e9) k

/-! ### read_fact -/
theorem fcW_free {f : Fc} (ok : FcOk f) : ∀ z ∈ fcW f, 32 ∉ tl z := by
  intro z hz
  cases f with
  | one w r =>
    rcases List.mem_cons.mp hz with rfl | hz
    · rcases ok.1 with e | e <;> (rw [e]; decide +kernel)
    · exact run_free ok.2 (.inl (by decide)) z hz
  | two w r q =>
    rcases List.mem_cons.mp hz with rfl | hz
    · rcases ok.1 with e | e <;> (rw [e]; decide +kernel)
    · rcases List.mem_append.mp hz with hz | hz
      · exact run_free ok.2.1 (.inl (by decide)) z hz
      · rcases List.mem_cons.mp hz with rfl | hz
        · decide +kernel
        · exact run_free ok.2.2 (.inl (by decide)) z hz
theorem fcW_ne (f : Fc) : fcW f ≠ [] := by
  cases f <;> exact List.cons_ne_nil _ _
def sp_read_fact (K : PySem.W.Frag) : Sp := fun vs H Q _ => ∃ f : Fc, vs = [.str (fcT f)] ∧ FcOk f ∧ ∀ v H', Same H H' → IsTp H' v → Dp K H' v (fcD f) → Q v H'
abbrev n_read_fact : List Str := ["text", "fact"]
def t_read_fact (K : PySem.W.Frag) : TS :=
    (tSeq (tAsg (tCall (sp_fact_of K) [] E0 (tCons (tM1 mSplit (tVar 0) (tC (.str " "))) tNil)) (gName 1))
    (tSeq (tIfS (tTest (tOp rIsN (tVar 1) (tC .non))) tNever tNext)
    (tRet (tVar 1))))
theorem len_read_fact (h : sp_read_fact K vs H Q E) : vs.length = 1 := by
  obtain ⟨_, rfl, _⟩ := h
  rfl
theorem run_read_fact (h : sp_read_fact K vs H Q E) : t_read_fact K { nx := fun _ H' => Q .non H', rt := Q } (start n_read_fact vs) H := by
  obtain ⟨f, rfl, ok, k⟩ := h
  unfold t_read_fact
  have hl := fcT_len ok
  refine ⟨_, rfl, ⟨_, rfl⟩, _, _, rfl, rfl, blank_len, few_ok (by omega), fun p hp => ?_⟩
  have e : Txt.split (fcT f) " " = fcW f := split_join tl_blank blank_low (fcW_ne f) (fcW_free ok)
  rw [e]
  have e1 := same_new (o := .lst ((fcW f).map V.str)) hp
  refine ⟨p, f, rfl, SqL.of upd_same, ok, fun v H1 s1 tp hd => ?_⟩
  obtain ⟨q, xs, rfl, hq⟩ := id tp
  refine ⟨_, rfl, rfl, _, rfl, ?_⟩
  rw [dec_vne rfl]
  exact iteF ⟨_, rfl, k _ H1 (e1.trans s1) tp hd⟩
end
end My


/-! K51f: the law's own names, numbers, stacks. -/
namespace My
open PySem PySem.Spec PyProof.Rows L2 TL
section
variable {K : PySem.W.Frag} {vs : List V} {H : Hp} {Q : VK} {E : XK}
theorem take_ok {s c : Addr} {m : Int} (S : Src H s c) (h0 : 0 < m) (hz : m.natAbs.log2 < 9000) (k : ∀ d H', 0 ≤ d → d < m → Src H' s c → Kp s H H' → Q (.int d) H') : sp_law_take K [.ref s, .int m] H Q E := ⟨s, c, m, rfl, h0, hz, S, k⟩

/-! ### _law_name -/
def c_SG : Str := "abcdefghijklmnopqrstuvwxyz0123456789"
theorem sg_len : (tl c_SG).length = 36 := by decide +kernel
theorem sg_let : ((tl c_SG).take 26).all isLet = true := by decide +kernel
theorem sg_all : (tl c_SG).all (fun d => isLet d || isDig d) = true := by decide +kernel
theorem sg_at {d : Int} (h0 : 0 ≤ d) (h1 : d < 36) : ∃ e, atI c_SG.cps.toList d = some e ∧ (isLet e || isDig e) = true ∧ (d < 26 → isLet e = true) := by
  obtain ⟨j, rfl⟩ : ∃ j : Nat, d = (j : Int) := ⟨_, (Int.toNat_of_nonneg h0).symm⟩
  have hj : j < (tl c_SG).length := by rw [sg_len]; omega
  refine ⟨(tl c_SG)[j], atI_nat (List.getElem?_eq_getElem hj), List.all_eq_true.mp sg_all _ (List.getElem_mem hj), fun h => ?_⟩
  refine List.all_eq_true.mp sg_let _ ?_
  rw [List.mem_take_iff_getElem]
  exact ⟨j, by omega, rfl⟩
theorem sg_size : c_SG.length ≤ sizeLine := by
  rw [len_tl, sg_len]
  decide
/-- the signs so far: a letter and m further ones -/
def NameP (z : Str) (m : Nat) : Prop := ∃ c l, tl z = c :: l ∧ isLet c = true ∧ (c :: l).all (fun d => isLet d || isDig d) = true ∧ l.length = m
theorem NameP.ok {z : Str} {m : Nat} (h : NameP z m) (hm : m < 12) : isName z = true := by
  obtain ⟨c, l, e, h1, h2, h3⟩ := h
  unfold isName
  rw [e, nameOk, h1, h2, decide_eq_true (by omega)]
  rfl
theorem NameP.one {c : Nat} (h : isLet c = true) : NameP ⟨#[c]⟩ 0 := ⟨c, [], rfl, h, by rw [List.all_cons, h]; rfl, rfl⟩
theorem NameP.more {z : Str} {m c : Nat} (h : NameP z m) (hc : (isLet c || isDig c) = true) : NameP (z ++ ⟨#[c]⟩) (m + 1) := by
  obtain ⟨d, l, e, h1, h2, h3⟩ := h
  refine ⟨d, l ++ [c], ?_, h1, ?_, ?_⟩
  · rw [tl_append, e]
    rfl
  · rw [← List.cons_append, List.all_append, h2, List.all_cons, hc]
    rfl
  · rw [List.length_append, h3]
    rfl
theorem NameP.len {z : Str} {m : Nat} (h : NameP z m) : z.length = m + 1 := by
  obtain ⟨d, l, e, h1, h2, h3⟩ := h
  rw [len_tl, e, List.length_cons, h3]
theorem sign_len (c : Nat) : (⟨#[c]⟩ : Str).length = 1 := rfl
def sp_law_name (K : PySem.W.Frag) : Sp := fun vs H Q _ => ∃ s c : Addr, vs = [.ref s] ∧ Src H s c ∧ ∀ (z : Str) H', isName z = true → Src H' s c → Kp s H H' → Q (.str z) H'
abbrev n_law_name : List Str := ["_law_source_here", "_law_signs", "_law_size", "_law_text", "_law_k"]
def t_law_name (K : PySem.W.Frag) : TS :=
    (tSeq (tAsg (tC (.str "abcdefghijklmnopqrstuvwxyz0123456789")) (gName 1))
    (tSeq (tAsg (tOp rAddI (tC (.int 1)) (tCall (sp_law_take K) [] E0 (tCons (tVar 0) (tCons (tC (.int 3)) tNil)))) (gName 2))
    (tSeq (tIfS (tTest (tOp rEq (tCall (sp_law_take K) [] E0 (tCons (tVar 0) (tCons (tC (.int 6)) tNil))) (tC (.int 0)))) (tAsg (tOp rSubI (tC (.int 12)) (tCall (sp_law_take K) [] E0 (tCons (tVar 0) (tCons (tC (.int 3)) tNil)))) (gName 2)) tNext)
    (tSeq (tAsg (tOp rIxS (tVar 1) (tCall (sp_law_take K) [] E0 (tCons (tVar 0) (tCons (tC (.int 26)) tNil)))) (gName 3))
    (tSeq (tFor (iRng1 (tCons (tOp rSubI (tVar 2) (tC (.int 1))) tNil)) (gName 4) (tAsg (tOp rCatS (tVar 3) (tOp rIxS (tVar 1) (tCall (sp_law_take K) [] E0 (tCons (tVar 0) (tCons (tC (.int 36)) tNil))))) (gName 3)))
    (tRet (tVar 3)))))))
theorem len_law_name (h : sp_law_name K vs H Q E) : vs.length = 1 := by
  obtain ⟨_, _, rfl, _⟩ := h
  rfl
theorem run_law_name (h : sp_law_name K vs H Q E) : t_law_name K { nx := fun _ H' => Q .non H', rt := Q } (start n_law_name vs) H := by
  obtain ⟨s, c, rfl, S, k⟩ := h
  unfold t_law_name
  have rest : ∀ (n : Int) (H1 : Hp), 1 ≤ n → n ≤ 12 → Src H1 s c → Kp s H H1 →
      (tSeq (tAsg (tOp rIxS (tVar 1) (tCall (sp_law_take K) [] E0 (tCons (tVar 0) (tCons (tC (.int 26)) tNil)))) (gName 3))
      (tSeq (tFor (iRng1 (tCons (tOp rSubI (tVar 2) (tC (.int 1))) tNil)) (gName 4) (tAsg (tOp rCatS (tVar 3) (tOp rIxS (tVar 1) (tCall (sp_law_take K) [] E0 (tCons (tVar 0) (tCons (tC (.int 36)) tNil))))) (gName 3)))
      (tRet (tVar 3)))) { nx := fun _ H' => Q .non H', rt := Q } [some (.ref s), some (.str c_SG), some (.int n), none, none] H1 := by
    intro n H1 hn1 hn2 S1 kp1
    refine ⟨_, rfl, _, rfl, s, c, _, rfl, (by decide), (by decide), S1, fun d H2 h0 h1 S2 kp2 => ?_⟩
    obtain ⟨e, he, he1, he2⟩ := sg_at h0 (by omega)
    refine ⟨c_SG, d, e, rfl, rfl, sg_size, he, ?_⟩
    refine ⟨_, rfl, _, _, rfl, rfl, n - 1, rfl, by omega, by omega, ?_⟩
    refine for_it walk_range (fun i σ H' => ∃ (z : Str) (v : Option V), σ = [some (.ref s), some (.str c_SG), some (.int n), some (.str z), v] ∧ Src H' s c ∧ Kp s H H' ∧ NameP z i)
      ⟨_, none, rfl, S2, kp1.trans kp2, NameP.one (he2 (by omega))⟩ (fun _ _ _ _ _ => True.intro) ?_ ?_
    · rintro i x σ H3 H' hi ⟨z, v, rfl, S3, kp3, hz⟩ ⟨rfl, rfl⟩
      refine ⟨_, rfl, _, rfl, _, rfl, s, c, _, rfl, (by decide), (by decide), S3, fun d H4 h0 h1 S4 kp4 => ?_⟩
      obtain ⟨e, he, he1, he2⟩ := sg_at h0 (by omega)
      refine ⟨c_SG, d, e, rfl, rfl, sg_size, he, _, _, rfl, rfl, ?_, ?_⟩
      · rw [hz.len, sign_len]
        exact few_ok (by omega)
      · exact ⟨_, _, rfl, S4, kp3.trans kp4, hz.more he1⟩
    · rintro σ H' ⟨z, v, rfl, S3, kp3, hz⟩
      exact ⟨_, rfl, k z H' (hz.ok (by omega)) S3 kp3⟩
  refine ⟨_, rfl, s, c, _, rfl, (by decide), (by decide), S, fun d H1 h0 h1 S1 kp1 => ?_⟩
  refine ⟨_, _, rfl, rfl, _, rfl, s, c, _, rfl, (by decide), (by decide), S1, fun d2 H2 h02 h12 S2 kp2 => ?_⟩
  refine ⟨rfl, _, rfl, ?_⟩
  refine ite2 (fun _ => ?_) (fun _ => ?_)
  · refine ⟨_, rfl, s, c, _, rfl, (by decide), (by decide), S2, fun d3 H3 h03 h13 S3 kp3 => ?_⟩
    exact ⟨_, _, rfl, rfl, rest (12 - d3) H3 (by omega) (by omega) S3 ((kp1.trans kp2).trans kp3)⟩
  · exact rest (1 + d) H2 (by omega) (by omega) S2 (kp1.trans kp2)

/-! ### _law_chars -/
def sp_law_chars (K : PySem.W.Frag) : Sp := fun vs H Q _ => vs = [] ∧ Q (.str c_CHARACTERS) H
abbrev n_law_chars : List Str := ["_law_text"]
def t_law_chars (K : PySem.W.Frag) : TS :=
    (tSeq (tAsg (tC (.str "!\"#$&'()*+,-./0123456789:;<=>?@ABCDEFGHIJKLMNOPQRSTUVWXYZ[\\]^_`")) (gName 0))
    (tRet (tOp rCatS (tVar 0) (tC (.str "abcdefghijklmnopqrstuvwxyz{|}~")))))
theorem len_law_chars (h : sp_law_chars K vs H Q E) : vs.length = 0 := by
  obtain ⟨rfl, _⟩ := h
  rfl
theorem chars_cat : (("!\"#$&'()*+,-./0123456789:;<=>?@ABCDEFGHIJKLMNOPQRSTUVWXYZ[\\]^_`" : Str) ++ ("abcdefghijklmnopqrstuvwxyz{|}~" : Str)) = c_CHARACTERS := by decide +kernel
theorem run_law_chars (h : sp_law_chars K vs H Q E) : t_law_chars K { nx := fun _ H' => Q .non H', rt := Q } (start n_law_chars vs) H := by
  obtain ⟨rfl, k⟩ := h
  unfold t_law_chars
  refine ⟨_, rfl, _, _, rfl, rfl, by decide +kernel, ?_⟩
  rw [chars_cat]
  exact k

/-! ### _law_number -/
def sp_law_number (K : PySem.W.Frag) : Sp := fun vs H Q _ => ∃ s c : Addr, vs = [.ref s] ∧ Src H s c ∧ ∀ (i : Int) H', i.natAbs < 10 ^ 60 → Src H' s c → Kp s H H' → Q (.int i) H'
abbrev n_law_number : List Str := ["_law_source_here", "_law_kind", "_law_value", "_law_k"]
def t_law_number (K : PySem.W.Frag) : TS :=
    (tSeq (tAsg (tCall (sp_law_take K) [] E0 (tCons (tVar 0) (tCons (tC (.int 8)) tNil))) (gName 1))
    (tSeq (tAsg (tCall (sp_law_take K) [] E0 (tCons (tVar 0) (tCons (tC (.int 30)) tNil))) (gName 2))
    (tSeq (tIfS (tTest (tOp rEq (tVar 1) (tC (.int 0)))) (tAsg (tOp rSubI (tOp rSubI (tOp rPowI (tC (.int 10)) (tC (.int 60))) (tC (.int 1))) (tVar 2)) (gName 2)) (tIfS (tTest (tOp rEq (tVar 1) (tC (.int 1)))) (tAsg (tC (.int 0)) (gName 2)) (tIfS (tTest (tOp rLtI (tVar 1) (tC (.int 4)))) (tFor (iRng1 (tCons (tOp rAddI (tC (.int 1)) (tCall (sp_law_take K) [] E0 (tCons (tVar 0) (tCons (tC (.int 3)) tNil)))) tNil)) (gName 3) (tAsg (tOp rAddI (tOp rMulI (tVar 2) (tOp rPowI (tC (.int 10)) (tC (.int 15)))) (tCall (sp_law_take K) [] E0 (tCons (tVar 0) (tCons (tOp rPowI (tC (.int 10)) (tC (.int 15))) tNil)))) (gName 2))) tNext)))
    (tSeq (tIfS (tTest (tOp rEq (tCall (sp_law_take K) [] E0 (tCons (tVar 0) (tCons (tC (.int 3)) tNil))) (tC (.int 0)))) (tAsg (tOp rSubI (tC (.int 0)) (tVar 2)) (gName 2)) tNext)
    (tRet (tVar 2))))))
theorem len_law_number (h : sp_law_number K vs H Q E) : vs.length = 1 := by
  obtain ⟨_, _, rfl, _⟩ := h
  rfl
theorem p15 : (10 : Int) ^ (15 : Int).toNat = 1000000000000000 := by decide +kernel
theorem p60 : (10 : Int) ^ (60 : Int).toNat = 1000000000000000000000000000000000000000000000000000000000000 := by decide +kernel
theorem n60 : (10 : Nat) ^ 60 = 1000000000000000000000000000000000000000000000000000000000000 := by decide +kernel
def bnd : Nat → Int
  | 0 => 100
  | 1 => 100000000000000000
  | 2 => 100000000000000000000000000000000
  | _ => 100000000000000000000000000000000000000000000000
theorem bnd_step {i : Nat} (hi : i < 3) {v d : Int} (h0 : 0 ≤ v) (h1 : v < bnd i) (h2 : 0 ≤ d) (h3 : d < 1000000000000000) : 0 ≤ v * 1000000000000000 + d ∧ v * 1000000000000000 + d < bnd (i + 1) := by
  match i, hi with
  | 0, _ => simp only [bnd] at h1 ⊢; omega
  | 1, _ => simp only [bnd] at h1 ⊢; omega
  | 2, _ => simp only [bnd] at h1 ⊢; omega
theorem bnd_le (i : Nat) : bnd i ≤ 100000000000000000000000000000000000000000000000 := by
  match i with
  | 0 => decide
  | 1 => decide
  | 2 => decide
  | (n + 3) => exact Int.le_refl _
theorem run_law_number (h : sp_law_number K vs H Q E) : t_law_number K { nx := fun _ H' => Q .non H', rt := Q } (start n_law_number vs) H := by
  obtain ⟨s, c, rfl, S, k⟩ := h
  unfold t_law_number
  have rest : ∀ (v : Int) (H1 : Hp) (kd : Int) (u : Option V), 0 ≤ v → v < 1000000000000000000000000000000000000000000000000000000000000 → Src H1 s c → Kp s H H1 →
      (tSeq (tIfS (tTest (tOp rEq (tCall (sp_law_take K) [] E0 (tCons (tVar 0) (tCons (tC (.int 3)) tNil))) (tC (.int 0)))) (tAsg (tOp rSubI (tC (.int 0)) (tVar 2)) (gName 2)) tNext)
      (tRet (tVar 2))) { nx := fun _ H' => Q .non H', rt := Q } [some (.ref s), some (.int kd), some (.int v), u] H1 := by
    intro v H1 kd u h0 h1 S1 kp1
    refine ⟨_, rfl, s, c, _, rfl, (by decide), (by decide), S1, fun d H2 h02 h12 S2 kp2 => ⟨rfl, _, rfl, ?_⟩⟩
    refine ite2 (fun _ => ?_) (fun _ => ?_)
    · refine ⟨_, rfl, _, _, rfl, rfl, _, rfl, k (0 - v) H2 (by rw [n60]; omega) S2 (kp1.trans kp2)⟩
    · exact ⟨_, rfl, k v H2 (by rw [n60]; omega) S2 (kp1.trans kp2)⟩
  refine ⟨_, rfl, s, c, _, rfl, (by decide), (by decide), S, fun kd H1 h01 h11 S1 kp1 => ?_⟩
  refine ⟨_, rfl, s, c, _, rfl, (by decide), (by decide), S1, fun v H2 h02 h12 S2 kp2 => ?_⟩
  have kp12 := kp1.trans kp2
  refine ⟨_, rfl, rfl, _, rfl, ?_⟩
  refine ite2 (fun _ => ?_) (fun _ => ?_)
  · refine ⟨_, _, rfl, rfl, ⟨by decide, by decide, by decide⟩, _, _, rfl, rfl, _, rfl, _, _, rfl, rfl, ?_⟩
    rw [p60]
    exact rest _ H2 kd none (by omega) (by omega) S2 kp12
  · refine ⟨_, rfl, rfl, _, rfl, ?_⟩
    refine ite2 (fun _ => ?_) (fun _ => ?_)
    · exact rest 0 H2 kd none (by decide) (by decide) S2 kp12
    · refine ⟨_, rfl, _, _, rfl, rfl, _, rfl, ?_⟩
      refine ite2 (fun _ => ?_) (fun _ => ?_)
      · refine ⟨_, rfl, s, c, _, rfl, (by decide), (by decide), S2, fun d H3 h03 h13 S3 kp3 => ?_⟩
        refine ⟨_, _, rfl, rfl, 1 + d, rfl, by omega, by omega, ?_⟩
        refine for_it walk_range (fun i σ H' => ∃ (z : Int) (u : Option V), σ = [some (.ref s), some (.int kd), some (.int z), u] ∧ Src H' s c ∧ Kp s H H' ∧ 0 ≤ z ∧ z < bnd i)
          ⟨v, none, rfl, S3, kp12.trans kp3, h02, by show v < 100; omega⟩ (fun _ _ _ _ _ => True.intro) ?_ ?_
        · rintro i x σ H4 H' hi ⟨z, u, rfl, S4, kp4, hz0, hz1⟩ ⟨rfl, rfl⟩
          refine ⟨_, rfl, _, _, rfl, rfl, ⟨by decide, by decide, by decide⟩, ?_⟩
          dsimp only
          rw [p15]
          refine ⟨_, _, rfl, rfl, .inr ⟨by decide, by decide⟩, _, rfl, _, _, rfl, rfl, ⟨by decide, by decide, by decide⟩, ?_⟩
          dsimp only
          rw [p15]
          refine ⟨s, c, _, rfl, (by decide), (by decide), S4, fun d2 H5 h05 h15 S5 kp5 => ⟨_, _, rfl, rfl, ?_⟩⟩
          have q := bnd_step (i := i) (by omega) hz0 hz1 h05 h15
          exact ⟨_, _, rfl, S5, kp4.trans kp5, q.1, q.2⟩
        · rintro σ H' ⟨z, u, rfl, S4, kp4, hz0, hz1⟩
          have := bnd_le (1 + d).toNat
          exact rest z H' kd u hz0 (by omega) S4 kp4
      · exact rest v H2 kd none h02 (by omega) S2 kp12

/-! ### _law_stack -/
def sp_law_stack (K : PySem.W.Frag) : Sp := fun vs H Q _ => ∃ s c : Addr, vs = [.ref s] ∧ Src H s c ∧ ∀ (z : Str) H', isText z = true → z.length ≤ 45 → Src H' s c → Kp s H H' → Q (.str z) H'
abbrev n_law_stack : List Str := ["_law_source_here", "_law_chars_here", "_law_size", "_law_text", "_law_k"]
def t_law_stack (K : PySem.W.Frag) : TS :=
    (tSeq (tAsg (tCall (sp_law_chars K) [] E0 tNil) (gName 1))
    (tSeq (tIfS (tTest (tOp rEq (tCall (sp_law_take K) [] E0 (tCons (tVar 0) (tCons (tC (.int 3)) tNil))) (tC (.int 0)))) (tAsg (tC (.str "=;:*+-/0")) (gName 1)) tNext)
    (tSeq (tAsg (tCall (sp_law_take K) [] E0 (tCons (tVar 0) (tCons (tC (.int 6)) tNil))) (gName 2))
    (tSeq (tIfS (tTest (tOp rEq (tCall (sp_law_take K) [] E0 (tCons (tVar 0) (tCons (tC (.int 12)) tNil))) (tC (.int 0)))) (tAsg (tOp rAddI (tC (.int 40)) (tVar 2)) (gName 2)) tNext)
    (tSeq (tAsg (tC (.str "")) (gName 3))
    (tSeq (tFor (iRng1 (tCons (tVar 2) tNil)) (gName 4) (tAsg (tOp rCatS (tVar 3) (tOp rIxS (tVar 1) (tCall (sp_law_take K) [] E0 (tCons (tVar 0) (tCons (tCB cLenS (tCons (tVar 1) tNil)) tNil))))) (gName 3)))
    (tRet (tVar 3))))))))
theorem len_law_stack (h : sp_law_stack K vs H Q E) : vs.length = 1 := by
  obtain ⟨_, _, rfl, _⟩ := h
  rfl
structure CharsOk (z : Str) : Prop where
  pos : 0 < z.length
  few : z.length ≤ 1000
  ok : isText z = true
theorem chars_at {z : Str} (h : CharsOk z) {d : Int} (h0 : 0 ≤ d) (h1 : d < (z.length : Int)) : ∃ e, atI z.cps.toList d = some e ∧ isSign e = true := by
  obtain ⟨j, rfl⟩ : ∃ j : Nat, d = (j : Int) := ⟨_, (Int.toNat_of_nonneg h0).symm⟩
  have hj : j < (tl z).length := by rw [← len_tl]; omega
  exact ⟨(tl z)[j], atI_nat (List.getElem?_eq_getElem hj), List.all_eq_true.mp h.ok _ (List.getElem_mem hj)⟩
theorem small_log {n : Nat} (h : n ≤ 1000) : ((n : Int)).natAbs.log2 < 9000 := by
  rw [Int.natAbs_natCast]
  by_cases h0 : n = 0
  · subst h0; decide
  · have := (Nat.log2_lt h0 (k := 10)).mpr (by omega)
    omega
theorem run_law_stack (h : sp_law_stack K vs H Q E) : t_law_stack K { nx := fun _ H' => Q .non H', rt := Q } (start n_law_stack vs) H := by
  obtain ⟨s, c, rfl, S, k⟩ := h
  unfold t_law_stack
  refine ⟨rfl, ?_⟩
  have rest2 : ∀ (z : Str) (n : Int) (H1 : Hp), CharsOk z → 0 ≤ n → n ≤ 45 → Src H1 s c → Kp s H H1 →
      (tSeq (tAsg (tC (.str "")) (gName 3))
      (tSeq (tFor (iRng1 (tCons (tVar 2) tNil)) (gName 4) (tAsg (tOp rCatS (tVar 3) (tOp rIxS (tVar 1) (tCall (sp_law_take K) [] E0 (tCons (tVar 0) (tCons (tCB cLenS (tCons (tVar 1) tNil)) tNil))))) (gName 3)))
      (tRet (tVar 3)))) { nx := fun _ H' => Q .non H', rt := Q } [some (.ref s), some (.str z), some (.int n), none, none] H1 := by
    intro z n H1 hz hn0 hn1 S1 kp1
    refine ⟨_, rfl, n, rfl, by omega, by omega, ?_⟩
    refine for_it walk_range (fun i σ H' => ∃ (t : Str) (u : Option V), σ = [some (.ref s), some (.str z), some (.int n), some (.str t), u] ∧ Src H' s c ∧ Kp s H H' ∧ isText t = true ∧ t.length = i)
      ⟨"", none, rfl, S1, kp1, by decide +kernel, by decide +kernel⟩ (fun _ _ _ _ _ => True.intro) ?_ ?_
    · rintro i x σ H3 H' hi ⟨t, u, rfl, S3, kp3, ht, hl⟩ ⟨rfl, rfl⟩
      have hp := hz.pos
      refine ⟨_, rfl, _, rfl, _, rfl, _, rfl, z, rfl, few_ok (by have := hz.few; omega), s, c, _, rfl, (by omega), (small_log hz.few), S3, fun d H4 h0 h1 S4 kp4 => ?_⟩
      obtain ⟨e, he, hs⟩ := chars_at hz h0 h1
      refine ⟨z, d, e, rfl, rfl, few_ok (by have := hz.few; omega), he, _, _, rfl, rfl, ?_, ?_⟩
      · rw [hl, sign_len]
        exact few_ok (by omega)
      · refine ⟨_, _, rfl, S4, kp3.trans kp4, ?_, ?_⟩
        · unfold isText at ht ⊢
          rw [tl_append, List.all_append, ht, Bool.true_and]
          show (List.all [e] isSign) = true
          rw [List.all_cons, hs]
          rfl
        · rw [len_tl, tl_append, List.length_append, ← len_tl, hl]
          rfl
    · rintro σ H' ⟨t, u, rfl, S3, kp3, ht, hl⟩
      exact ⟨_, rfl, k t H' ht (by omega) S3 kp3⟩
  have rest : ∀ (z : Str) (H1 : Hp), CharsOk z → Src H1 s c → Kp s H H1 →
      (tSeq (tAsg (tCall (sp_law_take K) [] E0 (tCons (tVar 0) (tCons (tC (.int 6)) tNil))) (gName 2))
      (tSeq (tIfS (tTest (tOp rEq (tCall (sp_law_take K) [] E0 (tCons (tVar 0) (tCons (tC (.int 12)) tNil))) (tC (.int 0)))) (tAsg (tOp rAddI (tC (.int 40)) (tVar 2)) (gName 2)) tNext)
      (tSeq (tAsg (tC (.str "")) (gName 3))
      (tSeq (tFor (iRng1 (tCons (tVar 2) tNil)) (gName 4) (tAsg (tOp rCatS (tVar 3) (tOp rIxS (tVar 1) (tCall (sp_law_take K) [] E0 (tCons (tVar 0) (tCons (tCB cLenS (tCons (tVar 1) tNil)) tNil))))) (gName 3)))
      (tRet (tVar 3)))))) { nx := fun _ H' => Q .non H', rt := Q } [some (.ref s), some (.str z), none, none, none] H1 := by
    intro z H1 hz S1 kp1
    refine ⟨_, rfl, s, c, _, rfl, (by decide), (by decide), S1, fun d H2 h0 h1 S2 kp2 => ?_⟩
    refine ⟨_, rfl, s, c, _, rfl, (by decide), (by decide), S2, fun d3 H3 h03 h13 S3 kp3 => ⟨rfl, _, rfl, ?_⟩⟩
    refine ite2 (fun _ => ?_) (fun _ => ?_)
    · exact ⟨_, rfl, _, _, rfl, rfl, rest2 z _ H3 hz (by omega) (by omega) S3 ((kp1.trans kp2).trans kp3)⟩
    · exact rest2 z d H3 hz h0 (by omega) S3 ((kp1.trans kp2).trans kp3)
  refine ⟨_, rfl, s, c, _, rfl, (by decide), (by decide), S, fun d H1 h0 h1 S1 kp1 => ⟨rfl, _, rfl, ?_⟩⟩
  refine ite2 (fun _ => ?_) (fun _ => ?_)
  · exact rest "=;:*+-/0" H1 ⟨by decide +kernel, by decide +kernel, by decide +kernel⟩ S1 kp1
  · exact rest c_CHARACTERS H1 ⟨by decide +kernel, by decide +kernel, by decide +kernel⟩ S1 kp1
end
end My


/-! K51g: _law_sum. -/
namespace My
open PySem PySem.Spec PyProof.Rows L2 TL
/-! ### texts in order -/
theorem lex_tri : ∀ a b : List Nat, a < b ∨ a = b ∨ b < a
  | [], [] => .inr (.inl rfl)
  | [], _ :: _ => .inl List.Lex.nil
  | _ :: _, [] => .inr (.inr List.Lex.nil)
  | a :: r, b :: t => by
    rcases Nat.lt_trichotomy a b with h | h | h
    · exact .inl (List.Lex.rel h)
    · subst h
      rcases lex_tri r t with q | q | q
      · exact .inl (List.Lex.cons q)
      · exact .inr (.inl (by rw [q]))
      · exact .inr (.inr (List.Lex.cons q))
    · exact .inr (.inr (List.Lex.rel h))
theorem rising_up : ∀ (r : List Str) (p : Str), risingS p r = true → (p :: r).Nodup → (p :: r).Pairwise fun a b => tl a < tl b
  | [], p, _, _ => List.pairwise_singleton _ _
  | x :: r, p, h, nd => by
    have h : (!ltCps x.cps.toList p.cps.toList && risingS x r) = true := h
    rw [ltCps_eq] at h
    obtain ⟨h1, h2⟩ := Bool.and_eq_true_iff.mp h
    obtain ⟨n1, n2⟩ := List.nodup_cons.mp nd
    have ih := rising_up r x h2 n2
    have lt : tl p < tl x := by
      rcases lex_tri (tl p) (tl x) with q | q | q
      · exact q
      · exact absurd (ext_tl q) fun e => n1 (by rw [e]; exact List.mem_cons_self)
      · rw [decide_eq_true (show x.cps.toList < p.cps.toList from q)] at h1
        cases h1
    refine List.pairwise_cons.mpr ⟨fun z hz => ?_, ih⟩
    rcases List.mem_cons.mp hz with rfl | hz
    · exact lt
    · exact List.lt_trans lt ((List.pairwise_cons.mp ih).1 z hz)
theorem sorted_up {ys : List Str} (h : sortedS ys = true) (nd : ys.Nodup) : ys.Pairwise fun a b => tl a < tl b := by
  cases ys with
  | nil => exact .nil
  | cons x r => exact rising_up r x h nd
section
variable {K : PySem.W.Frag} {vs : List V} {H : Hp} {Q : VK} {E : XK}
structure NamesOk (ns : List Str) : Prop where
  ok : ∀ z ∈ ns, isName z = true ∧ z ≠ c_FRAME
  nd : ns.Nodup
theorem NamesOk.more {ns : List Str} {z : Str} (h : NamesOk ns) (h1 : isName z = true) (h2 : z ≠ c_FRAME) (h3 : z ∉ ns) : NamesOk (ns ++ [z]) := by
  refine ⟨fun x hx => ?_, nd_snoc h.nd h3⟩
  rcases List.mem_append.mp hx with hx | hx
  · exact h.ok x hx
  · rw [List.mem_singleton.mp hx]
    exact ⟨h1, h2⟩
theorem cut_name {z : Str} (h : isName z = true) {e : Nat} (he : (isLet e || isDig e) = true) : isName (cutS z none (some 11) ++ ⟨#[e]⟩) = true := by
  unfold isName at h ⊢
  rw [tl_append, show (11 : Int) = ((11 : Nat) : Int) from rfl, tl_cutT]
  cases ez : tl z with
  | nil => rw [ez] at h; cases h
  | cons c l =>
    rw [ez, nameOk] at h
    simp only [Bool.and_eq_true, decide_eq_true_eq] at h
    show nameOk (c :: (l.take 10 ++ [e])) = true
    rw [nameOk, h.2.1, decide_eq_true (by rw [List.length_append, List.length_take, List.length_singleton]; omega), Bool.true_and, Bool.true_and]
    rw [← List.cons_append, List.all_append, List.all_cons (l := []), he]
    have : (c :: l.take 10).all (fun d => isLet d || isDig d) = true := by
      rw [List.all_eq_true]
      intro x hx
      refine List.all_eq_true.mp h.2.2 x ?_
      rcases List.mem_cons.mp hx with rfl | hx
      · exact List.mem_cons_self
      · exact List.mem_cons_of_mem _ (List.mem_of_mem_take hx)
    rw [this]
    rfl
theorem at_last {ns : List Str} (h : ns ≠ []) : ∃ z ∈ ns, atI (ns.map V.str) (-1) = some (V.str z) := by
  refine ⟨ns.getLast h, List.getLast_mem h, ?_⟩
  have hl : 0 < ns.length := List.length_pos_iff.mpr h
  have e : ixN (ns.map V.str).length (-1) = some (ns.length - 1) := by
    unfold ixN
    rw [if_neg (by decide), if_pos (by rw [List.length_map]; omega), List.length_map]
    congr 1
    omega
  unfold atI
  rw [e]
  show (ns.map V.str)[ns.length - 1]? = _
  rw [List.getElem?_map, List.getLast_eq_getElem, List.getElem?_eq_getElem (by omega)]
  rfl
def sp_law_sum (K : PySem.W.Frag) : Sp := fun vs H Q _ => ∃ (s c : Addr) (m : Int), vs = [.ref s, .int m] ∧ 0 ≤ m ∧ m ≤ 6 ∧ Src H s c ∧ ∀ (v : V) (sm : Sm) H', SmOk sm → Dp K H' v (smD sm) → Src H' s c → Kp s H H' → Q v H'
abbrev n_law_sum : List Str := ["_law_source_here", "_law_most", "_law_names", "_law_k", "_law_terms", "_law_name_here", "_law_times", "_law_one"]
def tl_law_sum (K : PySem.W.Frag) : TS :=
    (tIfS (tAnd (tTest (tOp rNe (tVar 5) (tC (.str "frame")))) (tTest (tOp (rIn K true) (tVar 5) (tVar 2)))) (tDrop (tBM K "list" rAppend (tVar 2) (tCons (tVar 5) tNil))) tNext)
def t2_law_sum (K : PySem.W.Frag) : TS :=
    (tSeq (tAsg (tLst tNil) (gName 4))
    (tSeq (tFor (iList K (tCB (rSortedS K) (tCons (tLc (iList K (tVar 2)) (gName 7) tYes (tCB cStrS (tCons (tVar 7) tNil)) [7]) tNil))) (gName 5) (tSeq (tAsg (tCall (sp_law_number K) [] E0 (tCons (tVar 0) tNil)) (gName 6))
    (tSeq (tIfS (tTest (tOp rEq (tVar 6) (tC (.int 0)))) (tAsg (tC (.int 1)) (gName 6)) tNext)
    (tDrop (tBM K "list" rAppend (tVar 4) (tCons (tTup (tCons (tVar 5) (tCons (tVar 6) tNil))) tNil))))))
    (tRet (tTup (tCons (tCall (sp_law_number K) [] E0 (tCons (tVar 0) tNil)) (tCons (tCB (cTuple K) (tCons (tVar 4) tNil)) tNil))))))
def t_law_sum (K : PySem.W.Frag) : TS :=
    (tSeq (tAsg (tLst tNil) (gName 2))
    (tSeq (tFor (iRng1 (tCons (tCall (sp_law_take K) [] E0 (tCons (tVar 0) (tCons (tOp rAddI (tVar 1) (tC (.int 1))) tNil))) tNil)) (gName 3) (tSeq (tAsg (tCall (sp_law_name K) [] E0 (tCons (tVar 0) tNil)) (gName 5))
    (tSeq (tIfS (tAnd (tTest (tOp rGtI (tCB (cLenQ K) (tCons (tVar 2) tNil)) (tC (.int 0)))) (tTest (tOp rEq (tCall (sp_law_take K) [] E0 (tCons (tVar 0) (tCons (tC (.int 3)) tNil))) (tC (.int 0))))) (tAsg (tOp rCatS (tSl rSlS (tOp (rIxL K) (tVar 2) (tUn (rU fun i => .int (-i)) (tC (.int 1)))) tNoPart (tPart (tC (.int 11)))) (tOp rIxS (tC (.str "abcdefghijklmnopqrstuvwxyz0123456789")) (tCall (sp_law_take K) [] E0 (tCons (tVar 0) (tCons (tC (.int 36)) tNil))))) (gName 5)) tNext)
    (tl_law_sum K))))
    (t2_law_sum K)))
theorem len_law_sum (h : sp_law_sum K vs H Q E) : vs.length = 2 := by
  obtain ⟨_, _, _, rfl, _⟩ := h
  rfl
/-- the end of a turn of the first loop -/
theorem sum_turn {s l c : Addr} {m : Int} {kv : Option V} {z : Str} {ns : List Str} {H1 : Hp} {D : Ends} (hz : isName z = true) (ok : NamesOk ns) (hl : H1 l = some (.lst (ns.map V.str))) (few : ns.length ≤ 1000)
    (k : ∀ (ns' : List Str) (H2 : Hp), NamesOk ns' → ns'.length ≤ ns.length + 1 → H2 l = some (.lst (ns'.map V.str)) → Kp l H1 H2 → D.nx [some (.ref s), some (.int m), some (.ref l), kv, none, some (.str z), none, none] H2) :
    tl_law_sum K D [some (.ref s), some (.int m), some (.ref l), kv, none, some (.str z), none, none] H1 := by
  refine ⟨_, rfl, rfl, _, rfl, ?_⟩
  by_cases h1 : z = c_FRAME
  · have d : (!decide (V.str z = V.str "frame")) = false := by
      have : decide (V.str z = V.str "frame") = true := decide_eq_true (by rw [h1]; rfl)
      rw [this]
      rfl
    rw [d]
    exact iteF (iteF (k ns H1 ok (Nat.le_succ _) hl (Kp.refl _ _)))
  · have d : (!decide (V.str z = V.str "frame")) = true := by
      have : decide (V.str z = V.str "frame") = false := decide_eq_false fun e => h1 (V.str.inj e)
      rw [this]
      rfl
    rw [d]
    refine iteT ⟨_, rfl, _, rfl, l, _, rfl, .inl (SqL.of hl), rfl, flat_strs _, _, rfl, ?_⟩
    rw [inV_strs]
    by_cases h2 : z ∈ ns
    · rw [decide_eq_true h2]
      exact iteF (k ns H1 ok (Nat.le_succ _) hl (Kp.refl _ _))
    · rw [decide_eq_false h2]
      refine iteT ⟨_, rfl, .inl ⟨rfl, _, SqL.of hl⟩, _, rfl, l, _, _, rfl, rfl, hl, ?_, ?_⟩
      · rw [List.length_map]
        exact Nat.lt_of_le_of_lt few (by decide)
      · refine k (ns ++ [z]) _ (ok.more hz h1 h2) (by rw [List.length_append]; exact Nat.le_refl _) ?_ Kp.self
        rw [upd_same, List.map_append]
        rfl
theorem kp_some {s l : Addr} {H1 H2 : Hp} {o : HO} (e : Kp s H1 H2) (h : l ≠ s) (hl : H1 l = some o) : H2 l = some o := e _ _ h hl
def SumPv (K : PySem.W.Frag) (H : Hp) (s c : Addr) (m : Int) (l l2 p : Addr) (ys : List Str) (i : Nat) (σ : L2.St) (H' : Hp) : Prop :=
  ∃ (ts : List (Str × Int)) (acc : List V) (a b d : Option V), σ = [some (.ref s), some (.int m), some (.ref l), a, some (.ref l2), b, d, none] ∧ Src H' s c ∧ Kp s H H' ∧ H' p = some (.lst (ys.map V.str)) ∧
      H' l2 = some (.lst acc) ∧ DpAll K H' acc (ts.map tmD) ∧ ts.map (·.1) = ys.take i ∧ ∀ t ∈ ts, t.2 ≠ 0 ∧ t.2.natAbs < 10 ^ 60
theorem run2_law_sum {s c l : Addr} {m : Int} {u1 u2 : Option V} {ns : List Str} {H1 : Hp} (S1 : Src H1 s c) (nls : l ≠ s) (nlc : l ≠ c) (hl : H1 l = some (.lst (ns.map V.str))) (ok : NamesOk ns) (few : ns.length ≤ 6) (kp1 : Kp s H H1)
    (k : ∀ (v : V) (sm : Sm) H', SmOk sm → Dp K H' v (smD sm) → Src H' s c → Kp s H H' → Q v H') :
    t2_law_sum K { nx := fun _ H' => Q .non H', rt := Q } [some (.ref s), some (.int m), some (.ref l), u1, none, u2, none, none] H1 := by
  refine ⟨Nat.zero_le _, fun l2 hl2 => ?_⟩
  have e1 := same_new (o := .lst []) hl2
  have n2 := S1.ne hl2
  refine ⟨_, rfl, l, rfl, ⟨_, SqL.of (e1 _ _ hl)⟩, fun D hD => ?_⟩
  have hl1 : SqL K (upd H1 l2 (.lst [])) l (ns.map V.str) := SqL.of (e1 _ _ hl)
  have lenN : (ns.map V.str).length = ns.length := List.length_map ..
  refine lc_ev (w := walk_list (xs := ns.map V.str)) (fun i => match ns[i]? with | some z => .str z | none => .non) (by rw [lenN]; omega) hD ?_ (fun H' e => e.seq hl1) ?_ ?_
  · rintro i H' x H'' ⟨e, _⟩
    exact same_refl e
  · rintro i x H2 H' R hi s1 ⟨rfl, hxi⟩ hR
    rw [List.getElem?_map] at hxi
    cases hz : ns[i]? with
    | none => rw [hz] at hxi; cases hxi
    | some z =>
      rw [hz] at hxi hR
      cases hxi
      exact ⟨rfl, _, rfl, z, rfl, hR H' (Same.refl _)⟩
  intro H2 s2 h2
  have hm : (List.range (ns.map V.str).length).map (fun i => match ns[i]? with | some z => V.str z | none => .non) = ns.map V.str := by
    rw [lenN]
    exact map_range_get ns _ _ fun i x e => by rw [e]
  rw [hm] at h2
  refine ⟨D, ns, rfl, SqL.of h2, by omega, fun ys p hperm hsort hp => ?_⟩
  have e3 := same_new (o := .lst (ys.map V.str)) hp
  have s13 := (e1.trans s2).trans e3
  have ndy : ys.Nodup := hperm.nodup_iff.mpr ok.nd
  have oky : ∀ z ∈ ys, isName z = true ∧ z ≠ c_FRAME := fun z hz => ok.ok z (hperm.mem_iff.mp hz)
  have leny : ys.length = ns.length := hperm.length_eq
  have hl2' : upd H2 p (.lst (ys.map V.str)) l2 = some (.lst []) := e3 _ _ (s2 _ _ upd_same)
  have hp' : upd H2 p (.lst (ys.map V.str)) p = some (.lst (ys.map V.str)) := upd_same
  have S3 : Src (upd H2 p (.lst (ys.map V.str))) s c := S1.same s13
  have npl2 : p ≠ l2 := (ne_of_none (s2 _ _ upd_same : H2 l2 = some (.lst [])) hp).symm
  have nps : p ≠ s := ((S1.same (e1.trans s2)).ne hp).1
  refine ⟨p, rfl, ⟨_, SqL.of hp'⟩, ?_⟩
  refine for_it (walk_list (xs := ys.map V.str)) (SumPv K H s c m l l2 p ys)
    ⟨[], [], _, _, _, rfl, S3, kp1.trans (kp_same s13), hp', hl2', .nil, rfl, fun t ht => absurd ht List.not_mem_nil⟩ (fun i σ H' _ ⟨_, _, _, _, _, _, _, _, h, _⟩ => SqL.of h) ?_ ?_
  · rintro i x σ H4 H' hi ⟨ts, acc, a, b, d, rfl, S4, kp4, hp4, hl4, hd4, ht4, ok4⟩ ⟨rfl, hxi⟩
    rw [List.getElem?_map] at hxi
    cases hz : ys[i]? with
    | none => rw [hz] at hxi; cases hxi
    | some z =>
      rw [hz] at hxi
      cases hxi
      refine ⟨_, rfl, s, c, rfl, S4, fun j H5 hj S5 kp5 => ?_⟩
      obtain ⟨xs4, hs4⟩ := S4.at
      have fin : ∀ t : Int, t ≠ 0 → t.natAbs < 10 ^ 60 → (tDrop (tBM K "list" rAppend (tVar 4) (tCons (tTup (tCons (tVar 5) (tCons (tVar 6) tNil))) tNil))) { nx := SumPv K H s c m l l2 p ys (i + 1), rt := Q } [some (.ref s), some (.int m), some (.ref l), a, some (.ref l2), some (.str z), some (.int t), none] H5 := by
        intro t ht0 ht1
        have hl5 : H5 l2 = some (.lst acc) := kp5 _ _ n2.1 hl4
        refine ⟨_, rfl, .inl ⟨rfl, _, SqL.of hl5⟩, _, rfl, _, rfl, few_ok (by show 2 ≤ _; decide), fun q hq => ?_⟩
        have e6 := same_new (o := .tup [V.str z, V.int t]) hq
        have accl : acc.length ≤ 6 := by
          have h1 := dpAll_len hd4
          have h2 := congrArg List.length ht4
          rw [List.length_map] at h1 h2
          rw [List.length_take] at h2
          omega
        refine ⟨l2, acc, _, rfl, rfl, e6 _ _ hl5, Nat.lt_of_le_of_lt accl (by decide), ?_⟩
        have nq : q ≠ l2 := (ne_of_none hl5 hq).symm
        have kl : Kp l2 (upd H5 q (.tup [V.str z, V.int t])) (upd (upd H5 q (.tup [V.str z, V.int t])) l2 (.lst (acc ++ [V.ref q]))) := Kp.self
        have hl6 : upd H5 q (.tup [V.str z, V.int t]) l2 = some (.lst acc) := e6 _ _ hl5
        have noTs : ∀ l : List (Str × Int), noLs (l.map tmD) = true := by
          intro l
          induction l with
          | nil => rfl
          | cons a l ih => show (noL (tmD a) && noLs (l.map tmD)) = true; rw [ih]; rfl
        refine ⟨ts ++ [(z, t)], acc ++ [V.ref q], _, _, _, rfl, ?_, ?_, ?_, upd_same, ?_, ?_, ?_⟩
        · exact (S5.same e6).kp n2.1.symm n2.2.symm kl
        · intro b o nb hb
          have hb2 := kp_same (s := s) e6 _ _ nb (kp5 _ _ nb (kp4 _ _ nb hb))
          have nbl : b ≠ l2 := by
            intro e
            subst e
            have : H b = none := by
              cases hq2 : H b with
              | none => rfl
              | some o2 => rw [kp1 _ _ nb hq2] at hl2; cases hl2
            rw [this] at hb
            cases hb
          exact kl _ _ nbl hb2
        · exact kl _ _ npl2 (e6 _ _ (kp5 _ _ nps hp4))
        · rw [List.map_append]
          refine dpAll_append (DpAll.kp' kl hl6 _ _ (noTs ts) (dpAll_same (DpAll.kp' kp5 hs4 _ _ (noTs ts) hd4) e6)) (.cons (.tup (SqT.of (kl _ _ nq upd_same)) (.cons (.str _) (.cons (.int _) .nil))) .nil)
        · rw [List.map_append, ht4, List.take_add_one, hz]
          rfl
        · intro t' ht'
          rcases List.mem_append.mp ht' with h | h
          · exact ok4 t' h
          · rw [List.mem_singleton.mp h]
            exact ⟨ht0, ht1⟩
      refine ⟨_, rfl, rfl, _, rfl, ?_⟩
      refine ite2 (fun _ => ?_) (fun h0 => ?_)
      · exact fin 1 (by decide) (by rw [n60]; decide)
      · exact fin j (fun e => h0 (decide_eq_true (by rw [e]))) hj
  · rintro σ H' ⟨ts, acc, a, b, d, rfl, S4, kp4, hp4, hl4, hd4, ht4, ok4⟩
    rw [show (ys.map V.str).length = ys.length from List.length_map .., List.take_length] at ht4
    obtain ⟨xs4, hs4⟩ := S4.at
    have noTs : ∀ l : List (Str × Int), noLs (l.map tmD) = true := by
      intro l
      induction l with
      | nil => rfl
      | cons a l ih => show (noL (tmD a) && noLs (l.map tmD)) = true; rw [ih]; rfl
    refine ⟨_, rfl, s, c, rfl, S4, fun j H5 hj S5 kp5 => ?_⟩
    have hl5 : H5 l2 = some (.lst acc) := kp5 _ _ n2.1 hl4
    have hd5 := DpAll.kp' kp5 hs4 _ _ (noTs ts) hd4
    refine ⟨_, rfl, l2, acc, rfl, .inl ⟨SqL.of hl5, fun q hq => ⟨few_ok (by show 2 ≤ _; decide), fun r hr => ?_⟩⟩⟩
    have e6 := same_new (o := .tup acc) hq
    have e7 := same_new (o := .tup [V.int j, V.ref q]) hr
    have hmem : ∀ t ∈ ts, t.1 ∈ ys := fun t ht => by
      rw [← ht4]
      exact List.mem_map.mpr ⟨t, ht, rfl⟩
    refine k (.ref r) (j, ts) _ ⟨hj, fun t ht => ⟨(oky _ (hmem t ht)).1, (oky _ (hmem t ht)).2, (ok4 t ht).1, (ok4 t ht).2⟩, ?_, ?_⟩ ?_ (S5.same (e6.trans e7)) ((kp4.trans kp5).trans (kp_same (e6.trans e7)))
    · have := sorted_up hsort ndy
      rw [← ht4] at this
      exact (List.pairwise_map (R := fun a b : Str => tl a < tl b)).mp this
    · have := congrArg List.length ht4
      rw [List.length_map] at this
      show ts.length ≤ 6
      omega
    · exact .tup (SqT.of upd_same) (.cons (.int _) (.cons (.tup (same_tup e7 (SqT.of upd_same)) (dpAll_same hd5 (e6.trans e7))) .nil))
theorem run_law_sum (h : sp_law_sum K vs H Q E) : t_law_sum K { nx := fun _ H' => Q .non H', rt := Q } (start n_law_sum vs) H := by
  obtain ⟨s, c, m, rfl, hm0, hm6, S, k⟩ := h
  unfold t_law_sum
  refine ⟨Nat.zero_le _, fun l hl => ?_⟩
  have nl := S.ne hl
  have e1 := same_new (o := .lst []) hl
  have S1 := S.same e1
  refine ⟨_, rfl, _, rfl, _, _, rfl, rfl, s, c, m + 1, rfl, by omega, ?_, S1, fun n H1 hn0 hn1 S2 kp2 => ?_⟩
  · have : (m + 1).natAbs ≤ 1000 := by omega
    obtain ⟨j, hj⟩ : ∃ j : Nat, m + 1 = (j : Int) := ⟨_, (Int.toNat_of_nonneg (by omega)).symm⟩
    rw [hj]
    exact small_log (by omega)
  refine ⟨n, rfl, by omega, by omega, ?_⟩
  refine for_it walk_range (fun i σ H' => ∃ (ns : List Str) (a b : Option V), σ = [some (.ref s), some (.int m), some (.ref l), a, none, b, none, none] ∧ Src H' s c ∧ Kp s H H' ∧ H' l = some (.lst (ns.map V.str)) ∧ NamesOk ns ∧ ns.length ≤ i)
    ⟨[], none, none, rfl, S2, (kp_same e1).trans kp2, kp2 _ _ nl.1 upd_same, ⟨fun z hz => absurd hz List.not_mem_nil, .nil⟩, Nat.le_refl _⟩ (fun _ _ _ _ _ => True.intro) ?_ ?_
  · rintro i x σ H3 H' hi ⟨ns, a, b, rfl, S3, kp3, hl3, ok3, few3⟩ ⟨rfl, rfl⟩
    have hi6 : i ≤ 6 := by omega
    refine ⟨_, rfl, s, c, rfl, S3, fun z H4 hz S4 kp4 => ?_⟩
    have hl4 : H4 l = some (.lst (ns.map V.str)) := kp4 _ _ nl.1 hl3
    -- what follows the first if
    have fin : ∀ (z : Str) (H5 : Hp) (w : Option V), isName z = true → Src H5 s c → Kp s H4 H5 → tl_law_sum K { nx := fun σ H' => ∃ (ns : List Str) (a b : Option V), σ = [some (.ref s), some (.int m), some (.ref l), a, none, b, none, none] ∧ Src H' s c ∧ Kp s H H' ∧ H' l = some (.lst (ns.map V.str)) ∧ NamesOk ns ∧ ns.length ≤ i + 1, rt := Q }
        [some (.ref s), some (.int m), some (.ref l), w, none, some (.str z), none, none] H5 := by
      intro z H5 w hz S5 kp5
      refine sum_turn (c := c) hz ok3 (kp5 _ _ nl.1 hl4) (by omega) fun ns' H6 ok6 few6 hl6 kl6 => ?_
      refine ⟨ns', _, _, rfl, S5.kp nl.1.symm nl.2.symm kl6, ?_, hl6, ok6, by omega⟩
      intro b o nb hb
      have hb5 := kp5 _ _ nb (kp4 _ _ nb (kp3 _ _ nb hb))
      have nbl : b ≠ l := by
        intro e
        subst e
        rw [hb] at hl
        cases hl
      exact kl6 _ _ nbl hb5
    refine ⟨_, rfl, l, _, rfl, .inl (SqL.of hl4), _, _, rfl, rfl, _, rfl, ?_⟩
    refine ite2 (fun hpos => ?_) (fun _ => ?_)
    · have hpos := of_decide_eq_true hpos
      have hne : ns ≠ [] := by
        intro e
        subst e
        exact absurd hpos (by decide)
      refine ⟨_, rfl, s, c, 3, rfl, by decide, by decide, S4, fun d H5 hd0 hd1 S5 kp5 => ⟨rfl, _, rfl, ?_⟩⟩
      refine ite2 (fun _ => ?_) (fun _ => fin z H5 _ hz S5 kp5)
      obtain ⟨y, hy, hat⟩ := at_last hne
      have hl5 : H5 l = some (.lst (ns.map V.str)) := kp5 _ _ nl.1 hl4
      have oky := ok3.ok y hy
      have ly := (isName_len oky.1).2
      refine ⟨_, rfl, _, rfl, l, _, _, _, rfl, rfl, SqL.of hl5, hat, 11, rfl, y, rfl, few_ok (by omega), ?_⟩
      refine ⟨_, rfl, s, c, 36, rfl, by decide, by decide, S5, fun d2 H6 hd20 hd21 S6 kp6 => ?_⟩
      obtain ⟨e, he, he1, _⟩ := sg_at hd20 (by omega)
      refine ⟨c_SG, d2, e, rfl, rfl, sg_size, he, _, _, rfl, rfl, ?_, fin _ H6 _ (cut_name oky.1 he1) S6 (kp5.trans kp6)⟩
      have := cutS_length y none (some 11)
      rw [sign_len]
      exact few_ok (by omega)
    · exact iteF (fin z H4 _ hz S4 (Kp.refl _ _))
  · rintro σ H' ⟨ns, a, b, rfl, S3, kp3, hl3, ok3, few3⟩
    exact run2_law_sum S3 nl.1 nl.2 hl3 ok3 (by omega) kp3 k
end
end My


/-! K51h: _law_limit, the texts, _law_run, _law_fact. -/
namespace My
open PySem PySem.Spec PyProof.Rows L2 TL
section
variable {K : PySem.W.Frag} {vs : List V} {H : Hp} {Q : VK} {E : XK}
/-! ### _law_limit -/
def sp_law_limit (K : PySem.W.Frag) : Sp := fun vs H Q _ => ∃ (s c : Addr) (m : Int), vs = [.ref s, .int m] ∧ 0 ≤ m ∧ m ≤ 6 ∧ Src H s c ∧ ∀ (v : V) (L : Lm) H', LmOk L → Dp K H' v (lmD L) → Src H' s c → Kp s H H' → Q v H'
abbrev n_law_limit : List Str := ["_law_source_here", "_law_most", "_law_upper", "_law_lower", "_law_kind"]
def t2_law_limit (K : PySem.W.Frag) : TS :=
    (tSeq (tIfS (tTest (tOp rEq (tVar 2) (tVar 3))) (tAsg (tC (.str "p")) (gName 3)) tNext)
    (tSeq (tIfS (tTest (tOp rEq (tCall (sp_law_take K) [] E0 (tCons (tVar 0) (tCons (tC (.int 2)) tNil))) (tC (.int 0)))) (tRet (tTup (tCons (tC (.str "reach")) (tCons (tVar 2) (tCons (tVar 3) (tCons (tCall (sp_law_sum K) [] E0 (tCons (tVar 0) (tCons (tVar 1) tNil))) tNil)))))) tNext)
    (tRet (tTup (tCons (tC (.str "room")) (tCons (tVar 2) (tCons (tVar 3) (tCons (tCall (sp_law_stack K) [] E0 (tCons (tVar 0) tNil)) (tCons (tCall (sp_law_sum K) [] E0 (tCons (tVar 0) (tCons (tVar 1) tNil))) tNil)))))))))
def t_law_limit (K : PySem.W.Frag) : TS :=
    (tSeq (tAsg (tCall (sp_law_name K) [] E0 (tCons (tVar 0) tNil)) (gName 2))
    (tSeq (tAsg (tCall (sp_law_name K) [] E0 (tCons (tVar 0) tNil)) (gName 3))
    (tSeq (tAsg (tCall (sp_law_take K) [] E0 (tCons (tVar 0) (tCons (tC (.int 6)) tNil))) (gName 4))
    (tSeq (tIfS (tTest (tOp rEq (tVar 4) (tC (.int 0)))) (tAsg (tC (.str "frame")) (gName 2)) (tIfS (tOr (tTest (tOp rEq (tVar 4) (tC (.int 1)))) (tTest (tOp rEq (tVar 2) (tVar 3)))) (tAsg (tC (.str "frame")) (gName 3)) tNext))
    (t2_law_limit K)))))
theorem len_law_limit (h : sp_law_limit K vs H Q E) : vs.length = 2 := by
  obtain ⟨_, _, _, rfl, _⟩ := h
  rfl
theorem frame_ok : isName c_FRAME = true := by decide +kernel
theorem p_ok : isName ("p" : Str) = true := by decide +kernel
theorem frame_p : c_FRAME ≠ ("p" : Str) := by decide +kernel
theorem run2_law_limit {s c : Addr} {m : Int} {u l : Str} {kv : Option V} {H1 : Hp} (hm0 : 0 ≤ m) (hm6 : m ≤ 6) (hu : isName u = true) (hl : isName l = true) (he : u = l → u = c_FRAME) (S1 : Src H1 s c) (kp1 : Kp s H H1)
    (k : ∀ (v : V) (L : Lm) H', LmOk L → Dp K H' v (lmD L) → Src H' s c → Kp s H H' → Q v H') :
    t2_law_limit K { nx := fun _ H' => Q .non H', rt := Q } [some (.ref s), some (.int m), some (.str u), some (.str l), kv] H1 := by
  have rest : ∀ l : Str, ULOk u l →
      (tSeq (tIfS (tTest (tOp rEq (tCall (sp_law_take K) [] E0 (tCons (tVar 0) (tCons (tC (.int 2)) tNil))) (tC (.int 0)))) (tRet (tTup (tCons (tC (.str "reach")) (tCons (tVar 2) (tCons (tVar 3) (tCons (tCall (sp_law_sum K) [] E0 (tCons (tVar 0) (tCons (tVar 1) tNil))) tNil)))))) tNext)
      (tRet (tTup (tCons (tC (.str "room")) (tCons (tVar 2) (tCons (tVar 3) (tCons (tCall (sp_law_stack K) [] E0 (tCons (tVar 0) tNil)) (tCons (tCall (sp_law_sum K) [] E0 (tCons (tVar 0) (tCons (tVar 1) tNil))) tNil)))))))) { nx := fun _ H' => Q .non H', rt := Q } [some (.ref s), some (.int m), some (.str u), some (.str l), kv] H1 := by
    intro l ul
    refine ⟨_, rfl, s, c, 2, rfl, by decide, by decide, S1, fun d H2 _ _ S2 kp2 => ⟨rfl, _, rfl, ?_⟩⟩
    refine ite2 (fun _ => ?_) (fun _ => ?_)
    · refine ⟨_, rfl, _, rfl, _, rfl, _, rfl, s, c, m, rfl, hm0, hm6, S2, fun v sm H3 ok hd S3 kp3 => ⟨few_ok (by show 4 ≤ _; decide), fun q hq => ?_⟩⟩
      have e := same_new (o := .tup [V.str "reach", V.str u, V.str l, v]) hq
      exact k (.ref q) (.reach u l sm) _ ⟨ul, ok⟩ (.tup (SqT.of upd_same) (.cons (.str _) (.cons (.str _) (.cons (.str _) (.cons (dp_same hd e) .nil))))) (S3.same e) (((kp1.trans kp2).trans kp3).trans (kp_same e))
    · refine ⟨_, rfl, _, rfl, _, rfl, s, c, rfl, S2, fun st H3 hst hst2 S3 kp3 => ?_⟩
      refine ⟨_, rfl, _, rfl, s, c, m, rfl, hm0, hm6, S3, fun v sm H4 ok hd S4 kp4 => ⟨few_ok (by show 5 ≤ _; decide), fun q hq => ?_⟩⟩
      have e := same_new (o := .tup [V.str "room", V.str u, V.str l, V.str st, v]) hq
      exact k (.ref q) (.room u l st sm) _ ⟨ul, hst, hst2, ok⟩ (.tup (SqT.of upd_same) (.cons (.str _) (.cons (.str _) (.cons (.str _) (.cons (.str _) (.cons (dp_same hd e) .nil)))))) (S4.same e) ((((kp1.trans kp2).trans kp3).trans kp4).trans (kp_same e))
  refine ⟨_, rfl, _, rfl, rfl, _, rfl, ?_⟩
  by_cases h : u = l
  · rw [decide_eq_true (congrArg V.str h)]
    refine iteT (rest "p" ⟨hu, p_ok, ?_⟩)
    rw [he h]
    exact frame_p
  · rw [decide_eq_false fun e => h (V.str.inj e)]
    exact iteF (rest l ⟨hu, hl, h⟩)
theorem run_law_limit (h : sp_law_limit K vs H Q E) : t_law_limit K { nx := fun _ H' => Q .non H', rt := Q } (start n_law_limit vs) H := by
  obtain ⟨s, c, m, rfl, hm0, hm6, S, k⟩ := h
  unfold t_law_limit
  refine ⟨_, rfl, s, c, rfl, S, fun u H1 hu S1 kp1 => ?_⟩
  refine ⟨_, rfl, s, c, rfl, S1, fun l H2 hl S2 kp2 => ?_⟩
  refine ⟨_, rfl, s, c, 6, rfl, by decide, by decide, S2, fun d H3 _ _ S3 kp3 => ?_⟩
  have kp := (kp1.trans kp2).trans kp3
  refine ⟨_, rfl, rfl, _, rfl, ?_⟩
  refine ite2 (fun _ => ?_) (fun _ => ?_)
  · exact run2_law_limit (u := c_FRAME) hm0 hm6 frame_ok hl (fun _ => rfl) S3 kp k
  · refine ⟨_, rfl, rfl, _, rfl, ?_⟩
    refine ite2 (fun _ => ?_) (fun _ => ?_)
    · exact iteT (run2_law_limit (l := c_FRAME) hm0 hm6 hu frame_ok (fun e => e) S3 kp k)
    · refine ⟨_, rfl, _, rfl, rfl, _, rfl, ?_⟩
      by_cases h : u = l
      · rw [decide_eq_true (congrArg V.str h)]
        exact iteT (run2_law_limit (l := c_FRAME) hm0 hm6 hu frame_ok (fun e => e) S3 kp k)
      · rw [decide_eq_false fun e => h (V.str.inj e)]
        exact iteF (run2_law_limit hm0 hm6 hu hl (fun e => absurd e h) S3 kp k)

/-! ### _law_limit_text -/
def sp_law_limit_text (K : PySem.W.Frag) : Sp := fun vs H Q _ => ∃ (v : V) (L : Lm), vs = [v] ∧ Dp K H v (lmD L) ∧ LmOk L ∧ Q (.str (lmT L)) H
abbrev n_law_limit_text : List Str := ["_law_limit_here", "_law_text", "_law_term"]
def t2_law_limit_text (K : PySem.W.Frag) : TS :=
    (tSeq (tAsg (tOp rCatS (tOp rCatS (tVar 1) (tC (.str " "))) (tCB cStrI (tCons (tOp (rIxT K) (tOp (rIxT K) (tVar 0) (tUn (rU fun i => .int (-i)) (tC (.int 1)))) (tC (.int 0))) tNil))) (gName 1))
    (tSeq (tFor (iTup K (tOp (rIxT K) (tOp (rIxT K) (tVar 0) (tUn (rU fun i => .int (-i)) (tC (.int 1)))) (tC (.int 1)))) (gName 2) (tAsg (tOp rCatS (tOp rCatS (tOp rCatS (tOp rCatS (tVar 1) (tC (.str " "))) (tCB cStrI (tCons (tOp (rIxT K) (tVar 2) (tC (.int 1))) tNil))) (tC (.str "*"))) (tOp (rIxT K) (tVar 2) (tC (.int 0)))) (gName 1)))
    (tRet (tVar 1))))
def t_law_limit_text (K : PySem.W.Frag) : TS :=
    (tSeq (tAsg (tOp rCatS (tOp rCatS (tOp rCatS (tC (.str "reach ")) (tOp (rIxT K) (tVar 0) (tC (.int 1)))) (tC (.str " "))) (tOp (rIxT K) (tVar 0) (tC (.int 2)))) (gName 1))
    (tSeq (tIfS (tTest (tOp rEq (tOp (rIxT K) (tVar 0) (tC (.int 0))) (tC (.str "room")))) (tAsg (tOp rCatS (tOp rCatS (tOp rCatS (tOp rCatS (tOp rCatS (tC (.str "room ")) (tOp (rIxT K) (tVar 0) (tC (.int 1)))) (tC (.str " "))) (tOp (rIxT K) (tVar 0) (tC (.int 2)))) (tC (.str " ="))) (tOp (rIxT K) (tVar 0) (tC (.int 3)))) (gName 1)) tNext)
    (t2_law_limit_text K)))
theorem len_law_limit_text (h : sp_law_limit_text K vs H Q E) : vs.length = 1 := by
  obtain ⟨_, _, rfl, _⟩ := h
  rfl
theorem len_reachb : ("reach " : Str).length = 6 := by decide +kernel
theorem len_roomb : ("room " : Str).length = 5 := by decide +kernel
theorem len_beq : (" =" : Str).length = 2 := by decide +kernel
theorem len_star : ("*" : Str).length = 1 := by decide +kernel
theorem tl_reachb : tl ("reach " : Str) = tl ("reach" : Str) ++ [32] := by decide +kernel
theorem tl_roomb : tl ("room " : Str) = tl ("room" : Str) ++ [32] := by decide +kernel
theorem tl_beq : tl (" =" : Str) = [32, 61] := by decide +kernel
/-- head words ps (joined: z), then the sum's words -/
theorem run2_law_limit_text {a : Addr} {xs ps : List _} {v w : V} {z : Str} {sm : Sm} {u : Option V} (ha : SqT K H a xs) (hlast : atI xs (-1) = some w) (hw : Dp K H w (smD sm)) (ok : SmOk sm) (hz : tl z = joinL [32] ((ps : List Str).map tl)) (hp : ps ≠ []) (hpl : ps.length ≤ 4)
    (hpz : ∀ p ∈ ps, p.length ≤ 74) (k : Q (.str (Txt.join " " (ps ++ smW sm))) H) :
    t2_law_limit_text K { nx := fun _ H' => Q .non H', rt := Q } [some (.ref a), some (.str z), u] H := by
  obtain ⟨b, ys, rfl, hb, hy⟩ := dp_tup hw
  obtain ⟨v1, _, rfl, h1, hy⟩ := dpAll_cons hy
  obtain ⟨v2, _, rfl, h2, hy⟩ := dpAll_cons hy
  cases dpAll_nil hy
  cases dp_int h1
  obtain ⟨b2, rs, rfl, hb2, hrs⟩ := dp_tup h2
  have lenz : ∀ (qs : List Str), qs.length ≤ 11 → (∀ p ∈ qs, p.length ≤ 74) → ∀ t : Str, tl t = joinL [32] (qs.map tl) → t.length ≤ 825 := by
    intro qs h1 h2 t et
    rw [len_tl, et]
    have q := joinL_len [32] (qs.map tl) 74 (fun p hp => by
      obtain ⟨z, hz, rfl⟩ := List.mem_map.mp hp
      rw [← len_tl]
      exact h2 z hz)
    rw [List.length_map] at q
    have h3 : qs.length * (74 + 1) ≤ 11 * (74 + 1) := Nat.mul_le_mul_right _ h1
    have h4 : ([32] : List Nat).length = 1 := rfl
    rw [h4] at q
    omega
  have lz := lenz ps (by omega) hpz z hz
  have lc := numS_len ok.c
  have few := ok.few
  refine ⟨_, rfl, _, _, rfl, rfl, few_ok (by rw [len_blank]; omega), ?_⟩
  refine ⟨_, rfl, 1, rfl, a, _, _, _, rfl, rfl, ha, hlast, b, _, _, _, rfl, rfl, hb, atI_pos 0 rfl, _, rfl, log2_small ok.c, _, _, rfl, rfl, ?_, ?_⟩
  · rw [strLen_append, len_blank]
    show z.length + 1 + (numS sm.1).length ≤ _
    exact few_ok (by omega)
  refine ⟨_, rfl, 1, rfl, a, _, _, _, rfl, rfl, ha, hlast, b, _, _, _, rfl, rfl, hb, atI_pos 1 rfl, b2, rfl, ⟨_, hb2⟩, ?_⟩
  have wlen : ∀ i, ∀ p ∈ ps ++ (numS sm.1 :: (sm.2.take i).map tmW), p.length ≤ 74 := by
    intro i p hp
    rcases List.mem_append.mp hp with hp | hp
    · exact hpz p hp
    · refine smW_len ok p ?_
      rcases List.mem_cons.mp hp with rfl | hp
      · exact List.mem_cons_self
      · obtain ⟨t, ht, rfl⟩ := List.mem_map.mp hp
        exact List.mem_cons_of_mem _ (List.mem_map.mpr ⟨t, List.mem_of_mem_take ht, rfl⟩)
  have hne : ∀ i, (ps ++ (numS sm.1 :: (sm.2.take i).map tmW)).map tl ≠ [] := fun i e => by
    have := List.map_eq_nil_iff.mp e
    exact hp (List.append_eq_nil_iff.mp this).1
  have lenr : rs.length = sm.2.length := by
    have := dpAll_len hrs
    rwa [List.length_map] at this
  refine for_it (walk_tup (xs := rs)) (fun i σ H' => ∃ (t : Str) (u : Option V), H' = H ∧ σ = [some (.ref a), some (.str t), u] ∧ tl t = joinL [32] ((ps ++ (numS sm.1 :: (sm.2.take i).map tmW)).map tl))
    ⟨_, _, rfl, rfl, ?_⟩ (fun i σ H' _ ⟨_, _, e, _, _⟩ => by rw [e]; exact hb2) ?_ ?_
  · rw [tl_append, tl_append, hz, tl_blank]
    show _ ++ [32] ++ tl (numS sm.1) = joinL [32] ((ps ++ [numS sm.1]).map tl)
    rw [List.map_append, List.map_cons, List.map_nil, joinL_snoc (fun e => hp (List.map_eq_nil_iff.mp e)), List.append_assoc]
  · rintro i x σ H1 H' hi ⟨t, u, rfl, rfl, et⟩ ⟨rfl, hxi⟩
    obtain ⟨d, hd1, hd2⟩ := dpAll_get hrs hxi
    rw [List.getElem?_map] at hd1
    cases ht : sm.2[i]? with
    | none => rw [ht] at hd1; cases hd1
    | some tm =>
      rw [ht] at hd1
      cases hd1
      have okt := ok.t tm (List.mem_of_getElem? ht)
      obtain ⟨p, zs, rfl, hp', hzs⟩ := dp_tup hd2
      obtain ⟨y1, _, rfl, g1, hzs⟩ := dpAll_cons hzs
      obtain ⟨y2, _, rfl, g2, hzs⟩ := dpAll_cons hzs
      cases dpAll_nil hzs
      cases dp_str g1
      cases dp_int g2
      have lt := lenz _ (by rw [List.length_append, List.length_cons, List.length_map, List.length_take]; omega) (wlen i) t et
      have l1 := numS_len okt.2.2.2
      have l2 := (isName_len okt.1).2
      refine ⟨_, rfl, _, _, rfl, rfl, few_ok (by rw [len_blank]; omega), ?_⟩
      refine ⟨_, rfl, p, _, _, _, rfl, rfl, hp', atI_pos 1 rfl, _, rfl, log2_small okt.2.2.2, _, _, rfl, rfl, ?_, _, _, rfl, rfl, ?_, ?_⟩
      · rw [strLen_append, len_blank]
        show t.length + 1 + (numS tm.2).length ≤ _
        exact few_ok (by omega)
      · rw [strLen_append, strLen_append, len_blank, len_star]
        show t.length + 1 + (numS tm.2).length + 1 ≤ _
        exact few_ok (by omega)
      refine ⟨_, rfl, p, _, _, _, rfl, rfl, hp', atI_pos 0 rfl, _, _, rfl, rfl, ?_, ?_⟩
      · rw [strLen_append, strLen_append, strLen_append, len_blank, len_star]
        show t.length + 1 + (numS tm.2).length + 1 + tm.1.length ≤ _
        exact few_ok (by omega)
      · refine ⟨_, _, rfl, rfl, ?_⟩
        rw [tl_append, tl_append, tl_append, tl_append, et, tl_blank, tl_star]
        show _ ++ [32] ++ tl (numS tm.2) ++ [42] ++ tl tm.1 = _
        rw [List.take_add_one, ht]
        show _ = joinL [32] ((ps ++ (numS sm.1 :: (sm.2.take i ++ [tm]).map tmW)).map tl)
        rw [List.map_append (f := tmW), ← List.cons_append, ← List.append_assoc, List.map_append (f := tl) (l₂ := [tm].map tmW)]
        show _ = joinL [32] ((ps ++ (numS sm.1 :: (sm.2.take i).map tmW)).map tl ++ [tl (tmW tm)])
        rw [joinL_snoc (hne i), tl_tmW, tl_numS]
        simp only [List.append_assoc]
        rfl
  · rintro σ H' ⟨t, u, rfl, rfl, et⟩
    refine ⟨_, rfl, ?_⟩
    have e : t = Txt.join " " (ps ++ smW sm) := by
      apply ext_tl
      rw [tl_joinT, tl_blank, et, lenr, List.take_length]
      rfl
    show Q (.str t) H'
    rw [e]
    exact k
theorem run_law_limit_text (h : sp_law_limit_text K vs H Q E) : t_law_limit_text K { nx := fun _ H' => Q .non H', rt := Q } (start n_law_limit_text vs) H := by
  obtain ⟨v, L, rfl, hd, ok, k⟩ := h
  unfold t_law_limit_text
  cases L with
  | room u l st s =>
    obtain ⟨a, w, rfl, ha, hw⟩ := dp_room hd
    obtain ⟨o1, o2, o3, o4⟩ := ok
    have lu := (isName_len o1.u).2
    have ll := (isName_len o1.l).2
    refine ⟨_, rfl, a, _, _, _, rfl, rfl, ha, atI_pos 1 rfl, _, _, rfl, rfl, ?_, _, _, rfl, rfl, ?_, _, rfl, a, _, _, _, rfl, rfl, ha, atI_pos 2 rfl, _, _, rfl, rfl, ?_, ?_⟩
    · rw [len_reachb]; exact few_ok (by omega)
    · rw [strLen_append, len_reachb, len_blank]; exact few_ok (by omega)
    · rw [strLen_append, strLen_append, len_reachb, len_blank]; exact few_ok (by omega)
    refine ⟨_, rfl, a, _, _, _, rfl, rfl, ha, atI_pos 0 rfl, rfl, _, rfl, ?_⟩
    rw [dec_same]
    refine iteT ⟨_, rfl, a, _, _, _, rfl, rfl, ha, atI_pos 1 rfl, _, _, rfl, rfl, ?_, _, _, rfl, rfl, ?_, _, rfl, a, _, _, _, rfl, rfl, ha, atI_pos 2 rfl, _, _, rfl, rfl, ?_, _, _, rfl, rfl, ?_, _, rfl, a, _, _, _, rfl, rfl, ha, atI_pos 3 rfl, _, _, rfl, rfl, ?_, ?_⟩
    · rw [len_roomb]; exact few_ok (by omega)
    · rw [strLen_append, len_roomb, len_blank]; exact few_ok (by omega)
    · rw [strLen_append, strLen_append, len_roomb, len_blank]; exact few_ok (by omega)
    · rw [strLen_append, strLen_append, strLen_append, len_roomb, len_blank, len_beq]; exact few_ok (by omega)
    · rw [strLen_append, strLen_append, strLen_append, strLen_append, len_roomb, len_blank, len_beq]; exact few_ok (by omega)
    refine run2_law_limit_text (v := .non) (ps := ["room", u, l, eqlS st]) ha rfl hw o4 ?_ (List.cons_ne_nil _ _) (by show 4 ≤ 4; decide) ?_ k
    · rw [tl_append, tl_append, tl_append, tl_append, tl_append, tl_roomb, tl_blank, tl_beq]
      show _ = joinL [32] [tl ("room" : Str), tl u, tl l, tl (eqlS st)]
      rw [eql_cut]
      show _ = tl ("room" : Str) ++ ([32] ++ (tl u ++ ([32] ++ (tl l ++ ([32] ++ (61 :: tl st))))))
      simp only [List.append_assoc]
      rfl
    · intro p hp
      exact lmW_len (L := .room u l st s) ⟨o1, o2, o3, o4⟩ p (by
        show p ∈ ("room" : Str) :: u :: l :: eqlS st :: smW s
        rcases List.mem_cons.mp hp with rfl | hp
        · exact List.mem_cons_self
        rcases List.mem_cons.mp hp with rfl | hp
        · exact List.mem_cons_of_mem _ List.mem_cons_self
        rcases List.mem_cons.mp hp with rfl | hp
        · exact List.mem_cons_of_mem _ (List.mem_cons_of_mem _ List.mem_cons_self)
        rcases List.mem_cons.mp hp with rfl | hp
        · exact List.mem_cons_of_mem _ (List.mem_cons_of_mem _ (List.mem_cons_of_mem _ List.mem_cons_self))
        · cases hp)
  | reach u l s =>
    obtain ⟨a, w, rfl, ha, hw⟩ := dp_reach hd
    obtain ⟨o1, o4⟩ := ok
    have lu := (isName_len o1.u).2
    have ll := (isName_len o1.l).2
    refine ⟨_, rfl, a, _, _, _, rfl, rfl, ha, atI_pos 1 rfl, _, _, rfl, rfl, ?_, _, _, rfl, rfl, ?_, _, rfl, a, _, _, _, rfl, rfl, ha, atI_pos 2 rfl, _, _, rfl, rfl, ?_, ?_⟩
    · rw [len_reachb]; exact few_ok (by omega)
    · rw [strLen_append, len_reachb, len_blank]; exact few_ok (by omega)
    · rw [strLen_append, strLen_append, len_reachb, len_blank]; exact few_ok (by omega)
    refine ⟨_, rfl, a, _, _, _, rfl, rfl, ha, atI_pos 0 rfl, rfl, _, rfl, ?_⟩
    rw [reach_room]
    refine iteF ?_
    refine run2_law_limit_text (v := .non) (ps := ["reach", u, l]) ha rfl hw o4 ?_ (List.cons_ne_nil _ _) (by show 3 ≤ 4; decide) ?_ k
    · rw [tl_append, tl_append, tl_append, tl_reachb, tl_blank]
      show _ = joinL [32] [tl ("reach" : Str), tl u, tl l]
      show _ = tl ("reach" : Str) ++ ([32] ++ (tl u ++ ([32] ++ tl l)))
      simp only [List.append_assoc]
    · intro p hp
      exact lmW_len (L := .reach u l s) ⟨o1, o4⟩ p (by
        show p ∈ ("reach" : Str) :: u :: l :: smW s
        rcases List.mem_cons.mp hp with rfl | hp
        · exact List.mem_cons_self
        rcases List.mem_cons.mp hp with rfl | hp
        · exact List.mem_cons_of_mem _ List.mem_cons_self
        rcases List.mem_cons.mp hp with rfl | hp
        · exact List.mem_cons_of_mem _ (List.mem_cons_of_mem _ List.mem_cons_self)
        · cases hp)
end
end My


/-! K51i: _law_fact_text, _law_run, _law_fact, _law_read_first, law. -/
namespace My
open PySem PySem.Spec PyProof.Rows L2 TL
section
variable {K : PySem.W.Frag} {vs : List V} {H : Hp} {Q : VK} {E : XK}
theorem Kp.via {s l : Addr} {H H1 H2 : Hp} (h : Kp s H H1) (hl : H l = none) (k : Kp l H1 H2) : Kp s H H2 := fun b o nb hb => k b o (fun e => by subst e; rw [hl] at hb; cases hb) (h b o nb hb)
theorem Kp.none {s l : Addr} {H H1 : Hp} (h : Kp s H H1) (n : l ≠ s) (hl : H1 l = none) : H l = none := by
  cases e : H l with
  | none => rfl
  | some o => rw [h _ _ n e] at hl; cases hl
theorem at_strs {ns : List Str} {d : Int} (h0 : 0 ≤ d) (h1 : d < (ns.length : Int)) : ∃ z ∈ ns, atI (ns.map V.str) d = some (V.str z) := by
  obtain ⟨j, rfl⟩ := Int.eq_ofNat_of_zero_le h0
  have hj : j < ns.length := by omega
  refine ⟨ns[j], List.getElem_mem hj, atI_nat ?_⟩
  rw [List.getElem?_map, List.getElem?_eq_getElem hj]
  rfl
/-! ### _law_fact_text -/
def sp_law_fact_text (K : PySem.W.Frag) : Sp := fun vs H Q _ => ∃ (v : V) (f : Fc), vs = [v] ∧ Dp K H v (fcD f) ∧ FcOk f ∧ Q (.str (fcT f)) H
abbrev n_law_fact_text : List Str := ["_law_fact_here", "_law_text"]
def t_law_fact_text (K : PySem.W.Frag) : TS :=
    (tSeq (tAsg (tOp rCatS (tOp rCatS (tOp (rIxT K) (tVar 0) (tC (.int 0))) (tC (.str " "))) (tM1 (mJoin K) (tC (.str " ")) (tOp (rIxT K) (tVar 0) (tC (.int 1))))) (gName 1))
    (tSeq (tIfS (tTest (tOp rEq (tCB (cLenQ K) (tCons (tVar 0) tNil)) (tC (.int 3)))) (tAsg (tOp rCatS (tOp rCatS (tVar 1) (tC (.str " = "))) (tM1 (mJoin K) (tC (.str " ")) (tOp (rIxT K) (tVar 0) (tC (.int 2))))) (gName 1)) tNext)
    (tRet (tVar 1))))
theorem len_law_fact_text (h : sp_law_fact_text K vs H Q E) : vs.length = 1 := by
  obtain ⟨_, _, rfl, _⟩ := h
  rfl
theorem run_law_fact_text (h : sp_law_fact_text K vs H Q E) : t_law_fact_text K { nx := fun _ H' => Q .non H', rt := Q } (start n_law_fact_text vs) H := by
  obtain ⟨v, f, rfl, hd, ok, k⟩ := h
  obtain ⟨a, xs, rfl, ha, hx⟩ := dp_fact hd
  have w5 := word_len ok
  have ft := fact_text ok
  unfold t_law_fact_text
  cases f with
  | one w r =>
    obtain ⟨v1, _, rfl, h1, hx⟩ := dpAll_cons hx
    cases dpAll_nil hx
    obtain ⟨b, rfl, hb⟩ := dp_run h1
    have rj := run_join ok.2
    have w5 : w.length ≤ 5 := w5
    refine ⟨_, rfl, a, _, _, _, rfl, rfl, ha, atI_pos 0 rfl, _, _, rfl, rfl, ?_, ⟨_, rfl⟩, _, rfl, a, _, _, _, rfl, rfl, ha, atI_pos 1 rfl, _, b, r, rfl, rfl, .inr hb, run_room ok.2, _, _, rfl, rfl, ?_, ?_⟩
    · show w.length + _ ≤ _
      rw [len_blank]
      exact few_ok (by omega)
    · rw [strLen_append, len_blank]
      show w.length + _ + _ ≤ _
      exact few_ok (by omega)
    refine ⟨_, rfl, a, _, rfl, .inr ha, rfl, _, rfl, iteF ⟨_, rfl, ?_⟩⟩
    have e : w ++ " " ++ Txt.join " " r = fcT (.one w r) := by
      rw [← ft]
      apply ext_tl
      simp only [tl_append, List.append_assoc]
      show _ = tl w ++ (tl " " ++ tl (Txt.join " = " [Txt.join " " r]))
      rw [tl_joinT " = "]
      rfl
    show Q (.str (w ++ " " ++ Txt.join " " r)) H
    rw [e]
    exact k
  | two w r q =>
    obtain ⟨v1, _, rfl, h1, hx⟩ := dpAll_cons hx
    obtain ⟨v2, _, rfl, h2, hx⟩ := dpAll_cons hx
    cases dpAll_nil hx
    obtain ⟨b, rfl, hb⟩ := dp_run h1
    obtain ⟨c, rfl, hc⟩ := dp_run h2
    have rj := run_join ok.2.1
    have qj := run_join ok.2.2
    have w5 : w.length ≤ 5 := w5
    refine ⟨_, rfl, a, _, _, _, rfl, rfl, ha, atI_pos 0 rfl, _, _, rfl, rfl, ?_, ⟨_, rfl⟩, _, rfl, a, _, _, _, rfl, rfl, ha, atI_pos 1 rfl, _, b, r, rfl, rfl, .inr hb, run_room ok.2.1, _, _, rfl, rfl, ?_, ?_⟩
    · show w.length + _ ≤ _
      rw [len_blank]
      exact few_ok (by omega)
    · rw [strLen_append, len_blank]
      show w.length + _ + _ ≤ _
      exact few_ok (by omega)
    refine ⟨_, rfl, a, _, rfl, .inr ha, rfl, _, rfl, iteT ?_⟩
    refine ⟨_, rfl, _, _, rfl, rfl, ?_, ⟨_, rfl⟩, _, rfl, a, _, _, _, rfl, rfl, ha, atI_pos 2 rfl, _, c, q, rfl, rfl, .inr hc, run_room ok.2.2, _, _, rfl, rfl, ?_, ?_⟩
    · rw [strLen_append, strLen_append, len_blank, len_sep]
      show w.length + _ + _ + _ ≤ _
      exact few_ok (by omega)
    · rw [strLen_append, strLen_append, strLen_append, len_blank, len_sep]
      show w.length + _ + _ + _ + _ ≤ _
      exact few_ok (by omega)
    refine ⟨_, rfl, ?_⟩
    have e : w ++ " " ++ Txt.join " " r ++ " = " ++ Txt.join " " q = fcT (.two w r q) := by
      rw [← ft]
      apply ext_tl
      simp only [tl_append, List.append_assoc]
      show _ = tl w ++ (tl " " ++ tl (Txt.join " = " [Txt.join " " r, Txt.join " " q]))
      rw [tl_joinT " = "]
      rfl
    show Q (.str (w ++ " " ++ Txt.join " " r ++ " = " ++ Txt.join " " q)) H
    rw [e]
    exact k
/-! ### _law_run -/
def sp_law_run (K : PySem.W.Frag) : Sp := fun vs H Q _ => ∃ s c : Addr, vs = [.ref s] ∧ Src H s c ∧ ∀ (v : V) (r : List Str) H', RunOk r → Dp K H' v (runD r) → Src H' s c → Kp s H H' → Q v H'
abbrev n_law_run : List Str := ["_law_source_here", "_law_run_here", "_law_names", "_law_size", "_law_k"]
def tl_law_run (K : PySem.W.Frag) : TS :=
    (tDrop (tBM K "list" rAppend (tVar 1) (tCons (tOp rCatS (tOp (rIxL K) (tLst (tCons (tC (.str "+")) (tCons (tC (.str "-")) tNil))) (tCall (sp_law_take K) [] E0 (tCons (tVar 0) (tCons (tC (.int 2)) tNil)))) (tOp (rIxL K) (tVar 2) (tCall (sp_law_take K) [] E0 (tCons (tVar 0) (tCons (tCB (cLenQ K) (tCons (tVar 2) tNil)) tNil))))) tNil)))
def t2_law_run (K : PySem.W.Frag) : TS :=
    (tSeq (tFor (iRng1 (tCons (tVar 3) tNil)) (gName 4) (tSeq (tIfS (tTest (tOp rEq (tCall (sp_law_take K) [] E0 (tCons (tVar 0) (tCons (tC (.int 6)) tNil))) (tC (.int 0)))) (tDrop (tBM K "list" rAppend (tVar 2) (tCons (tCall (sp_law_name K) [] E0 (tCons (tVar 0) tNil)) tNil))) tNext)
    (tl_law_run K)))
    (tRet (tCB (cTuple K) (tCons (tVar 1) tNil))))
def t_law_run (K : PySem.W.Frag) : TS :=
    (tSeq (tAsg (tLst (tCons (tCall (sp_law_name K) [] E0 (tCons (tVar 0) tNil)) tNil)) (gName 1))
    (tSeq (tAsg (tLst (tCons (tCall (sp_law_name K) [] E0 (tCons (tVar 0) tNil)) (tCons (tCall (sp_law_name K) [] E0 (tCons (tVar 0) tNil)) tNil))) (gName 2))
    (tSeq (tAsg (tCall (sp_law_take K) [] E0 (tCons (tVar 0) (tCons (tC (.int 6)) tNil))) (gName 3))
    (tSeq (tIfS (tTest (tOp rEq (tCall (sp_law_take K) [] E0 (tCons (tVar 0) (tCons (tC (.int 12)) tNil))) (tC (.int 0)))) (tAsg (tCall (sp_law_take K) [] E0 (tCons (tVar 0) (tCons (tC (.int 61)) tNil))) (gName 3)) tNext)
    (t2_law_run K)))))
theorem len_law_run (h : sp_law_run K vs H Q E) : vs.length = 1 := by
  obtain ⟨_, _, rfl, _⟩ := h
  rfl
structure RunSt (H H' : Hp) (s c l m : Addr) (i : Nat) : Prop where
  src : Src H' s c
  kp : Kp s H H'
  ex : ∃ (n : Str) (ss ns : List Str), H' l = some (.lst ((n :: ss).map V.str)) ∧ H' m = some (.lst (ns.map V.str)) ∧ isName n = true ∧ (∀ z ∈ ss, stepOk z = true) ∧ ss.length = i ∧ (∀ z ∈ ns, isName z = true) ∧ 0 < ns.length ∧ ns.length ≤ i + 2
theorem pm_at {d : Int} (h0 : 0 ≤ d) (h1 : d < 2) : ∃ y : Str, (y = "+" ∨ y = "-") ∧ atI [V.str "+", V.str "-"] d = some (V.str y) := by
  have : d = 0 ∨ d = 1 := by omega
  rcases this with rfl | rfl
  · exact ⟨_, .inl rfl, rfl⟩
  · exact ⟨_, .inr rfl, rfl⟩
theorem step_mk {y z : Str} (hy : y = "+" ∨ y = "-") (hz : isName z = true) : stepOk (y ++ z) = true ∧ y.length = 1 := by
  unfold stepOk
  rw [tl_append]
  rcases hy with rfl | rfl
  · rw [tl_plus]; exact ⟨hz, by decide +kernel⟩
  · rw [tl_minus]; exact ⟨hz, by decide +kernel⟩
theorem run_turn {s c l m : Addr} {kv sz : Option V} {i : Nat} {D : Ends} {H1 : Hp} {n : Str} {ss ns : List Str} (hl0 : H l = none) (hm0 : H m = none) (nls : l ≠ s) (nms : m ≠ s) (nlc : l ≠ c) (nml : m ≠ l) (hi : i ≤ 60) (S1 : Src H1 s c) (kp1 : Kp s H H1)
    (hl : H1 l = some (.lst ((n :: ss).map V.str))) (hm : H1 m = some (.lst (ns.map V.str))) (hn : isName n = true) (hss : ∀ z ∈ ss, stepOk z = true) (hi2 : ss.length = i) (hns : ∀ z ∈ ns, isName z = true) (hn0 : 0 < ns.length) (hn1 : ns.length ≤ i + 3)
    (k : ∀ H', RunSt H H' s c l m (i + 1) → D.nx [some (.ref s), some (.ref l), some (.ref m), sz, kv] H') :
    tl_law_run K D [some (.ref s), some (.ref l), some (.ref m), sz, kv] H1 := by
  refine ⟨_, rfl, .inl ⟨rfl, _, SqL.of hl⟩, few_ok (by show 2 ≤ _; decide), fun p hp => ?_⟩
  have e2 := same_new (o := .lst [V.str "+", V.str "-"]) hp
  have hp1 : upd H1 p (.lst [V.str "+", V.str "-"]) p = some (.lst [V.str "+", V.str "-"]) := upd_same
  have nps := (S1.ne hp).1
  refine ⟨_, rfl, s, c, 2, rfl, by decide, by decide, S1.same e2, fun d H3 hd0 hd1 S3 kp3 => ?_⟩
  obtain ⟨y, hy, hat⟩ := pm_at hd0 hd1
  have hm3 : H3 m = some (.lst (ns.map V.str)) := kp3 _ _ nms (e2 _ _ hm)
  refine ⟨p, _, _, _, rfl, rfl, SqL.of (kp3 _ _ nps hp1), hat, _, rfl, _, rfl, _, rfl, m, _, rfl, .inl (SqL.of hm3), ?_⟩
  rw [List.length_map]
  refine ⟨s, c, _, rfl, by omega, small_log (by omega), S3, fun d2 H4 h0 h1 S4 kp4 => ?_⟩
  obtain ⟨z, hz, hat2⟩ := at_strs h0 h1
  have okz := hns z hz
  have ly := (step_mk hy okz).2
  have lz := (isName_len okz).2
  have hm4 : H4 m = some (.lst (ns.map V.str)) := kp4 _ _ nms hm3
  have hl4 : H4 l = some (.lst ((n :: ss).map V.str)) := kp4 _ _ nls (kp3 _ _ nls (e2 _ _ hl))
  refine ⟨m, _, _, _, rfl, rfl, SqL.of hm4, hat2, _, _, rfl, rfl, few_ok (by omega), l, _, _, rfl, rfl, hl4, ?_, k _ ?_⟩
  · rw [List.length_map, List.length_cons]
    exact Nat.lt_of_le_of_lt (by omega : ss.length + 1 ≤ 1000) (by decide)
  · have kl : Kp l H4 (upd H4 l (.lst ((n :: ss).map V.str ++ [V.str (y ++ z)]))) := Kp.self
    refine ⟨S4.kp nls.symm nlc.symm kl, ((((kp1.trans (kp_same e2)).trans kp3).trans kp4)).via hl0 kl, n, ss ++ [y ++ z], ns, ?_, kl _ _ nml hm4, hn, ?_, ?_, hns, hn0, by omega⟩
    · rw [upd_same, ← List.cons_append, List.map_append]
      rfl
    · intro x hx
      rcases List.mem_append.mp hx with hx | hx
      · exact hss x hx
      · rw [List.mem_singleton.mp hx]
        exact (step_mk hy okz).1
    · rw [List.length_append, hi2]
      rfl
theorem run2_law_run {s c l m : Addr} {j : Int} {H1 : Hp} {n : Str} {ns : List Str} (hj0 : 0 ≤ j) (hj1 : j ≤ 60) (hl0 : H l = none) (hm0 : H m = none) (nls : l ≠ s) (nms : m ≠ s) (nlc : l ≠ c) (nmc : m ≠ c) (nml : m ≠ l) (S1 : Src H1 s c) (kp1 : Kp s H H1)
    (hl : H1 l = some (.lst [V.str n])) (hm : H1 m = some (.lst (ns.map V.str))) (hn : isName n = true) (hns : ∀ z ∈ ns, isName z = true) (hn0 : 0 < ns.length) (hn1 : ns.length ≤ 2)
    (k : ∀ (v : V) (r : List Str) H', RunOk r → Dp K H' v (runD r) → Src H' s c → Kp s H H' → Q v H') :
    t2_law_run K { nx := fun _ H' => Q .non H', rt := Q } [some (.ref s), some (.ref l), some (.ref m), some (.int j), none] H1 := by
  refine ⟨_, rfl, j, rfl, by omega, by omega, ?_⟩
  refine for_it walk_range (fun i σ H' => ∃ u : Option V, σ = [some (.ref s), some (.ref l), some (.ref m), some (.int j), u] ∧ RunSt H H' s c l m i)
    ⟨none, rfl, S1, kp1, n, [], ns, hl, hm, hn, fun z hz => absurd hz List.not_mem_nil, rfl, hns, hn0, hn1⟩ (fun _ _ _ _ _ => True.intro) ?_ ?_
  · rintro i x σ H3 H' hi ⟨u, rfl, S3, kp3, n3, ss, ns3, hl3, hm3, hn3, hss, hi2, hns3, hn03, hn13⟩ ⟨rfl, rfl⟩
    refine ⟨_, rfl, s, c, 6, rfl, by decide, by decide, S3, fun d H4 _ _ S4 kp4 => ⟨rfl, _, rfl, ?_⟩⟩
    have hl4 := kp4 _ _ nls hl3
    have hm4 := kp4 _ _ nms hm3
    refine ite2 (fun _ => ?_) (fun _ => ?_)
    · refine ⟨_, rfl, .inl ⟨rfl, _, SqL.of hm4⟩, _, rfl, s, c, rfl, S4, fun z H5 hz S5 kp5 => ?_⟩
      have hl5 := kp5 _ _ nls hl4
      have hm5 := kp5 _ _ nms hm4
      refine ⟨m, _, _, rfl, rfl, hm5, ?_, ?_⟩
      · rw [List.length_map]
        exact Nat.lt_of_le_of_lt (by omega : ns3.length ≤ 1000) (by decide)
      · have km : Kp m H5 (upd H5 m (.lst (ns3.map V.str ++ [V.str z]))) := Kp.self
        refine run_turn (H := H) (ns := ns3 ++ [z]) hl0 hm0 nls nms nlc nml (by omega) (S5.kp nms.symm nmc.symm km) (((kp3.trans kp4).trans kp5).via hm0 km) (km _ _ nml.symm hl5) ?_ hn3 hss hi2 ?_ ?_ ?_ (fun H' h => ⟨_, rfl, h⟩)
        · rw [upd_same, List.map_append]
          rfl
        · intro x hx
          rcases List.mem_append.mp hx with hx | hx
          · exact hns3 x hx
          · rw [List.mem_singleton.mp hx]
            exact hz
        · rw [List.length_append]
          omega
        · rw [List.length_append, List.length_singleton]
          omega
    · exact run_turn (H := H) hl0 hm0 nls nms nlc nml (by omega) S4 (kp3.trans kp4) hl4 hm4 hn3 hss hi2 hns3 hn03 (by omega) (fun H' h => ⟨_, rfl, h⟩)
  · rintro σ H' ⟨u, rfl, S3, kp3, n3, ss, ns3, hl3, hm3, hn3, hss, hi2, hns3, hn03, hn13⟩
    refine ⟨_, rfl, l, _, rfl, .inl ⟨SqL.of hl3, fun q hq => ?_⟩⟩
    have e := same_new (o := .tup ((n3 :: ss).map V.str)) hq
    refine k (.ref q) (n3 :: ss) _ ⟨⟨n3, ss, rfl, hn3, hss⟩, ?_⟩ (dp_mkrun (SqT.of upd_same)) (S3.same e) (kp3.trans (kp_same e))
    rw [List.length_cons]
    omega
theorem run_law_run (h : sp_law_run K vs H Q E) : t_law_run K { nx := fun _ H' => Q .non H', rt := Q } (start n_law_run vs) H := by
  obtain ⟨s, c, rfl, S, k⟩ := h
  unfold t_law_run
  refine ⟨_, rfl, s, c, rfl, S, fun n H1 hn S1 kp1 => ⟨few_ok (by show 1 ≤ _; decide), fun l hl => ?_⟩⟩
  have e1 := same_new (o := .lst [V.str n]) hl
  have nl := S1.ne hl
  refine ⟨_, rfl, s, c, rfl, S1.same e1, fun n1 H2 hn1 S2 kp2 => ?_⟩
  refine ⟨_, rfl, s, c, rfl, S2, fun n2 H3 hn2 S3 kp3 => ⟨few_ok (by show 2 ≤ _; decide), fun m hm => ?_⟩⟩
  have e3 := same_new (o := .lst [V.str n1, V.str n2]) hm
  have nm := S3.ne hm
  have hl3 : H3 l = some (.lst [V.str n]) := kp3 _ _ nl.1 (kp2 _ _ nl.1 upd_same)
  have nml : m ≠ l := (ne_of_none hl3 hm).symm
  have kpa : Kp s H H3 := ((kp1.trans (kp_same e1)).trans kp2).trans kp3
  have hl0 : H l = none := kp1.none nl.1 hl
  have hm0 : H m = none := kpa.none nm.1 hm
  refine ⟨_, rfl, s, c, 6, rfl, by decide, by decide, S3.same e3, fun j H4 hj0 hj1 S4 kp4 => ?_⟩
  refine ⟨_, rfl, s, c, 12, rfl, by decide, by decide, S4, fun d H5 _ _ S5 kp5 => ⟨rfl, _, rfl, ?_⟩⟩
  have kp5' : Kp s H H5 := ((kpa.trans (kp_same e3)).trans kp4).trans kp5
  have hl5 : H5 l = some (.lst [V.str n]) := kp5 _ _ nl.1 (kp4 _ _ nl.1 (e3 _ _ hl3))
  have hm5 : H5 m = some (.lst ([n1, n2].map V.str)) := kp5 _ _ nm.1 (kp4 _ _ nm.1 upd_same)
  have hns : ∀ z ∈ [n1, n2], isName z = true := by
    intro z hz
    rcases List.mem_cons.mp hz with rfl | hz
    · exact hn1
    · rw [List.mem_singleton.mp hz]
      exact hn2
  refine ite2 (fun _ => ?_) (fun _ => ?_)
  · refine ⟨_, rfl, s, c, 61, rfl, by decide, by decide, S5, fun j2 H6 hj20 hj21 S6 kp6 => ?_⟩
    exact run2_law_run hj20 (by omega) hl0 hm0 nl.1 nm.1 nl.2 nm.2 nml S6 (kp5'.trans kp6) (kp6 _ _ nl.1 hl5) (kp6 _ _ nm.1 hm5) hn hns (by show 0 < 2; decide) (by show 2 ≤ 2; decide) k
  · exact run2_law_run hj0 (by omega) hl0 hm0 nl.1 nm.1 nl.2 nm.2 nml S5 kp5' hl5 hm5 hn hns (by show 0 < 2; decide) (by show 2 ≤ 2; decide) k
/-! ### _law_fact -/
def sp_law_fact (K : PySem.W.Frag) : Sp := fun vs H Q _ => ∃ s c : Addr, vs = [.ref s] ∧ Src H s c ∧ ∀ (v : V) (f : Fc) H', FcOk f → Dp K H' v (fcD f) → Src H' s c → Kp s H H' → Q v H'
abbrev n_law_fact : List Str := ["_law_source_here", "_law_word", "_law_run_here"]
def t_law_fact (K : PySem.W.Frag) : TS :=
    (tSeq (tAsg (tOp (rIxL K) (tLst (tCons (tC (.str "goes")) (tCons (tC (.str "fails")) (tCons (tC (.str "alike")) (tCons (tC (.str "apart")) tNil))))) (tCall (sp_law_take K) [] E0 (tCons (tVar 0) (tCons (tC (.int 4)) tNil)))) (gName 1))
    (tSeq (tAsg (tCall (sp_law_run K) [] E0 (tCons (tVar 0) tNil)) (gName 2))
    (tSeq (tIfS (tOr (tTest (tOp rEq (tVar 1) (tC (.str "goes")))) (tTest (tOp rEq (tVar 1) (tC (.str "fails"))))) (tRet (tTup (tCons (tVar 1) (tCons (tVar 2) tNil)))) tNext)
    (tSeq (tIfS (tTest (tOp rEq (tCall (sp_law_take K) [] E0 (tCons (tVar 0) (tCons (tC (.int 3)) tNil))) (tC (.int 0)))) (tRet (tTup (tCons (tVar 1) (tCons (tVar 2) (tCons (tVar 2) tNil))))) tNext)
    (tRet (tTup (tCons (tVar 1) (tCons (tVar 2) (tCons (tCall (sp_law_run K) [] E0 (tCons (tVar 0) tNil)) tNil)))))))))
theorem len_law_fact (h : sp_law_fact K vs H Q E) : vs.length = 1 := by
  obtain ⟨_, _, rfl, _⟩ := h
  rfl
theorem words_at {d : Int} (h0 : 0 ≤ d) (h1 : d < 4) : ∃ y : Str, ((y = "goes" ∨ y = "fails") ∨ (y = "alike" ∨ y = "apart")) ∧ atI [V.str "goes", V.str "fails", V.str "alike", V.str "apart"] d = some (V.str y) := by
  have : d = 0 ∨ d = 1 ∨ d = 2 ∨ d = 3 := by omega
  rcases this with rfl | rfl | rfl | rfl
  · exact ⟨_, .inl (.inl rfl), rfl⟩
  · exact ⟨_, .inl (.inr rfl), rfl⟩
  · exact ⟨_, .inr (.inl rfl), rfl⟩
  · exact ⟨_, .inr (.inr rfl), rfl⟩
theorem wf_goes : decide (V.str ("fails" : Str) = V.str ("goes" : Str)) = false := dec_ne (by decide +kernel)
theorem wa_goes : decide (V.str ("alike" : Str) = V.str ("goes" : Str)) = false := dec_ne (by decide +kernel)
theorem wa_fails : decide (V.str ("alike" : Str) = V.str ("fails" : Str)) = false := dec_ne (by decide +kernel)
theorem wp_goes : decide (V.str ("apart" : Str) = V.str ("goes" : Str)) = false := dec_ne (by decide +kernel)
theorem wp_fails : decide (V.str ("apart" : Str) = V.str ("fails" : Str)) = false := dec_ne (by decide +kernel)
theorem noStrs (r : List Str) : noLs (r.map PyData.str) = true := by
  induction r with
  | nil => rfl
  | cons a r ih => show (noL (.str a) && noLs (r.map PyData.str)) = true; rw [ih]; rfl
theorem run_law_fact (h : sp_law_fact K vs H Q E) : t_law_fact K { nx := fun _ H' => Q .non H', rt := Q } (start n_law_fact vs) H := by
  obtain ⟨s, c, rfl, S, k⟩ := h
  unfold t_law_fact
  refine ⟨few_ok (by show 4 ≤ _; decide), fun p hp => ?_⟩
  have e1 := same_new (o := .lst [V.str "goes", V.str "fails", V.str "alike", V.str "apart"]) hp
  have np := S.ne hp
  refine ⟨_, rfl, s, c, 4, rfl, by decide, by decide, S.same e1, fun d H1 hd0 hd1 S1 kp1 => ?_⟩
  obtain ⟨y, hy, hat⟩ := words_at hd0 hd1
  refine ⟨p, _, _, _, rfl, rfl, SqL.of (kp1 _ _ np.1 upd_same), hat, ?_⟩
  refine ⟨_, rfl, s, c, rfl, S1, fun v r H2 okr hd S2 kp2 => ?_⟩
  have kp := ((kp_same e1).trans kp1).trans kp2
  have one : (y = "goes" ∨ y = "fails") → (tRet (tTup (tCons (tVar 1) (tCons (tVar 2) tNil)))) { nx := fun _ H' => (tSeq (tIfS (tTest (tOp rEq (tCall (sp_law_take K) [] E0 (tCons (tVar 0) (tCons (tC (.int 3)) tNil))) (tC (.int 0)))) (tRet (tTup (tCons (tVar 1) (tCons (tVar 2) (tCons (tVar 2) tNil))))) tNext)
    (tRet (tTup (tCons (tVar 1) (tCons (tVar 2) (tCons (tCall (sp_law_run K) [] E0 (tCons (tVar 0) tNil)) tNil)))))) { nx := fun _ H' => Q .non H', rt := Q } [some (.ref s), some (.str y), some v] H', rt := Q } [some (.ref s), some (.str y), some v] H2 := by
    intro hw
    refine ⟨_, rfl, _, rfl, few_ok (by show 2 ≤ _; decide), fun q hq => ?_⟩
    have e := same_new (o := .tup [V.str y, v]) hq
    exact k (.ref q) (.one y r) _ ⟨hw, okr⟩ (.tup (SqT.of upd_same) (.cons (.str _) (.cons (dp_same hd e) .nil))) (S2.same e) (kp.trans (kp_same e))
  have two : (y = "alike" ∨ y = "apart") → (tSeq (tIfS (tTest (tOp rEq (tCall (sp_law_take K) [] E0 (tCons (tVar 0) (tCons (tC (.int 3)) tNil))) (tC (.int 0)))) (tRet (tTup (tCons (tVar 1) (tCons (tVar 2) (tCons (tVar 2) tNil))))) tNext)
    (tRet (tTup (tCons (tVar 1) (tCons (tVar 2) (tCons (tCall (sp_law_run K) [] E0 (tCons (tVar 0) tNil)) tNil)))))) { nx := fun _ H' => Q .non H', rt := Q } [some (.ref s), some (.str y), some v] H2 := by
    intro hw
    obtain ⟨xs2, hs2⟩ := S2.at
    refine ⟨_, rfl, s, c, 3, rfl, by decide, by decide, S2, fun d2 H3 _ _ S3 kp3 => ⟨rfl, _, rfl, ?_⟩⟩
    have hd3 : Dp K H3 v (runD r) := Dp.kp' kp3 hs2 _ _ (noStrs r) hd
    refine ite2 (fun _ => ?_) (fun _ => ?_)
    · refine ⟨_, rfl, _, rfl, _, rfl, few_ok (by show 3 ≤ _; decide), fun q hq => ?_⟩
      have e := same_new (o := .tup [V.str y, v, v]) hq
      exact k (.ref q) (.two y r r) _ ⟨hw, okr, okr⟩ (.tup (SqT.of upd_same) (.cons (.str _) (.cons (dp_same hd3 e) (.cons (dp_same hd3 e) .nil)))) (S3.same e) ((kp.trans kp3).trans (kp_same e))
    · obtain ⟨xs3, hs3⟩ := S3.at
      refine ⟨_, rfl, _, rfl, _, rfl, s, c, rfl, S3, fun v2 r2 H4 okr2 hd2 S4 kp4 => ⟨few_ok (by show 3 ≤ _; decide), fun q hq => ?_⟩⟩
      have e := same_new (o := .tup [V.str y, v, v2]) hq
      have hd4 : Dp K H4 v (runD r) := Dp.kp' kp4 hs3 _ _ (noStrs r) hd3
      exact k (.ref q) (.two y r r2) _ ⟨hw, okr, okr2⟩ (.tup (SqT.of upd_same) (.cons (.str _) (.cons (dp_same hd4 e) (.cons (dp_same hd2 e) .nil)))) (S4.same e) (((kp.trans kp3).trans kp4).trans (kp_same e))
  refine ⟨_, rfl, rfl, _, rfl, ?_⟩
  rcases hy with hw | hw
  · rcases id hw with rfl | rfl
    · rw [dec_same]
      exact iteT (iteT (one hw))
    · rw [wf_goes]
      refine iteF ⟨_, rfl, rfl, _, rfl, ?_⟩
      rw [dec_same]
      exact iteT (one hw)
  · rcases id hw with rfl | rfl
    · rw [wa_goes]
      refine iteF ⟨_, rfl, rfl, _, rfl, ?_⟩
      rw [wa_fails]
      exact iteF (two hw)
    · rw [wp_goes]
      refine iteF ⟨_, rfl, rfl, _, rfl, ?_⟩
      rw [wp_fails]
      exact iteF (two hw)
end
end My


/-! K51j: _law_read_first, law. -/
namespace My
open PySem PySem.Spec PyProof.Rows L2 TL
open RZ (rIsTy)
section
variable {K : PySem.W.Frag} {vs : List V} {H : Hp} {Q : VK} {E : XK}
/-! ### how long the shown data may be -/
theorem big8 {c : Nat} (h : c ≤ 126) : c < 16 ^ 8 := Nat.lt_of_le_of_lt h (by decide)
theorem show_name {z : Str} (h : isName z = true) : Show (.str z) 122 0 := by
  have := (isName_len h).2
  refine Show.str (fun c hc => big8 ?_) (by omega)
  have := name_signs h c hc
  omega
theorem show_text {z : Str} (h : isText z = true) (hl : z.length ≤ 45) : Show (.str z) 452 0 :=
  Show.str (fun c hc => big8 (sign_range c (List.all_eq_true.mp h c hc)).2) (by omega)
theorem show_step {z : Str} (h : stepOk z = true) : Show (.str z) 132 0 := by
  have := step_len h
  refine Show.str (fun c hc => big8 ?_) (by omega)
  obtain ⟨d, l, e, hd, hl⟩ := step_head h
  rw [e] at hc
  rcases List.mem_cons.mp hc with rfl | hc
  · omega
  · have := nameOk_signs hl c hc
    omega
theorem show_sum {s : Sm} (ok : SmOk s) : Show (smD s) 3049 3 := by
  have ht : Show (.tuple (s.2.map tmD)) 1521 2 := by
    refine Show.tup (n := 251) (k := 1) (fun d hd => ?_) ?_ (Nat.le_refl _)
    · obtain ⟨t, ht, rfl⟩ := List.mem_map.mp hd
      have okt := ok.t t ht
      refine Show.tup (n := 122) (k := 0) (fun d hd => ?_) (by show 2 * (122 + 2) + 3 ≤ 251; decide) (Nat.le_refl _)
      rcases List.mem_cons.mp hd with rfl | hd
      · exact show_name okt.1
      · rw [List.mem_singleton.mp hd]
        exact Show.int okt.2.2.2 (by decide)
    · have := ok.few
      rw [List.length_map]
      have h3 : s.2.length * (251 + 2) ≤ 6 * (251 + 2) := Nat.mul_le_mul_right _ this
      omega
  refine Show.tup (n := 1521) (k := 2) (fun d hd => ?_) (by show 2 * (1521 + 2) + 3 ≤ 3049; decide) (Nat.le_refl _)
  rcases List.mem_cons.mp hd with rfl | hd
  · exact (Show.int (k := 0) ok.c (Nat.le_refl 61)).mono (by decide) (by decide)
  · rw [List.mem_singleton.mp hd]
    exact ht
theorem show_lit {z : Str} (h : ∀ c ∈ tl z, c < 16 ^ 8) (hl : z.length ≤ 5) : Show (.str z) 122 0 := Show.str h (by omega)
theorem lit_room : ∀ c ∈ tl ("room" : Str), c < 16 ^ 8 := by decide +kernel
theorem lit_reach : ∀ c ∈ tl ("reach" : Str), c < 16 ^ 8 := by decide +kernel
theorem lit_words : ∀ z ∈ (["goes", "fails", "alike", "apart"] : List Str), (∀ c ∈ tl z, c < 16 ^ 8) ∧ z.length ≤ 5 := by decide +kernel
theorem show_limit {L : Lm} (ok : LmOk L) : Show (lmD L) 20000 4 := by
  cases L with
  | room u l st s =>
    obtain ⟨o1, o2, o3, o4⟩ := ok
    refine Show.tup (n := 3049) (k := 3) (fun d hd => ?_) (by show 5 * (3049 + 2) + 3 ≤ 20000; decide) (Nat.le_refl _)
    rcases List.mem_cons.mp hd with rfl | hd
    · exact (show_lit lit_room (by decide +kernel)).mono (by decide) (by decide)
    rcases List.mem_cons.mp hd with rfl | hd
    · exact (show_name o1.u).mono (by decide) (by decide)
    rcases List.mem_cons.mp hd with rfl | hd
    · exact (show_name o1.l).mono (by decide) (by decide)
    rcases List.mem_cons.mp hd with rfl | hd
    · exact (show_text o2 o3).mono (by decide) (by decide)
    · rw [List.mem_singleton.mp hd]
      exact show_sum o4
  | reach u l s =>
    obtain ⟨o1, o4⟩ := ok
    refine Show.tup (n := 3049) (k := 3) (fun d hd => ?_) (by show 4 * (3049 + 2) + 3 ≤ 20000; decide) (Nat.le_refl _)
    rcases List.mem_cons.mp hd with rfl | hd
    · exact (show_lit lit_reach (by decide +kernel)).mono (by decide) (by decide)
    rcases List.mem_cons.mp hd with rfl | hd
    · exact (show_name o1.u).mono (by decide) (by decide)
    rcases List.mem_cons.mp hd with rfl | hd
    · exact (show_name o1.l).mono (by decide) (by decide)
    · rw [List.mem_singleton.mp hd]
      exact show_sum o4
theorem show_run {r : List Str} (ok : RunOk r) : Show (runD r) 8177 1 := by
  have few := ok.few
  obtain ⟨n, ss, rfl, h1, h2⟩ := ok.ex
  refine Show.tup (n := 132) (k := 0) (fun d hd => ?_) ?_ (Nat.le_refl _)
  · obtain ⟨t, ht, rfl⟩ := List.mem_map.mp hd
    rcases List.mem_cons.mp ht with rfl | ht
    · exact (show_name h1).mono (by decide) (by decide)
    · exact show_step (h2 t ht)
  · rw [List.length_map]
    have h3 : (n :: ss).length * (132 + 2) ≤ 61 * (132 + 2) := Nat.mul_le_mul_right _ few
    omega
theorem word_in {f : Fc} (ok : FcOk f) : f.word ∈ (["goes", "fails", "alike", "apart"] : List Str) := by
  cases f with
  | one w r =>
    show w ∈ _
    rcases ok.1 with e | e
    · rw [e]; decide +kernel
    · rw [e]; decide +kernel
  | two w r q =>
    show w ∈ _
    rcases ok.1 with e | e
    · rw [e]; decide +kernel
    · rw [e]; decide +kernel
theorem show_fact {f : Fc} (ok : FcOk f) : Show (fcD f) 30000 2 := by
  have hw := lit_words _ (word_in ok)
  refine Show.tup (n := 8177) (k := 1) (fun d hd => ?_) ?_ (Nat.le_refl _)
  · rcases List.mem_cons.mp hd with rfl | hd
    · exact (show_lit hw.1 hw.2).mono (by decide) (by decide)
    · obtain ⟨r, hr, rfl⟩ := List.mem_map.mp hd
      exact show_run (runs_ok ok r hr)
  · have := runs_few f
    rw [List.length_cons, List.length_map]
    have h3 : (f.runs.length + 1) * (8177 + 2) ≤ 3 * (8177 + 2) := Nat.mul_le_mul_right _ (by omega)
    omega
/-! ### _law_read_first -/
def sp_law_read_first (K : PySem.W.Frag) : Sp := fun vs H Q _ =>
  (∃ (v : V) (L : Lm), vs = [.str (lmT L), v, .bl false] ∧ LmOk L ∧ Dp K H v (lmD L) ∧ ∀ H', Same H H' → Q (.bl true) H') ∨
  (∃ (v : V) (f : Fc), vs = [.str (fcT f), v, .bl true] ∧ FcOk f ∧ Dp K H v (fcD f) ∧ ∀ H', Same H H' → Q (.bl true) H')
abbrev n_law_read_first : List Str := ["_law_text", "_law_thing", "_law_of_fact", "_law_found", "_law_written", "_law_again"]
def t_law_read_first (K : PySem.W.Frag) : TS :=
    (tSeq (tAsg (tIf (tB (tVar 2)) (tCall (sp_read_fact K) [] E0 (tCons (tVar 0) tNil)) (tCall (sp_read_limit K) [] E0 (tCons (tVar 0) tNil))) (gName 3))
    (tSeq (tIfS (tOr (tNot (tB (tCB rIsTy (tCons (tVar 3) (tCons (tC (.ty "tuple")) tNil))))) (tTest (tOp rNe (tCB (cRepr K) (tCons (tVar 3) tNil)) (tCB (cRepr K) (tCons (tVar 1) tNil))))) (tRet (tC (.bl false))) tNext)
    (tSeq (tAsg (tIf (tB (tVar 2)) (tCall (sp_write_fact K) [] E0 (tCons (tVar 1) tNil)) (tCall (sp_write_limit K) [] E0 (tCons (tVar 1) tNil))) (gName 4))
    (tSeq (tAsg (tIf (tB (tVar 2)) (tCall (sp_write_fact K) [] E0 (tCons (tVar 3) tNil)) (tCall (sp_write_limit K) [] E0 (tCons (tVar 3) tNil))) (gName 5))
    (tRet (tAndV (tCB rIsTy (tCons (tVar 4) (tCons (tC (.ty "str")) tNil))) (tAndV (tOp rEq (tVar 4) (tVar 0)) (tOp rEq (tVar 5) (tVar 0)))))))))
theorem len_law_read_first (h : sp_law_read_first K vs H Q E) : vs.length = 3 := by
  rcases h with ⟨_, _, rfl, _⟩ | ⟨_, _, rfl, _⟩
  · rfl
  · rfl
theorem ne_same (z : Str) : (!decide (V.str z = V.str z)) = false := by rw [dec_same]; rfl
theorem run_law_read_first (h : sp_law_read_first K vs H Q E) : t_law_read_first K { nx := fun _ H' => Q .non H', rt := Q } (start n_law_read_first vs) H := by
  unfold t_law_read_first
  rcases h with ⟨v, L, rfl, ok, hd, k⟩ | ⟨v, f, rfl, ok, hd, k⟩
  · obtain ⟨a, _, rfl, _, _⟩ := dp_tup (ds := match L with | .room u l st s => [.str "room", .str u, .str l, .str st, smD s] | .reach u l s => [.str "reach", .str u, .str l, smD s]) (by cases L <;> exact hd)
    have sh := show_limit ok
    refine ⟨_, rfl, _, rfl, iteF ⟨_, rfl, L, rfl, ok, fun v2 H1 s1 tp hd2 => ?_⟩⟩
    obtain ⟨p, xs, rfl, hp⟩ := tp
    have hd1 := dp_same hd s1
    refine ⟨_, rfl, _, _, rfl, .tup hp, _, rfl, iteF ?_⟩
    refine ⟨_, rfl, p, lmD L, rfl, hd2, sh.sh, sh.nd, Nat.le_trans sh.dp (by decide), Nat.le_trans sh.len (by decide), ?_⟩
    refine ⟨_, rfl, a, lmD L, rfl, hd1, sh.sh, sh.nd, Nat.le_trans sh.dp (by decide), Nat.le_trans sh.len (by decide), ?_⟩
    refine ⟨rfl, _, rfl, ?_⟩
    rw [ne_same]
    refine iteF ?_
    refine ⟨_, rfl, _, rfl, iteF ⟨_, rfl, _, L, rfl, hd1, ok, fun H2 s2 => ?_⟩⟩
    refine ⟨_, rfl, _, rfl, iteF ⟨_, rfl, _, L, rfl, dp_same hd2 s2, ok, fun H3 s3 => ?_⟩⟩
    refine ⟨_, rfl, _, _, rfl, .str _, _, rfl, iteT ?_⟩
    refine ⟨_, rfl, _, rfl, rfl, _, rfl, ?_⟩
    rw [dec_same]
    refine iteT ⟨_, rfl, _, rfl, rfl, ?_⟩
    rw [dec_same]
    exact k H3 ((s1.trans s2).trans s3)
  · obtain ⟨a, _, rfl, _, _⟩ := dp_tup hd
    have sh := show_fact ok
    refine ⟨_, rfl, _, rfl, iteT ⟨_, rfl, f, rfl, ok, fun v2 H1 s1 tp hd2 => ?_⟩⟩
    obtain ⟨p, xs, rfl, hp⟩ := tp
    have hd1 := dp_same hd s1
    refine ⟨_, rfl, _, _, rfl, .tup hp, _, rfl, iteF ?_⟩
    refine ⟨_, rfl, p, fcD f, rfl, hd2, sh.sh, sh.nd, Nat.le_trans sh.dp (by decide), Nat.le_trans sh.len (by decide), ?_⟩
    refine ⟨_, rfl, a, fcD f, rfl, hd1, sh.sh, sh.nd, Nat.le_trans sh.dp (by decide), Nat.le_trans sh.len (by decide), ?_⟩
    refine ⟨rfl, _, rfl, ?_⟩
    rw [ne_same]
    refine iteF ?_
    refine ⟨_, rfl, _, rfl, iteT ⟨_, rfl, _, f, rfl, hd1, ok, fun H2 s2 => ?_⟩⟩
    refine ⟨_, rfl, _, rfl, iteT ⟨_, rfl, _, f, rfl, dp_same hd2 s2, ok, fun H3 s3 => ?_⟩⟩
    refine ⟨_, rfl, _, _, rfl, .str _, _, rfl, iteT ?_⟩
    refine ⟨_, rfl, _, rfl, rfl, _, rfl, ?_⟩
    rw [dec_same]
    refine iteT ⟨_, rfl, _, rfl, rfl, ?_⟩
    rw [dec_same]
    exact k H3 ((s1.trans s2).trans s3)
/-! ### law -/
def sp_law (K : PySem.W.Frag) : Sp := fun vs H Q _ => ∃ (a : Addr) (ns : List Int), vs = [.ref a] ∧ SqL K H a (ns.map V.int) ∧ ∀ H', Q (.bl true) H'
abbrev n_law : List Str := ["_law_script", "_law_source_here", "_law_k", "_law_most", "_law_limit_here", "_law_fact_here"]
def tl_law (K : PySem.W.Frag) : TS :=
    (tSeq (tAsg (tCall (sp_law_limit K) [] E0 (tCons (tVar 1) (tCons (tVar 3) tNil))) (gName 4))
    (tSeq (tIfS (tNot (tB (tCall (sp_law_read_first K) [] E0 (tCons (tCall (sp_law_limit_text K) [] E0 (tCons (tVar 4) tNil)) (tCons (tVar 4) (tCons (tC (.bl false)) tNil)))))) (tRet (tC (.bl false))) tNext)
    (tSeq (tAsg (tCall (sp_law_fact K) [] E0 (tCons (tVar 1) tNil)) (gName 5))
    (tIfS (tNot (tB (tCall (sp_law_read_first K) [] E0 (tCons (tCall (sp_law_fact_text K) [] E0 (tCons (tVar 5) tNil)) (tCons (tVar 5) (tCons (tC (.bl true)) tNil)))))) (tRet (tC (.bl false))) tNext))))
def t_law (K : PySem.W.Frag) : TS :=
    (tSeq (tAsg (tCall (sp_law_source K) [] E0 (tCons (tVar 0) tNil)) (gName 1))
    (tSeq (tFor (iRng1 (tCons (tC (.int 3)) tNil)) (gName 2) (tSeq (tAsg (tC (.int 3)) (gName 3))
    (tSeq (tIfS (tTest (tOp rEq (tCall (sp_law_take K) [] E0 (tCons (tVar 1) (tCons (tC (.int 8)) tNil))) (tC (.int 0)))) (tAsg (tC (.int 6)) (gName 3)) tNext)
    (tl_law K))))
    (tRet (tC (.bl true)))))
theorem len_law (h : sp_law K vs H Q E) : vs.length = 1 := by
  obtain ⟨_, _, rfl, _⟩ := h
  rfl
theorem run_tl {s c : Addr} {a b u1 u2 : Option V} {m : Int} {H1 : Hp} {D : Ends} (hm0 : 0 ≤ m) (hm6 : m ≤ 6) (S1 : Src H1 s c)
    (k : ∀ (u1 u2 : Option V) H', Src H' s c → D.nx [a, some (.ref s), b, some (.int m), u1, u2] H') : tl_law K D [a, some (.ref s), b, some (.int m), u1, u2] H1 := by
  refine ⟨_, rfl, _, rfl, s, c, m, rfl, hm0, hm6, S1, fun v L H2 ok hd S2 _ => ?_⟩
  refine ⟨_, rfl, v, L, rfl, hd, ok, _, rfl, Or.inl ⟨v, L, rfl, ok, hd, fun H3 s3 => ⟨_, rfl, iteF ?_⟩⟩⟩
  refine ⟨_, rfl, s, c, rfl, S2.same s3, fun w f H4 okf hdf S4 _ => ?_⟩
  refine ⟨_, rfl, w, f, rfl, hdf, okf, _, rfl, Or.inr ⟨w, f, rfl, okf, hdf, fun H5 s5 => ⟨_, rfl, iteF ?_⟩⟩⟩
  exact k _ _ H5 (S4.same s5)
theorem run_law (h : sp_law K vs H Q E) : t_law K { nx := fun _ H' => Q .non H', rt := Q } (start n_law vs) H := by
  obtain ⟨a, ns, rfl, ha, k⟩ := h
  unfold t_law
  refine ⟨_, rfl, a, ns, rfl, ha, fun s c H1 _ _ _ S1 => ?_⟩
  refine ⟨3, rfl, by decide, by decide, ?_⟩
  refine for_it walk_range (fun i σ H' => ∃ u0 u1 u2 u3 u4 : Option V, σ = [u0, some (.ref s), u1, u2, u3, u4] ∧ Src H' s c) ⟨_, _, _, _, _, rfl, S1⟩ (fun _ _ _ _ _ => True.intro) ?_ ?_
  · rintro i x σ H3 H' hi ⟨u0, u1, u2, u3, u4, rfl, S3⟩ ⟨rfl, rfl⟩
    refine ⟨_, rfl, s, c, 8, rfl, by decide, by decide, S3, fun d H4 _ _ S4 _ => ⟨rfl, _, rfl, ?_⟩⟩
    refine ite2 (fun _ => ?_) (fun _ => ?_)
    · exact run_tl (m := 6) (by decide) (by decide) S4 fun _ _ H' S => ⟨_, _, _, _, _, rfl, S⟩
    · exact run_tl (m := 3) (by decide) (by decide) S4 fun _ _ H' S => ⟨_, _, _, _, _, rfl, S⟩
  · rintro σ H' ⟨u0, u1, u2, u3, u4, rfl, S3⟩
    exact k H'
end
end My


namespace My
open PySem PySem.Spec PyProof.Rows L2 TL
def top (i : Nat) : Stmt := PySem.Challenge.pw_drawingoffice_k51_limits_and_facts_in_te.main.body.getD i (.Pass ⟨0, 0, 0, 0⟩)

abbrev s_is_name : Stmt := top 9
theorem sc_is_name : FnScope n_is_name ["text"] (defScope s_is_name) := ⟨rfl, rfl, rfl, by decide +kernel, rfl, by decide +kernel, by decide +kernel⟩
abbrev s_is_text : Stmt := top 11
theorem sc_is_text : FnScope n_is_text ["text"] (defScope s_is_text) := ⟨rfl, rfl, rfl, by decide +kernel, rfl, by decide +kernel, by decide +kernel⟩
abbrev s_number_of : Stmt := top 24
theorem sc_number_of : FnScope n_number_of ["word"] (defScope s_number_of) := ⟨rfl, rfl, rfl, by decide +kernel, rfl, by decide +kernel, by decide +kernel⟩
abbrev s_sum_words : Stmt := top 31
theorem sc_sum_words : FnScope n_sum_words ["amount"] (defScope s_sum_words) := ⟨rfl, rfl, rfl, by decide +kernel, rfl, by decide +kernel, by decide +kernel⟩
abbrev s_write_fact : Stmt := top 34
theorem sc_write_fact : FnScope n_write_fact ["fact"] (defScope s_write_fact) := ⟨rfl, rfl, rfl, by decide +kernel, rfl, by decide +kernel, by decide +kernel⟩
abbrev s_law_mixed : Stmt := top 36
theorem sc_law_mixed : FnScope n_law_mixed ["_law_cell", "_law_place"] (defScope s_law_mixed) := ⟨rfl, rfl, rfl, by decide +kernel, rfl, by decide +kernel, by decide +kernel⟩
abbrev s_law_source : Stmt := top 37
theorem sc_law_source : FnScope n_law_source ["_law_script"] (defScope s_law_source) := ⟨rfl, rfl, rfl, by decide +kernel, rfl, by decide +kernel, by decide +kernel⟩
abbrev s_law_chars : Stmt := top 40
theorem sc_law_chars : FnScope n_law_chars [] (defScope s_law_chars) := ⟨rfl, rfl, rfl, by decide +kernel, rfl, by decide +kernel, by decide +kernel⟩
abbrev s_law_limit_text : Stmt := top 45
theorem sc_law_limit_text : FnScope n_law_limit_text ["_law_limit_here"] (defScope s_law_limit_text) := ⟨rfl, rfl, rfl, by decide +kernel, rfl, by decide +kernel, by decide +kernel⟩
abbrev s_law_fact_text : Stmt := top 46
theorem sc_law_fact_text : FnScope n_law_fact_text ["_law_fact_here"] (defScope s_law_fact_text) := ⟨rfl, rfl, rfl, by decide +kernel, rfl, by decide +kernel, by decide +kernel⟩
abbrev s_is_step_name : Stmt := top 10
theorem sc_is_step_name : FnScope n_is_step_name ["text"] (defScope s_is_step_name) := ⟨rfl, rfl, rfl, by decide +kernel, rfl, by decide +kernel, by decide +kernel⟩
abbrev s_is_step : Stmt := top 17
theorem sc_is_step : FnScope n_is_step ["text"] (defScope s_is_step) := ⟨rfl, rfl, rfl, by decide +kernel, rfl, by decide +kernel, by decide +kernel⟩
abbrev s_sum_of : Stmt := top 25
theorem sc_sum_of : FnScope n_sum_of ["words"] (defScope s_sum_of) := ⟨rfl, rfl, rfl, by decide +kernel, rfl, by decide +kernel, by decide +kernel⟩
abbrev s_limit_words : Stmt := top 32
theorem sc_limit_words : FnScope n_limit_words ["limit"] (defScope s_limit_words) := ⟨rfl, rfl, rfl, by decide +kernel, rfl, by decide +kernel, by decide +kernel⟩
abbrev s_law_take : Stmt := top 38
theorem sc_law_take : FnScope n_law_take ["_law_source_here", "_law_many"] (defScope s_law_take) := ⟨rfl, rfl, rfl, by decide +kernel, rfl, by decide +kernel, by decide +kernel⟩
abbrev s_is_sum : Stmt := top 14
theorem sc_is_sum : FnScope n_is_sum ["value"] (defScope s_is_sum) := ⟨rfl, rfl, rfl, by decide +kernel, rfl, by decide +kernel, by decide +kernel⟩
abbrev s_is_run : Stmt := top 18
theorem sc_is_run : FnScope n_is_run ["run"] (defScope s_is_run) := ⟨rfl, rfl, rfl, by decide +kernel, rfl, by decide +kernel, by decide +kernel⟩
abbrev s_write_limit : Stmt := top 33
theorem sc_write_limit : FnScope n_write_limit ["limit"] (defScope s_write_limit) := ⟨rfl, rfl, rfl, by decide +kernel, rfl, by decide +kernel, by decide +kernel⟩
abbrev s_law_name : Stmt := top 39
theorem sc_law_name : FnScope n_law_name ["_law_source_here"] (defScope s_law_name) := ⟨rfl, rfl, rfl, by decide +kernel, rfl, by decide +kernel, by decide +kernel⟩
abbrev s_law_number : Stmt := top 41
theorem sc_law_number : FnScope n_law_number ["_law_source_here"] (defScope s_law_number) := ⟨rfl, rfl, rfl, by decide +kernel, rfl, by decide +kernel, by decide +kernel⟩
abbrev s_law_stack : Stmt := top 43
theorem sc_law_stack : FnScope n_law_stack ["_law_source_here"] (defScope s_law_stack) := ⟨rfl, rfl, rfl, by decide +kernel, rfl, by decide +kernel, by decide +kernel⟩
abbrev s_is_limit : Stmt := top 15
theorem sc_is_limit : FnScope n_is_limit ["value"] (defScope s_is_limit) := ⟨rfl, rfl, rfl, by decide +kernel, rfl, by decide +kernel, by decide +kernel⟩
abbrev s_is_fact : Stmt := top 21
theorem sc_is_fact : FnScope n_is_fact ["fact"] (defScope s_is_fact) := ⟨rfl, rfl, rfl, by decide +kernel, rfl, by decide +kernel, by decide +kernel⟩
abbrev s_law_sum : Stmt := top 42
theorem sc_law_sum : FnScope n_law_sum ["_law_source_here", "_law_most"] (defScope s_law_sum) := ⟨rfl, rfl, rfl, by decide +kernel, rfl, by decide +kernel, by decide +kernel⟩
abbrev s_law_run : Stmt := top 47
theorem sc_law_run : FnScope n_law_run ["_law_source_here"] (defScope s_law_run) := ⟨rfl, rfl, rfl, by decide +kernel, rfl, by decide +kernel, by decide +kernel⟩
abbrev s_limit_of : Stmt := top 26
theorem sc_limit_of : FnScope n_limit_of ["words"] (defScope s_limit_of) := ⟨rfl, rfl, rfl, by decide +kernel, rfl, by decide +kernel, by decide +kernel⟩
abbrev s_fact_of : Stmt := top 27
theorem sc_fact_of : FnScope n_fact_of ["words"] (defScope s_fact_of) := ⟨rfl, rfl, rfl, by decide +kernel, rfl, by decide +kernel, by decide +kernel⟩
abbrev s_law_limit : Stmt := top 44
theorem sc_law_limit : FnScope n_law_limit ["_law_source_here", "_law_most"] (defScope s_law_limit) := ⟨rfl, rfl, rfl, by decide +kernel, rfl, by decide +kernel, by decide +kernel⟩
abbrev s_law_fact : Stmt := top 48
theorem sc_law_fact : FnScope n_law_fact ["_law_source_here"] (defScope s_law_fact) := ⟨rfl, rfl, rfl, by decide +kernel, rfl, by decide +kernel, by decide +kernel⟩
abbrev s_read_limit : Stmt := top 28
theorem sc_read_limit : FnScope n_read_limit ["text"] (defScope s_read_limit) := ⟨rfl, rfl, rfl, by decide +kernel, rfl, by decide +kernel, by decide +kernel⟩
abbrev s_read_fact : Stmt := top 29
theorem sc_read_fact : FnScope n_read_fact ["text"] (defScope s_read_fact) := ⟨rfl, rfl, rfl, by decide +kernel, rfl, by decide +kernel, by decide +kernel⟩
abbrev s_law_read_first : Stmt := top 49
theorem sc_law_read_first : FnScope n_law_read_first ["_law_text", "_law_thing", "_law_of_fact"] (defScope s_law_read_first) := ⟨rfl, rfl, rfl, by decide +kernel, rfl, by decide +kernel, by decide +kernel⟩
abbrev s_law : Stmt := top 50
theorem sc_law : FnScope n_law ["_law_script"] (defScope s_law) := ⟨rfl, rfl, rfl, by decide +kernel, rfl, by decide +kernel, by decide +kernel⟩
section
variable {P : Program} {w : World} {K : PySem.W.Frag} {mg : Str → Option Value} {base : Heap} {f : Addr} {fd : FuncData}
theorem ok_is_name (B : Txt w K mg) (F : FnP K "is_name" s_is_name f fd) (hm : mg "is_name" = some (.ref f)) : OkF P w K mg base "is_name" 1 ["text"] (sp_is_name K) := by
  refine ⟨f, fd, hm, F.kp, F.bindsN (fun _ _ _ _ _ _ us hl => match us, hl with | [_], _ => rfl), ?_⟩
  refine F.ok sc_is_name (fun vs H Q E h => len_is_name h) (fun cdv A outer s H vs Q E hr h => ⟨t_is_name K, PSs.nox ?_, run_is_name h⟩)
  exact (pss_cons (ps_if (PW.pt (pw_or (pt_not (pt_chain op_le op_le pe_int (pe_callB call_len_str rfl B.len (by decide +kernel) (pa_cons (pv 0) pa_nil)) (pe_gint B.c_LONGEST_NAME))) (pw_or1 (pt_cmpR op_notIn_sign (pe_ix ix_str (pv 0) pe_int (fun _ _ => rfl)) (pe_gstr B.c_LETTERS) rfl)))) (pss_one (ps_ret pe_bl)) pss_nil)
      (pss_one (ps_ret (pe_callB (cr_all rfl) rfl B.all_ (by decide +kernel) (pa_cons (pe_lc (own := [("char", 1)]) (g := (gName 1)) (tt := tYes) rfl sc_is_name.nd (pi_str (pv 0)) (blkOk_by (N := n_is_name) (sc := defScope s_is_name) (by decide +kernel)) (fun _ _ _ _ _ => (pg_name (i := 1) sc_is_name.nd rfl (Or.inl rfl))) (fun _ _ _ _ _ => pts_nil) (fun _ _ _ _ _ => (pe_or (pe_cmpR op_in_sign (pv 1) (pe_gstr B.c_LETTERS) rfl) (pe_one (pe_cmpR op_in_sign (pv 1) (pe_gstr B.c_DIGITS) rfl))))) pa_nil)))))
theorem ok_is_text (B : Txt w K mg) (F : FnP K "is_text" s_is_text f fd) (hm : mg "is_text" = some (.ref f)) : OkF P w K mg base "is_text" 1 ["text"] (sp_is_text K) := by
  refine ⟨f, fd, hm, F.kp, F.bindsN (fun _ _ _ _ _ _ us hl => match us, hl with | [_], _ => rfl), ?_⟩
  refine F.ok sc_is_text (fun vs H Q E h => len_is_text h) (fun cdv A outer s H vs Q E hr h => ⟨t_is_text K, PSs.nox ?_, run_is_text h⟩)
  exact (pss_one (ps_ret (pe_callB (cr_all rfl) rfl B.all_ (by decide +kernel) (pa_cons (pe_lc (own := [("char", 1)]) (g := (gName 1)) (tt := tYes) rfl sc_is_text.nd (pi_str (pv 0)) (blkOk_by (N := n_is_text) (sc := defScope s_is_text) (by decide +kernel)) (fun _ _ _ _ _ => (pg_name (i := 1) sc_is_text.nd rfl (Or.inl rfl))) (fun _ _ _ _ _ => pts_nil) (fun _ _ _ _ _ => (pe_cmpR op_in_sign (pv 1) (pe_gstr B.c_CHARACTERS) rfl))) pa_nil))))
theorem ok_number_of (B : Txt w K mg) (F : FnP K "number_of" s_number_of f fd) (hm : mg "number_of" = some (.ref f)) : OkF P w K mg base "number_of" 1 ["word"] (sp_number_of K) := by
  refine ⟨f, fd, hm, F.kp, F.bindsN (fun _ _ _ _ _ _ us hl => match us, hl with | [_], _ => rfl), ?_⟩
  refine F.ok sc_number_of (fun vs H Q E h => len_number_of h) (fun cdv A outer s H vs Q E hr h => ⟨t_number_of K, PSs.nox ?_, run_number_of h⟩)
  exact (pss_cons (ps_set (i := 1) sc_number_of.nd rfl (Or.inl rfl) (pe_ifExp (pt_cmpR op_eq (pe_slice sl_str (pv 0) po_none (po_some pe_int)) pe_str (nomark _)) (pe_slice sl_str (pv 0) (po_some pe_int) po_none) (pv 0)))
      (pss_cons (ps_if (PW.pt (pw_or (pt_not (pt_chain op_le op_le pe_int (pe_callB call_len_str rfl B.len (by decide +kernel) (pa_cons (pv 1) pa_nil)) (pe_gint B.c_MOST_DIGITS))) (pw_or1 (pt_not (pt_val (pe_callB (cr_all rfl) rfl B.all_ (by decide +kernel) (pa_cons (pe_lc (own := [("char", 2)]) (g := (gName 2)) (tt := tYes) rfl sc_number_of.nd (pi_str (pv 1)) (blkOk_by (N := n_number_of) (sc := defScope s_number_of) (by decide +kernel)) (fun _ _ _ _ _ => (pg_name (i := 2) sc_number_of.nd rfl (Or.inl rfl))) (fun _ _ _ _ _ => pts_nil) (fun _ _ _ _ _ => (pe_cmpR op_in_sign (pv 2) (pe_gstr B.c_DIGITS) rfl))) pa_nil))))))) (pss_one (ps_ret pe_non)) pss_nil)
      (pss_cons (ps_if (PW.pt (pw_and (pt_cmpR op_eq (pe_ix ix_str (pv 1) pe_int (fun _ _ => rfl)) pe_str (nomark _)) (pw_and1 (pt_cmpR op_ne (pv 0) pe_str (nomark _))))) (pss_one (ps_ret pe_non)) pss_nil)
      (pss_one (ps_ret (pe_callTy call_int_str rfl B.int_ (by decide +kernel) (pa_cons (pv 0) pa_nil)))))))
theorem ok_sum_words (B : Txt w K mg) (F : FnP K "sum_words" s_sum_words f fd) (hm : mg "sum_words" = some (.ref f)) : OkF P w K mg base "sum_words" 1 ["amount"] (sp_sum_words K) := by
  refine ⟨f, fd, hm, F.kp, F.bindsN (fun _ _ _ _ _ _ us hl => match us, hl with | [_], _ => rfl), ?_⟩
  refine F.ok sc_sum_words (fun vs H Q E h => len_sum_words h) (fun cdv A outer s H vs Q E hr h => ⟨t_sum_words K, PSs.nox ?_, run_sum_words h⟩)
  exact (pss_one (ps_ret (pe_op op_cat (pe_lst (pa_cons (pe_callTy call_str_int rfl B.str_ (by decide +kernel) (pa_cons (pe_ix ix_tup (pv 0) pe_int (fun _ _ => rfl)) pa_nil)) pa_nil)) (pe_lc (own := [("name", 1), ("times", 2)]) (g := (gTup K 2 (gCons (gName 1) (gCons (gName 2) gNil)))) (tt := tYes) rfl sc_sum_words.nd (pi_tup (pe_ix ix_tup (pv 0) pe_int (fun _ _ => rfl))) (blkOk_by (N := n_sum_words) (sc := defScope s_sum_words) (by decide +kernel)) (fun _ _ _ _ _ => (pg_tup rfl (pgs_cons (pg_name (i := 1) sc_sum_words.nd rfl (Or.inl rfl)) (pgs_cons (pg_name (i := 2) sc_sum_words.nd rfl (Or.inl rfl)) pgs_nil)))) (fun _ _ _ _ _ => pts_nil) (fun _ _ _ _ _ => (pe_joined (.cons (pe_fmt (pv 2)) (.cons pe_str (.cons (pe_fmt (pv 1)) .nil)))))))))
theorem ok_write_fact (B : Txt w K mg) (F : FnP K "write_fact" s_write_fact f fd) (hm : mg "write_fact" = some (.ref f)) : OkF P w K mg base "write_fact" 1 ["fact"] (sp_write_fact K) := by
  refine ⟨f, fd, hm, F.kp, F.bindsN (fun _ _ _ _ _ _ us hl => match us, hl with | [_], _ => rfl), ?_⟩
  refine F.ok sc_write_fact (fun vs H Q E h => len_write_fact h) (fun cdv A outer s H vs Q E hr h => ⟨t_write_fact K, PSs.nox ?_, run_write_fact h⟩)
  exact (pss_one (ps_ret (pe_op op_add_str (pe_op op_add_str (pe_ix ix_tup (pv 0) pe_int (fun _ _ => rfl)) pe_str) (pe_join pe_str (pe_lc (own := [("run", 1)]) (g := (gName 1)) (tt := tYes) rfl sc_write_fact.nd (pi_tup (pe_slice sl_tup (pv 0) (po_some pe_int) po_none)) (blkOk_by (N := n_write_fact) (sc := defScope s_write_fact) (by decide +kernel)) (fun _ _ _ _ _ => (pg_name (i := 1) sc_write_fact.nd rfl (Or.inl rfl))) (fun _ _ _ _ _ => pts_nil) (fun _ _ _ _ _ => (pe_join pe_str (pv 1))))))))
theorem ok_law_mixed (B : Txt w K mg) (F : FnP K "_law_mixed" s_law_mixed f fd) (hm : mg "_law_mixed" = some (.ref f)) : OkF P w K mg base "_law_mixed" 1 ["_law_cell", "_law_place"] (sp_law_mixed K) := by
  refine ⟨f, fd, hm, F.kp, F.bindsN (fun _ _ _ _ _ _ us hl => match us, hl with | [_, _], _ => rfl), ?_⟩
  refine F.ok sc_law_mixed (fun vs H Q E h => len_law_mixed h) (fun cdv A outer s H vs Q E hr h => ⟨t_law_mixed K, PSs.nox ?_, run_law_mixed h⟩)
  exact (pss_cons (ps_set (i := 2) sc_law_mixed.nd rfl (Or.inl rfl) (pe_op op_mod (pe_callTy call_int1 rfl B.int_ (by decide +kernel) (pa_cons (pe_op op_add (pe_op op_add (pe_op op_mul (pe_callB call_abs rfl B.abs_ (by decide +kernel) (pa_cons (pv 0) pa_nil)) pe_int) (pe_op op_mul (pv 1) pe_int)) pe_int) pa_nil)) pe_int))
      (pss_cons (ps_set (i := 3) sc_law_mixed.nd rfl (Or.inl rfl) (pe_op op_mod (pe_callTy call_int1 rfl B.int_ (by decide +kernel) (pa_cons (pe_op op_add (pe_op op_add (pe_op op_add (pe_op op_mul (pv 2) (pv 2)) (pe_op op_mul (pe_callB call_abs rfl B.abs_ (by decide +kernel) (pa_cons (pv 0) pa_nil)) pe_int)) (pe_op op_mul (pv 1) pe_int)) pe_int) pa_nil)) pe_int))
      (pss_cons (ps_set (i := 4) sc_law_mixed.nd rfl (Or.inl rfl) (pe_op op_mod (pe_callTy call_int1 rfl B.int_ (by decide +kernel) (pa_cons (pe_op op_add (pe_op op_add (pe_op op_mul (pv 3) pe_int) (pe_op op_mul (pv 2) pe_int)) pe_int) pa_nil)) pe_int))
      (pss_one (ps_ret (pe_op op_add (pv 4) pe_int))))))
theorem ok_law_source (B : Txt w K mg) (F : FnP K "_law_source" s_law_source f fd) (hm : mg "_law_source" = some (.ref f)) : OkF P w K mg base "_law_source" 1 ["_law_script"] (sp_law_source K) := by
  refine ⟨f, fd, hm, F.kp, F.bindsN (fun _ _ _ _ _ _ us hl => match us, hl with | [_], _ => rfl), ?_⟩
  refine F.ok sc_law_source (fun vs H Q E h => len_law_source h) (fun cdv A outer s H vs Q E hr h => ⟨t_law_source K, PSs.nox ?_, run_law_source h⟩)
  exact (pss_one (ps_ret (pe_lst (pa_cons pe_int (pa_cons pe_int (pa_cons (pe_callTy call_list_of rfl B.list_ (by decide +kernel) (pa_cons (pv 0) pa_nil)) pa_nil))))))
theorem ok_law_chars (B : Txt w K mg) (F : FnP K "_law_chars" s_law_chars f fd) (hm : mg "_law_chars" = some (.ref f)) : OkF P w K mg base "_law_chars" 1 [] (sp_law_chars K) := by
  refine ⟨f, fd, hm, F.kp, F.bindsN (fun _ _ _ _ _ _ us hl => match us, hl with | [], _ => rfl), ?_⟩
  refine F.ok sc_law_chars (fun vs H Q E h => len_law_chars h) (fun cdv A outer s H vs Q E hr h => ⟨t_law_chars K, PSs.nox ?_, run_law_chars h⟩)
  exact (pss_cons (ps_set (i := 0) sc_law_chars.nd rfl (Or.inl rfl) pe_str)
      (pss_one (ps_ret (pe_op op_add_str (pv 0) pe_str))))
theorem ok_law_limit_text (B : Txt w K mg) (F : FnP K "_law_limit_text" s_law_limit_text f fd) (hm : mg "_law_limit_text" = some (.ref f)) : OkF P w K mg base "_law_limit_text" 1 ["_law_limit_here"] (sp_law_limit_text K) := by
  refine ⟨f, fd, hm, F.kp, F.bindsN (fun _ _ _ _ _ _ us hl => match us, hl with | [_], _ => rfl), ?_⟩
  refine F.ok sc_law_limit_text (fun vs H Q E h => len_law_limit_text h) (fun cdv A outer s H vs Q E hr h => ⟨t_law_limit_text K, PSs.nox ?_, run_law_limit_text h⟩)
  exact (pss_cons (ps_set (i := 1) sc_law_limit_text.nd rfl (Or.inl rfl) (pe_op op_add_str (pe_op op_add_str (pe_op op_add_str pe_str (pe_ix ix_tup (pv 0) pe_int (fun _ _ => rfl))) pe_str) (pe_ix ix_tup (pv 0) pe_int (fun _ _ => rfl))))
      (pss_cons (ps_if (pt_cmpR op_eq (pe_ix ix_tup (pv 0) pe_int (fun _ _ => rfl)) pe_str (nomark _)) (pss_one (ps_set (i := 1) sc_law_limit_text.nd rfl (Or.inl rfl) (pe_op op_add_str (pe_op op_add_str (pe_op op_add_str (pe_op op_add_str (pe_op op_add_str pe_str (pe_ix ix_tup (pv 0) pe_int (fun _ _ => rfl))) pe_str) (pe_ix ix_tup (pv 0) pe_int (fun _ _ => rfl))) pe_str) (pe_ix ix_tup (pv 0) pe_int (fun _ _ => rfl))))) pss_nil)
      (pss_cons (ps_set (i := 1) sc_law_limit_text.nd rfl (Or.inl rfl) (pe_op op_add_str (pe_op op_add_str (pv 1) pe_str) (pe_callTy call_str_int rfl B.str_ (by decide +kernel) (pa_cons (pe_ix ix_tup (pe_ix ix_tup (pv 0) (pe_un un_neg pe_int) (fun _ _ => rfl)) pe_int (fun _ _ => rfl)) pa_nil))))
      (pss_cons (ps_for PassesOwn.never rfl (pi_tup (pe_ix ix_tup (pe_ix ix_tup (pv 0) (pe_un un_neg pe_int) (fun _ _ => rfl)) pe_int (fun _ _ => rfl))) (pg_name (i := 2) sc_law_limit_text.nd rfl (Or.inl rfl)) (pss_one (ps_set (i := 1) sc_law_limit_text.nd rfl (Or.inl rfl) (pe_op op_add_str (pe_op op_add_str (pe_op op_add_str (pe_op op_add_str (pv 1) pe_str) (pe_callTy call_str_int rfl B.str_ (by decide +kernel) (pa_cons (pe_ix ix_tup (pv 2) pe_int (fun _ _ => rfl)) pa_nil))) pe_str) (pe_ix ix_tup (pv 2) pe_int (fun _ _ => rfl))))))
      (pss_one (ps_ret (pv 1)))))))
theorem ok_law_fact_text (B : Txt w K mg) (F : FnP K "_law_fact_text" s_law_fact_text f fd) (hm : mg "_law_fact_text" = some (.ref f)) : OkF P w K mg base "_law_fact_text" 1 ["_law_fact_here"] (sp_law_fact_text K) := by
  refine ⟨f, fd, hm, F.kp, F.bindsN (fun _ _ _ _ _ _ us hl => match us, hl with | [_], _ => rfl), ?_⟩
  refine F.ok sc_law_fact_text (fun vs H Q E h => len_law_fact_text h) (fun cdv A outer s H vs Q E hr h => ⟨t_law_fact_text K, PSs.nox ?_, run_law_fact_text h⟩)
  exact (pss_cons (ps_set (i := 1) sc_law_fact_text.nd rfl (Or.inl rfl) (pe_op op_add_str (pe_op op_add_str (pe_ix ix_tup (pv 0) pe_int (fun _ _ => rfl)) pe_str) (pe_join pe_str (pe_ix ix_tup (pv 0) pe_int (fun _ _ => rfl)))))
      (pss_cons (ps_if (pt_cmpR op_eq (pe_callB call_len_seq rfl B.len (by decide +kernel) (pa_cons (pv 0) pa_nil)) pe_int (nomark _)) (pss_one (ps_set (i := 1) sc_law_fact_text.nd rfl (Or.inl rfl) (pe_op op_add_str (pe_op op_add_str (pv 1) pe_str) (pe_join pe_str (pe_ix ix_tup (pv 0) pe_int (fun _ _ => rfl)))))) pss_nil)
      (pss_one (ps_ret (pv 1)))))
theorem ok_is_step_name (B : Txt w K mg) (F : FnP K "is_step_name" s_is_step_name f fd) (hm : mg "is_step_name" = some (.ref f)) (G_is_name : OkF P w K mg base "is_name" 1 ["text"] (sp_is_name K)) : OkF P w K mg base "is_step_name" 2 ["text"] (sp_is_step_name K) := by
  refine ⟨f, fd, hm, F.kp, F.bindsN (fun _ _ _ _ _ _ us hl => match us, hl with | [_], _ => rfl), ?_⟩
  refine F.ok sc_is_step_name (fun vs H Q E h => len_is_step_name h) (fun cdv A outer s H vs Q E hr h => ⟨t_is_step_name K, PSs.nox ?_, run_is_step_name h⟩)
  exact (pss_one (ps_ret (pe_and (pe_fn G_is_name (hr.mono (by decide)) rfl (pa_cons (pv 0) pa_nil)) (pe_one (pe_cmpR op_ne (pv 0) (pe_gstr B.c_FRAME) (nomark _))))))
theorem ok_is_step (B : Txt w K mg) (F : FnP K "is_step" s_is_step f fd) (hm : mg "is_step" = some (.ref f)) (G_is_name : OkF P w K mg base "is_name" 1 ["text"] (sp_is_name K)) : OkF P w K mg base "is_step" 2 ["text"] (sp_is_step K) := by
  refine ⟨f, fd, hm, F.kp, F.bindsN (fun _ _ _ _ _ _ us hl => match us, hl with | [_], _ => rfl), ?_⟩
  refine F.ok sc_is_step (fun vs H Q E h => len_is_step h) (fun cdv A outer s H vs Q E hr h => ⟨t_is_step K, PSs.nox ?_, run_is_step h⟩)
  exact (pss_one (ps_ret (pe_and (pe_cmpR op_in_seq (pe_slice sl_str (pv 0) po_none (po_some pe_int)) (pe_tup (pa_cons pe_str (pa_cons pe_str pa_nil))) rfl) (pe_one (pe_fn G_is_name (hr.mono (by decide)) rfl (pa_cons (pe_slice sl_str (pv 0) (po_some pe_int) po_none) pa_nil))))))
theorem ok_sum_of (B : Txt w K mg) (F : FnP K "sum_of" s_sum_of f fd) (hm : mg "sum_of" = some (.ref f)) (G_number_of : OkF P w K mg base "number_of" 1 ["word"] (sp_number_of K)) : OkF P w K mg base "sum_of" 2 ["words"] (sp_sum_of K) := by
  refine ⟨f, fd, hm, F.kp, F.bindsN (fun _ _ _ _ _ _ us hl => match us, hl with | [_], _ => rfl), ?_⟩
  refine F.ok sc_sum_of (fun vs H Q E h => len_sum_of h) (fun cdv A outer s H vs Q E hr h => ⟨t_sum_of K, PSs.nox ?_, run_sum_of h⟩)
  exact (pss_cons (ps_setLc (i := 1) (own := [("word", 2)]) (g := (gName 2)) (tt := tYes) rfl sc_sum_of.nd rfl rfl (sw_true rfl rfl rfl (by decide +kernel)) (pi_list (pv 0)) (blkOk_by (N := n_sum_of) (sc := defScope s_sum_of) (by decide +kernel)) (fun _ _ _ _ _ => (pg_name (i := 2) sc_sum_of.nd rfl (Or.inl rfl))) (fun _ _ _ _ _ => pts_nil) (fun _ _ _ _ _ => (pe_fn G_number_of (hr.mono (by decide)) rfl (pa_cons (pe_ix ix_tup (pe_partition (pv 2) pe_str) pe_int (fun _ _ => rfl)) pa_nil))))
      (pss_cons (ps_if (PW.pt (pw_or (pt_cmpR op_eq (pe_callB call_len_seq rfl B.len (by decide +kernel) (pa_cons (pv 0) pa_nil)) pe_int (nomark _)) (pw_or (pt_cmpR op_in_seq pe_non (pv 1) rfl) (pw_or (pt_cmpR op_in_sign pe_str (pe_ix ix_list (pv 0) pe_int (fun _ _ => rfl)) rfl) (pw_or1 (pt_not (pt_val (pe_callB (cr_all rfl) rfl B.all_ (by decide +kernel) (pa_cons (pe_lc (own := [("word", 2)]) (g := (gName 2)) (tt := tYes) rfl sc_sum_of.nd (pi_list (pe_slice sl_list (pv 0) (po_some pe_int) po_none)) (blkOk_by (N := n_sum_of) (sc := defScope s_sum_of) (by decide +kernel)) (fun _ _ _ _ _ => (pg_name (i := 2) sc_sum_of.nd rfl (Or.inl rfl))) (fun _ _ _ _ _ => pts_nil) (fun _ _ _ _ _ => (pe_cmpR op_in_sign pe_str (pv 2) rfl))) pa_nil))))))))) (pss_one (ps_ret pe_non)) pss_nil)
      (pss_one (ps_ret (pe_tup (pa_cons (pe_ix ix_list (pv 1) pe_int (fun _ _ => rfl)) (pa_cons (pe_callTy call_tuple_of rfl B.tuple_ (by decide +kernel) (pa_cons (pe_lc (own := [("word", 2), ("times", 3)]) (g := (gTup K 2 (gCons (gName 2) (gCons (gName 3) gNil)))) (tt := tYes) rfl sc_sum_of.nd (pi_zip rfl B.zip (pa_cons (pe_slice sl_list (pv 0) (po_some pe_int) po_none) (pa_cons (pe_slice sl_list (pv 1) (po_some pe_int) po_none) pa_nil))) (blkOk_by (N := n_sum_of) (sc := defScope s_sum_of) (by decide +kernel)) (fun _ _ _ _ _ => (pg_tup rfl (pgs_cons (pg_name (i := 2) sc_sum_of.nd rfl (Or.inl rfl)) (pgs_cons (pg_name (i := 3) sc_sum_of.nd rfl (Or.inl rfl)) pgs_nil)))) (fun _ _ _ _ _ => pts_nil) (fun _ _ _ _ _ => (pe_tup (pa_cons (pe_ix ix_tup (pe_partition (pv 2) pe_str) pe_int (fun _ _ => rfl)) (pa_cons (pv 3) pa_nil))))) pa_nil)) pa_nil)))))))
theorem ok_limit_words (B : Txt w K mg) (F : FnP K "limit_words" s_limit_words f fd) (hm : mg "limit_words" = some (.ref f)) (G_sum_words : OkF P w K mg base "sum_words" 1 ["amount"] (sp_sum_words K)) : OkF P w K mg base "limit_words" 2 ["limit"] (sp_limit_words K) := by
  refine ⟨f, fd, hm, F.kp, F.bindsN (fun _ _ _ _ _ _ us hl => match us, hl with | [_], _ => rfl), ?_⟩
  refine F.ok sc_limit_words (fun vs H Q E h => len_limit_words h) (fun cdv A outer s H vs Q E hr h => ⟨t_limit_words K, PSs.nox ?_, run_limit_words h⟩)
  exact (pss_cons (ps_if (pt_cmpR op_eq (pe_ix ix_tup (pv 0) pe_int (fun _ _ => rfl)) pe_str (nomark _)) (pss_one (ps_ret (pe_op op_cat (pe_lst (pa_cons pe_str (pa_cons (pe_ix ix_tup (pv 0) pe_int (fun _ _ => rfl)) (pa_cons (pe_ix ix_tup (pv 0) pe_int (fun _ _ => rfl)) (pa_cons (pe_op op_add_str pe_str (pe_ix ix_tup (pv 0) pe_int (fun _ _ => rfl))) pa_nil))))) (pe_fn G_sum_words (hr.mono (by decide)) rfl (pa_cons (pe_ix ix_tup (pv 0) pe_int (fun _ _ => rfl)) pa_nil))))) pss_nil)
      (pss_one (ps_ret (pe_op op_cat (pe_lst (pa_cons pe_str (pa_cons (pe_ix ix_tup (pv 0) pe_int (fun _ _ => rfl)) (pa_cons (pe_ix ix_tup (pv 0) pe_int (fun _ _ => rfl)) pa_nil)))) (pe_fn G_sum_words (hr.mono (by decide)) rfl (pa_cons (pe_ix ix_tup (pv 0) pe_int (fun _ _ => rfl)) pa_nil))))))
theorem ok_law_take (B : Txt w K mg) (F : FnP K "_law_take" s_law_take f fd) (hm : mg "_law_take" = some (.ref f)) (G_law_mixed : OkF P w K mg base "_law_mixed" 1 ["_law_cell", "_law_place"] (sp_law_mixed K)) : OkF P w K mg base "_law_take" 2 ["_law_source_here", "_law_many"] (sp_law_take K) := by
  refine ⟨f, fd, hm, F.kp, F.bindsN (fun _ _ _ _ _ _ us hl => match us, hl with | [_, _], _ => rfl), ?_⟩
  refine F.ok sc_law_take (fun vs H Q E h => len_law_take h) (fun cdv A outer s H vs Q E hr h => ⟨t_law_take K, PSs.nox ?_, run_law_take h⟩)
  exact (pss_cons (ps_if (pt_cmpR op_lt (pe_ix ix_list (pv 0) pe_int (fun _ _ => rfl)) (pe_op op_mul pe_int (pv 1)) (nomark _)) (pss_cons (ps_set (i := 3) sc_law_take.nd rfl (Or.inl rfl) (pe_ix ix_list (pv 0) pe_int (fun _ _ => rfl)))
      (pss_cons (ps_set (i := 4) sc_law_take.nd rfl (Or.inl rfl) (pe_ix ix_list (pv 0) pe_int (fun _ _ => rfl)))
      (pss_cons (ps_asg (pe_op op_add (pv 4) pe_int) (pg_sub (pv 0) pe_int set_list))
      (pss_one (ps_if (PW.pt (pw_and (pt_cmpR op_lt (pv 4) (pe_callB call_len_seq rfl B.len (by decide +kernel) (pa_cons (pv 3) pa_nil)) (nomark _)) (pw_and1 (pt_cmpR op_ge (pe_callB call_abs rfl B.abs_ (by decide +kernel) (pa_cons (pe_ix ix_list (pv 3) (pv 4) (fun _ _ => rfl)) pa_nil)) (pe_op op_pow pe_int pe_int) (nomark _))))) (pss_one (ps_asg (pe_callB call_abs rfl B.abs_ (by decide +kernel) (pa_cons (pe_ix ix_list (pv 3) (pv 4) (fun _ _ => rfl)) pa_nil)) (pg_sub (pv 0) pe_int set_list))) (pss_one (ps_if (pt_cmpR op_gt (pe_callB call_len_seq rfl B.len (by decide +kernel) (pa_cons (pv 3) pa_nil)) pe_int (nomark _)) (pss_one (ps_asg (pe_fn G_law_mixed (hr.mono (by decide)) rfl (pa_cons (pe_ix ix_list (pv 3) (pe_op op_mod (pe_callTy call_int1 rfl B.int_ (by decide +kernel) (pa_cons (pv 4) pa_nil)) (pe_callB call_len_seq rfl B.len (by decide +kernel) (pa_cons (pv 3) pa_nil))) (fun _ _ => rfl)) (pa_cons (pv 4) pa_nil))) (pg_sub (pv 0) pe_int set_list))) (pss_one (ps_asg (pe_fn G_law_mixed (hr.mono (by decide)) rfl (pa_cons pe_int (pa_cons (pv 4) pa_nil))) (pg_sub (pv 0) pe_int set_list)))))))))) pss_nil)
      (pss_cons (ps_set (i := 2) sc_law_take.nd rfl (Or.inl rfl) (pe_op op_mod (pe_callTy call_int1 rfl B.int_ (by decide +kernel) (pa_cons (pe_ix ix_list (pv 0) pe_int (fun _ _ => rfl)) pa_nil)) (pv 1)))
      (pss_cons (ps_asg (pe_op op_fdivW (pe_callTy call_int1 rfl B.int_ (by decide +kernel) (pa_cons (pe_ix ix_list (pv 0) pe_int (fun _ _ => rfl)) pa_nil)) (pv 1)) (pg_sub (pv 0) pe_int set_list))
      (pss_one (ps_ret (pv 2))))))
theorem ok_is_sum (B : Txt w K mg) (F : FnP K "is_sum" s_is_sum f fd) (hm : mg "is_sum" = some (.ref f)) (G_is_step_name : OkF P w K mg base "is_step_name" 2 ["text"] (sp_is_step_name K)) : OkF P w K mg base "is_sum" 3 ["value"] (sp_is_sum K) := by
  refine ⟨f, fd, hm, F.kp, F.bindsN (fun _ _ _ _ _ _ us hl => match us, hl with | [_], _ => rfl), ?_⟩
  refine F.ok sc_is_sum (fun vs H Q E h => len_is_sum h) (fun cdv A outer s H vs Q E hr h => ⟨t_is_sum K, PSs.nox ?_, run_is_sum h⟩)
  exact (pss_cons (ps_set (i := 1) sc_is_sum.nd rfl (Or.inl rfl) pe_str)
      (pss_cons (ps_for PassesOwn.never rfl (pi_tup (pe_ix ix_tup (pv 0) pe_int (fun _ _ => rfl))) (pg_tup rfl (pgs_cons (pg_name (i := 2) sc_is_sum.nd rfl (Or.inl rfl)) (pgs_cons (pg_name (i := 3) sc_is_sum.nd rfl (Or.inl rfl)) pgs_nil))) (pss_cons (ps_if (PW.pt (pw_or (pt_not (pt_val (pe_fn G_is_step_name (hr.mono (by decide)) rfl (pa_cons (pv 2) pa_nil)))) (pw_or (pt_cmpR op_le_str (pv 2) (pv 1) (nomark _)) (pw_or1 (pt_cmpR op_eq (pv 3) pe_int (nomark _)))))) (pss_one (ps_ret pe_bl)) pss_nil)
      (pss_one (ps_set (i := 1) sc_is_sum.nd rfl (Or.inl rfl) (pv 2)))))
      (pss_one (ps_ret pe_bl))))
theorem ok_is_run (B : Txt w K mg) (F : FnP K "is_run" s_is_run f fd) (hm : mg "is_run" = some (.ref f)) (G_is_name : OkF P w K mg base "is_name" 1 ["text"] (sp_is_name K)) (G_is_step : OkF P w K mg base "is_step" 2 ["text"] (sp_is_step K)) : OkF P w K mg base "is_run" 3 ["run"] (sp_is_run K) := by
  refine ⟨f, fd, hm, F.kp, F.bindsN (fun _ _ _ _ _ _ us hl => match us, hl with | [_], _ => rfl), ?_⟩
  refine F.ok sc_is_run (fun vs H Q E h => len_is_run h) (fun cdv A outer s H vs Q E hr h => ⟨t_is_run K, PSs.nox ?_, run_is_run h⟩)
  exact (pss_one (ps_ret (pe_and (pe_cmpR op_gt (pe_callB call_len_seq rfl B.len (by decide +kernel) (pa_cons (pv 0) pa_nil)) pe_int (nomark _)) (pe_and (pe_fn G_is_name (hr.mono (by decide)) rfl (pa_cons (pe_ix ix_tup (pv 0) pe_int (fun _ _ => rfl)) pa_nil)) (pe_one (pe_callB (cr_all rfl) rfl B.all_ (by decide +kernel) (pa_cons (pe_lc (own := [("step", 1)]) (g := (gName 1)) (tt := tYes) rfl sc_is_run.nd (pi_tup (pe_slice sl_tup (pv 0) (po_some pe_int) po_none)) (blkOk_by (N := n_is_run) (sc := defScope s_is_run) (by decide +kernel)) (fun _ _ _ _ _ => (pg_name (i := 1) sc_is_run.nd rfl (Or.inl rfl))) (fun _ _ _ _ _ => pts_nil) (fun _ _ _ _ _ => (pe_fn G_is_step (hr.mono (by decide)) rfl (pa_cons (pv 1) pa_nil)))) pa_nil)))))))
theorem ok_write_limit (B : Txt w K mg) (F : FnP K "write_limit" s_write_limit f fd) (hm : mg "write_limit" = some (.ref f)) (G_limit_words : OkF P w K mg base "limit_words" 2 ["limit"] (sp_limit_words K)) : OkF P w K mg base "write_limit" 3 ["limit"] (sp_write_limit K) := by
  refine ⟨f, fd, hm, F.kp, F.bindsN (fun _ _ _ _ _ _ us hl => match us, hl with | [_], _ => rfl), ?_⟩
  refine F.ok sc_write_limit (fun vs H Q E h => len_write_limit h) (fun cdv A outer s H vs Q E hr h => ⟨t_write_limit K, PSs.nox ?_, run_write_limit h⟩)
  exact (pss_one (ps_ret (pe_join pe_str (pe_fn G_limit_words (hr.mono (by decide)) rfl (pa_cons (pv 0) pa_nil)))))
theorem ok_law_name (B : Txt w K mg) (F : FnP K "_law_name" s_law_name f fd) (hm : mg "_law_name" = some (.ref f)) (G_law_take : OkF P w K mg base "_law_take" 2 ["_law_source_here", "_law_many"] (sp_law_take K)) : OkF P w K mg base "_law_name" 3 ["_law_source_here"] (sp_law_name K) := by
  refine ⟨f, fd, hm, F.kp, F.bindsN (fun _ _ _ _ _ _ us hl => match us, hl with | [_], _ => rfl), ?_⟩
  refine F.ok sc_law_name (fun vs H Q E h => len_law_name h) (fun cdv A outer s H vs Q E hr h => ⟨t_law_name K, PSs.nox ?_, run_law_name h⟩)
  exact (pss_cons (ps_set (i := 1) sc_law_name.nd rfl (Or.inl rfl) pe_str)
      (pss_cons (ps_set (i := 2) sc_law_name.nd rfl (Or.inl rfl) (pe_op op_add pe_int (pe_fn G_law_take (hr.mono (by decide)) rfl (pa_cons (pv 0) (pa_cons pe_int pa_nil)))))
      (pss_cons (ps_if (pt_cmpR op_eq (pe_fn G_law_take (hr.mono (by decide)) rfl (pa_cons (pv 0) (pa_cons pe_int pa_nil))) pe_int (nomark _)) (pss_one (ps_set (i := 2) sc_law_name.nd rfl (Or.inl rfl) (pe_op op_sub pe_int (pe_fn G_law_take (hr.mono (by decide)) rfl (pa_cons (pv 0) (pa_cons pe_int pa_nil)))))) pss_nil)
      (pss_cons (ps_set (i := 3) sc_law_name.nd rfl (Or.inl rfl) (pe_ix ix_str (pv 1) (pe_fn G_law_take (hr.mono (by decide)) rfl (pa_cons (pv 0) (pa_cons pe_int pa_nil))) (fun _ _ => rfl)))
      (pss_cons (ps_for PassesOwn.never rfl (pi_range1 rfl B.range (pa_cons (pe_op op_sub (pv 2) pe_int) pa_nil)) (pg_name (i := 4) sc_law_name.nd rfl (Or.inl rfl)) (pss_one (ps_set (i := 3) sc_law_name.nd rfl (Or.inl rfl) (pe_op op_add_str (pv 3) (pe_ix ix_str (pv 1) (pe_fn G_law_take (hr.mono (by decide)) rfl (pa_cons (pv 0) (pa_cons pe_int pa_nil))) (fun _ _ => rfl))))))
      (pss_one (ps_ret (pv 3))))))))
theorem ok_law_number (B : Txt w K mg) (F : FnP K "_law_number" s_law_number f fd) (hm : mg "_law_number" = some (.ref f)) (G_law_take : OkF P w K mg base "_law_take" 2 ["_law_source_here", "_law_many"] (sp_law_take K)) : OkF P w K mg base "_law_number" 3 ["_law_source_here"] (sp_law_number K) := by
  refine ⟨f, fd, hm, F.kp, F.bindsN (fun _ _ _ _ _ _ us hl => match us, hl with | [_], _ => rfl), ?_⟩
  refine F.ok sc_law_number (fun vs H Q E h => len_law_number h) (fun cdv A outer s H vs Q E hr h => ⟨t_law_number K, PSs.nox ?_, run_law_number h⟩)
  exact (pss_cons (ps_set (i := 1) sc_law_number.nd rfl (Or.inl rfl) (pe_fn G_law_take (hr.mono (by decide)) rfl (pa_cons (pv 0) (pa_cons pe_int pa_nil))))
      (pss_cons (ps_set (i := 2) sc_law_number.nd rfl (Or.inl rfl) (pe_fn G_law_take (hr.mono (by decide)) rfl (pa_cons (pv 0) (pa_cons pe_int pa_nil))))
      (pss_cons (ps_if (pt_cmpR op_eq (pv 1) pe_int (nomark _)) (pss_one (ps_set (i := 2) sc_law_number.nd rfl (Or.inl rfl) (pe_op op_sub (pe_op op_sub (pe_op op_pow pe_int pe_int) pe_int) (pv 2)))) (pss_one (ps_if (pt_cmpR op_eq (pv 1) pe_int (nomark _)) (pss_one (ps_set (i := 2) sc_law_number.nd rfl (Or.inl rfl) pe_int)) (pss_one (ps_if (pt_cmpR op_lt (pv 1) pe_int (nomark _)) (pss_one (ps_for PassesOwn.never rfl (pi_range1 rfl B.range (pa_cons (pe_op op_add pe_int (pe_fn G_law_take (hr.mono (by decide)) rfl (pa_cons (pv 0) (pa_cons pe_int pa_nil)))) pa_nil)) (pg_name (i := 3) sc_law_number.nd rfl (Or.inl rfl)) (pss_one (ps_set (i := 2) sc_law_number.nd rfl (Or.inl rfl) (pe_op op_add (pe_op op_mul (pv 2) (pe_op op_pow pe_int pe_int)) (pe_fn G_law_take (hr.mono (by decide)) rfl (pa_cons (pv 0) (pa_cons (pe_op op_pow pe_int pe_int) pa_nil)))))))) pss_nil)))))
      (pss_cons (ps_if (pt_cmpR op_eq (pe_fn G_law_take (hr.mono (by decide)) rfl (pa_cons (pv 0) (pa_cons pe_int pa_nil))) pe_int (nomark _)) (pss_one (ps_set (i := 2) sc_law_number.nd rfl (Or.inl rfl) (pe_op op_sub pe_int (pv 2)))) pss_nil)
      (pss_one (ps_ret (pv 2)))))))
theorem ok_law_stack (B : Txt w K mg) (F : FnP K "_law_stack" s_law_stack f fd) (hm : mg "_law_stack" = some (.ref f)) (G_law_chars : OkF P w K mg base "_law_chars" 1 [] (sp_law_chars K)) (G_law_take : OkF P w K mg base "_law_take" 2 ["_law_source_here", "_law_many"] (sp_law_take K)) : OkF P w K mg base "_law_stack" 3 ["_law_source_here"] (sp_law_stack K) := by
  refine ⟨f, fd, hm, F.kp, F.bindsN (fun _ _ _ _ _ _ us hl => match us, hl with | [_], _ => rfl), ?_⟩
  refine F.ok sc_law_stack (fun vs H Q E h => len_law_stack h) (fun cdv A outer s H vs Q E hr h => ⟨t_law_stack K, PSs.nox ?_, run_law_stack h⟩)
  exact (pss_cons (ps_set (i := 1) sc_law_stack.nd rfl (Or.inl rfl) (pe_fn0 G_law_chars (hr.mono (by decide)) rfl))
      (pss_cons (ps_if (pt_cmpR op_eq (pe_fn G_law_take (hr.mono (by decide)) rfl (pa_cons (pv 0) (pa_cons pe_int pa_nil))) pe_int (nomark _)) (pss_one (ps_set (i := 1) sc_law_stack.nd rfl (Or.inl rfl) pe_str)) pss_nil)
      (pss_cons (ps_set (i := 2) sc_law_stack.nd rfl (Or.inl rfl) (pe_fn G_law_take (hr.mono (by decide)) rfl (pa_cons (pv 0) (pa_cons pe_int pa_nil))))
      (pss_cons (ps_if (pt_cmpR op_eq (pe_fn G_law_take (hr.mono (by decide)) rfl (pa_cons (pv 0) (pa_cons pe_int pa_nil))) pe_int (nomark _)) (pss_one (ps_set (i := 2) sc_law_stack.nd rfl (Or.inl rfl) (pe_op op_add pe_int (pv 2)))) pss_nil)
      (pss_cons (ps_set (i := 3) sc_law_stack.nd rfl (Or.inl rfl) pe_str)
      (pss_cons (ps_for PassesOwn.never rfl (pi_range1 rfl B.range (pa_cons (pv 2) pa_nil)) (pg_name (i := 4) sc_law_stack.nd rfl (Or.inl rfl)) (pss_one (ps_set (i := 3) sc_law_stack.nd rfl (Or.inl rfl) (pe_op op_add_str (pv 3) (pe_ix ix_str (pv 1) (pe_fn G_law_take (hr.mono (by decide)) rfl (pa_cons (pv 0) (pa_cons (pe_callB call_len_str rfl B.len (by decide +kernel) (pa_cons (pv 1) pa_nil)) pa_nil))) (fun _ _ => rfl))))))
      (pss_one (ps_ret (pv 3)))))))))
theorem ok_is_limit (B : Txt w K mg) (F : FnP K "is_limit" s_is_limit f fd) (hm : mg "is_limit" = some (.ref f)) (G_is_name : OkF P w K mg base "is_name" 1 ["text"] (sp_is_name K)) (G_is_text : OkF P w K mg base "is_text" 1 ["text"] (sp_is_text K)) (G_is_sum : OkF P w K mg base "is_sum" 3 ["value"] (sp_is_sum K)) : OkF P w K mg base "is_limit" 4 ["value"] (sp_is_limit K) := by
  refine ⟨f, fd, hm, F.kp, F.bindsN (fun _ _ _ _ _ _ us hl => match us, hl with | [_], _ => rfl), ?_⟩
  refine F.ok sc_is_limit (fun vs H Q E h => len_is_limit h) (fun cdv A outer s H vs Q E hr h => ⟨t_is_limit K, PSs.nox ?_, run_is_limit B h⟩)
  exact (pss_cons (ps_if (PW.pt (pw_or (pt_cmpR op_eq (pe_callB call_len_seq rfl B.len (by decide +kernel) (pa_cons (pv 0) pa_nil)) pe_int (nomark _)) (pw_or1 (pt_cmpR op_ne (pe_getKd B.d_ITEM_COUNTS ⟨rfl, rfl, rfl, rfl⟩ (pe_glob rfl B.c_ITEM_COUNTS rfl) (pe_ix ix_tup (pv 0) pe_int (fun _ _ => rfl)) pe_int) (pe_callB call_len_seq rfl B.len (by decide +kernel) (pa_cons (pv 0) pa_nil)) (nomark _))))) (pss_one (ps_ret pe_bl)) pss_nil)
      (pss_cons (ps_par rfl sc_is_limit.nd rfl rfl (by decide) rfl rfl (pa_cons (pe_ix ix_tup (pv 0) pe_int (fun _ _ => rfl)) (pa_cons (pe_ix ix_tup (pv 0) pe_int (fun _ _ => rfl)) pa_nil)) rfl)
      (pss_cons (ps_if (PW.pt (pw_or (pt_not (pt_val (pe_fn G_is_name (hr.mono (by decide)) rfl (pa_cons (pv 1) pa_nil)))) (pw_or (pt_not (pt_val (pe_fn G_is_name (hr.mono (by decide)) rfl (pa_cons (pv 2) pa_nil)))) (pw_or1 (pt_cmpR op_eq (pv 1) (pv 2) (nomark _)))))) (pss_one (ps_ret pe_bl)) pss_nil)
      (pss_cons (ps_if (PW.pt (pw_and (pt_cmpR op_eq (pe_ix ix_tup (pv 0) pe_int (fun _ _ => rfl)) pe_str (nomark _)) (pw_and1 (pt_not (pt_val (pe_fn G_is_text (hr.mono (by decide)) rfl (pa_cons (pe_ix ix_tup (pv 0) pe_int (fun _ _ => rfl)) pa_nil))))))) (pss_one (ps_ret pe_bl)) pss_nil)
      (pss_one (ps_ret (pe_fn G_is_sum (hr.mono (by decide)) rfl (pa_cons (pe_ix ix_tup (pv 0) (pe_un un_neg pe_int) (fun _ _ => rfl)) pa_nil))))))))
theorem ok_is_fact (B : Txt w K mg) (F : FnP K "is_fact" s_is_fact f fd) (hm : mg "is_fact" = some (.ref f)) (G_is_run : OkF P w K mg base "is_run" 3 ["run"] (sp_is_run K)) : OkF P w K mg base "is_fact" 4 ["fact"] (sp_is_fact K) := by
  refine ⟨f, fd, hm, F.kp, F.bindsN (fun _ _ _ _ _ _ us hl => match us, hl with | [_], _ => rfl), ?_⟩
  refine F.ok sc_is_fact (fun vs H Q E h => len_is_fact h) (fun cdv A outer s H vs Q E hr h => ⟨t_is_fact K, PSs.nox ?_, run_is_fact B h⟩)
  exact (pss_cons (ps_if (PW.pt (pw_or (pt_cmpR op_eq (pe_callB call_len_seq rfl B.len (by decide +kernel) (pa_cons (pv 0) pa_nil)) pe_int (nomark _)) (pw_or (pt_cmpR (op_kdNotIn B.d_RUN_COUNTS) (pe_ix ix_tup (pv 0) pe_int (fun _ _ => rfl)) (pe_glob rfl B.c_RUN_COUNTS rfl) rfl) (pw_or1 (pt_cmpR op_ne (pe_callB call_len_seq rfl B.len (by decide +kernel) (pa_cons (pv 0) pa_nil)) (pe_op op_add (pe_itemKd B.d_RUN_COUNTS (pe_glob rfl B.c_RUN_COUNTS rfl) (pe_ix ix_tup (pv 0) pe_int (fun _ _ => rfl))) pe_int) (nomark _)))))) (pss_one (ps_ret pe_bl)) pss_nil)
      (pss_one (ps_ret (pe_callB (cr_all rfl) rfl B.all_ (by decide +kernel) (pa_cons (pe_lc (own := [("run", 1)]) (g := (gName 1)) (tt := tYes) rfl sc_is_fact.nd (pi_tup (pe_slice sl_tup (pv 0) (po_some pe_int) po_none)) (blkOk_by (N := n_is_fact) (sc := defScope s_is_fact) (by decide +kernel)) (fun _ _ _ _ _ => (pg_name (i := 1) sc_is_fact.nd rfl (Or.inl rfl))) (fun _ _ _ _ _ => pts_nil) (fun _ _ _ _ _ => (pe_fn G_is_run (hr.mono (by decide)) rfl (pa_cons (pv 1) pa_nil)))) pa_nil)))))
theorem ok_law_sum (B : Txt w K mg) (F : FnP K "_law_sum" s_law_sum f fd) (hm : mg "_law_sum" = some (.ref f)) (G_law_take : OkF P w K mg base "_law_take" 2 ["_law_source_here", "_law_many"] (sp_law_take K)) (G_law_name : OkF P w K mg base "_law_name" 3 ["_law_source_here"] (sp_law_name K)) (G_law_number : OkF P w K mg base "_law_number" 3 ["_law_source_here"] (sp_law_number K)) : OkF P w K mg base "_law_sum" 4 ["_law_source_here", "_law_most"] (sp_law_sum K) := by
  refine ⟨f, fd, hm, F.kp, F.bindsN (fun _ _ _ _ _ _ us hl => match us, hl with | [_, _], _ => rfl), ?_⟩
  refine F.ok sc_law_sum (fun vs H Q E h => len_law_sum h) (fun cdv A outer s H vs Q E hr h => ⟨t_law_sum K, PSs.nox ?_, run_law_sum h⟩)
  exact (pss_cons (ps_set (i := 2) sc_law_sum.nd rfl (Or.inl rfl) (pe_lst pa_nil))
      (pss_cons (ps_for PassesOwn.never rfl (pi_range1 rfl B.range (pa_cons (pe_fn G_law_take (hr.mono (by decide)) rfl (pa_cons (pv 0) (pa_cons (pe_op op_add (pv 1) pe_int) pa_nil))) pa_nil)) (pg_name (i := 3) sc_law_sum.nd rfl (Or.inl rfl)) (pss_cons (ps_set (i := 5) sc_law_sum.nd rfl (Or.inl rfl) (pe_fn G_law_name (hr.mono (by decide)) rfl (pa_cons (pv 0) pa_nil)))
      (pss_cons (ps_if (PW.pt (pw_and (pt_cmpR op_gt (pe_callB call_len_seq rfl B.len (by decide +kernel) (pa_cons (pv 2) pa_nil)) pe_int (nomark _)) (pw_and1 (pt_cmpR op_eq (pe_fn G_law_take (hr.mono (by decide)) rfl (pa_cons (pv 0) (pa_cons pe_int pa_nil))) pe_int (nomark _))))) (pss_one (ps_set (i := 5) sc_law_sum.nd rfl (Or.inl rfl) (pe_op op_add_str (pe_slice sl_str (pe_ix ix_list (pv 2) (pe_un un_neg pe_int) (fun _ _ => rfl)) po_none (po_some pe_int)) (pe_ix ix_str pe_str (pe_fn G_law_take (hr.mono (by decide)) rfl (pa_cons (pv 0) (pa_cons pe_int pa_nil))) (fun _ _ => rfl))))) pss_nil)
      (pss_one (ps_if (PW.pt (pw_and (pt_cmpR op_ne (pv 5) pe_str (nomark _)) (pw_and1 (pt_cmpR op_notIn_seq (pv 5) (pv 2) rfl)))) (pss_one (ps_expr (pe_bm PySem.F.plainAttrs_list PySem.F.slot_list_append PySem.F.type_list_append mt_append (pv 2) (pa_cons (pv 5) pa_nil)))) pss_nil)))))
      (pss_cons (ps_set (i := 4) sc_law_sum.nd rfl (Or.inl rfl) (pe_lst pa_nil))
      (pss_cons (ps_for PassesOwn.never rfl (pi_list (pe_callB cr_sortedS rfl B.sorted (by decide +kernel) (pa_cons (pe_lc (own := [("_law_one", 7)]) (g := (gName 7)) (tt := tYes) rfl sc_law_sum.nd (pi_list (pv 2)) (blkOk_by (N := n_law_sum) (sc := defScope s_law_sum) (by decide +kernel)) (fun _ _ _ _ _ => (pg_name (i := 7) sc_law_sum.nd rfl (Or.inl rfl))) (fun _ _ _ _ _ => pts_nil) (fun _ _ _ _ _ => (pe_callTy SkE.call_str_str rfl B.str_ (by decide +kernel) (pa_cons (pv 7) pa_nil)))) pa_nil))) (pg_name (i := 5) sc_law_sum.nd rfl (Or.inl rfl)) (pss_cons (ps_set (i := 6) sc_law_sum.nd rfl (Or.inl rfl) (pe_fn G_law_number (hr.mono (by decide)) rfl (pa_cons (pv 0) pa_nil)))
      (pss_cons (ps_if (pt_cmpR op_eq (pv 6) pe_int (nomark _)) (pss_one (ps_set (i := 6) sc_law_sum.nd rfl (Or.inl rfl) pe_int)) pss_nil)
      (pss_one (ps_expr (pe_bm PySem.F.plainAttrs_list PySem.F.slot_list_append PySem.F.type_list_append mt_append (pv 4) (pa_cons (pe_tup (pa_cons (pv 5) (pa_cons (pv 6) pa_nil))) pa_nil)))))))
      (pss_one (ps_ret (pe_tup (pa_cons (pe_fn G_law_number (hr.mono (by decide)) rfl (pa_cons (pv 0) pa_nil)) (pa_cons (pe_callTy call_tuple_of rfl B.tuple_ (by decide +kernel) (pa_cons (pv 4) pa_nil)) pa_nil)))))))))
theorem ok_law_run (B : Txt w K mg) (F : FnP K "_law_run" s_law_run f fd) (hm : mg "_law_run" = some (.ref f)) (G_law_name : OkF P w K mg base "_law_name" 3 ["_law_source_here"] (sp_law_name K)) (G_law_take : OkF P w K mg base "_law_take" 2 ["_law_source_here", "_law_many"] (sp_law_take K)) : OkF P w K mg base "_law_run" 4 ["_law_source_here"] (sp_law_run K) := by
  refine ⟨f, fd, hm, F.kp, F.bindsN (fun _ _ _ _ _ _ us hl => match us, hl with | [_], _ => rfl), ?_⟩
  refine F.ok sc_law_run (fun vs H Q E h => len_law_run h) (fun cdv A outer s H vs Q E hr h => ⟨t_law_run K, PSs.nox ?_, run_law_run h⟩)
  exact (pss_cons (ps_set (i := 1) sc_law_run.nd rfl (Or.inl rfl) (pe_lst (pa_cons (pe_fn G_law_name (hr.mono (by decide)) rfl (pa_cons (pv 0) pa_nil)) pa_nil)))
      (pss_cons (ps_set (i := 2) sc_law_run.nd rfl (Or.inl rfl) (pe_lst (pa_cons (pe_fn G_law_name (hr.mono (by decide)) rfl (pa_cons (pv 0) pa_nil)) (pa_cons (pe_fn G_law_name (hr.mono (by decide)) rfl (pa_cons (pv 0) pa_nil)) pa_nil))))
      (pss_cons (ps_set (i := 3) sc_law_run.nd rfl (Or.inl rfl) (pe_fn G_law_take (hr.mono (by decide)) rfl (pa_cons (pv 0) (pa_cons pe_int pa_nil))))
      (pss_cons (ps_if (pt_cmpR op_eq (pe_fn G_law_take (hr.mono (by decide)) rfl (pa_cons (pv 0) (pa_cons pe_int pa_nil))) pe_int (nomark _)) (pss_one (ps_set (i := 3) sc_law_run.nd rfl (Or.inl rfl) (pe_fn G_law_take (hr.mono (by decide)) rfl (pa_cons (pv 0) (pa_cons pe_int pa_nil))))) pss_nil)
      (pss_cons (ps_for PassesOwn.never rfl (pi_range1 rfl B.range (pa_cons (pv 3) pa_nil)) (pg_name (i := 4) sc_law_run.nd rfl (Or.inl rfl)) (pss_cons (ps_if (pt_cmpR op_eq (pe_fn G_law_take (hr.mono (by decide)) rfl (pa_cons (pv 0) (pa_cons pe_int pa_nil))) pe_int (nomark _)) (pss_one (ps_expr (pe_bm PySem.F.plainAttrs_list PySem.F.slot_list_append PySem.F.type_list_append mt_append (pv 2) (pa_cons (pe_fn G_law_name (hr.mono (by decide)) rfl (pa_cons (pv 0) pa_nil)) pa_nil)))) pss_nil)
      (pss_one (ps_expr (pe_bm PySem.F.plainAttrs_list PySem.F.slot_list_append PySem.F.type_list_append mt_append (pv 1) (pa_cons (pe_op op_add_str (pe_ix ix_list (pe_lst (pa_cons pe_str (pa_cons pe_str pa_nil))) (pe_fn G_law_take (hr.mono (by decide)) rfl (pa_cons (pv 0) (pa_cons pe_int pa_nil))) (fun _ _ => rfl)) (pe_ix ix_list (pv 2) (pe_fn G_law_take (hr.mono (by decide)) rfl (pa_cons (pv 0) (pa_cons (pe_callB call_len_seq rfl B.len (by decide +kernel) (pa_cons (pv 2) pa_nil)) pa_nil))) (fun _ _ => rfl))) pa_nil))))))
      (pss_one (ps_ret (pe_callTy call_tuple_of rfl B.tuple_ (by decide +kernel) (pa_cons (pv 1) pa_nil)))))))))
theorem ok_limit_of (B : Txt w K mg) (F : FnP K "limit_of" s_limit_of f fd) (hm : mg "limit_of" = some (.ref f)) (G_sum_of : OkF P w K mg base "sum_of" 2 ["words"] (sp_sum_of K)) (G_is_limit : OkF P w K mg base "is_limit" 4 ["value"] (sp_is_limit K)) : OkF P w K mg base "limit_of" 5 ["words"] (sp_limit_of K) := by
  refine ⟨f, fd, hm, F.kp, F.bindsN (fun _ _ _ _ _ _ us hl => match us, hl with | [_], _ => rfl), ?_⟩
  refine F.ok sc_limit_of (fun vs H Q E h => len_limit_of h) (fun cdv A outer s H vs Q E hr h => ⟨t_limit_of K, PSs.nox ?_, run_limit_of h⟩)
  exact (pss_cons (ps_if (PW.pt (pw_and (pt_cmpR (op_eqD hr.units) (pe_slice sl_list (pv 0) po_none (po_some pe_int)) (pe_lst (pa_cons pe_str pa_nil)) (nomark _)) (pw_and (pt_cmpR op_gt (pe_callB call_len_seq rfl B.len (by decide +kernel) (pa_cons (pv 0) pa_nil)) pe_int (nomark _)) (pw_and1 (pt_cmpR op_eq (pe_slice sl_str (pe_ix ix_list (pv 0) pe_int (fun _ _ => rfl)) po_none (po_some pe_int)) pe_str (nomark _)))))) (pss_one (ps_par rfl sc_limit_of.nd rfl rfl (by decide) rfl rfl (pa_cons (pe_tup (pa_cons pe_str (pa_cons (pe_ix ix_list (pv 0) pe_int (fun _ _ => rfl)) (pa_cons (pe_ix ix_list (pv 0) pe_int (fun _ _ => rfl)) (pa_cons (pe_slice sl_str (pe_ix ix_list (pv 0) pe_int (fun _ _ => rfl)) (po_some pe_int) po_none) pa_nil))))) (pa_cons (pe_fn G_sum_of (hr.mono (by decide)) rfl (pa_cons (pe_slice sl_list (pv 0) (po_some pe_int) po_none) pa_nil)) pa_nil)) rfl)) (pss_one (ps_if (PW.pt (pw_and (pt_cmpR (op_eqD hr.units) (pe_slice sl_list (pv 0) po_none (po_some pe_int)) (pe_lst (pa_cons pe_str pa_nil)) (nomark _)) (pw_and1 (pt_cmpR op_gt (pe_callB call_len_seq rfl B.len (by decide +kernel) (pa_cons (pv 0) pa_nil)) pe_int (nomark _))))) (pss_one (ps_par rfl sc_limit_of.nd rfl rfl (by decide) rfl rfl (pa_cons (pe_tup (pa_cons pe_str (pa_cons (pe_ix ix_list (pv 0) pe_int (fun _ _ => rfl)) (pa_cons (pe_ix ix_list (pv 0) pe_int (fun _ _ => rfl)) pa_nil)))) (pa_cons (pe_fn G_sum_of (hr.mono (by decide)) rfl (pa_cons (pe_slice sl_list (pv 0) (po_some pe_int) po_none) pa_nil)) pa_nil)) rfl)) (pss_one (ps_ret pe_non)))))
      (pss_cons (ps_if (PW.pt (pw_or (pt_cmpR op_isN (pv 2) pe_non (nomark _)) (pw_or1 (pt_not (pt_val (pe_fn G_is_limit (hr.mono (by decide)) rfl (pa_cons (pe_op op_catT (pv 1) (pe_tup (pa_cons (pv 2) pa_nil))) pa_nil))))))) (pss_one (ps_ret pe_non)) pss_nil)
      (pss_one (ps_ret (pe_op op_catT (pv 1) (pe_tup (pa_cons (pv 2) pa_nil)))))))
theorem ok_fact_of (B : Txt w K mg) (F : FnP K "fact_of" s_fact_of f fd) (hm : mg "fact_of" = some (.ref f)) (G_is_fact : OkF P w K mg base "is_fact" 4 ["fact"] (sp_is_fact K)) : OkF P w K mg base "fact_of" 5 ["words"] (sp_fact_of K) := by
  refine ⟨f, fd, hm, F.kp, F.bindsN (fun _ _ _ _ _ _ us hl => match us, hl with | [_], _ => rfl), ?_⟩
  refine F.ok sc_fact_of (fun vs H Q E h => len_fact_of h) (fun cdv A outer s H vs Q E hr h => ⟨t_fact_of K, PSs.nox ?_, run_fact_of h⟩)
  exact (pss_cons (ps_set (i := 1) sc_fact_of.nd rfl (Or.inl rfl) (pe_tup (pa_cons (pe_ix ix_list (pv 0) pe_int (fun _ _ => rfl)) (pa_cons (pe_callTy call_tuple_of rfl B.tuple_ (by decide +kernel) (pa_cons (pe_slice sl_list (pv 0) (po_some pe_int) po_none) pa_nil)) pa_nil))))
      (pss_cons (ps_if (PW.pt (pw_and (pt_cmpR op_in_seq (pe_ix ix_list (pv 0) pe_int (fun _ _ => rfl)) (pe_tup (pa_cons pe_str (pa_cons pe_str pa_nil))) rfl) (pw_and1 (pt_cmpR op_in_seq pe_str (pv 0) rfl)))) (pss_cons (ps_set (i := 2) sc_fact_of.nd rfl (Or.inl rfl) (pe_bm PySem.F.plainAttrs_list PySem.F.slot_list_index PySem.F.type_list_index mt_index (pv 0) (pa_cons pe_str pa_nil)))
      (pss_one (ps_set (i := 1) sc_fact_of.nd rfl (Or.inl rfl) (pe_tup (pa_cons (pe_ix ix_list (pv 0) pe_int (fun _ _ => rfl)) (pa_cons (pe_callTy call_tuple_of rfl B.tuple_ (by decide +kernel) (pa_cons (pe_slice sl_list (pv 0) (po_some pe_int) (po_some (pv 2))) pa_nil)) (pa_cons (pe_callTy call_tuple_of rfl B.tuple_ (by decide +kernel) (pa_cons (pe_slice sl_list (pv 0) (po_some (pe_op op_add (pv 2) pe_int)) po_none) pa_nil)) pa_nil))))))) pss_nil)
      (pss_one (ps_ret (pe_ifExp (pt_val (pe_fn G_is_fact (hr.mono (by decide)) rfl (pa_cons (pv 1) pa_nil))) (pv 1) pe_non)))))
theorem ok_law_limit (B : Txt w K mg) (F : FnP K "_law_limit" s_law_limit f fd) (hm : mg "_law_limit" = some (.ref f)) (G_law_name : OkF P w K mg base "_law_name" 3 ["_law_source_here"] (sp_law_name K)) (G_law_take : OkF P w K mg base "_law_take" 2 ["_law_source_here", "_law_many"] (sp_law_take K)) (G_law_sum : OkF P w K mg base "_law_sum" 4 ["_law_source_here", "_law_most"] (sp_law_sum K)) (G_law_stack : OkF P w K mg base "_law_stack" 3 ["_law_source_here"] (sp_law_stack K)) : OkF P w K mg base "_law_limit" 5 ["_law_source_here", "_law_most"] (sp_law_limit K) := by
  refine ⟨f, fd, hm, F.kp, F.bindsN (fun _ _ _ _ _ _ us hl => match us, hl with | [_, _], _ => rfl), ?_⟩
  refine F.ok sc_law_limit (fun vs H Q E h => len_law_limit h) (fun cdv A outer s H vs Q E hr h => ⟨t_law_limit K, PSs.nox ?_, run_law_limit h⟩)
  exact (pss_cons (ps_set (i := 2) sc_law_limit.nd rfl (Or.inl rfl) (pe_fn G_law_name (hr.mono (by decide)) rfl (pa_cons (pv 0) pa_nil)))
      (pss_cons (ps_set (i := 3) sc_law_limit.nd rfl (Or.inl rfl) (pe_fn G_law_name (hr.mono (by decide)) rfl (pa_cons (pv 0) pa_nil)))
      (pss_cons (ps_set (i := 4) sc_law_limit.nd rfl (Or.inl rfl) (pe_fn G_law_take (hr.mono (by decide)) rfl (pa_cons (pv 0) (pa_cons pe_int pa_nil))))
      (pss_cons (ps_if (pt_cmpR op_eq (pv 4) pe_int (nomark _)) (pss_one (ps_set (i := 2) sc_law_limit.nd rfl (Or.inl rfl) pe_str)) (pss_one (ps_if (PW.pt (pw_or (pt_cmpR op_eq (pv 4) pe_int (nomark _)) (pw_or1 (pt_cmpR op_eq (pv 2) (pv 3) (nomark _))))) (pss_one (ps_set (i := 3) sc_law_limit.nd rfl (Or.inl rfl) pe_str)) pss_nil)))
      (pss_cons (ps_if (pt_cmpR op_eq (pv 2) (pv 3) (nomark _)) (pss_one (ps_set (i := 3) sc_law_limit.nd rfl (Or.inl rfl) pe_str)) pss_nil)
      (pss_cons (ps_if (pt_cmpR op_eq (pe_fn G_law_take (hr.mono (by decide)) rfl (pa_cons (pv 0) (pa_cons pe_int pa_nil))) pe_int (nomark _)) (pss_one (ps_ret (pe_tup (pa_cons pe_str (pa_cons (pv 2) (pa_cons (pv 3) (pa_cons (pe_fn G_law_sum (hr.mono (by decide)) rfl (pa_cons (pv 0) (pa_cons (pv 1) pa_nil))) pa_nil))))))) pss_nil)
      (pss_one (ps_ret (pe_tup (pa_cons pe_str (pa_cons (pv 2) (pa_cons (pv 3) (pa_cons (pe_fn G_law_stack (hr.mono (by decide)) rfl (pa_cons (pv 0) pa_nil)) (pa_cons (pe_fn G_law_sum (hr.mono (by decide)) rfl (pa_cons (pv 0) (pa_cons (pv 1) pa_nil))) pa_nil))))))))))))))
theorem ok_law_fact (B : Txt w K mg) (F : FnP K "_law_fact" s_law_fact f fd) (hm : mg "_law_fact" = some (.ref f)) (G_law_take : OkF P w K mg base "_law_take" 2 ["_law_source_here", "_law_many"] (sp_law_take K)) (G_law_run : OkF P w K mg base "_law_run" 4 ["_law_source_here"] (sp_law_run K)) : OkF P w K mg base "_law_fact" 5 ["_law_source_here"] (sp_law_fact K) := by
  refine ⟨f, fd, hm, F.kp, F.bindsN (fun _ _ _ _ _ _ us hl => match us, hl with | [_], _ => rfl), ?_⟩
  refine F.ok sc_law_fact (fun vs H Q E h => len_law_fact h) (fun cdv A outer s H vs Q E hr h => ⟨t_law_fact K, PSs.nox ?_, run_law_fact h⟩)
  exact (pss_cons (ps_set (i := 1) sc_law_fact.nd rfl (Or.inl rfl) (pe_ix ix_list (pe_lst (pa_cons pe_str (pa_cons pe_str (pa_cons pe_str (pa_cons pe_str pa_nil))))) (pe_fn G_law_take (hr.mono (by decide)) rfl (pa_cons (pv 0) (pa_cons pe_int pa_nil))) (fun _ _ => rfl)))
      (pss_cons (ps_set (i := 2) sc_law_fact.nd rfl (Or.inl rfl) (pe_fn G_law_run (hr.mono (by decide)) rfl (pa_cons (pv 0) pa_nil)))
      (pss_cons (ps_if (PW.pt (pw_or (pt_cmpR op_eq (pv 1) pe_str (nomark _)) (pw_or1 (pt_cmpR op_eq (pv 1) pe_str (nomark _))))) (pss_one (ps_ret (pe_tup (pa_cons (pv 1) (pa_cons (pv 2) pa_nil))))) pss_nil)
      (pss_cons (ps_if (pt_cmpR op_eq (pe_fn G_law_take (hr.mono (by decide)) rfl (pa_cons (pv 0) (pa_cons pe_int pa_nil))) pe_int (nomark _)) (pss_one (ps_ret (pe_tup (pa_cons (pv 1) (pa_cons (pv 2) (pa_cons (pv 2) pa_nil)))))) pss_nil)
      (pss_one (ps_ret (pe_tup (pa_cons (pv 1) (pa_cons (pv 2) (pa_cons (pe_fn G_law_run (hr.mono (by decide)) rfl (pa_cons (pv 0) pa_nil)) pa_nil))))))))))
theorem ok_read_limit (B : Txt w K mg) (F : FnP K "read_limit" s_read_limit f fd) (hm : mg "read_limit" = some (.ref f)) (G_limit_of : OkF P w K mg base "limit_of" 5 ["words"] (sp_limit_of K)) : OkF P w K mg base "read_limit" 6 ["text"] (sp_read_limit K) := by
  refine ⟨f, fd, hm, F.kp, F.bindsN (fun _ _ _ _ _ _ us hl => match us, hl with | [_], _ => rfl), ?_⟩
  refine F.ok sc_read_limit (fun vs H Q E h => len_read_limit h) (fun cdv A outer s H vs Q E hr h => ⟨t_read_limit K, PSs.nox ?_, run_read_limit h⟩)
  exact (pss_cons (ps_set (i := 1) sc_read_limit.nd rfl (Or.inl rfl) (pe_fn G_limit_of (hr.mono (by decide)) rfl (pa_cons (pe_split (pv 0) pe_str) pa_nil)))
      (pss_cons (ps_if (pt_cmpR op_isN (pv 1) pe_non (nomark _)) (pss_one ps_never) pss_nil)
      (pss_one (ps_ret (pv 1)))))
theorem ok_read_fact (B : Txt w K mg) (F : FnP K "read_fact" s_read_fact f fd) (hm : mg "read_fact" = some (.ref f)) (G_fact_of : OkF P w K mg base "fact_of" 5 ["words"] (sp_fact_of K)) : OkF P w K mg base "read_fact" 6 ["text"] (sp_read_fact K) := by
  refine ⟨f, fd, hm, F.kp, F.bindsN (fun _ _ _ _ _ _ us hl => match us, hl with | [_], _ => rfl), ?_⟩
  refine F.ok sc_read_fact (fun vs H Q E h => len_read_fact h) (fun cdv A outer s H vs Q E hr h => ⟨t_read_fact K, PSs.nox ?_, run_read_fact h⟩)
  exact (pss_cons (ps_set (i := 1) sc_read_fact.nd rfl (Or.inl rfl) (pe_fn G_fact_of (hr.mono (by decide)) rfl (pa_cons (pe_split (pv 0) pe_str) pa_nil)))
      (pss_cons (ps_if (pt_cmpR op_isN (pv 1) pe_non (nomark _)) (pss_one ps_never) pss_nil)
      (pss_one (ps_ret (pv 1)))))
theorem ok_law_read_first (B : Txt w K mg) (F : FnP K "_law_read_first" s_law_read_first f fd) (hm : mg "_law_read_first" = some (.ref f)) (G_read_fact : OkF P w K mg base "read_fact" 6 ["text"] (sp_read_fact K)) (G_read_limit : OkF P w K mg base "read_limit" 6 ["text"] (sp_read_limit K)) (G_write_fact : OkF P w K mg base "write_fact" 1 ["fact"] (sp_write_fact K)) (G_write_limit : OkF P w K mg base "write_limit" 3 ["limit"] (sp_write_limit K)) : OkG P w K mg base "_law_read_first" 7 ["_law_text", "_law_thing", "_law_of_fact"] (sp_law_read_first K) := by
  refine ⟨f, fd, hm, F.kp, F.bindsN (fun _ _ _ _ _ _ us hl => match us, hl with | [_, _, _], _ => rfl), ?_⟩
  refine gok_of F sc_law_read_first (fun vs H Q E h => len_law_read_first h) (fun cdv A outer s H vs Q E gd hr h => ⟨t_law_read_first K, PSs.nox ?_, run_law_read_first h⟩)
  exact (pss_cons (ps_set (i := 3) sc_law_read_first.nd rfl (Or.inl rfl) (pe_ifExp (pt_val (pv 2)) (pe_fn G_read_fact (hr.mono (by decide)) rfl (pa_cons (pv 0) pa_nil)) (pe_fn G_read_limit (hr.mono (by decide)) rfl (pa_cons (pv 0) pa_nil))))
      (pss_cons (ps_if (PW.pt (pw_or (pt_not (pt_val (pe_callB RZ.call_isTy rfl B.isinstance (by decide +kernel) (pa_cons (pv 3) (pa_cons (pe_bltn (v := .ty "tuple") rfl B.tuple_ (by decide +kernel) rfl) pa_nil))))) (pw_or1 (pt_cmpR op_ne (pe_callB (call_repr_dp gd hr.units) rfl B.repr_ (by decide +kernel) (pa_cons (pv 3) pa_nil)) (pe_callB (call_repr_dp gd hr.units) rfl B.repr_ (by decide +kernel) (pa_cons (pv 1) pa_nil)) (nomark _))))) (pss_one (ps_ret pe_bl)) pss_nil)
      (pss_cons (ps_set (i := 4) sc_law_read_first.nd rfl (Or.inl rfl) (pe_ifExp (pt_val (pv 2)) (pe_fn G_write_fact (hr.mono (by decide)) rfl (pa_cons (pv 1) pa_nil)) (pe_fn G_write_limit (hr.mono (by decide)) rfl (pa_cons (pv 1) pa_nil))))
      (pss_cons (ps_set (i := 5) sc_law_read_first.nd rfl (Or.inl rfl) (pe_ifExp (pt_val (pv 2)) (pe_fn G_write_fact (hr.mono (by decide)) rfl (pa_cons (pv 3) pa_nil)) (pe_fn G_write_limit (hr.mono (by decide)) rfl (pa_cons (pv 3) pa_nil))))
      (pss_one (ps_ret (pe_and (pe_callB RZ.call_isTy rfl B.isinstance (by decide +kernel) (pa_cons (pv 4) (pa_cons (pe_bltn (v := .ty "str") rfl B.str_ (by decide +kernel) rfl) pa_nil))) (pe_and (pe_cmpR op_eq (pv 4) (pv 0) (nomark _)) (pe_one (pe_cmpR op_eq (pv 5) (pv 0) (nomark _)))))))))))
theorem okAt_law (B : Txt w K mg) (F : FnP K "law" s_law f fd) (hm : mg "law" = some (.ref f)) (G_law_source : OkF P w K mg base "_law_source" 1 ["_law_script"] (sp_law_source K)) (G_law_take : OkF P w K mg base "_law_take" 2 ["_law_source_here", "_law_many"] (sp_law_take K)) (G_law_limit : OkF P w K mg base "_law_limit" 5 ["_law_source_here", "_law_most"] (sp_law_limit K)) (G_law_limit_text : OkF P w K mg base "_law_limit_text" 1 ["_law_limit_here"] (sp_law_limit_text K)) (G_law_read_first : OkG P w K mg base "_law_read_first" 7 ["_law_text", "_law_thing", "_law_of_fact"] (sp_law_read_first K)) (G_law_fact : OkF P w K mg base "_law_fact" 5 ["_law_source_here"] (sp_law_fact K)) (G_law_fact_text : OkF P w K mg base "_law_fact_text" 1 ["_law_fact_here"] (sp_law_fact_text K)) : GOk P w K mg base 8 f fd ["_law_script"] (sp_law K) := by
  refine gok_of F sc_law (fun vs H Q E h => len_law h) (fun cdv A outer s H vs Q E gd hr h => ⟨t_law K, PSs.nox ?_, run_law h⟩)
  exact (pss_cons (ps_set (i := 1) sc_law.nd rfl (Or.inl rfl) (pe_fn G_law_source (hr.mono (by decide)) rfl (pa_cons (pv 0) pa_nil)))
      (pss_cons (ps_for PassesOwn.never rfl (pi_range1 rfl B.range (pa_cons pe_int pa_nil)) (pg_name (i := 2) sc_law.nd rfl (Or.inl rfl)) (pss_cons (ps_set (i := 3) sc_law.nd rfl (Or.inl rfl) pe_int)
      (pss_cons (ps_if (pt_cmpR op_eq (pe_fn G_law_take (hr.mono (by decide)) rfl (pa_cons (pv 1) (pa_cons pe_int pa_nil))) pe_int (nomark _)) (pss_one (ps_set (i := 3) sc_law.nd rfl (Or.inl rfl) pe_int)) pss_nil)
      (pss_cons (ps_set (i := 4) sc_law.nd rfl (Or.inl rfl) (pe_fn G_law_limit (hr.mono (by decide)) rfl (pa_cons (pv 1) (pa_cons (pv 3) pa_nil))))
      (pss_cons (ps_if (pt_not (pt_val (pe_gfn gd G_law_read_first (hr.mono (by decide)) rfl (pa_cons (pe_fn G_law_limit_text (hr.mono (by decide)) rfl (pa_cons (pv 4) pa_nil)) (pa_cons (pv 4) (pa_cons pe_bl pa_nil)))))) (pss_one (ps_ret pe_bl)) pss_nil)
      (pss_cons (ps_set (i := 5) sc_law.nd rfl (Or.inl rfl) (pe_fn G_law_fact (hr.mono (by decide)) rfl (pa_cons (pv 1) pa_nil)))
      (pss_one (ps_if (pt_not (pt_val (pe_gfn gd G_law_read_first (hr.mono (by decide)) rfl (pa_cons (pe_fn G_law_fact_text (hr.mono (by decide)) rfl (pa_cons (pv 5) pa_nil)) (pa_cons (pv 5) (pa_cons pe_bl pa_nil)))))) (pss_one (ps_ret pe_bl)) pss_nil))))))))
      (pss_one (ps_ret pe_bl))))
end
end My


namespace My
open PySem PySem.Spec PyProof.Rows L2
/-! ### the head's facts -/
abbrev Vals := List (Str × List (Str × He.Dv))
def valsOk (xs : Vals) (K : PySem.W.Frag) : Bool := xs.all fun q => He.valsB K (He.ga K q.1) q.2
abbrev AlV : Type := He.AlT × Bool
def obsV (fa : List He.Fa) (fn : List He.DefD) (ts : List He.Tab) (xs : Vals) (K : PySem.W.Frag) : AlV := (He.obsT fa fn ts K, valsOk xs K)
def obsVG (n : Nat) (fa : List He.Fa) (fn : List He.DefD) (ts : List He.Tab) (xs : Vals) (g : Addr → Option Obj) : AlV := obsV fa fn ts xs (He.frG g (He.asD g n))
def SaysV (fa : List He.Fa) (fn : List He.DefD) (ts : List He.Tab) (xs : Vals) (w : World) (K : PySem.W.Frag) : Prop := obsV fa fn ts xs K = (He.valT fn ts w, true)
def hookV (n : Nat) (fa : List He.Fa) (fn : List He.DefD) (ts : List He.Tab) (xs : Vals) : PySem.W.Hook where
  α := AlV
  obs := fun s => obsVG n fa fn ts xs s.heap.get?
  val := fun w => (He.valT fn ts w, true)
  says := fun w h => ∃ K : PySem.W.Frag, K.In h ∧ SaysV fa fn ts xs w K
  of := fun _ _ e => ⟨_, He.frG_in, e⟩
  keeps := fun _ _ _ ⟨K, hK, c⟩ k => ⟨K, PySem.W.Frag.In.keeps hK k, c⟩
theorem obsVG_eq {n : Nat} {fa : List He.Fa} {fn : List He.DefD} {ts : List He.Tab} {xs : Vals} {g : Addr → Option Obj} {s : Shared} (h : ∀ a, g a = s.heap.get? a) : obsVG n fa fn ts xs g = (hookV n fa fn ts xs).obs s := by
  obtain rfl : g = s.heap.get? := funext h
  rfl
section
variable {fa : List He.Fa} {fn : List He.DefD} {ts : List He.Tab} {xs : Vals} {w : World} {K : PySem.W.Frag}
theorem SaysV.t (c : SaysV fa fn ts xs w K) : He.SaysT fa fn ts w K := congrArg (fun z : AlV => z.1) c
theorem SaysV.d (c : SaysV fa fn ts xs w K) : He.SaysD fa fn K := He.SaysT.d c.t
theorem SaysV.tab (c : SaysV fa fn ts xs w K) (i : Nat) {t : He.Tab} (h : ts[i]? = some t := by rfl) : IsKD K w (t.1 K) := He.SaysT.tab c.t i h
theorem SaysV.x (c : SaysV fa fn ts xs w K) : valsOk xs K = true := congrArg (fun z : AlV => z.2) c
theorem valAt (c : valsOk xs K = true) (i j : Nat) {q : Str × List (Str × He.Dv)} {r : Str × He.Dv} (h : xs[i]? = some q) (h2 : q.2[j]? = some r) : ∃ u, PySem.W.nsIn K (He.ga K q.1) r.1 = some (some u) ∧ RelV (r.2.v K) u :=
  He.valsB_ok (List.all_eq_true.mp c q (List.mem_of_getElem? h)) (List.mem_of_getElem? h2)
end
abbrev tb_ITEM_COUNTS : He.Tab := (fun K => He.ga K "ITEM_COUNTS", ["room", "reach"])
abbrev tb_RUN_COUNTS : He.Tab := (fun K => He.ga K "RUN_COUNTS", ["goes", "fails", "alike", "apart"])
def tabs : List He.Tab := [tb_ITEM_COUNTS, tb_RUN_COUNTS]
def tabVals : Vals := [("ITEM_COUNTS", [("room", .int 5), ("reach", .int 4)]), ("RUN_COUNTS", [("goes", .int 1), ("fails", .int 1), ("alike", .int 2), ("apart", .int 2)])]
def d_is_name : He.DefD := ⟨("is_name", none), "is_name", "is_name", defArgs s_is_name, defBody s_is_name, defScope s_is_name, [], []⟩
def d_is_text : He.DefD := ⟨("is_text", none), "is_text", "is_text", defArgs s_is_text, defBody s_is_text, defScope s_is_text, [], []⟩
def d_number_of : He.DefD := ⟨("number_of", none), "number_of", "number_of", defArgs s_number_of, defBody s_number_of, defScope s_number_of, [], []⟩
def d_sum_words : He.DefD := ⟨("sum_words", none), "sum_words", "sum_words", defArgs s_sum_words, defBody s_sum_words, defScope s_sum_words, [], []⟩
def d_write_fact : He.DefD := ⟨("write_fact", none), "write_fact", "write_fact", defArgs s_write_fact, defBody s_write_fact, defScope s_write_fact, [], []⟩
def d_law_mixed : He.DefD := ⟨("_law_mixed", none), "_law_mixed", "_law_mixed", defArgs s_law_mixed, defBody s_law_mixed, defScope s_law_mixed, [], []⟩
def d_law_source : He.DefD := ⟨("_law_source", none), "_law_source", "_law_source", defArgs s_law_source, defBody s_law_source, defScope s_law_source, [], []⟩
def d_law_chars : He.DefD := ⟨("_law_chars", none), "_law_chars", "_law_chars", defArgs s_law_chars, defBody s_law_chars, defScope s_law_chars, [], []⟩
def d_law_limit_text : He.DefD := ⟨("_law_limit_text", none), "_law_limit_text", "_law_limit_text", defArgs s_law_limit_text, defBody s_law_limit_text, defScope s_law_limit_text, [], []⟩
def d_law_fact_text : He.DefD := ⟨("_law_fact_text", none), "_law_fact_text", "_law_fact_text", defArgs s_law_fact_text, defBody s_law_fact_text, defScope s_law_fact_text, [], []⟩
def d_is_step_name : He.DefD := ⟨("is_step_name", none), "is_step_name", "is_step_name", defArgs s_is_step_name, defBody s_is_step_name, defScope s_is_step_name, [], []⟩
def d_is_step : He.DefD := ⟨("is_step", none), "is_step", "is_step", defArgs s_is_step, defBody s_is_step, defScope s_is_step, [], []⟩
def d_sum_of : He.DefD := ⟨("sum_of", none), "sum_of", "sum_of", defArgs s_sum_of, defBody s_sum_of, defScope s_sum_of, [], []⟩
def d_limit_words : He.DefD := ⟨("limit_words", none), "limit_words", "limit_words", defArgs s_limit_words, defBody s_limit_words, defScope s_limit_words, [], []⟩
def d_law_take : He.DefD := ⟨("_law_take", none), "_law_take", "_law_take", defArgs s_law_take, defBody s_law_take, defScope s_law_take, [], []⟩
def d_is_sum : He.DefD := ⟨("is_sum", none), "is_sum", "is_sum", defArgs s_is_sum, defBody s_is_sum, defScope s_is_sum, [], []⟩
def d_is_run : He.DefD := ⟨("is_run", none), "is_run", "is_run", defArgs s_is_run, defBody s_is_run, defScope s_is_run, [], []⟩
def d_write_limit : He.DefD := ⟨("write_limit", none), "write_limit", "write_limit", defArgs s_write_limit, defBody s_write_limit, defScope s_write_limit, [], []⟩
def d_law_name : He.DefD := ⟨("_law_name", none), "_law_name", "_law_name", defArgs s_law_name, defBody s_law_name, defScope s_law_name, [], []⟩
def d_law_number : He.DefD := ⟨("_law_number", none), "_law_number", "_law_number", defArgs s_law_number, defBody s_law_number, defScope s_law_number, [], []⟩
def d_law_stack : He.DefD := ⟨("_law_stack", none), "_law_stack", "_law_stack", defArgs s_law_stack, defBody s_law_stack, defScope s_law_stack, [], []⟩
def d_is_limit : He.DefD := ⟨("is_limit", none), "is_limit", "is_limit", defArgs s_is_limit, defBody s_is_limit, defScope s_is_limit, [], []⟩
def d_is_fact : He.DefD := ⟨("is_fact", none), "is_fact", "is_fact", defArgs s_is_fact, defBody s_is_fact, defScope s_is_fact, [], []⟩
def d_law_sum : He.DefD := ⟨("_law_sum", none), "_law_sum", "_law_sum", defArgs s_law_sum, defBody s_law_sum, defScope s_law_sum, [], []⟩
def d_law_run : He.DefD := ⟨("_law_run", none), "_law_run", "_law_run", defArgs s_law_run, defBody s_law_run, defScope s_law_run, [], []⟩
def d_limit_of : He.DefD := ⟨("limit_of", none), "limit_of", "limit_of", defArgs s_limit_of, defBody s_limit_of, defScope s_limit_of, [], []⟩
def d_fact_of : He.DefD := ⟨("fact_of", none), "fact_of", "fact_of", defArgs s_fact_of, defBody s_fact_of, defScope s_fact_of, [], []⟩
def d_law_limit : He.DefD := ⟨("_law_limit", none), "_law_limit", "_law_limit", defArgs s_law_limit, defBody s_law_limit, defScope s_law_limit, [], []⟩
def d_law_fact : He.DefD := ⟨("_law_fact", none), "_law_fact", "_law_fact", defArgs s_law_fact, defBody s_law_fact, defScope s_law_fact, [], []⟩
def d_read_limit : He.DefD := ⟨("read_limit", none), "read_limit", "read_limit", defArgs s_read_limit, defBody s_read_limit, defScope s_read_limit, [], []⟩
def d_read_fact : He.DefD := ⟨("read_fact", none), "read_fact", "read_fact", defArgs s_read_fact, defBody s_read_fact, defScope s_read_fact, [], []⟩
def d_law_read_first : He.DefD := ⟨("_law_read_first", none), "_law_read_first", "_law_read_first", defArgs s_law_read_first, defBody s_law_read_first, defScope s_law_read_first, [], []⟩
def d_law : He.DefD := ⟨("law", none), "law", "law", defArgs s_law, defBody s_law, defScope s_law, [], []⟩
def fns : List He.DefD := [d_is_name, d_is_text, d_number_of, d_sum_words, d_write_fact, d_law_mixed, d_law_source, d_law_chars, d_law_limit_text, d_law_fact_text, d_is_step_name, d_is_step, d_sum_of, d_limit_words, d_law_take, d_is_sum, d_is_run, d_write_limit, d_law_name, d_law_number, d_law_stack, d_is_limit, d_is_fact, d_law_sum, d_law_run, d_limit_of, d_fact_of, d_law_limit, d_law_fact, d_read_limit, d_read_fact, d_law_read_first, d_law]
def facs : List He.Fa := ([.free "abs", .free "all", .free "int", .free "isinstance", .free "len", .free "list", .free "range", .free "repr", .free "sorted", .free "str", .free "tuple", .free "zip", .str "CHARACTERS" c_CHARACTERS, .str "DIGITS" c_DIGITS, .str "FRAME" c_FRAME, .glo "ITEM_COUNTS", .str "LETTERS" c_LETTERS, .int "LONGEST_NAME" 12, .int "MOST_DIGITS" 60, .glo "RUN_COUNTS", .glo "is_name", .glo "is_text", .glo "number_of", .glo "sum_words", .glo "write_fact", .glo "_law_mixed", .glo "_law_source", .glo "_law_chars", .glo "_law_limit_text", .glo "_law_fact_text"] : List He.Fa) ++ ([.glo "is_step_name", .glo "is_step", .glo "sum_of", .glo "limit_words", .glo "_law_take", .glo "is_sum", .glo "is_run", .glo "write_limit", .glo "_law_name", .glo "_law_number", .glo "_law_stack", .glo "is_limit", .glo "is_fact", .glo "_law_sum", .glo "_law_run", .glo "limit_of", .glo "fact_of", .glo "_law_limit", .glo "_law_fact", .glo "read_limit", .glo "read_fact", .glo "_law_read_first", .glo "law"] : List He.Fa)
abbrev R : PySem.W.OpenRow := PySem.W.OpenLaw.row PySem.Challenge.rw_drawingoffice_k51_limits_and_facts_in_te
abbrev qv : Program := PySem.W.view R.prog [50]
def names : List PySem.Str := (["OfficeError", "BadLine", "LETTERS", "DIGITS", "LONGEST_NAME", "FRAME", "CHARACTERS", "is_name", "is_step_name", "is_text", "ITEM_COUNTS", "is_sum", "is_limit", "is_step", "is_run", "RUN_COUNTS", "is_fact", "MOST_DIGITS", "number_of", "sum_of", "limit_of", "fact_of", "read_limit", "read_fact", "sum_words", "limit_words", "write_limit", "write_fact", "_law_mixed", "_law_source"] : List PySem.Str) ++ (["_law_take", "_law_name", "_law_chars", "_law_number", "_law_sum", "_law_stack", "_law_limit", "_law_limit_text", "_law_fact_text", "_law_run", "_law_fact", "_law_read_first"] : List PySem.Str)
abbrev hk : PySem.W.Hook := hookV 4 facs fns tabs tabVals
def ob (s : PySem.W.SharedT) : AlV := obsVG 4 facs fns tabs tabVals (HandSHeadRun.getT s)
theorem ob_eq (s : PySem.W.SharedT) : ob s = hk.obs s.abs := obsVG_eq (HandSHeadRun.getT_eq s)
theorem runs (w : World) : HandSHeadRun.RunEq R qv hk ob 4000 names w :=
  PySem.W.byRow2 "special-get-raises" (P := fun w => HandSHeadRun.RunEq R qv hk ob 4000 names w) (fun w => by
    intro os
    kernel_rfl) (fun w => by
    intro os
    kernel_rfl) w
theorem facts {P : Program} {w : World} {K : PySem.W.Frag} {h : Heap} {mg : Str → Option Value} {f : Addr} (X : K.In h) (G : h.Ns mainGlobals mg) (hfa : mg ("law" : Str) = some (.ref f)) (c : SaysV facs fns tabs tabVals w K) :
    ∃ fd : FuncData, (∀ (s : Shared) (v : Value), BindsTo s fd ⟨[v], []⟩ [("_law_script", v)]) ∧ ∀ base : Heap, K.In base → base.Ns mainGlobals mg → GOk P w K mg base 8 f fd ["_law_script"] (sp_law K) := by
  have B : Txt w K mg := ⟨He.free_ok X G (c.d.fact 0 (f := .free "abs") rfl),
    He.free_ok X G (c.d.fact 1 (f := .free "all") rfl),
    He.free_ok X G (c.d.fact 2 (f := .free "int") rfl),
    He.free_ok X G (c.d.fact 3 (f := .free "isinstance") rfl),
    He.free_ok X G (c.d.fact 4 (f := .free "len") rfl),
    He.free_ok X G (c.d.fact 5 (f := .free "list") rfl),
    He.free_ok X G (c.d.fact 6 (f := .free "range") rfl),
    He.free_ok X G (c.d.fact 7 (f := .free "repr") rfl),
    He.free_ok X G (c.d.fact 8 (f := .free "sorted") rfl),
    He.free_ok X G (c.d.fact 9 (f := .free "str") rfl),
    He.free_ok X G (c.d.fact 10 (f := .free "tuple") rfl),
    He.free_ok X G (c.d.fact 11 (f := .free "zip") rfl),
    He.str_ok X G (c.d.fact 12 (f := .str "CHARACTERS" c_CHARACTERS) rfl),
    He.str_ok X G (c.d.fact 13 (f := .str "DIGITS" c_DIGITS) rfl),
    He.str_ok X G (c.d.fact 14 (f := .str "FRAME" c_FRAME) rfl),
    He.glo_ok X G (c.d.fact 15 (f := .glo "ITEM_COUNTS") rfl),
    c.tab 0 (t := tb_ITEM_COUNTS) rfl,
    valAt (c := c.x) 0 0 rfl rfl,
    valAt (c := c.x) 0 1 rfl rfl,
    He.str_ok X G (c.d.fact 16 (f := .str "LETTERS" c_LETTERS) rfl),
    He.int_ok X G (c.d.fact 17 (f := .int "LONGEST_NAME" 12) rfl),
    He.int_ok X G (c.d.fact 18 (f := .int "MOST_DIGITS" 60) rfl),
    He.glo_ok X G (c.d.fact 19 (f := .glo "RUN_COUNTS") rfl),
    c.tab 1 (t := tb_RUN_COUNTS) rfl,
    valAt (c := c.x) 1 0 rfl rfl,
    valAt (c := c.x) 1 1 rfl rfl,
    valAt (c := c.x) 1 2 rfl rfl,
    valAt (c := c.x) 1 3 rfl rfl⟩
  obtain ⟨fd_is_name, F_is_name⟩ := c.d.def_ 0 (d := d_is_name) rfl
  have G_is_name : ∀ base : Heap, OkF P w K mg base "is_name" 1 ["text"] (sp_is_name K) := fun base => ok_is_name B F_is_name (He.glo_ok X G (c.d.fact 20 (f := .glo "is_name") rfl))
  obtain ⟨fd_is_text, F_is_text⟩ := c.d.def_ 1 (d := d_is_text) rfl
  have G_is_text : ∀ base : Heap, OkF P w K mg base "is_text" 1 ["text"] (sp_is_text K) := fun base => ok_is_text B F_is_text (He.glo_ok X G (c.d.fact 21 (f := .glo "is_text") rfl))
  obtain ⟨fd_number_of, F_number_of⟩ := c.d.def_ 2 (d := d_number_of) rfl
  have G_number_of : ∀ base : Heap, OkF P w K mg base "number_of" 1 ["word"] (sp_number_of K) := fun base => ok_number_of B F_number_of (He.glo_ok X G (c.d.fact 22 (f := .glo "number_of") rfl))
  obtain ⟨fd_sum_words, F_sum_words⟩ := c.d.def_ 3 (d := d_sum_words) rfl
  have G_sum_words : ∀ base : Heap, OkF P w K mg base "sum_words" 1 ["amount"] (sp_sum_words K) := fun base => ok_sum_words B F_sum_words (He.glo_ok X G (c.d.fact 23 (f := .glo "sum_words") rfl))
  obtain ⟨fd_write_fact, F_write_fact⟩ := c.d.def_ 4 (d := d_write_fact) rfl
  have G_write_fact : ∀ base : Heap, OkF P w K mg base "write_fact" 1 ["fact"] (sp_write_fact K) := fun base => ok_write_fact B F_write_fact (He.glo_ok X G (c.d.fact 24 (f := .glo "write_fact") rfl))
  obtain ⟨fd_law_mixed, F_law_mixed⟩ := c.d.def_ 5 (d := d_law_mixed) rfl
  have G_law_mixed : ∀ base : Heap, OkF P w K mg base "_law_mixed" 1 ["_law_cell", "_law_place"] (sp_law_mixed K) := fun base => ok_law_mixed B F_law_mixed (He.glo_ok X G (c.d.fact 25 (f := .glo "_law_mixed") rfl))
  obtain ⟨fd_law_source, F_law_source⟩ := c.d.def_ 6 (d := d_law_source) rfl
  have G_law_source : ∀ base : Heap, OkF P w K mg base "_law_source" 1 ["_law_script"] (sp_law_source K) := fun base => ok_law_source B F_law_source (He.glo_ok X G (c.d.fact 26 (f := .glo "_law_source") rfl))
  obtain ⟨fd_law_chars, F_law_chars⟩ := c.d.def_ 7 (d := d_law_chars) rfl
  have G_law_chars : ∀ base : Heap, OkF P w K mg base "_law_chars" 1 [] (sp_law_chars K) := fun base => ok_law_chars B F_law_chars (He.glo_ok X G (c.d.fact 27 (f := .glo "_law_chars") rfl))
  obtain ⟨fd_law_limit_text, F_law_limit_text⟩ := c.d.def_ 8 (d := d_law_limit_text) rfl
  have G_law_limit_text : ∀ base : Heap, OkF P w K mg base "_law_limit_text" 1 ["_law_limit_here"] (sp_law_limit_text K) := fun base => ok_law_limit_text B F_law_limit_text (He.glo_ok X G (c.d.fact 28 (f := .glo "_law_limit_text") rfl))
  obtain ⟨fd_law_fact_text, F_law_fact_text⟩ := c.d.def_ 9 (d := d_law_fact_text) rfl
  have G_law_fact_text : ∀ base : Heap, OkF P w K mg base "_law_fact_text" 1 ["_law_fact_here"] (sp_law_fact_text K) := fun base => ok_law_fact_text B F_law_fact_text (He.glo_ok X G (c.d.fact 29 (f := .glo "_law_fact_text") rfl))
  obtain ⟨fd_is_step_name, F_is_step_name⟩ := c.d.def_ 10 (d := d_is_step_name) rfl
  have G_is_step_name : ∀ base : Heap, OkF P w K mg base "is_step_name" 2 ["text"] (sp_is_step_name K) := fun base => ok_is_step_name B F_is_step_name (He.glo_ok X G (c.d.fact 30 (f := .glo "is_step_name") rfl)) (G_is_name base)
  obtain ⟨fd_is_step, F_is_step⟩ := c.d.def_ 11 (d := d_is_step) rfl
  have G_is_step : ∀ base : Heap, OkF P w K mg base "is_step" 2 ["text"] (sp_is_step K) := fun base => ok_is_step B F_is_step (He.glo_ok X G (c.d.fact 31 (f := .glo "is_step") rfl)) (G_is_name base)
  obtain ⟨fd_sum_of, F_sum_of⟩ := c.d.def_ 12 (d := d_sum_of) rfl
  have G_sum_of : ∀ base : Heap, OkF P w K mg base "sum_of" 2 ["words"] (sp_sum_of K) := fun base => ok_sum_of B F_sum_of (He.glo_ok X G (c.d.fact 32 (f := .glo "sum_of") rfl)) (G_number_of base)
  obtain ⟨fd_limit_words, F_limit_words⟩ := c.d.def_ 13 (d := d_limit_words) rfl
  have G_limit_words : ∀ base : Heap, OkF P w K mg base "limit_words" 2 ["limit"] (sp_limit_words K) := fun base => ok_limit_words B F_limit_words (He.glo_ok X G (c.d.fact 33 (f := .glo "limit_words") rfl)) (G_sum_words base)
  obtain ⟨fd_law_take, F_law_take⟩ := c.d.def_ 14 (d := d_law_take) rfl
  have G_law_take : ∀ base : Heap, OkF P w K mg base "_law_take" 2 ["_law_source_here", "_law_many"] (sp_law_take K) := fun base => ok_law_take B F_law_take (He.glo_ok X G (c.d.fact 34 (f := .glo "_law_take") rfl)) (G_law_mixed base)
  obtain ⟨fd_is_sum, F_is_sum⟩ := c.d.def_ 15 (d := d_is_sum) rfl
  have G_is_sum : ∀ base : Heap, OkF P w K mg base "is_sum" 3 ["value"] (sp_is_sum K) := fun base => ok_is_sum B F_is_sum (He.glo_ok X G (c.d.fact 35 (f := .glo "is_sum") rfl)) (G_is_step_name base)
  obtain ⟨fd_is_run, F_is_run⟩ := c.d.def_ 16 (d := d_is_run) rfl
  have G_is_run : ∀ base : Heap, OkF P w K mg base "is_run" 3 ["run"] (sp_is_run K) := fun base => ok_is_run B F_is_run (He.glo_ok X G (c.d.fact 36 (f := .glo "is_run") rfl)) (G_is_name base) (G_is_step base)
  obtain ⟨fd_write_limit, F_write_limit⟩ := c.d.def_ 17 (d := d_write_limit) rfl
  have G_write_limit : ∀ base : Heap, OkF P w K mg base "write_limit" 3 ["limit"] (sp_write_limit K) := fun base => ok_write_limit B F_write_limit (He.glo_ok X G (c.d.fact 37 (f := .glo "write_limit") rfl)) (G_limit_words base)
  obtain ⟨fd_law_name, F_law_name⟩ := c.d.def_ 18 (d := d_law_name) rfl
  have G_law_name : ∀ base : Heap, OkF P w K mg base "_law_name" 3 ["_law_source_here"] (sp_law_name K) := fun base => ok_law_name B F_law_name (He.glo_ok X G (c.d.fact 38 (f := .glo "_law_name") rfl)) (G_law_take base)
  obtain ⟨fd_law_number, F_law_number⟩ := c.d.def_ 19 (d := d_law_number) rfl
  have G_law_number : ∀ base : Heap, OkF P w K mg base "_law_number" 3 ["_law_source_here"] (sp_law_number K) := fun base => ok_law_number B F_law_number (He.glo_ok X G (c.d.fact 39 (f := .glo "_law_number") rfl)) (G_law_take base)
  obtain ⟨fd_law_stack, F_law_stack⟩ := c.d.def_ 20 (d := d_law_stack) rfl
  have G_law_stack : ∀ base : Heap, OkF P w K mg base "_law_stack" 3 ["_law_source_here"] (sp_law_stack K) := fun base => ok_law_stack B F_law_stack (He.glo_ok X G (c.d.fact 40 (f := .glo "_law_stack") rfl)) (G_law_chars base) (G_law_take base)
  obtain ⟨fd_is_limit, F_is_limit⟩ := c.d.def_ 21 (d := d_is_limit) rfl
  have G_is_limit : ∀ base : Heap, OkF P w K mg base "is_limit" 4 ["value"] (sp_is_limit K) := fun base => ok_is_limit B F_is_limit (He.glo_ok X G (c.d.fact 41 (f := .glo "is_limit") rfl)) (G_is_name base) (G_is_text base) (G_is_sum base)
  obtain ⟨fd_is_fact, F_is_fact⟩ := c.d.def_ 22 (d := d_is_fact) rfl
  have G_is_fact : ∀ base : Heap, OkF P w K mg base "is_fact" 4 ["fact"] (sp_is_fact K) := fun base => ok_is_fact B F_is_fact (He.glo_ok X G (c.d.fact 42 (f := .glo "is_fact") rfl)) (G_is_run base)
  obtain ⟨fd_law_sum, F_law_sum⟩ := c.d.def_ 23 (d := d_law_sum) rfl
  have G_law_sum : ∀ base : Heap, OkF P w K mg base "_law_sum" 4 ["_law_source_here", "_law_most"] (sp_law_sum K) := fun base => ok_law_sum B F_law_sum (He.glo_ok X G (c.d.fact 43 (f := .glo "_law_sum") rfl)) (G_law_take base) (G_law_name base) (G_law_number base)
  obtain ⟨fd_law_run, F_law_run⟩ := c.d.def_ 24 (d := d_law_run) rfl
  have G_law_run : ∀ base : Heap, OkF P w K mg base "_law_run" 4 ["_law_source_here"] (sp_law_run K) := fun base => ok_law_run B F_law_run (He.glo_ok X G (c.d.fact 44 (f := .glo "_law_run") rfl)) (G_law_name base) (G_law_take base)
  obtain ⟨fd_limit_of, F_limit_of⟩ := c.d.def_ 25 (d := d_limit_of) rfl
  have G_limit_of : ∀ base : Heap, OkF P w K mg base "limit_of" 5 ["words"] (sp_limit_of K) := fun base => ok_limit_of B F_limit_of (He.glo_ok X G (c.d.fact 45 (f := .glo "limit_of") rfl)) (G_sum_of base) (G_is_limit base)
  obtain ⟨fd_fact_of, F_fact_of⟩ := c.d.def_ 26 (d := d_fact_of) rfl
  have G_fact_of : ∀ base : Heap, OkF P w K mg base "fact_of" 5 ["words"] (sp_fact_of K) := fun base => ok_fact_of B F_fact_of (He.glo_ok X G (c.d.fact 46 (f := .glo "fact_of") rfl)) (G_is_fact base)
  obtain ⟨fd_law_limit, F_law_limit⟩ := c.d.def_ 27 (d := d_law_limit) rfl
  have G_law_limit : ∀ base : Heap, OkF P w K mg base "_law_limit" 5 ["_law_source_here", "_law_most"] (sp_law_limit K) := fun base => ok_law_limit B F_law_limit (He.glo_ok X G (c.d.fact 47 (f := .glo "_law_limit") rfl)) (G_law_name base) (G_law_take base) (G_law_sum base) (G_law_stack base)
  obtain ⟨fd_law_fact, F_law_fact⟩ := c.d.def_ 28 (d := d_law_fact) rfl
  have G_law_fact : ∀ base : Heap, OkF P w K mg base "_law_fact" 5 ["_law_source_here"] (sp_law_fact K) := fun base => ok_law_fact B F_law_fact (He.glo_ok X G (c.d.fact 48 (f := .glo "_law_fact") rfl)) (G_law_take base) (G_law_run base)
  obtain ⟨fd_read_limit, F_read_limit⟩ := c.d.def_ 29 (d := d_read_limit) rfl
  have G_read_limit : ∀ base : Heap, OkF P w K mg base "read_limit" 6 ["text"] (sp_read_limit K) := fun base => ok_read_limit B F_read_limit (He.glo_ok X G (c.d.fact 49 (f := .glo "read_limit") rfl)) (G_limit_of base)
  obtain ⟨fd_read_fact, F_read_fact⟩ := c.d.def_ 30 (d := d_read_fact) rfl
  have G_read_fact : ∀ base : Heap, OkF P w K mg base "read_fact" 6 ["text"] (sp_read_fact K) := fun base => ok_read_fact B F_read_fact (He.glo_ok X G (c.d.fact 50 (f := .glo "read_fact") rfl)) (G_fact_of base)
  obtain ⟨fd_law_read_first, F_law_read_first⟩ := c.d.def_ 31 (d := d_law_read_first) rfl
  have G_law_read_first : ∀ base : Heap, OkG P w K mg base "_law_read_first" 7 ["_law_text", "_law_thing", "_law_of_fact"] (sp_law_read_first K) := fun base => ok_law_read_first B F_law_read_first (He.glo_ok X G (c.d.fact 51 (f := .glo "_law_read_first") rfl)) (G_read_fact base) (G_read_limit base) (G_write_fact base) (G_write_limit base)
  obtain ⟨fd, F⟩ := c.d.def_ 32 (d := d_law) rfl
  have e := hfa.symm.trans (He.glo_ok X G (c.d.fact 52 (f := .glo "law") rfl))
  cases e
  have b := FunD.bindsA (ps := ["_law_script"]) F fun _ _ _ _ _ _ us hl => match us, hl with | [_], _ => rfl
  refine ⟨fd, fun s v => b s [v] rfl, fun base _ _ => ?_⟩
  exact okAt_law B F (He.glo_ok X G (c.d.fact 52 (f := .glo "law") rfl)) (G_law_source base) (G_law_take base) (G_law_limit base) (G_law_limit_text base) (G_law_read_first base) (G_law_fact base) (G_law_fact_text base)
end My
open PySem PySem.W PySem.Calls PyProof.Rows
theorem PySem.Challenge.cw_drawingoffice_k51_limits_and_facts_in_te_holds : PySem.Challenge.rw_drawingoffice_k51_limits_and_facts_in_te.Holds := by
  w_on; o_law
  refine HandSHeadRun.head_any (r := My.R) (q := My.qv) (H := My.hk) (ob := My.ob) (M := 4000) (loose := My.names) (d := HandSHeadRun.topDef My.R.prog 50) (kwd := []) My.ob_eq
    (by kernel_rfl) (fun s => by kernel_rfl) My.runs (by kernel_rfl) (by kernel_rfl) (by kernel_rfl) (by rfl) (by first | assumption | decide +kernel) (by decide +kernel) ⟨rfl, rfl, rfl, rfl, rfl, by decide +kernel⟩ ?hw ?hc
  case hw => w_witness2
  case hc =>
    refine My.walk_G (l := PySem.Challenge.rw_drawingoffice_k51_limits_and_facts_in_te) (n := 63) (k := 8) (x := "_law_script") rfl (by decide) (by kernel_rfl) ⟨rfl, by decide, by decide⟩ ?F
    intro w mg fa h Y G hm0
    obtain ⟨K, KX, c⟩ := Y
    have hm : mg ("law" : PySem.Str) = some (.ref fa) := by
      have e : (HandSHeadRun.topDef My.R.prog 50).name = ("law" : PySem.Str) := by kernel_rfl
      rw [← e]
      exact hm0
    obtain ⟨fd, hb, hF⟩ := My.facts (P := (PySem.Challenge.rw_drawingoffice_k51_limits_and_facts_in_te).prog) (w := w) KX G hm c
    exact ⟨K, fd, My.sp_law K, KX, hb, fun H a ns hl hbits hS => ⟨a, ns, rfl, hS, fun _ => rfl⟩, hF⟩
