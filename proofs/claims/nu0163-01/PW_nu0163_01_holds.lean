import PyProof.Rows.All
import Wide.All
import OpenK.AllK
import Wide.FinOn
import PySem.Challenge.RW_nu0163_01
open PySem PySem.W PyProof.Rows
set_option Elab.async false
set_option compiler.extract_closed false
set_option maxRecDepth 100000
set_option maxHeartbeats 8000000
set_option linter.unusedVariables false
theorem Mine.fe : PySem.Manifest.find? = PySem.Manifest.find? := rfl
name_quick tw1608362764894081930 for PySem.Manifest.find? by Mine.fe
name_quick tw8075568018651887793 for PySem.Manifest.find? by Mine.fe
name_quick tw4864029045853621792 for PySem.Manifest.find? by Mine.fe
name_quick tw13044745171469061596 for PySem.Manifest.find? by Mine.fe
name_quick tw14535685388179086665 for PySem.Manifest.find? by Mine.fe
name_quick tw2997306320072185856 for PySem.Manifest.find? by Mine.fe
name_quick tw16519947266957812712 for PySem.Manifest.find? by Mine.fe
name_quick tw1719230996375869582 for PySem.Manifest.find? by Mine.fe
name_quick tw5596329374482053843 for PySem.Manifest.find? by Mine.fe
name_quick tw14979626087600564940 for PySem.Manifest.find? by Mine.fe
name_quick tw12334156363619760483 for PySem.Manifest.find? by Mine.fe
name_quick tw9800571698397750058 for PySem.Manifest.find? by Mine.fe
name_quick tw17804436615005485693 for PySem.Manifest.find? by Mine.fe
name_quick tw12702474577746417171 for PySem.Manifest.find? by Mine.fe
name_quick tw7458083566234694290 for PySem.Manifest.find? by Mine.fe
name_quick tw13374210024742059513 for PySem.Manifest.find? by Mine.fe
name_quick tw3424931102881643321 for PySem.Manifest.find? by Mine.fe
name_quick tw8642067239939848140 for PySem.Manifest.find? by Mine.fe
name_quick tw4319705520415482375 for PySem.Manifest.find? by Mine.fe
name_quick tw16752143609539240740 for PySem.Manifest.find? by Mine.fe
name_quick tw17111948838632640456 for PySem.Manifest.find? by Mine.fe
name_quick tw7210653913260312092 for PySem.Manifest.find? by Mine.fe
name_quick tw13106232238108311548 for PySem.Manifest.find? by Mine.fe
name_quick tw318497844558494266 for PySem.Manifest.find? by Mine.fe
open_top Mine.hd for PySem.Challenge.rw_nu0163_01

section Part1
open PySem PySem.W PySem.Calls PyProof.Rows PySem.Spec
set_option Elab.async false
set_option maxRecDepth 100000
set_option maxHeartbeats 8000000
namespace Mine

def Keep (h h' : Heap) : Prop := ∀ b o, h.get? b = some o → h'.get? b = some o
theorem Keep.refl (h : Heap) : Keep h h := fun _ _ e => e
theorem Keep.trans {a b c : Heap} (x : Keep a b) (y : Keep b c) : Keep a c := fun _ _ e => y _ _ (x _ _ e)

structure Room (A : Around) (n : Nat) : Prop where
  hh : A.handled = none
  dp : A.depth + n < 1000
  un : A.units + 10 * n + 200 < 9900
theorem Room.deeper {A : Around} {n : Nat} {env : Env} (r : Room A (n + 1)) : Room (A.deeper env) n := ⟨r.hh, by have := r.dp; show A.depth + 1 + n < 1000; omega, by have := r.un; show A.units + 3 + 10 * n + 200 < 9900; omega⟩
theorem Room.less {A : Around} {n k : Nat} (r : Room A n) (h : k ≤ n) : Room A k := ⟨r.hh, by have := r.dp; omega, by have := r.un; omega⟩

structure Cx (w : World) (mean : ExcName → Option Value) (mg mb : Str → Option Value) (A A₀ : Around) (base : Heap) (outer : List Env) (h₀ : Heap) (L : Addr) (m : Str → Option Value) (env : Env) (h : Heap) (n : Nat) : Prop where
  B : Below A₀ base outer h₀
  F : Fr h₀ L h m
  X : (hd.heap_39 w.params).In h₀
  T : Top hd.view_39 (looseW hd.view_39 []) mean mg mb h₀
  hA : A.frames = some (env :: outer)
  hf : env.frame = some L
  hke : env.scope.kind = .function
  R : Room A n
section
variable {w : World} {mean : ExcName → Option Value} {mg mb : Str → Option Value} {A A₀ : Around} {base : Heap} {outer : List Env} {h₀ : Heap} {L : Addr} {m : Str → Option Value} {env : Env} {n : Nat} {s : Shared} {E : Value → Shared → Prop} {Q : Value → Shared → Prop}
theorem Cx.keep {h h' : Heap} (C : Cx w mean mg mb A A₀ base outer h₀ L m env h n) (k : Keep h h') : Cx w mean mg mb A A₀ base outer h₀ L m env h' n := { C with F := C.F.keeps k }
theorem Cx.less {h : Heap} {k : Nat} (C : Cx w mean mg mb A A₀ base outer h₀ L m env h n) (hk : k ≤ n) : Cx w mean mg mb A A₀ base outer h₀ L m env h k := { C with R := C.R.less hk }

/-- a pure call: the callee's base is all that stands -/
theorem pcall {name qual : Str} {params : Arguments} {body : List Stmt} {scope : Scope} {dV kV doc pm cdv ct oc : Value} {an od : Option Addr} {osl : Array (Option Value)} {f : Addr} {args : Args} {binds : List (Str × Value)}
    (C : Cx w mean mg mb A A₀ base outer h₀ L m env s.heap (n + 1))
    (ho : (hd.heap_39 w.params).lookup f = some ⟨oc, od, .func (fnOf name qual params body scope dV kV doc pm an cdv ct), osl⟩) (hcd : codeIn (hd.heap_39 w.params) cdv qual = true)
    (hbind : BindsTo s (fnOf name qual params body scope dV kV doc pm an cdv ct) args binds) (hloc : ∀ y ∈ binds, scope.names.lookup y.1 = some .local)
    (h : ∀ g L' h₁, Keep s.heap g → Cx w mean mg mb (A.deeper (envOf qual scope L' f cdv)) A base (env :: outer) g L' (fun y => binds.reverse.lookup y) (envOf qual scope L' f cdv) h₁ n →
      wpAny (model PySem.Challenge.rw_nu0163_01.row.prog w) (A.deeper (envOf qual scope L' f cdv)) (execs body (envOf qual scope L' f cdv))
        (fun fl s' => (∃ m', Fr g L' s'.heap m') ∧ (Keep s.heap s'.heap → Q (match fl with | .ret v => v | _ => .none) s')) (fun _ _ => False)
        { s with heap := h₁, toks := s.toks + binds.length })
    (hco : scope.isCoroutine = false) (hgen : scope.isGenerator = false) (hk : scope.kind = .function)
    (hcell : ∀ x ∈ scope.names, x.2 ≠ .cell) : codeAny (model PySem.Challenge.rw_nu0163_01.row.prog w) A (.call (.ref f) args) (fun r s' => match r with | .ok (.ret v) => Q v s' | .ok _ => False | .error e => E e s') s := by
  refine code_defG (news := []) C.B C.F C.X News.nil C.T C.hA C.hf C.hke ho hcd (by have := C.R.dp; show _ < 1000; omega) hbind hloc (fun g L' h₁ FG F' N' B' X' T' G' => ?_) hco hgen hk hcell
  have kg : Keep s.heap g := fun b o e => G' b o e (by simp)
  refine wpAny_mono (h g L' h₁ kg ⟨B', F', X', T', by show (A.frames.map _) = _; rw [C.hA]; rfl, rfl, hk, C.R.deeper⟩) (fun fl s' q => ?_) (fun _ _ x => x.elim)
  obtain ⟨⟨m', F2⟩, q⟩ := q
  exact ⟨L', m', [], F2, News.nil, fun _ _ => q fun b o e => F2.keep b o (kg b o e)⟩
end
end Mine

end Part1
section Rest
open PySem PySem.W PySem.Calls PyProof.Rows PyProof.V PySem.Spec PyProof.Rows.LCg
namespace Mine
theorem r1 {a b : Prop} (h : a ∧ b) : b := h.2
theorem r2 {a b c : Prop} (h : a ∧ b ∧ c) : c := h.2.2
theorem r3 {a b c d : Prop} (h : a ∧ b ∧ c ∧ d) : d := h.2.2.2
theorem r4 {a b c d e : Prop} (h : a ∧ b ∧ c ∧ d ∧ e) : e := h.2.2.2.2
theorem r8 {a b c d e f g i j : Prop} (h : a ∧ b ∧ c ∧ d ∧ e ∧ f ∧ g ∧ i ∧ j) : j := r4 (r4 h)
theorem r12 {a b c d e f g i j a' b' c' d' : Prop} (h : a ∧ b ∧ c ∧ d ∧ e ∧ f ∧ g ∧ i ∧ j ∧ a' ∧ b' ∧ c' ∧ d') : d' := r4 (r8 h)
theorem r16 {a b c d e f g i j a' b' c' d' e' f' g' i' : Prop} (h : a ∧ b ∧ c ∧ d ∧ e ∧ f ∧ g ∧ i ∧ j ∧ a' ∧ b' ∧ c' ∧ d' ∧ e' ∧ f' ∧ g' ∧ i') : i' := r8 (r8 h)
theorem off1 {L a D : Nat} (h : D ≤ L ∨ a < D) (e : a + 1 ≠ D) : D ≤ L ∨ a + 1 < D := h.imp_right fun h => Nat.lt_of_le_of_ne h e
theorem off9 {L D : Nat} (e9 : L + 1 + 1 + 1 + 1 + 1 + 1 + 1 + 1 + 1 ≠ D) (e8 : L + 1 + 1 + 1 + 1 + 1 + 1 + 1 + 1 ≠ D) (e7 : L + 1 + 1 + 1 + 1 + 1 + 1 + 1 ≠ D) (e6 : L + 1 + 1 + 1 + 1 + 1 + 1 ≠ D) (e5 : L + 1 + 1 + 1 + 1 + 1 ≠ D) (e4 : L + 1 + 1 + 1 + 1 ≠ D) (e3 : L + 1 + 1 + 1 ≠ D) (e2 : L + 1 + 1 ≠ D) (e1 : L + 1 ≠ D) : D ≤ L ∨ L + 1 + 1 + 1 + 1 + 1 + 1 + 1 + 1 + 1 < D :=
  off1 (off1 (off1 (off1 (off1 (off1 (off1 (off1 (off1 (Nat.lt_or_ge L D).symm e1) e2) e3) e4) e5) e6) e7) e8) e9
theorem offC {L D : Nat} {R : Prop} (h : L + 1 + 1 + 1 + 1 + 1 + 1 + 1 + 1 + 1 ≠ D ∧ L + 1 + 1 + 1 + 1 + 1 + 1 + 1 + 1 ≠ D ∧ L + 1 + 1 + 1 + 1 + 1 + 1 + 1 ≠ D ∧ L + 1 + 1 + 1 + 1 + 1 + 1 ≠ D ∧ L + 1 + 1 + 1 + 1 + 1 ≠ D ∧ L + 1 + 1 + 1 + 1 ≠ D ∧ L + 1 + 1 + 1 ≠ D ∧ L + 1 + 1 ≠ D ∧ L + 1 ≠ D ∧ R) : D ≤ L ∨ L + 1 + 1 + 1 + 1 + 1 + 1 + 1 + 1 + 1 < D :=
  off9 h.1 h.2.1 h.2.2.1 h.2.2.2.1 h.2.2.2.2.1 h.2.2.2.2.2.1 h.2.2.2.2.2.2.1 h.2.2.2.2.2.2.2.1 h.2.2.2.2.2.2.2.2.1
theorem pkL {a b D : Nat} {R : Prop} (h : b < D ∧ R) (k : (b < D ∧ R) → a < D) : a < D := k h
theorem pkN {a b D : Nat} {R : Prop} (h : b ≠ D ∧ R) (k : (b ≠ D ∧ R) → a ≠ D) : a ≠ D := k h
theorem trL {a m D : Nat} (h : m < D) (k : a < m) : a < D := Nat.lt_trans k h
theorem neL {a D : Nat} (k : a < D) : a ≠ D := Nat.ne_of_lt k
theorem neG {a D : Nat} (k : a < D) : D ≠ a := Nat.ne_of_gt k
theorem neS {a D : Nat} (k : a ≠ D) : D ≠ a := Ne.symm k
theorem orR {a b c : Nat} (k : a < b) : b ≤ c ∨ a < b := .inr k
local macro_rules | `(tactic| k_flat) => `(tactic| (intro hq; first | (apply And.left; apply hq) | (apply And.left; apply r1; apply hq) | (apply And.left; apply r2; apply hq) | (apply And.left; apply r3; apply hq) | (apply And.left; apply r4; apply hq) | (apply And.left; apply r1; apply r4; apply hq) | (apply And.left; apply r2; apply r4; apply hq) | (apply And.left; apply r3; apply r4; apply hq) | (apply And.left; apply r8; apply hq) | (apply r1; apply hq) | (apply And.left; apply r1; apply r8; apply hq) | (apply And.left; apply r2; apply r8; apply hq) | (apply And.left; apply r3; apply r8; apply hq) | (apply And.left; apply r12; apply hq) | (apply And.left; apply r1; apply r12; apply hq) | (apply And.left; apply r2; apply r12; apply hq) | (apply And.left; apply r3; apply r12; apply hq) | (apply And.left; apply r16; apply hq) | (apply And.left; apply r1; apply r16; apply hq) | (apply And.left; apply r2; apply r16; apply hq) | (apply And.left; apply r3; apply r16; apply hq) | (apply And.left; apply r4; apply r16; apply hq) | (apply And.left; apply r1; apply r4; apply r16; apply hq)))
local macro_rules | `(tactic| omega) => `(tactic| first | with_reducible assumption | ((repeat (with_reducible rename (_ ∧ _) => hcj; clear hcj)); (repeat (with_reducible rename (_ ≠ _) => hcj; clear hcj)); omega (splitNatSub := true)) | (with_reducible first | (apply neL; apply pkL; assumption; k_flat) | (apply neG; apply pkL; assumption; k_flat) | (apply pkN; assumption; k_flat) | (apply neS; apply pkN; assumption; k_flat) | (apply pkL; assumption; k_flat) | (apply orR; apply pkL; assumption; k_flat) | (apply orR; apply trL; assumption; apply pkL; assumption; k_flat) | (apply neL; apply trL; assumption; apply pkL; assumption; k_flat) | (apply neG; apply trL; assumption; apply pkL; assumption; k_flat) | (apply offC; assumption) | (apply offC; apply r1; assumption) | (apply offC; apply r2; assumption) | (apply offC; apply r3; assumption) | (apply off9 <;> assumption)) | ((repeat (with_reducible rename (_ ∧ _) => hcj; clear hcj)); omega (splitNatSub := true)) | omega (splitNatSub := true))
set_option maxHeartbeats 8000000
theorem warm (w : World) : PySem.Challenge.rw_nu0163_01.foot = PySem.Challenge.rw_nu0163_01.foot ∧ hd.heap_39 w.params = hd.heap_39 w.params := by
  k_fill
  exact ⟨rfl, rfl⟩

def HasInst (h : Heap) (x C : Addr) (attrs : List (Str × Value)) : Prop :=
  ∃ dx es n, h.get? x = some (instObj C dx) ∧ h.get? dx = some (dictOf es n) ∧ ∀ name, getL name es = some (attrs.lookup name)
theorem HasInst.keep {h h' : Heap} {x C : Addr} {attrs : List (Str × Value)} (I : HasInst h x C attrs) (k : Keep h h') : HasInst h' x C attrs :=
  let ⟨dx, es, n, a, b, c⟩ := I; ⟨dx, es, n, k _ _ a, k _ _ b, c⟩

/-- a dict of ints to ints, as it lies in the heap -/
def IntMap (w : World) (h : Heap) (d : Addr) (ps : List (Int × Int)) : Prop :=
  (d == sysModules) = false ∧ ∃ kvs : List (Int × Value), h.DictOf (intKind PySem.Challenge.rw_nu0163_01.row.prog w) d kvs ∧ kvs.length = ps.length ∧ ∀ (i : Nat) (k : Int) (v : Value), kvs[i]? = some (k, v) → ∃ (n : Int) (t : Tok), ps[i]? = some (k, n) ∧ v = Value.int n t
theorem dictOf_keep {w : World} {h h' : Heap} {d : Addr} {kvs : List (Int × Value)} (k : Keep h h') (x : h.DictOf (intKind PySem.Challenge.rw_nu0163_01.row.prog w) d kvs) : h'.DictOf (intKind PySem.Challenge.rw_nu0163_01.row.prog w) d kvs :=
  let ⟨o, es, ep, ho, r⟩ := x; ⟨o, es, ep, k _ _ ho, r⟩
theorem IntMap.keep {w : World} {h h' : Heap} {d : Addr} {ps : List (Int × Int)} (I : IntMap w h d ps) (k : Keep h h') : IntMap w h' d ps :=
  let ⟨lo, kvs, a, b, c⟩ := I; ⟨lo, kvs, dictOf_keep k a, b, c⟩

def intAt (ps : List (Int × Int)) (k : Int) : Int := ((ps.find? fun p => decide (p.1 = k)).map (·.2)).getD 0

theorem valueAt_ints : ∀ (kvs : List (Int × Value)) (ps : List (Int × Int)), kvs.length = ps.length → (∀ (i : Nat) (k : Int) (v : Value), kvs[i]? = some (k, v) → ∃ (n : Int) (t : Tok), ps[i]? = some (k, n) ∧ v = Value.int n t) →
    ∀ (k : Int) (t₀ : Tok), ∃ t : Tok, (valueAt kvs k).getD (.int 0 t₀) = Value.int (intAt ps k) t
  | [], [], _, _, k, t₀ => ⟨t₀, rfl⟩
  | [], _ :: _, h, _, _, _ => by simp at h
  | _ :: _, [], h, _, _, _ => by simp at h
  | (k', v) :: kvs, p :: ps, hl, h, k, t₀ => by
    obtain ⟨n, t, e, rfl⟩ := h 0 k' v rfl
    simp only [List.getElem?_cons_zero, Option.some.injEq] at e
    subst e
    by_cases hk : k' = k
    · exact ⟨t, by simp [valueAt, intAt, hk]⟩
    · obtain ⟨t', e'⟩ := valueAt_ints kvs ps (by simpa using hl) (fun i a b q => h (i + 1) a b (by simpa using q)) k t₀
      exact ⟨t', by simpa [valueAt, intAt, List.find?_cons, hk] using e'⟩

section
variable {prog : Program} {w : World} {A : Around} {E : Value → Shared → Prop} {s : Shared} {K : Frag} {h₀ : Heap} {L : Addr} {m : Str → Option Value}
theorem attr_I {x C : Addr} {attrs : List (Str × Value)} {name : Str} {v : Value} {attr : Option Value} {expr : Bool} {Q : Value → Shared → Prop} (F : Fr h₀ L s.heap m) (X₀ : K.In h₀) (I : HasInst h₀ x C attrs) (hg : plainGet K C name = true) (hh : hasDictIn K C = true)
    (ha : findIn K (.ref C) name = some attr) (hn : noGet K attr = true) (hl : attrs.lookup name = some v) (hv : handedIn v = true) (h : Q v { s with toks := s.toks + 1 }) :
    wpAny (model prog w) A (getAttr (.ref x) name expr) Q E s := by
  obtain ⟨dx, es, n, a, b, c⟩ := I
  exact get_own (es := es) (n := n) F X₀ ⟨F.keep _ _ a, rfl, rfl, F.keep _ _ b⟩ hg hh ha hn (by rw [c, hl]) hv h
theorem method_I {x C : Addr} {attrs : List (Str × Value)} {name : Str} {f : Addr} {pl : Sem Bool} {Q : Value × List Value → Shared → Prop} (F : Fr h₀ L s.heap m) (X₀ : K.In h₀) (I : HasInst h₀ x C attrs) (hg : plainGet K C name = true)
    (hf : findIn K (.ref C) name = some (some (.ref f))) (ht : isFn K (.ref f) = true) (hl : attrs.lookup name = none) (h : Q (.ref f, [.ref x]) s) : wpAny (model prog w) A (getMethod (.ref x) name pl) Q E s := by
  obtain ⟨dx, es, n, a, b, c⟩ := I
  exact method_inst (es := es) (n := n) F X₀ ⟨F.keep _ _ a, rfl, rfl, F.keep _ _ b⟩ hg hf ht (by rw [c, hl]) h
end
section
variable {w : World} {A : Around} {E : Value → Shared → Prop} {s : Shared} {h₀ : Heap} {L : Addr} {m : Str → Option Value}
theorem dictget_I {d : Addr} {ps : List (Int × Int)} {pl : Sem Bool} {Q : Value × List Value → Shared → Prop} (F : Fr h₀ L s.heap m) (I : IntMap w h₀ d ps) (h : Q (.builtin "dict.get", [.ref d]) s) :
    wpAny (model PySem.Challenge.rw_nu0163_01.row.prog w) A (getMethod (.ref d) "get" pl) Q E s := by
  obtain ⟨lo, kvs, hd, _⟩ := I
  have hD := dictOf_keep F.keep hd
  exact getMethod_builtin hD.typeIs PySem.F.plainAttrs_dict PySem.F.slot_dict_get PySem.F.type_dict_get hD.mapOf.noDict h
theorem dictget2_I {d : Addr} {ps : List (Int × Int)} {k : Int} {u t₀ : Tok} {Q : Value → Shared → Prop} (F : Fr h₀ L s.heap m) (I : IntMap w h₀ d ps) (h : ∀ t, Q (.int (intAt ps k) t) { s with toks := s.toks + 1 }) :
    wpAny (model PySem.Challenge.rw_nu0163_01.row.prog w) A (call (.builtin "dict.get") [.ref d, .int k u, .int 0 t₀]) Q E s := by
  obtain ⟨lo, kvs, hd, hl, hv⟩ := I
  have hD := dictOf_keep F.keep hd
  obtain ⟨t, e⟩ := valueAt_ints kvs ps hl hv k t₀
  exact call_meetsIn PySem.F.slot_dict_get hD.typeIs PySem.F.entry_dict_get (PySem.F.args_dict_get_3 _ _ _) (meets_dict_get_default _ d (intKind_is _ _ _ _) lo _) ⟨_, hD.mapOf, by rw [e]; exact h t⟩
end
structure Done (g : Heap) (L : Addr) (h : Heap) (Q : Value → Shared → Prop) (fl : Flow) (s' : Shared) : Prop where
  fr : ∃ m', Fr g L s'.heap m'
  post : Keep h s'.heap → Q (match fl with | .ret v => v | _ => .none) s'
section
variable {w : World} {mean : ExcName → Option Value} {mg mb : Str → Option Value} {A A₀ : Around} {base : Heap} {outer : List Env} {h₀ : Heap} {L : Addr} {m : Str → Option Value} {env : Env} {n : Nat} {s : Shared} {E : Value → Shared → Prop} {Q : Value → Shared → Prop}
theorem pcall2 {name qual : Str} {params : Arguments} {body : List Stmt} {scope : Scope} {dV kV doc pm cdv ct oc : Value} {an od : Option Addr} {osl : Array (Option Value)} {f : Addr} {args : Args} {binds : List (Str × Value)}
    (C : Cx w mean mg mb A A₀ base outer h₀ L m env s.heap n) (hn : n ≠ 0)
    (ho : (hd.heap_39 w.params).lookup f = some ⟨oc, od, .func (fnOf name qual params body scope dV kV doc pm an cdv ct), osl⟩) (hcd : codeIn (hd.heap_39 w.params) cdv qual = true)
    (hbind : BindsTo s (fnOf name qual params body scope dV kV doc pm an cdv ct) args binds) (hloc : ∀ y ∈ binds, scope.names.lookup y.1 = some .local)
    (h : ∀ g L' h₁, Keep s.heap g → Below A base (env :: outer) g → Fr g L' h₁ (fun y => binds.reverse.lookup y) → News g L' h₁ [] → (hd.heap_39 w.params).In g → Top hd.view_39 (looseW hd.view_39 []) mean mg mb g →
      (A.deeper (envOf qual scope L' f cdv)).frames = some (envOf qual scope L' f cdv :: env :: outer) → Room (A.deeper (envOf qual scope L' f cdv)) (n - 1) →
      wpAny (model PySem.Challenge.rw_nu0163_01.row.prog w) (A.deeper (envOf qual scope L' f cdv)) (execs body (envOf qual scope L' f cdv)) (Done g L' s.heap Q) (fun _ _ => False) { s with heap := h₁, toks := s.toks + binds.length })
    (hco : scope.isCoroutine = false) (hgen : scope.isGenerator = false) (hk : scope.kind = .function)
    (hcell : ∀ x ∈ scope.names, x.2 ≠ .cell) : codeAny (model PySem.Challenge.rw_nu0163_01.row.prog w) A (.call (.ref f) args) (fun r s' => match r with | .ok (.ret v) => Q v s' | .ok _ => False | .error e => E e s') s := by
  obtain ⟨k, rfl⟩ : ∃ k, n = k + 1 := ⟨n - 1, by omega⟩
  refine pcall C ho hcd hbind hloc (fun g L' h₁ kg C' => ?_) hco hgen hk hcell
  exact wpAny_mono (h g L' h₁ kg C'.B C'.F News.nil C'.X C'.T C'.hA C'.R) (fun fl s' q => ⟨q.fr, q.post⟩) fun _ _ x => x
end
local macro_rules | `(tactic| walk_at "my_enter") => `(tactic| (refine wpAny_call ?_; refine pcall2 (by assumption) (by omega) (by k_is) (by k_is) (by exact BindsTo.of_eq rfl) (by exact locs rfl) ?_ (by exact rfl) (by exact rfl) (by exact rfl) (by decide)))
local macro_rules | `(tactic| walk_at "getAttr ref") => `(tactic| (k_here; k_dflt (refine attr_I (by k_asm) (by k_asm) (by k_asm) (by k_is) (by k_is) (by k_is) (by k_is) (by exact rfl) (by k_handed) ?_; k_whole)))
local macro_rules | `(tactic| walk_at "getMethod ref") => `(tactic| (k_here; k_dflt (refine method_I (by k_asm) (by k_asm) (by k_asm) (by k_is) (by k_is) (by k_is) (by exact rfl) ?_; k_whole)))
local macro_rules | `(tactic| walk_at "getMethod ref") => `(tactic| (k_here; k_dflt (refine dictget_I (by k_asm) (by k_asm) ?_; k_whole)))
local macro_rules | `(tactic| walk_at "call builtin:dict.get") => `(tactic| (k_here; k_dflt (refine dictget2_I (by k_asm) (by k_asm) ?_; k_whole; intro t')))
local macro_rules | `(tactic| walk_at "my_cx") => `(tactic| exact ⟨by k_asm, by k_asm, by k_asm, by k_asm, by assumption, rfl, rfl, by assumption⟩)
section
variable {w : World} {mean : ExcName → Option Value} {mg mb : Str → Option Value} {A A₀ : Around} {base : Heap} {outer : List Env} {h₀ : Heap} {L : Addr} {m : Str → Option Value} {env : Env} {n : Nat} {s : Shared} {E : Value → Shared → Prop} {Q : Value → Shared → Prop}

theorem attach_wanted_spec {flag : Int} {tk : Tok} (C : Cx w mean mg mb A A₀ base outer h₀ L m env s.heap n) (hn : 1 ≤ n)
   (hQ : ∀ h' tk' t, Keep s.heap h' → Q (.int ((flag.fdiv 256).fmod 256) t) { s with heap := h', toks := tk' }) :
   wpAny (model PySem.Challenge.rw_nu0163_01.row.prog w) A (call (.ref 76) [.int flag tk]) Q E s := by
  walk_at "my_enter"
  intro g L' h₁ kg B F N X T hA R
  w_top on
  k_steps
  exact ⟨⟨_, by k_asm⟩, fun kD => hQ _ _ _ kD⟩

def bitOf (c : Int) : Int := if c = 1 then 2 else if c = 2 then 4 else if c = 3 then 8 else 0

theorem flat_bit {c : Int} {a b d : Tok} {v : Value} (hf : Flat v ((Spec.lookup (PyData.int c) (intData [(Value.int 1 a, Value.int 2 196), (Value.int 2 b, Value.int 4 198), (Value.int 3 d, Value.int 8 200)])).getD (PyData.int 0))) : ∃ t : Tok, v = .int (bitOf c) t := by
  have e : ((Spec.lookup (PyData.int c) (intData [(Value.int 1 a, Value.int 2 196), (Value.int 2 b, Value.int 4 198), (Value.int 3 d, Value.int 8 200)])).getD (PyData.int 0)) = PyData.int (bitOf c) := by
    simp only [intData, datumOf, Option.getD_some, bitOf]
    have sm : ∀ a b : Int, Spec.same (PyData.int a) (PyData.int b) = (a == b) := fun _ _ => rfl
    show (if Spec.same (PyData.int 1) (PyData.int c) = true then some (PyData.int 2) else if Spec.same (PyData.int 2) (PyData.int c) = true then some (PyData.int 4) else if Spec.same (PyData.int 3) (PyData.int c) = true then some (PyData.int 8) else none).getD (PyData.int 0) = _
    rw [sm, sm, sm]
    by_cases h1 : c = 1
    · subst h1; rfl
    by_cases h2 : c = 2
    · subst h2; rfl
    by_cases h3 : c = 3
    · subst h3; rfl
    have e1 : ((1 : Int) == c) = false := by simpa using fun e => h1 e.symm
    have e2 : ((2 : Int) == c) = false := by simpa using fun e => h2 e.symm
    have e3 : ((3 : Int) == c) = false := by simpa using fun e => h3 e.symm
    rw [e1, e2, e3]
    simp [h1, h2, h3]
  rw [e] at hf
  cases hf { }
  exact ⟨_, rfl⟩

theorem class_of_spec {x d : Addr} {ps : List (Int × Int)} {k : Int} {tk : Tok} (C : Cx w mean mg mb A A₀ base outer h₀ L m env s.heap n) (hn : 1 ≤ n)
   (I : HasInst s.heap x 235 [(Str.ofString "classes", .ref d)]) (D : IntMap w s.heap d ps)
   (hQ : ∀ h' tk' t, Keep s.heap h' → Q (.int (intAt ps k) t) { s with heap := h', toks := tk' }) :
   wpAny (model PySem.Challenge.rw_nu0163_01.row.prog w) A (call (.ref 213) [.ref x, .int k tk]) Q E s := by
  walk_at "my_enter"
  intro g L' h₁ kg B F N X T hA R
  replace I := I.keep kg
  replace D := D.keep kg
  w_top on
  k_steps
  exact ⟨⟨_, by k_asm⟩, fun kD => hQ _ _ _ kD⟩
theorem class_bit_spec {c : Int} {tk : Tok} (C : Cx w mean mg mb A A₀ base outer h₀ L m env s.heap n) (hn : 1 ≤ n)
   (hQ : ∀ h' tk' t, Keep s.heap h' → Q (.int (bitOf c) t) { s with heap := h', toks := tk' }) :
   wpAny (model PySem.Challenge.rw_nu0163_01.row.prog w) A (call (.ref 83) [.int c tk]) Q E s := by
  walk_at "my_enter"
  intro g L' h₁ kg B F N X T hA R
  w_top on
  k_steps
  rename (Flat _ _) => hf
  obtain ⟨t, rfl⟩ := flat_bit hf
  exact ⟨⟨_, by k_asm⟩, fun kD => hQ _ _ _ kD⟩

end

set_option maxHeartbeats 8000000
local macro_rules | `(tactic| walk_at "call ref") => `(tactic| (k_here; k_dflt (refine class_of_spec (by walk_at "my_cx") (by omega) (by exact HasInst.keep (by k_asm) (Fr.keep (by k_asm))) (by exact IntMap.keep (by k_asm) (Fr.keep (by k_asm))) ?_; k_whole; intro h' tk' t' k'; (have F' := Fr.keeps (by k_asm) k'); (have N' := News.grown (by k_asm) k'))))

abbrev gdefA (c a S p q : Addr) : List (Str × Value) := [(Str.ofString "classes", .ref c), (Str.ofString "attach", .ref a), (Str.ofString "sets", .ref S), (Str.ofString "points", .ref p), (Str.ofString "carets", .ref q)]
abbrev lookA (kind : Str) (t₁ : Tok) (flag : Int) (t₂ : Tok) (ms : Int) (t₃ : Tok) (T : Addr) : List (Str × Value) := [(Str.ofString "kind", .str kind t₁), (Str.ofString "flag", .int flag t₂), (Str.ofString "mark_set", .int ms t₃), (Str.ofString "tables", .ref T)]
def classOf (c : Int) : Int := if 1 ≤ c ∧ c ≤ 4 then c else 0
section
variable {w : World} {mean : ExcName → Option Value} {mg mb : Str → Option Value} {A A₀ : Around} {base : Heap} {outer : List Env} {h₀ : Heap} {L : Addr} {m : Str → Option Value} {env : Env} {n : Nat} {s : Shared} {E : Value → Shared → Prop} {Q : Value → Shared → Prop}
theorem glyph_class_spec {x c a S p q d : Addr} {ps : List (Int × Int)} {k : Int} {tk : Tok} (C : Cx w mean mg mb A A₀ base outer h₀ L m env s.heap n) (hn : 2 ≤ n)
   (I : HasInst s.heap x 325 (gdefA c a S p q)) (I2 : HasInst s.heap c 235 [(Str.ofString "classes", .ref d)]) (D : IntMap w s.heap d ps)
   (hQ : ∀ h' tk' t, Keep s.heap h' → Q (.int (classOf (intAt ps k)) t) { s with heap := h', toks := tk' }) :
   wpAny (model PySem.Challenge.rw_nu0163_01.row.prog w) A (call (.ref 303) [.ref x, .int k tk]) Q E s := by
  walk_at "my_enter"
  intro g L' h₁ kg B F N X T hA R
  replace I := I.keep kg
  replace I2 := I2.keep kg
  replace D := D.keep kg
  have hQ' : ∀ (r : Int) h' tk' t, r = classOf (intAt ps k) → Keep s.heap h' → Q (.int r t) { s with heap := h', toks := tk' } := fun r h' tk' t e k' => by subst e; exact hQ h' tk' t k'
  w_top on
  k_steps
  all_goals exact ⟨⟨_, by k_asm⟩, fun kD => hQ' _ _ _ _ (by unfold classOf; split <;> omega) kD⟩
theorem attach_class_spec {x c a S p q d : Addr} {ps : List (Int × Int)} {k : Int} {tk : Tok} (C : Cx w mean mg mb A A₀ base outer h₀ L m env s.heap n) (hn : 2 ≤ n)
   (I : HasInst s.heap x 325 (gdefA c a S p q)) (I2 : HasInst s.heap a 235 [(Str.ofString "classes", .ref d)]) (D : IntMap w s.heap d ps)
   (hQ : ∀ h' tk' t, Keep s.heap h' → Q (.int (intAt ps k) t) { s with heap := h', toks := tk' }) :
   wpAny (model PySem.Challenge.rw_nu0163_01.row.prog w) A (call (.ref 310) [.ref x, .int k tk]) Q E s := by
  walk_at "my_enter"
  intro g L' h₁ kg B F N X T hA R
  replace I := I.keep kg
  replace I2 := I2.keep kg
  replace D := D.keep kg
  w_top on
  k_steps
  exact ⟨⟨_, by k_asm⟩, fun kD => hQ _ _ _ kD⟩
end

set_option maxHeartbeats 8000000


section
variable {w : World} {A : Around} {E : Value → Shared → Prop} {s : Shared} {h₀ : Heap} {L : Addr} {m : Str → Option Value}
theorem isTup_keep {h h' : Heap} {t : Addr} {its : Array Value} (x : IsTup h t its) (k : Keep h h') : IsTup h' t its := let ⟨o, ho, r⟩ := x; ⟨o, k _ _ ho, r⟩
theorem isList_keep {h h' : Heap} {t : Addr} {its : Array Value} (x : h.IsList t its) (k : Keep h h') : h'.IsList t its := let ⟨o, ho, r⟩ := x; ⟨o, k _ _ ho, r⟩
theorem ints_item : ∀ {vs : List Value} {xs : List Int}, IntsAre vs xs → ∀ i : Nat, i < xs.length → ∃ t : Tok, vs[i]? = some (Value.int (xs.getD i 0) t)
  | _, _, .cons n t _, 0, _ => ⟨t, rfl⟩
  | _, _, .cons n t r, i + 1, h => by simpa using ints_item r i (by simpa using h)
theorem tup_item_I {t : Addr} {vs : List Value} {xs : List Int} {value slice : PySem.Expr} {k : Int} {u : Tok} {Q : Value → Shared → Prop} (F : Fr h₀ L s.heap m) (T : IsTup h₀ t vs.toArray) (I : IntsAre vs xs) (h0 : 0 ≤ k) (h1 : k < xs.length) (h2 : xs.length < 1000)
   (h : ∀ t', Q (.int (xs.getD k.toNat 0) t') s) (hs : subscripted slice false (.ref t) (.int k u) = operate [.ref t, .int k u] (getItem (.ref t) (.int k u)) := by with_unfolding_all rfl) : wpAny (model PySem.Challenge.rw_nu0163_01.row.prog w) A (subscriptTail value slice (.ref t) (.int k u)) Q E s := by
  obtain ⟨t', e⟩ := ints_item I k.toNat (by omega)
  have hl := I.length
  have q : ¬ k < 0 := by omega
  have e2 : seqIndex? k vs.length = some k.toNat := by
    simp only [seqIndex?, q, if_false]
    rw [if_pos (by simp; omega)]
  exact item_tupleT (isTup_keep T F.keep) (by omega) (by omega) e2 e (h t') hs
theorem tup_len_I {t : Addr} {vs : List Value} {xs : List Int} {Q : Value → Shared → Prop} (F : Fr h₀ L s.heap m) (T : IsTup h₀ t vs.toArray) (I : IntsAre vs xs) (h2 : xs.length < 1000)
   (h : ∀ t', Q (.int (xs.length : Int) t') { s with toks := s.toks + 1 + 1 }) : wpAny (model PySem.Challenge.rw_nu0163_01.row.prog w) A (call (.builtin "len") [.ref t]) Q E s := by
  have hl := I.length
  have e : (vs.toArray.size : Int) = xs.length := by rw [List.size_toArray, hl]
  exact len_tuple (isTup_keep T F.keep) (by rw [e]; omega) (by rw [e]; exact h _)
end
local macro_rules | `(tactic| walk_at "call builtin:len") => `(tactic| (k_here; k_dflt (refine tup_len_I (by k_asm) (by k_asm) (by k_asm) (by k_asm) ?_; k_whole; intro t')))
local macro_rules | `(tactic| walk_at "subscriptTail") => `(tactic| (k_here; k_dflt (refine tup_item_I (by k_asm) (by k_asm) (by k_asm) (by omega) (by omega) (by k_asm) ?_; k_whole; intro t')))

local macro_rules | `(tactic| walk_at "my_step") => `(tactic| first | (k_unfold; (try dsimp only)) | (k_end; wrow_close) | walk1 | (dsimp only; walk1) | (leave1; walk_say "STEP leave1"; try dsimp only))
local macro_rules | `(tactic| walk_at "to_while") => `(tactic| repeat' ((fail_if_success (with_reducible show wpAny _ _ (exec (Stmt.While _ _ _ _) _) _ _ _)); walk_at "my_step"))
local macro_rules | `(tactic| walk_at "my_look") => `(tactic| first | with_reducible assumption | exact if_pos rfl | (refine (if_neg (by decide)).trans ?_; walk_at "my_look"))
local macro_rules | `(tactic| walk_at "eval Name") => `(tactic| (k_here; (with_reducible show wpAny _ _ (eval (Expr.Name _ _) (envOf _ _ _ _ _)) _ _ _); k_dflt (refine ld (by k_asm) (by walk_at "my_look") ?_; k_whole)))
theorem bin_up {xs : List Int} {k mid : Int} (hs : xs.Pairwise (· ≤ ·)) (h0 : 0 ≤ mid) (h1 : mid < xs.length) (h : xs.getD mid.toNat 0 < k) : ∀ j : Nat, (j : Int) < mid + 1 → xs.getD j 0 < k :=
  fun j hj => Int.lt_of_le_of_lt (sorted_getD_le hs (by omega) (by omega)) h
theorem bin_down {xs : List Int} {k mid : Int} (hs : xs.Pairwise (· ≤ ·)) (h0 : 0 ≤ mid) (h1 : mid < xs.length) (h : ¬ xs.getD mid.toNat 0 < k) : ∀ j : Nat, mid ≤ (j : Int) → j < xs.length → ¬ xs.getD j 0 < k :=
  fun j hj hl hlt => h (Int.lt_of_le_of_lt (sorted_getD_le hs (by omega) hl) hlt)
theorem mem_getD {xs : List Int} {k : Int} : k ∈ xs ↔ ∃ j, j < xs.length ∧ xs.getD j 0 = k := by
  rw [List.mem_iff_getElem]
  constructor
  · rintro ⟨j, hj, e⟩; exact ⟨j, hj, by rw [List.getD_eq_getElem?_getD, List.getElem?_eq_getElem hj]; exact e⟩
  · rintro ⟨j, hj, e⟩; exact ⟨j, hj, by rw [List.getD_eq_getElem?_getD, List.getElem?_eq_getElem hj] at e; exact e⟩
theorem bin_none {xs : List Int} {k lo hi : Int} (hso : xs.Pairwise (· < ·)) (h0 : 0 ≤ lo) (hh : ¬ lo < hi) (h1 : hi ≤ xs.length) (c1 : ∀ j : Nat, (j : Int) < lo → xs.getD j 0 < k) (c2 : ∀ j : Nat, hi ≤ (j : Int) → j < xs.length → ¬ xs.getD j 0 < k)
    (hn : ¬ lo < xs.length ∨ xs.getD lo.toNat 0 ≠ k) : k ∉ xs := by
  rw [mem_getD]
  rintro ⟨j, hj, e⟩
  by_cases q : (j : Int) < lo
  · have := c1 j q; omega
  · rcases hn with hn | hn
    · omega
    · by_cases q2 : (j : Int) = lo
      · exact hn (by rw [show lo.toNat = j by omega]; exact e)
      · have lt : lo.toNat < j := by omega
        have hl : lo.toNat < xs.length := by omega
        have := List.pairwise_iff_getElem.mp hso lo.toNat j hl hj lt
        have e1 : xs.getD lo.toNat 0 = xs[lo.toNat] := by rw [List.getD_eq_getElem?_getD, List.getElem?_eq_getElem hl]; rfl
        have e2 : xs.getD j 0 = xs[j] := by rw [List.getD_eq_getElem?_getD, List.getElem?_eq_getElem hj]; rfl
        have e3 := c2 lo.toNat (by omega) hl
        omega
theorem mid_facts {lo hi : Int} (h0 : 0 ≤ lo) (h : lo < hi) : lo ≤ (lo + hi).fdiv 2 ∧ (lo + hi).fdiv 2 < hi := by
  rw [Int.fdiv_eq_ediv_of_nonneg _ (by decide)]; omega
section
variable {w : World} {mean : ExcName → Option Value} {mg mb : Str → Option Value} {A A₀ : Around} {base : Heap} {outer : List Env} {h₀ : Heap} {L : Addr} {m : Str → Option Value} {env : Env} {n : Nat} {s : Shared} {E : Value → Shared → Prop} {Q : Value → Shared → Prop}
theorem index_spec {x t : Addr} {vs : List Value} {xs : List Int} {k : Int} {tk : Tok} (C : Cx w mean mg mb A A₀ base outer h₀ L m env s.heap n) (hn : 1 ≤ n)
   (I : HasInst s.heap x 277 [(Str.ofString "glyphs", .ref t)]) (T0 : IsTup s.heap t vs.toArray) (I0 : IntsAre vs xs) (hlen : xs.length < 1000) (hso : xs.Pairwise (· < ·))
   (hQ : ∀ h' tk' t r, Keep s.heap h' → (0 ≤ r ↔ k ∈ xs) → Q (.int r t) { s with heap := h', toks := tk' }) :
   wpAny (model PySem.Challenge.rw_nu0163_01.row.prog w) A (call (.ref 260) [.ref x, .int k tk]) Q E s := by
  walk_at "my_enter"
  intro g L' h₁ kg B F N X T hA R
  replace I := I.keep kg
  replace T0 := isTup_keep T0 kg
  w_top on
  walk_at "to_while"
  rename (Fr _ _ _ _) => F1
  rename (News _ _ _ _) => N1
  have hse : xs.Pairwise (· ≤ ·) := hso.imp fun h => Int.le_of_lt h
  refine While_inv (fun n m₁ news₁ => news₁ = [] ∧ ∃ (lo hi : Int) (t1 t2 : Tok), m₁ (Str.ofString "self") = some (.ref x) ∧ m₁ (Str.ofString "glyph") = some (.int k tk) ∧ m₁ (Str.ofString "low") = some (.int lo t1) ∧ m₁ (Str.ofString "high") = some (.int hi t2) ∧
    n = (hi - lo).toNat ∧ 0 ≤ lo ∧ lo ≤ hi ∧ hi ≤ xs.length ∧ (∀ j : Nat, (j : Int) < lo → xs.getD j 0 < k) ∧ (∀ j : Nat, hi ≤ (j : Int) → j < xs.length → ¬ xs.getD j 0 < k)) F1 N1
    ⟨rfl, 0, xs.length, _, _, rfl, rfl, rfl, rfl, rfl, by omega, by omega, by omega, fun j hj => by omega, fun j hj hl => by omega⟩ (fun n m₁ news₁ h₁ tk₁ F2 N2 hJ => ?_) ?_
  · clear F1 N1
    obtain ⟨rfl, lo, hi, t1, t2, e1, e2, e3, e4, rfl, b1, b2, b3, c1, c2⟩ := hJ
    have md : lo < hi → lo ≤ (lo + hi).fdiv 2 ∧ (lo + hi).fdiv 2 < hi := mid_facts b1
    have hQ1 : ∀ h' tk' t, Keep s.heap h' → lo < xs.length → xs.getD lo.toNat 0 = k → Q (.int lo t) { s with heap := h', toks := tk' } := fun h' tk' t k1 hl he => hQ h' tk' t lo k1 ⟨fun _ => mem_getD.mpr ⟨lo.toNat, by omega, he⟩, fun _ => b1⟩
    have hQ2 : ∀ h' tk' t, Keep s.heap h' → ¬ lo < hi → ¬ lo < xs.length ∨ xs.getD lo.toNat 0 ≠ k → Q (.int (-1) t) { s with heap := h', toks := tk' } := fun h' tk' t k1 hl he => hQ h' tk' t (-1) k1 ⟨fun h => absurd h (by decide), fun h => absurd h (bin_none hso b1 hl b3 c1 c2 he)⟩
    k_steps
    all_goals (dsimp only)
    all_goals first
      | exact ⟨⟨_, by k_asm⟩, fun kD => hQ1 _ _ _ kD (by assumption) (by assumption)⟩
      | exact ⟨⟨_, by k_asm⟩, fun kD => hQ2 _ _ _ kD (by assumption) (.inl (by assumption))⟩
      | exact ⟨⟨_, by k_asm⟩, fun kD => hQ2 _ _ _ kD (by assumption) (.inr (by assumption))⟩
      | (rename (xs.getD _ _ < k) => hlt
         rename (lo < hi) => hw
         exact WhileStep.intro (n' := (hi - ((lo + hi).fdiv 2 + 1)).toNat) (by k_asm) (by k_asm) (by have := md hw; omega) ⟨rfl, (lo + hi).fdiv 2 + 1, hi, _, _, by walk_at "my_look", by walk_at "my_look", by walk_at "my_look", by walk_at "my_look", rfl, by have := md hw; omega, by have := md hw; omega, b3,
           bin_up hse (by have := md hw; omega) (by have := md hw; omega) hlt, c2⟩)
      | (rename (¬ xs.getD _ _ < k) => hlt
         rename (lo < hi) => hw
         exact WhileStep.intro (n' := ((lo + hi).fdiv 2 - lo).toNat) (by k_asm) (by k_asm) (by have := md hw; omega) ⟨rfl, lo, (lo + hi).fdiv 2, _, _, by walk_at "my_look", by walk_at "my_look", by walk_at "my_look", by walk_at "my_look", rfl, by have := md hw; omega, by have := md hw; omega, by have := md hw; omega,
           c1, bin_down hse (by have := md hw; omega) (by have := md hw; omega) hlt⟩)
  · exact PySem.PassesOwn.never
end

set_option maxHeartbeats 8000000


local macro_rules | `(tactic| walk_at "call ref") => `(tactic| (k_here; k_dflt (refine glyph_class_spec (by walk_at "my_cx") (by omega) (by exact HasInst.keep (by k_asm) (Fr.keep (by k_asm))) (by exact HasInst.keep (by k_asm) (Fr.keep (by k_asm))) (by exact IntMap.keep (by k_asm) (Fr.keep (by k_asm))) ?_; k_whole; intro h' tk' t' k'; (have F' := Fr.keeps (by k_asm) k'); (have N' := News.grown (by k_asm) k'))))
local macro_rules | `(tactic| walk_at "call ref") => `(tactic| (k_here; k_dflt (refine attach_class_spec (by walk_at "my_cx") (by omega) (by exact HasInst.keep (by k_asm) (Fr.keep (by k_asm))) (by exact HasInst.keep (by k_asm) (Fr.keep (by k_asm))) (by exact IntMap.keep (by k_asm) (Fr.keep (by k_asm))) ?_; k_whole; intro h' tk' t' k'; (have F' := Fr.keeps (by k_asm) k'); (have N' := News.grown (by k_asm) k'))))
local macro_rules | `(tactic| walk_at "call ref") => `(tactic| (k_here; k_dflt (refine attach_wanted_spec (by walk_at "my_cx") (by omega) ?_; k_whole; intro h' tk' t' k'; (have F' := Fr.keeps (by k_asm) k'); (have N' := News.grown (by k_asm) k'))))
local macro_rules | `(tactic| walk_at "call ref") => `(tactic| (k_here; k_dflt (refine class_bit_spec (by walk_at "my_cx") (by omega) ?_; k_whole; intro h' tk' t' k'; (have F' := Fr.keeps (by k_asm) k'); (have N' := News.grown (by k_asm) k'))))
local macro_rules | `(tactic| walk_at "call ref") => `(tactic| (k_here; k_dflt (refine index_spec (by walk_at "my_cx") (by omega) (by exact HasInst.keep (by k_asm) (Fr.keep (by k_asm))) (by exact isTup_keep (by k_asm) (Fr.keep (by k_asm))) (by k_asm) (by k_asm) (by k_asm) ?_; k_whole; intro h' tk' t' r' k' hr'; (have F' := Fr.keeps (by k_asm) k'); (have N' := News.grown (by k_asm) k'))))
section
variable {w : World} {mean : ExcName → Option Value} {mg mb : Str → Option Value} {A A₀ : Around} {base : Heap} {outer : List Env} {h₀ : Heap} {L : Addr} {m : Str → Option Value} {env : Env} {n : Nat} {s : Shared} {E : Value → Shared → Prop} {Q : Value → Shared → Prop}
def IsCov (h : Heap) (x : Addr) (xs : List Int) : Prop := ∃ t vs, HasInst h x 277 [(Str.ofString "glyphs", .ref t)] ∧ IsTup h t (List.toArray vs) ∧ IntsAre vs xs ∧ xs.length < 1000 ∧ xs.Pairwise (· < ·)
theorem IsCov.keep {h h' : Heap} {x : Addr} {xs : List Int} (I : IsCov h x xs) (k : Keep h h') : IsCov h' x xs := let ⟨t, vs, a, b, r⟩ := I; ⟨t, vs, a.keep k, isTup_keep b k, r⟩
theorem has_spec {x : Addr} {xs : List Int} {k : Int} {tk : Tok} (C : Cx w mean mg mb A A₀ base outer h₀ L m env s.heap n) (hn : 2 ≤ n) (I : IsCov s.heap x xs)
   (hQ : ∀ h' tk', Keep s.heap h' → Q (.bool (decide (k ∈ xs))) { s with heap := h', toks := tk' }) :
   wpAny (model PySem.Challenge.rw_nu0163_01.row.prog w) A (call (.ref 267) [.ref x, .int k tk]) Q E s := by
  walk_at "my_enter"
  intro g L' h₁ kg B F N X T hA R
  obtain ⟨t, vs, I1, I2, I3, I4, I5⟩ := I.keep kg
  have hQ' : ∀ (b : Bool) h' tk', b = decide (k ∈ xs) → Keep s.heap h' → Q (.bool b) { s with heap := h', toks := tk' } := fun b h' tk' e k' => by subst e; exact hQ h' tk' k'
  w_top on
  k_steps
  all_goals (try dsimp only)
  rename (0 ≤ _ ↔ k ∈ xs) => hr
  exact ⟨⟨_, by k_asm⟩, fun kD => hQ' _ _ _ (by simp [← hr]) kD⟩

/-- the list of the sets -/
def IsSets (h : Heap) (S : Addr) (xss : List (List Int)) : Prop := ∃ refs : List Value, h.IsList S refs.toArray ∧ refs.length = xss.length ∧ xss.length < 1000 ∧ ∀ (i : Nat) (v : Value), refs[i]? = some v → ∃ (x : Addr) (xs : List Int), v = .ref x ∧ xss[i]? = some xs ∧ IsCov h x xs
theorem IsSets.keep {h h' : Heap} {S : Addr} {xss : List (List Int)} (I : IsSets h S xss) (k : Keep h h') : IsSets h' S xss :=
  let ⟨refs, a, b, c, d⟩ := I; ⟨refs, isList_keep a k, b, c, fun i v e => let ⟨x, xs, p, q, r⟩ := d i v e; ⟨x, xs, p, q, r.keep k⟩⟩
theorem sets_len_I {S : Addr} {xss : List (List Int)} (F : Fr h₀ L s.heap m) (I : IsSets h₀ S xss)
   (h : ∀ t', Q (.int (xss.length : Int) t') { s with toks := s.toks + 1 + 1 }) : wpAny (model PySem.Challenge.rw_nu0163_01.row.prog w) A (call (.builtin "len") [.ref S]) Q E s := by
  obtain ⟨refs, a, b, c, d⟩ := I
  have e : (refs.toArray.size : Int) = xss.length := by rw [List.size_toArray, b]
  exact call_len_list (isList_keep a F.keep) (by rw [e]; omega) (by rw [e]; exact h _)
theorem sets_item_I {S : Addr} {xss : List (List Int)} {value slice : PySem.Expr} {k : Int} {u : Tok} (F : Fr h₀ L s.heap m) (I : IsSets h₀ S xss) (h0 : 0 ≤ k) (h1 : k < xss.length)
   (h : ∀ x, IsCov h₀ x (xss.getD k.toNat []) → Q (.ref x) s) (hs : subscripted slice false (.ref S) (.int k u) = operate [.ref S, .int k u] (getItem (.ref S) (.int k u)) := by with_unfolding_all rfl) : wpAny (model PySem.Challenge.rw_nu0163_01.row.prog w) A (subscriptTail value slice (.ref S) (.int k u)) Q E s := by
  obtain ⟨refs, a, b, c, d⟩ := I
  have hl : k.toNat < refs.length := by omega
  obtain ⟨x, xs, e1, e2, e3⟩ := d k.toNat refs[k.toNat] (List.getElem?_eq_getElem hl)
  have hL := isList_keep a F.keep
  exact tail_any hL.typeIs slot_list_getitem.lookup (wpAny_getItem_list hL h0 (by omega) (by rw [List.getElem?_toArray, List.getElem?_eq_getElem hl, e1]) (h x (by rw [List.getD_eq_getElem?_getD, e2]; exact e3))) hs
end
local macro_rules | `(tactic| walk_at "call builtin:len") => `(tactic| (k_here; k_dflt (refine sets_len_I (by k_asm) (by k_asm) ?_; k_whole; intro t')))
local macro_rules | `(tactic| walk_at "subscriptTail") => `(tactic| (k_here; k_dflt (refine sets_item_I (by k_asm) (by k_asm) (by omega) (by omega) ?_; k_whole; intro x' hx'; (have hx2' := hx'); (obtain ⟨t', vs', I1', I2', I3', I4', I5'⟩ := hx2'))))
local macro_rules | `(tactic| walk_at "call ref") => `(tactic| (k_here; k_dflt (refine has_spec (by walk_at "my_cx") (by omega) (by exact IsCov.keep (by k_asm) (Fr.keep (by k_asm))) ?_; k_whole; intro h' tk' k'; (have F' := Fr.keeps (by k_asm) k'); (have N' := News.grown (by k_asm) k'))))
section
variable {w : World} {mean : ExcName → Option Value} {mg mb : Str → Option Value} {A A₀ : Around} {base : Heap} {outer : List Env} {h₀ : Heap} {L : Addr} {m : Str → Option Value} {env : Env} {n : Nat} {s : Shared} {E : Value → Shared → Prop} {Q : Value → Shared → Prop}
def inSet (xss : List (List Int)) (k g : Int) : Bool := decide (0 ≤ k ∧ k < xss.length ∧ g ∈ xss.getD k.toNat [])
theorem is_in_set_spec {x c a S p q : Addr} {xss : List (List Int)} {k g : Int} {tk tk2 : Tok} (C : Cx w mean mg mb A A₀ base outer h₀ L m env s.heap n) (hn : 3 ≤ n)
   (I : HasInst s.heap x 325 (gdefA c a S p q)) (D : IsSets s.heap S xss)
   (hQ : ∀ h' tk', Keep s.heap h' → Q (.bool (inSet xss k g)) { s with heap := h', toks := tk' }) :
   wpAny (model PySem.Challenge.rw_nu0163_01.row.prog w) A (call (.ref 317) [.ref x, .int k tk, .int g tk2]) Q E s := by
  walk_at "my_enter"
  intro g' L' h₁ kg B F N X T hA R
  replace I := I.keep kg
  replace D := D.keep kg
  have hQ' : ∀ (b : Bool) h' tk', b = inSet xss k g → Keep s.heap h' → Q (.bool b) { s with heap := h', toks := tk' } := fun b h' tk' e k' => by subst e; exact hQ h' tk' k'
  w_top on
  k_steps
  all_goals (try dsimp only)
  all_goals exact ⟨⟨_, by k_asm⟩, fun kD => hQ' _ _ _ (by simp only [inSet]; (try simp only [*]); simp_all) kD⟩
end

set_option maxHeartbeats 8000000
local macro_rules | `(tactic| walk_at "call ref") => `(tactic| (k_here; k_dflt (refine is_in_set_spec (by walk_at "my_cx") (by omega) (by exact HasInst.keep (by k_asm) (Fr.keep (by k_asm))) (by exact IsSets.keep (by k_asm) (Fr.keep (by k_asm))) ?_; k_whole; intro h' tk' k'; (have F' := Fr.keeps (by k_asm) k'); (have N' := News.grown (by k_asm) k'))))
section
variable {w : World} {mean : ExcName → Option Value} {mg mb : Str → Option Value} {A A₀ : Around} {base : Heap} {outer : List Env} {h₀ : Heap} {L : Addr} {m : Str → Option Value} {env : Env} {n : Nat} {s : Shared} {E : Value → Shared → Prop} {Q : Value → Shared → Prop}
def IsGdef (w : World) (h : Heap) (x : Addr) (ps qs : List (Int × Int)) (xss : List (List Int)) : Prop := ∃ c a S p q d d2, HasInst h x 325 (gdefA c a S p q) ∧ HasInst h c 235 [(Str.ofString "classes", .ref d)] ∧ IntMap w h d ps ∧ HasInst h a 235 [(Str.ofString "classes", .ref d2)] ∧ IntMap w h d2 qs ∧ IsSets h S xss
theorem IsGdef.keep {w : World} {h h' : Heap} {x : Addr} {ps qs : List (Int × Int)} {xss : List (List Int)} (I : IsGdef w h x ps qs xss) (k : Keep h h') : IsGdef w h' x ps qs xss :=
  let ⟨c, a, S, p, q, d, d2, i1, i2, i3, i4, i5, i6⟩ := I; ⟨c, a, S, p, q, d, d2, i1.keep k, i2.keep k, i3.keep k, i4.keep k, i5.keep k, i6.keep k⟩
def IsLook (h : Heap) (x : Addr) (kind : Str) (flag ms : Int) (T : Addr) : Prop := ∃ t1 t2 t3, HasInst h x 43 (lookA kind t1 flag t2 ms t3 T)
theorem IsLook.keep {h h' : Heap} {x T : Addr} {kind : Str} {flag ms : Int} (I : IsLook h x kind flag ms T) (k : Keep h h') : IsLook h' x kind flag ms T := let ⟨a, b, c, d⟩ := I; ⟨a, b, c, d.keep k⟩
def ign (ps qs : List (Int × Int)) (xss : List (List Int)) (flag ms g : Int) : Bool :=
  if Builtin.bitAnd flag (bitOf (classOf (intAt ps g))) ≠ 0 then true else if classOf (intAt ps g) ≠ 3 then false else if Builtin.bitAnd flag 16 ≠ 0 then !inSet xss ms g else decide (0 < (flag.fdiv 256).fmod 256) && (intAt qs g != (flag.fdiv 256).fmod 256)
theorem is_ignored_spec {x l T : Addr} {ps qs : List (Int × Int)} {xss : List (List Int)} {kind : Str} {flag ms g : Int} {tk : Tok} (C : Cx w mean mg mb A A₀ base outer h₀ L m env s.heap n) (hn : 4 ≤ n)
   (G : IsGdef w s.heap x ps qs xss) (K : IsLook s.heap l kind flag ms T)
   (hQ : ∀ h' tk', Keep s.heap h' → Q (.bool (ign ps qs xss flag ms g)) { s with heap := h', toks := tk' }) :
   wpAny (model PySem.Challenge.rw_nu0163_01.row.prog w) A (call (.ref 90) [.ref x, .ref l, .int g tk]) Q E s := by
  walk_at "my_enter"
  intro g' L' h₁ kg B F N X T hA R
  obtain ⟨c, a, S, p, q, d, d2, i1, i2, i3, i4, i5, i6⟩ := G.keep kg
  obtain ⟨t1, t2, t3, i7⟩ := K.keep kg
  have hQ' : ∀ (b : Bool) h' tk', b = ign ps qs xss flag ms g → Keep s.heap h' → Q (.bool b) { s with heap := h', toks := tk' } := fun b h' tk' e k' => by subst e; exact hQ h' tk' k'
  w_top on
  k_steps
  all_goals (try dsimp only)
  all_goals exact ⟨⟨_, by k_asm⟩, fun kD => hQ' _ _ _ (by first | (simp_all [ign]; done) | (simp_all [ign]; intros; omega)) kD⟩
end

set_option maxHeartbeats 8000000
section
variable {w : World} {mean : ExcName → Option Value} {mg mb : Str → Option Value} {A A₀ : Around} {base : Heap} {outer : List Env} {h₀ : Heap} {L : Addr} {m : Str → Option Value} {env : Env} {n : Nat} {s : Shared} {E : Value → Shared → Prop} {Q : Value → Shared → Prop}
/-- a pure call of a def whose names are captured: the frame's cells are the ledger -/
theorem pcallC {name qual : Str} {params : Arguments} {body : List Stmt} {scope : Scope} {dV kV doc pm cdv ct oc : Value} {an od : Option Addr} {osl : Array (Option Value)} {f : Addr} {args : Args} {binds : List (Str × Value)}
    (C : Cx w mean mg mb A A₀ base outer h₀ L m env s.heap n) (hn : n ≠ 0)
    (ho : (hd.heap_39 w.params).lookup f = some ⟨oc, od, .func (fnOf name qual params body scope dV kV doc pm an cdv ct), osl⟩) (hcd : codeIn (hd.heap_39 w.params) cdv qual = true)
    (hbind : BindsTo s (fnOf name qual params body scope dV kV doc pm an cdv ct) args binds) (hkind : (binds.all fun y => scope.names.lookup y.1 == some .local || scope.names.lookup y.1 == some .cell) = true)
    (hnd : ((cellsFrom 0 scope.names []).map (·.1)).Nodup)
    (h : ∀ g L' h₁ tk cells, Keep s.heap g → Below A base (env :: outer) g → Fr g L' h₁ (bindL (envOfC qual scope L' f cdv).kindOf binds fun _ => none) → News g L' h₁ cells →
      CellsAre (bindC (envOfC qual scope L' f cdv).kindOf binds fun _ => none) (cellsFrom (L' + 1) scope.names []) cells → (hd.heap_39 w.params).In g → Top hd.view_39 (looseW hd.view_39 []) mean mg mb g →
      (A.deeper (envOfC qual scope L' f cdv)).frames = some (envOfC qual scope L' f cdv :: env :: outer) → Room (A.deeper (envOfC qual scope L' f cdv)) (n - 1) →
      wpAny (model PySem.Challenge.rw_nu0163_01.row.prog w) (A.deeper (envOfC qual scope L' f cdv)) (execs body (envOfC qual scope L' f cdv)) (Done g L' s.heap Q) (fun _ _ => False) { s with heap := h₁, toks := tk })
    (hco : scope.isCoroutine = false) (hgen : scope.isGenerator = false) (hk : scope.kind = .function) :
    codeAny (model PySem.Challenge.rw_nu0163_01.row.prog w) A (.call (.ref f) args) (fun r s' => match r with | .ok (.ret v) => Q v s' | .ok _ => False | .error e => E e s') s := by
  obtain ⟨j, rfl⟩ : ∃ j, n = j + 1 := ⟨n - 1, by omega⟩
  obtain ⟨FG, BG, stG, leaveG⟩ := groundX (R := fun r s' => match r with | .ok (.ret v) => Q v s' | .ok _ => False | .error e => E e s') C.B C.F (News.nil (h := s.heap)) C.hA C.hf C.hke
  have XH := C.X.keeps C.F.keep
  refine codeAny_call_function (by have := C.R.dp; show _ < 1000; omega) (XH _ _ ho) rfl hco hgen rfl (codeRec_of XH hcd) (hbind _ _ _ _ ?_)
  refine wpAny_newFunctionEnv_cells hk (kindsX hkind _) fun env' he s' x => ?_
  subst he
  obtain ⟨h₁, tk, rfl, _⟩ := x.done
  have kp := x.toInCall.keep
  refine ⟨(C.T.nolimit.keeps C.F.keep).keeps kp, codeAny_func ?_⟩
  obtain ⟨cells, NC, Y⟩ := Cl.news (h₀ := s.heap) (Nat.le_refl _) fun y c hm => ⟨x.cell y c (lookup_of_mem_nodup (cellsFrom_names scope.names 0 (s.heap.objs.size + 1) [] [] rfl ▸ hnd) hm), x.above y c hm⟩
  refine wpAny_mono (h s.heap s.heap.objs.size h₁ tk cells (Keep.refl _) BG ⟨x.toInCall.ns, kp, Nat.le_refl _⟩ NC Y XH (C.T.keeps C.F.keep) (by show (A.frames.map _) = _; rw [C.hA]; rfl) C.R.deeper) (fun fl s'' q => ?_) (fun _ _ z => z.elim)
  obtain ⟨⟨m', F2⟩, q⟩ := q
  exact leaveG _ _ ⟨s.heap.objs.size, m', [], F2, News.nil, fun _ _ => q F2.keep⟩
end
structure TEnd (p : Prop) : Prop where
  out : p
section
variable {prog : Program} {w : World} {A : Around} {h₀ : Heap} {L : Addr} {m : Str → Option Value} {env : Env}
open LCg LCt
theorem CompEnd.mono {s₁ : Shared} {I C D : Addr} {oI oC oD : Obj} {S : List (Addr × Obj) → Prop} {r r' : Value → List (Addr × Obj) → Prop} {y : Value} {s₂ : Shared} (h : CompEnd h₀ L m s₁ I oI C oC D oD S r y s₂) (k : ∀ news', r y news' → r' y news') : CompEnd h₀ L m s₁ I oI C oC D oD S r' y s₂ :=
  let ⟨h', tk, news', e, F, N, o, hS, q⟩ := h; ⟨h', tk, news', e, F, N, o, hS, k _ q⟩
theorem turns_T {ct elt : PySem.Expr} {x : Str} {scope : Scope} {cl : List (Str × Addr)} {s : Shared} {S : List (Addr × Obj) → Prop} {P : Nat → Value → Prop} {Fin : List Value → List (Addr × Obj) → Prop} {news : List (Addr × Obj)} (n : Nat)
    (J : Nat → List Value → List (Addr × Obj) → Prop) (start : J 0 [] news)
    (step : ∀ i ys news, i < n → J i ys news → ∀ v I oI C oC D m₂ h tk (E' : Value → Shared → Prop), P i v → NsObj oC m₂ → m₂ x = some v → Fr h₀ L h m → News h₀ L h ((I, oI) :: (C, oC) :: (D, lst ys) :: news) → Off3 I C D news → ((@Ne Nat I C) ∧ (@Ne Nat I D) ∧ (@Ne Nat C D)) →
      wpAny (model prog w) A (isTrue ct (compEnvC scope cl C env) (eval ct (compEnvC scope cl C env))) (fun ok s' => if ok = true then
        wpAny (model prog w) A (eval elt (compEnvC scope cl C env)) (fun y s'' => TEnd (CompEnd h₀ L m { s with heap := h, toks := tk } I oI C oC D (lst ys) S (fun y news' => J (i + 1) (ys ++ [y]) news') y s'')) E' s'
        else TEnd (CompEnd h₀ L m { s with heap := h, toks := tk } I oI C oC D (lst ys) S (fun _ news' => J (i + 1) ys news') Value.none s')) E' { s with heap := h, toks := tk })
    (fin : ∀ ys news, J n ys news → Fin ys news) : CompRestT prog w A h₀ L m env ct elt x scope cl s S P Fin n 0 [] news := by
  have go : ∀ k i ys news, i + k = n → J i ys news → CompRestT prog w A h₀ L m env ct elt x scope cl s S P Fin k i ys news := by
    intro k
    induction k with
    | zero => intro i ys news e j; exact CompRestT.zero (fin _ _ (by rw [Nat.add_zero] at e; exact e ▸ j))
    | succ k ih =>
      intro i ys news e j
      refine CompRestT.succ fun v I oI C oC D m₂ h tk E' hP hN hx F N o ne => ?_
      refine wpAny_mono (step i ys news (by omega) j v I oI C oC D m₂ h tk E' hP hN hx F N o ne) (fun ok s' q => ?_) fun _ _ z => z
      cases ok with
      | true =>
        rw [if_pos rfl] at q ⊢
        exact wpAny_mono q (fun y s'' z => CompEnd.mono z.out fun _ r => ih _ _ _ (by omega) r) fun _ _ z => z
      | false =>
        rw [if_neg Bool.false_ne_true] at q ⊢
        exact CompEnd.mono q.out fun _ r => ih _ _ _ (by omega) r
  exact go n 0 [] news (by omega) start
theorem turns_U {elt : PySem.Expr} {x : Str} {scope : Scope} {cl : List (Str × Addr)} {s : Shared} {S : List (Addr × Obj) → Prop} {P : Nat → Value → Prop} {Fin : List Value → List (Addr × Obj) → Prop} {news : List (Addr × Obj)} (n : Nat)
    (J : Nat → List Value → List (Addr × Obj) → Prop) (start : J 0 [] news)
    (step : ∀ i ys news, i < n → J i ys news → ∀ v I oI C oC D m₂ h tk (E' : Value → Shared → Prop), P i v → NsObj oC m₂ → m₂ x = some v → Fr h₀ L h m → News h₀ L h ((I, oI) :: (C, oC) :: (D, lst ys) :: news) → Off3 I C D news → ((@Ne Nat I C) ∧ (@Ne Nat I D) ∧ (@Ne Nat C D)) →
      wpAny (model prog w) A (eval elt (compEnvC scope cl C env)) (fun y s'' => TEnd (CompEnd h₀ L m { s with heap := h, toks := tk } I oI C oC D (lst ys) S (fun y news' => J (i + 1) (ys ++ [y]) news') y s'')) E' { s with heap := h, toks := tk })
    (fin : ∀ ys news, J n ys news → Fin ys news) : CompRest prog w A h₀ L m env elt x scope cl s S P Fin n 0 [] news := by
  have go : ∀ k i ys news, i + k = n → J i ys news → CompRest prog w A h₀ L m env elt x scope cl s S P Fin k i ys news := by
    intro k
    induction k with
    | zero => intro i ys news e j; exact CompRest.zero (fin _ _ (by rw [Nat.add_zero] at e; exact e ▸ j))
    | succ k ih =>
      intro i ys news e j
      refine CompRest.succ fun v I oI C oC D m₂ h tk E' hP hN hx F N o ne => ?_
      exact wpAny_mono (step i ys news (by omega) j v I oI C oC D m₂ h tk E' hP hN hx F N o ne) (fun y s'' z => CompEnd.mono z.out fun _ r => ih _ _ _ (by omega) r) fun _ _ z => z
  exact go n 0 [] news (by omega) start
end
def rng (n : Nat) : List Int := (List.range n).map fun (i : Nat) => Int.ofNat i
theorem rng_succ (n : Nat) : rng (n + 1) = rng n ++ [(n : Int)] := by
  simp only [rng, List.range_succ, List.map_append, List.map_cons, List.map_nil]; rfl
theorem IntsAre.snoc {vs : List Value} {xs : List Int} (h : IntsAre vs xs) (a : Int) (t : Tok) : IntsAre (vs ++ [Value.int a t]) (xs ++ [a]) := h.append (.cons a t .nil)
theorem filt_yes {ys : List Value} {p : Int → Bool} {i : Nat} {t : Tok} (h : IntsAre ys ((rng i).filter p)) (e : p (0 + (i : Int)) = true) : IntsAre (ys ++ [Value.int (0 + (i : Int)) t]) ((rng (i + 1)).filter p) := by
  rw [Int.zero_add] at e ⊢
  rw [rng_succ, List.filter_append, List.filter_cons, if_pos e, List.filter_nil]
  exact IntsAre.snoc h _ _
theorem filt_no {ys : List Value} {p : Int → Bool} {i : Nat} (h : IntsAre ys ((rng i).filter p)) (e : p (0 + (i : Int)) = false) : IntsAre ys ((rng (i + 1)).filter p) := by
  rw [Int.zero_add] at e
  rw [rng_succ, List.filter_append, List.filter_cons, if_neg (by rw [e]; decide), List.filter_nil, List.append_nil]
  exact h
local macro_rules | `(tactic| walk_at "lc_assign_T") => `(tactic| (refine LCt.Assign_ListComp_T (by k_asm) (by rfl) (by with_unfolding_all rfl) (by with_unfolding_all rfl) (by decide) (by rfl) (by decide) (by rfl) (by rfl) (by rfl) ?_; k_steps))
local macro_rules | `(tactic| walk_at "lc_eval_T") => `(tactic| (refine LCt.ListComp_T (by k_asm) (by with_unfolding_all rfl) (by decide) (by rfl) (by decide) (by rfl) ?_; k_steps))
local macro_rules | `(tactic| walk_at "src_range_T") => `(tactic| (refine LCt.CompSrcT.range (n := 12) (Room.hh (by assumption)) (by k_asm) (by k_asm) (by assumption) (by decide) (by decide) (by decide) (fun g => ?_)))
local macro_rules | `(tactic| walk_at "to_lc") => `(tactic| repeat' ((fail_if_success (with_reducible show wpAny _ _ (eval (Expr.ListComp _ _ _ _) _) _ _ _)); (fail_if_success (with_reducible show wpAny _ _ (exec (Stmt.Assign _ (Expr.ListComp _ _ _ _) _) _) _ _ _)); walk_at "my_step"))
local macro_rules | `(tactic| walk_at "pr_yes") => `(tactic| exact decide_eq_true (by first | with_reducible assumption | exact ⟨by with_reducible assumption, by with_reducible assumption⟩))
local macro_rules | `(tactic| walk_at "pr_no") => `(tactic| exact decide_eq_false (by first | with_reducible assumption | exact fun q => q (by with_reducible assumption) | exact fun q => absurd q.1 (by with_reducible assumption) | exact fun q => absurd q.2 (by with_reducible assumption)))
local macro_rules | `(tactic| walk_at "filt_end") => `(tactic| first
  | exact ⟨LCg.CompEnd.intro (by k_asm) (by k_asm) _ (by lcg_sub) (by assumption) trivial ⟨rfl, filt_yes (by assumption) (by walk_at "pr_yes")⟩⟩
  | exact ⟨LCg.CompEnd.intro (by k_asm) (by k_asm) _ (by lcg_sub) (by assumption) trivial ⟨rfl, filt_no (by assumption) (by walk_at "pr_no")⟩⟩)
local macro_rules | `(tactic| walk_at "my_enterC") => `(tactic| (refine wpAny_call ?_; refine pcallC (by assumption) (by omega) (by k_is) (by k_is) (by exact BindsTo.of_eq rfl) (by exact rfl) (by decide +kernel) ?_ (by exact rfl) (by exact rfl) (by exact rfl)))
theorem filtL_yes {ys : List Value} {xs : List Int} {p : Int → Bool} {i : Nat} {a : Int} {t : Tok} (h : IntsAre ys ((xs.take i).filter p)) (ha : xs[i]? = some a) (e : p a = true) : IntsAre (ys ++ [Value.int a t]) ((xs.take (i + 1)).filter p) := by
  rw [List.take_add_one, ha, List.filter_append, Option.toList_some, List.filter_cons, if_pos e, List.filter_nil]
  exact IntsAre.snoc h _ _
theorem filtL_no {ys : List Value} {xs : List Int} {p : Int → Bool} {i : Nat} {a : Int} (h : IntsAre ys ((xs.take i).filter p)) (ha : xs[i]? = some a) (e : p a = false) : IntsAre ys ((xs.take (i + 1)).filter p) := by
  rw [List.take_add_one, ha, List.filter_append, Option.toList_some, List.filter_cons, if_neg (by rw [e]; decide), List.filter_nil, List.append_nil]
  exact h
theorem ints_item' : ∀ {vs : List Value} {xs : List Int}, IntsAre vs xs → ∀ {i : Nat} {v : Value}, vs[i]? = some v → ∃ (a : Int) (t : Tok), xs[i]? = some a ∧ v = Value.int a t
  | _, _, .cons n t _, 0, v, e => ⟨n, t, rfl, by simpa using e.symm⟩
  | _, _, .cons n t r, i + 1, v, e => by simpa using ints_item' r (i := i) (by simpa using e)
/-- a list of lists of ints -/
def IsLists (h : Heap) (S : Addr) (xss : List (List Int)) : Prop := ∃ refs : List Value, h.IsList S refs.toArray ∧ refs.length = xss.length ∧ xss.length < 1000 ∧ ∀ (i : Nat) (v : Value), refs[i]? = some v → ∃ (x : Addr) (xs : List Int) (vs : List Value), v = .ref x ∧ xss[i]? = some xs ∧ h.IsList x vs.toArray ∧ IntsAre vs xs
theorem IsLists.keep {h h' : Heap} {S : Addr} {xss : List (List Int)} (I : IsLists h S xss) (k : Keep h h') : IsLists h' S xss :=
  let ⟨refs, a, b, c, d⟩ := I; ⟨refs, isList_keep a k, b, c, fun i v e => let ⟨x, xs, vs, p, q, r, t⟩ := d i v e; ⟨x, xs, vs, p, q, isList_keep r k, t⟩⟩
section
variable {w : World} {A : Around} {E : Value → Shared → Prop} {s : Shared} {h₀ : Heap} {L : Addr} {m : Str → Option Value} {Q : Value → Shared → Prop}
theorem lists_len_I {S : Addr} {xss : List (List Int)} (F : Fr h₀ L s.heap m) (I : IsLists h₀ S xss)
   (h : ∀ t', Q (.int (xss.length : Int) t') { s with toks := s.toks + 1 + 1 }) : wpAny (model PySem.Challenge.rw_nu0163_01.row.prog w) A (call (.builtin "len") [.ref S]) Q E s := by
  obtain ⟨refs, a, b, c, d⟩ := I
  have e : (refs.toArray.size : Int) = xss.length := by rw [List.size_toArray, b]
  exact call_len_list (isList_keep a F.keep) (by rw [e]; omega) (by rw [e]; exact h _)
theorem lists_item_I {S : Addr} {xss : List (List Int)} {value slice : PySem.Expr} {k : Int} {u : Tok} (F : Fr h₀ L s.heap m) (I : IsLists h₀ S xss) (h0 : 0 ≤ k) (h1 : k < xss.length)
   (h : ∀ x vs, h₀.IsList x (List.toArray vs) → IntsAre vs (xss.getD k.toNat []) → Q (.ref x) s) (hs : subscripted slice false (.ref S) (.int k u) = operate [.ref S, .int k u] (getItem (.ref S) (.int k u)) := by with_unfolding_all rfl) : wpAny (model PySem.Challenge.rw_nu0163_01.row.prog w) A (subscriptTail value slice (.ref S) (.int k u)) Q E s := by
  obtain ⟨refs, a, b, c, d⟩ := I
  have hl : k.toNat < refs.length := by omega
  obtain ⟨x, xs, vs, e1, e2, e3, e4⟩ := d k.toNat refs[k.toNat] (List.getElem?_eq_getElem hl)
  have hL := isList_keep a F.keep
  exact tail_any hL.typeIs slot_list_getitem.lookup (wpAny_getItem_list hL h0 (by omega) (by rw [List.getElem?_toArray, List.getElem?_eq_getElem hl, e1]) (h x vs e3 (by rw [List.getD_eq_getElem?_getD, e2]; exact e4))) hs
end
def dueOf (cs hs : List Int) (xss : List (List Int)) (flag num : Int) : List Int :=
  let marks := (rng 12).filter fun k => decide (cs.getD k.toNat 0 = 3)
  let found := ((rng 12).filter fun k => decide (cs.getD k.toNat 0 = 1 ∧ (flag.fdiv 2).fmod 2 = 1)) ++ (rng 12).filter fun k => decide (cs.getD k.toNat 0 = 2 ∧ (flag.fdiv 4).fmod 2 = 1)
  if (flag.fdiv 8).fmod 2 = 1 then found ++ marks
  else if (flag.fdiv 16).fmod 2 = 1 then found ++ marks.filter fun k => decide (k ∉ if num < xss.length then xss.getD num.toNat [] else [])
  else if flag.fdiv 256 > 0 then found ++ marks.filter fun k => decide (hs.getD k.toNat 0 ≠ flag.fdiv 256)
  else found
theorem filt_len {p : Int → Bool} : ((rng 12).filter p).length ≤ 12 := Nat.le_trans (List.length_filter_le _ _) (by decide)

set_option maxHeartbeats 8000000
local macro_rules | `(tactic| walk_at "call builtin:len") => `(tactic| (k_here; k_dflt (refine lists_len_I (by k_asm) (by k_asm) ?_; k_whole; intro t')))
local macro_rules | `(tactic| walk_at "subscriptTail") => `(tactic| (k_here; k_dflt (refine lists_item_I (by k_asm) (by k_asm) (by omega) (by omega) ?_; k_whole; intro x' vs' hx' hv')))
local macro_rules | `(tactic| walk_at "my_isl") => `(tactic| first | exact News.isList (by k_asm) (by k_mem) | exact isList_keep (by k_asm) (Fr.keep (by k_asm)))
local macro_rules | `(tactic| walk_at "binaryOp Add") => `(tactic| (k_here; (with_reducible show wpAny _ _ (binaryOp _ (Value.ref _) (Value.ref _)) _ _ _); k_dflt (refine add_lists_ints (by k_asm) (by k_asm) (by walk_at "my_isl") (by walk_at "my_isl") (by k_asm) (by k_asm) ?_ (by rw [sizeLine_eq]; (try simp only [List.length_append]); omega); k_whole; intro h' F' N' I')))
local macro_rules | `(tactic| walk_at "src_list_T") => `(tactic| (refine LCt.CompSrcT.ledger (Room.hh (by assumption)) (by k_asm) (by k_asm) (by k_mem) ?_ (fun g => ?_)))
local macro_rules | `(tactic| walk_at "filtL_end") => `(tactic| first
  | exact ⟨LCg.CompEnd.intro (by k_asm) (by k_asm) _ (by lcg_sub) (by assumption) (.inr ⟨_, by k_mem, rfl, _, rfl⟩) ⟨rfl, filtL_yes (by assumption) (by assumption) (by first | with_reducible assumption | exact congrArg (fun b => !b) (by with_reducible assumption) | walk_at "pr_yes" | rfl)⟩⟩
  | exact ⟨LCg.CompEnd.intro (by k_asm) (by k_asm) _ (by lcg_sub) (by assumption) (.inr ⟨_, by k_mem, rfl, _, rfl⟩) ⟨rfl, filtL_no (by assumption) (by assumption) (by first | with_reducible assumption | exact congrArg (fun b => !b) (by with_reducible assumption) | walk_at "pr_no")⟩⟩)
local macro_rules | `(tactic| walk_at "compareOp NotIn") => `(tactic| (k_here; (with_reducible show wpAny _ _ (compareOp _ (Value.int _ _) (Value.ref _)) _ _ _); k_dflt (refine notin_list_ints (by walk_at "my_isl") (by k_asm) ?_; k_whole)))
local macro_rules | `(tactic| walk_at "compareOp NotIn") => `(tactic| (k_here; (with_reducible show wpAny _ _ (compareOp _ (Value.int _ _) (Value.ref _)) _ _ _); k_dflt (refine notin_list_ints (vs := []) (ns := []) (by exact News.isList (by k_asm) (by k_mem)) (by exact IntsAre.nil) ?_; k_whole)))
theorem mem_rng {p : Int → Bool} {i : Nat} {a : Int} (h : ((rng 12).filter p)[i]? = some a) : 0 ≤ a ∧ a < 12 := by
  have h1 : a ∈ rng 12 := (List.mem_filter.mp (List.mem_of_getElem? h)).1
  simp only [rng, List.mem_map, List.mem_range] at h1
  obtain ⟨j, hj, rfl⟩ := h1
  constructor
  · exact Int.natCast_nonneg j
  · show (j : Int) < 12; omega
theorem fresh_of {h g : Heap} {D : Addr} (k : Keep h g) (e : g.get? D = none) : h.get? D = none := by
  cases q : h.get? D with
  | none => rfl
  | some o => rw [k _ _ q] at e; cases e
theorem any_notin (l : List Int) : (fun k => !(l.any (· == k))) = fun k => decide (k ∉ l) := by
  funext k
  rw [Bool.eq_iff_iff]
  simp only [Bool.not_eq_true', List.any_eq_false, beq_iff_eq, decide_eq_true_eq]
  exact ⟨fun h hk => h k hk rfl, fun h x hx e => h (e ▸ hx)⟩
section
variable {w : World} {mean : ExcName → Option Value} {mg mb : Str → Option Value} {A A₀ : Around} {base : Heap} {outer : List Env} {h₀ : Heap} {L : Addr} {m : Str → Option Value} {env : Env} {n : Nat} {s : Shared} {E : Value → Shared → Prop} {Q : Value → Shared → Prop}
theorem law_ignored_spec {c hl S : Addr} {vc vh : List Value} {cs hs : List Int} {xss : List (List Int)} {flag num : Int} {tk tk2 : Tok} (C : Cx w mean mg mb A A₀ base outer h₀ L m env s.heap n) (hn : 4 ≤ n)
   (Ic : s.heap.IsList c vc.toArray) (Jc : IntsAre vc cs) (lc : cs.length = 12) (Ih : s.heap.IsList hl vh.toArray) (Jh : IntsAre vh hs) (lh : hs.length = 12)
   (IS : IsLists s.heap S xss) (h0 : 0 ≤ num)
   (hQ : ∀ h' tk' D vs, Keep s.heap h' → h'.IsList D (List.toArray vs) → IntsAre vs (dueOf cs hs xss flag num) → s.heap.get? D = none → Q (.ref D) { s with heap := h', toks := tk' }) :
   wpAny (model PySem.Challenge.rw_nu0163_01.row.prog w) A (call (.ref 341) [.ref c, .ref hl, .ref S, .int flag tk, .int num tk2]) Q E s := by
  have hQ' : ∀ xs h' tk' D vs, xs = dueOf cs hs xss flag num → Keep s.heap h' → h'.IsList D (List.toArray vs) → IntsAre vs xs → s.heap.get? D = none → Q (.ref D) { s with heap := h', toks := tk' } := fun xs h' tk' D vs e k i j f => hQ h' tk' D vs k i (e ▸ j) f
  walk_at "my_enterC"
  intro g' L' h₁ tk cells kg B F N Y X T hA R
  replace Ic := isList_keep Ic kg
  replace Ih := isList_keep Ih kg
  replace IS := IS.keep kg
  k_cells Y
  w_top on
  walk_at "to_lc"
  walk_at "lc_assign_T"
  walk_at "src_range_T"
  refine turns_T 12 (fun i ys nw => nw = _ ∧ IntsAre ys ((rng i).filter (fun k => decide (cs.getD k.toNat 0 = 3)))) ⟨rfl, .nil⟩ (fun i ys nw hi hJ v I oI C' oC D m₂ h tk E' hP hNs hx F2 N2 off ne => ?_) (fun ysM nw hJ => ?_)
  · obtain ⟨rfl, hys⟩ := hJ
    obtain ⟨t, rfl⟩ := hP
    k_steps
    all_goals (walk_at "filt_end")
  obtain ⟨rfl, hmarks⟩ := hJ
  obtain ⟨mk, hmk⟩ : ∃ l, l = (rng 12).filter (fun k => decide (cs.getD k.toNat 0 = 3)) := ⟨_, rfl⟩
  rw [← hmk] at hmarks
  have lmk : mk.length ≤ 12 := hmk ▸ filt_len
  intro D1 h tk F2 N2 o1
  simp only [LCg.Off1, and_true] at o1
  dsimp only
  walk_at "to_lc"
  walk_at "lc_assign_T"
  walk_at "src_range_T"
  refine turns_T 12 (fun i ys nw => nw = _ ∧ IntsAre ys ((rng i).filter (fun k => decide (cs.getD k.toNat 0 = 1 ∧ (flag.fdiv 2).fmod 2 = 1)))) ⟨rfl, .nil⟩ (fun i ys nw hi hJ v I oI C' oC D m₂ h tk E' hP hNs hx F2 N2 off ne => ?_) (fun ys nw hJ => ?_)
  · obtain ⟨rfl, hys⟩ := hJ
    obtain ⟨t, rfl⟩ := hP
    k_steps
    all_goals (walk_at "filt_end")
  obtain ⟨rfl, hfound⟩ := hJ
  obtain ⟨f1, hf1⟩ : ∃ l, l = (rng 12).filter (fun k => decide (cs.getD k.toNat 0 = 1 ∧ (flag.fdiv 2).fmod 2 = 1)) := ⟨_, rfl⟩
  rw [← hf1] at hfound
  have lf1 : f1.length ≤ 12 := hf1 ▸ filt_len
  intro D2 h tk F3 N3 o2
  simp only [LCg.Off1, and_true] at o2
  dsimp only
  walk_at "to_lc"
  all_goals (try k_data)
  walk_at "lc_eval_T"
  walk_at "src_range_T"
  refine turns_T 12 (fun i ys nw => nw = _ ∧ IntsAre ys ((rng i).filter (fun k => decide (cs.getD k.toNat 0 = 2 ∧ (flag.fdiv 4).fmod 2 = 1)))) ⟨rfl, .nil⟩ (fun i ys nw hi hJ v I oI C' oC D m₂ h tk E' hP hNs hx F2 N2 off ne => ?_) (fun ys nw hJ => ?_)
  · obtain ⟨rfl, hys⟩ := hJ
    obtain ⟨t, rfl⟩ := hP
    k_steps
    all_goals (walk_at "filt_end")
  obtain ⟨rfl, hfound2⟩ := hJ
  obtain ⟨f2, hf2⟩ : ∃ l, l = (rng 12).filter (fun k => decide (cs.getD k.toNat 0 = 2 ∧ (flag.fdiv 4).fmod 2 = 1)) := ⟨_, rfl⟩
  rw [← hf2] at hfound2
  have lf2 : f2.length ≤ 12 := hf2 ▸ filt_len
  intro D3 h tk F3 N3 o3
  simp only [LCg.Off1, and_true] at o3
  try dsimp only
  walk_at "to_lc"
  all_goals (try k_data)
  · have e : f1 ++ f2 ++ mk = dueOf cs hs xss flag num := by simp only [dueOf, ← hmk, ← hf1, ← hf2]; rw [if_pos (by assumption)]
    dsimp only
    exact ⟨⟨_, by k_asm⟩, fun kD => hQ' _ _ _ _ _ e kD (News.isList (by k_asm) (by k_mem)) (by assumption) (fresh_of kg (News.fresh (by k_asm) (by k_mem)))⟩
  · walk_at "lc_eval_T"
    rename (IntsAre _ mk) => hmarks
    walk_at "src_list_T"
    · rw [List.size_toArray, sizeLine_eq, hmarks.length]; omega
    refine turns_T _ (fun i ys nw => nw = _ ∧ IntsAre ys ((mk.take i).filter (fun k => !((xss.getD num.toNat []).any (· == k))))) ⟨rfl, .nil⟩ (fun i ys nw hi hJ v I oI C' oC D m₂ h tk E' hP hNs hx F2 N2 off ne => ?_) (fun ys nw hJ => ?_)
    · obtain ⟨rfl, hys⟩ := hJ
      obtain ⟨a, t, hai, rfl⟩ := ints_item' hmarks (by rw [← hP, List.getElem?_toArray])
      k_steps
      all_goals (walk_at "filtL_end")
    obtain ⟨rfl, hr⟩ := hJ
    rw [List.size_toArray, hmarks.length, List.take_length, any_notin] at hr
    have lr : (mk.filter fun k => decide (k ∉ xss.getD num.toNat [])).length ≤ 12 := Nat.le_trans (List.length_filter_le _ _) lmk
    have e : f1 ++ f2 ++ (mk.filter fun k => decide (k ∉ xss.getD num.toNat [])) = dueOf cs hs xss flag num := by simp only [dueOf, ← hmk, ← hf1, ← hf2]; rw [if_neg (by assumption), if_pos (by assumption), if_pos (by assumption)]
    intro D4 h tk F4 N4 o4
    try dsimp only
    k_steps
    all_goals (try dsimp only)
    exact ⟨⟨_, by k_asm⟩, fun kD => hQ' _ _ _ _ _ e kD (News.isList (by k_asm) (by k_mem)) (by assumption) (fresh_of kg (News.fresh (by k_asm) (by k_mem)))⟩
  · walk_at "lc_eval_T"
    rename (IntsAre _ mk) => hmarks
    walk_at "src_list_T"
    · rw [List.size_toArray, sizeLine_eq, hmarks.length]; omega
    refine turns_T _ (fun i ys nw => nw = _ ∧ IntsAre ys ((mk.take i).filter (fun k => !(([] : List Int).any (· == k))))) ⟨rfl, .nil⟩ (fun i ys nw hi hJ v I oI C' oC D m₂ h tk E' hP hNs hx F2 N2 off ne => ?_) (fun ys nw hJ => ?_)
    · obtain ⟨rfl, hys⟩ := hJ
      obtain ⟨a, t, hai, rfl⟩ := ints_item' hmarks (by rw [← hP, List.getElem?_toArray])
      k_steps
      all_goals (walk_at "filtL_end")
    obtain ⟨rfl, hr⟩ := hJ
    rw [List.size_toArray, hmarks.length, List.take_length, any_notin] at hr
    have lr : (mk.filter fun k => decide (k ∉ ([] : List Int))).length ≤ 12 := Nat.le_trans (List.length_filter_le _ _) lmk
    have e : f1 ++ f2 ++ (mk.filter fun k => decide (k ∉ ([] : List Int))) = dueOf cs hs xss flag num := by simp only [dueOf, ← hmk, ← hf1, ← hf2]; rw [if_neg (by assumption), if_pos (by assumption), if_neg (by assumption)]
    intro D4 h tk F4 N4 o4
    try dsimp only
    k_steps
    all_goals (try dsimp only)
    exact ⟨⟨_, by k_asm⟩, fun kD => hQ' _ _ _ _ _ e kD (News.isList (by k_asm) (by k_mem)) (by assumption) (fresh_of kg (News.fresh (by k_asm) (by k_mem)))⟩
  · walk_at "lc_eval_T"
    rename (IntsAre _ mk) => hmarks
    walk_at "src_list_T"
    · rw [List.size_toArray, sizeLine_eq, hmarks.length]; omega
    refine turns_T _ (fun i ys nw => nw = _ ∧ IntsAre ys ((mk.take i).filter (fun k => decide (hs.getD k.toNat 0 ≠ flag.fdiv 256)))) ⟨rfl, .nil⟩ (fun i ys nw hi hJ v I oI C' oC D m₂ h tk E' hP hNs hx F2 N2 off ne => ?_) (fun ys nw hJ => ?_)
    · obtain ⟨rfl, hys⟩ := hJ
      obtain ⟨a, t, hai, rfl⟩ := ints_item' hmarks (by rw [← hP, List.getElem?_toArray])
      have hab : 0 ≤ a ∧ a < 12 := mem_rng (hmk ▸ hai)
      k_steps
      all_goals (walk_at "filtL_end")
    obtain ⟨rfl, hr⟩ := hJ
    rw [List.size_toArray, hmarks.length, List.take_length] at hr
    have lr : (mk.filter fun k => decide (hs.getD k.toNat 0 ≠ flag.fdiv 256)).length ≤ 12 := Nat.le_trans (List.length_filter_le _ _) lmk
    have e : f1 ++ f2 ++ (mk.filter fun k => decide (hs.getD k.toNat 0 ≠ flag.fdiv 256)) = dueOf cs hs xss flag num := by simp only [dueOf, ← hmk, ← hf1, ← hf2]; rw [if_neg (by assumption), if_neg (by assumption), if_pos (by assumption)]
    intro D4 h tk F4 N4 o4
    try dsimp only
    k_steps
    all_goals (try dsimp only)
    exact ⟨⟨_, by k_asm⟩, fun kD => hQ' _ _ _ _ _ e kD (News.isList (by k_asm) (by k_mem)) (by assumption) (fresh_of kg (News.fresh (by k_asm) (by k_mem)))⟩
  · have e : f1 ++ f2 = dueOf cs hs xss flag num := by simp only [dueOf, ← hmk, ← hf1, ← hf2]; rw [if_neg (by assumption), if_neg (by assumption), if_neg (by assumption)]
    dsimp only
    exact ⟨⟨_, by k_asm⟩, fun kD => hQ' _ _ _ _ _ e kD (News.isList (by k_asm) (by k_mem)) (by assumption) (fresh_of kg (News.fresh (by k_asm) (by k_mem)))⟩
end

set_option maxHeartbeats 8000000
local macro_rules | `(tactic| walk_at "call ref") => `(tactic| (k_here; k_dflt (refine is_ignored_spec (by walk_at "my_cx") (by omega) (by exact IsGdef.keep (by k_asm) (Fr.keep (by k_asm))) (by exact IsLook.keep (by k_asm) (Fr.keep (by k_asm))) ?_; k_whole; intro h' tk' k'; (have F' := Fr.keeps (by k_asm) k'); (have N' := News.grown (by k_asm) k'))))

local macro_rules | `(tactic| k_room) => `(tactic| ((have hRm := Room.dp (by with_reducible assumption)); (try simp only [depth_mark, depth_under_make, depth_under_kw, depth_in1, depth_deeper] at hRm ⊢); (show _ < 1000); omega))
local macro_rules | `(tactic| k_enter) => `(tactic| (refine' code_def ?k1 ?k2 ?k3 ?k4 ?k5 ?kA ?kF ?kK ?k6 ?k7 ?k8 ?k9 ?kB ?_ ?c2 ?c3 ?c4 ?c5; (case kA => assumption); (case kF => exact rfl); (case kK => exact rfl); (case k1 => k_asm); (case k2 => k_asm); (case k3 => k_asm); (case k4 => k_asm); (case k5 => k_asm); (case k6 => k_is); (case k7 => k_is); (case k8 => k_room); (case k9 => first | exact BindsTo.of_eq rfl | exact binds_K (by k_in) rfl (by k_is) rfl rfl rfl); (case c5 => decide); (case kB => exact locs rfl); (case c2 => exact rfl); (case c3 => exact rfl); (case c4 => exact rfl); k_whole; intro g' L' h' FG' F' N' B' X' T'; (try dsimp only); (try k_fold)))
def HasAttr (h : Heap) (x C : Addr) (name : Str) (v : Value) : Prop := ∃ dx es n, h.get? x = some (instObj C dx) ∧ h.get? dx = some (dictOf es n) ∧ getL name es = some (some v)
theorem HasAttr.keep {h h' : Heap} {x C : Addr} {name : Str} {v : Value} (I : HasAttr h x C name v) (k : Keep h h') : HasAttr h' x C name v := let ⟨dx, es, n, a, b, c⟩ := I; ⟨dx, es, n, k _ _ a, k _ _ b, c⟩
def IsInfo (h : Heap) (x : Addr) (p : Int × Int) : Prop := ∃ t1 t2, HasAttr h x 142 (Str.ofString "glyph") (.int p.1 t1) ∧ HasAttr h x 142 (Str.ofString "mask") (.int p.2 t2)
theorem IsInfo.keep {h h' : Heap} {x : Addr} {p : Int × Int} (I : IsInfo h x p) (k : Keep h h') : IsInfo h' x p := let ⟨a, b, c, d⟩ := I; ⟨a, b, c.keep k, d.keep k⟩
def IsRow (h : Heap) (R : Addr) (gs : List (Int × Int)) : Prop := ∃ refs : List Value, h.IsList R refs.toArray ∧ refs.length = gs.length ∧ gs.length < 1000 ∧ ∀ (i : Nat) (v : Value), refs[i]? = some v → ∃ (x : Addr) (p : Int × Int), v = .ref x ∧ gs[i]? = some p ∧ IsInfo h x p
theorem IsRow.keep {h h' : Heap} {R : Addr} {gs : List (Int × Int)} (I : IsRow h R gs) (k : Keep h h') : IsRow h' R gs :=
  let ⟨refs, a, b, c, d⟩ := I; ⟨refs, isList_keep a k, b, c, fun i v e => let ⟨x, p, q, r, t⟩ := d i v e; ⟨x, p, q, r, t.keep k⟩⟩
section
variable {prog : Program} {w : World} {A : Around} {E : Value → Shared → Prop} {s : Shared} {K : Frag} {h₀ : Heap} {L : Addr} {m : Str → Option Value}
theorem attr_A {x C : Addr} {name : Str} {v : Value} {attr : Option Value} {expr : Bool} {Q : Value → Shared → Prop} (F : Fr h₀ L s.heap m) (X₀ : K.In h₀) (I : HasAttr h₀ x C name v) (hg : plainGet K C name = true) (hh : hasDictIn K C = true)
    (ha : findIn K (.ref C) name = some attr) (hn : noGet K attr = true) (hv : handedIn v = true) (h : Q v { s with toks := s.toks + 1 }) :
    wpAny (model prog w) A (getAttr (.ref x) name expr) Q E s := by
  obtain ⟨dx, es, n, a, b, c⟩ := I
  exact get_own (es := es) (n := n) F X₀ ⟨F.keep _ _ a, rfl, rfl, F.keep _ _ b⟩ hg hh ha hn c hv h
end
section
variable {w : World} {A : Around} {E : Value → Shared → Prop} {s : Shared} {h₀ : Heap} {L : Addr} {m : Str → Option Value} {Q : Value → Shared → Prop}
theorem row_item_I {R : Addr} {gs : List (Int × Int)} {value slice : PySem.Expr} {k : Int} {u : Tok} (F : Fr h₀ L s.heap m) (I : IsRow h₀ R gs) (h0 : 0 ≤ k) (h1 : k < gs.length)
   (h : ∀ x t1 t2, HasAttr h₀ x 142 (Str.ofString "glyph") (.int (gs.getD k.toNat (0, 0)).1 t1) → HasAttr h₀ x 142 (Str.ofString "mask") (.int (gs.getD k.toNat (0, 0)).2 t2) → Q (.ref x) s) (hs : subscripted slice false (.ref R) (.int k u) = operate [.ref R, .int k u] (getItem (.ref R) (.int k u)) := by with_unfolding_all rfl) : wpAny (model PySem.Challenge.rw_nu0163_01.row.prog w) A (subscriptTail value slice (.ref R) (.int k u)) Q E s := by
  obtain ⟨refs, a, b, c, d⟩ := I
  have hl : k.toNat < refs.length := by omega
  obtain ⟨x, p, e1, e2, t1, t2, e3, e4⟩ := d k.toNat refs[k.toNat] (List.getElem?_eq_getElem hl)
  have hL := isList_keep a F.keep
  have ep : gs.getD k.toNat (0, 0) = p := by rw [List.getD_eq_getElem?_getD, e2]; rfl
  exact tail_any hL.typeIs slot_list_getitem.lookup (wpAny_getItem_list hL h0 (by omega) (by rw [List.getElem?_toArray, List.getElem?_eq_getElem hl, e1]) (h x t1 t2 (ep ▸ e3) (ep ▸ e4))) hs
end
local macro_rules | `(tactic| walk_at "getAttr ref") => `(tactic| (k_here; k_dflt (refine attr_A (by k_asm) (by k_asm) (by k_asm) (by k_is) (by k_is) (by k_is) (by k_is) (by k_handed) ?_; k_whole)))
local macro_rules | `(tactic| walk_at "subscriptTail") => `(tactic| (k_here; k_dflt (refine row_item_I (by k_asm) (by k_asm) (by omega) (by omega) ?_; k_whole; intro x' t1' t2' i1' i2')))
abbrev bufA (R : Addr) (t : Tok) : List (Str × Value) := [(Str.ofString "row", .ref R), (Str.ofString "is_backward", .bool false), (Str.ofString "last_lig", .int 0 t)]
abbrev sceneA (b gd lk l : Addr) (mask : Int) (t : Tok) (depth : Int) (t' : Tok) : List (Str × Value) := [(Str.ofString "buffer", .ref b), (Str.ofString "gdef", .ref gd), (Str.ofString "lookups", .ref lk), (Str.ofString "lookup", .ref l), (Str.ofString "mask", .int mask t), (Str.ofString "depth", .int depth t')]
section
variable {w : World} {mean : ExcName → Option Value} {mg mb : Str → Option Value} {A A₀ : Around} {base : Heap} {outer : List Env} {h₀ : Heap} {L : Addr} {m : Str → Option Value} {env : Env} {n : Nat} {s : Shared} {E : Value → Shared → Prop} {Q : Value → Shared → Prop}
theorem passes_spec {sc b gd lk l R T : Addr} {ps qs : List (Int × Int)} {xss : List (List Int)} {gs : List (Int × Int)} {kind : Str} {flag ms mask depth at_ : Int} {t t' t'' tk : Tok} (C : Cx w mean mg mb A A₀ base outer h₀ L m env s.heap n) (hn : 5 ≤ n)
   (I : HasInst s.heap sc 65 (sceneA b gd lk l mask t depth t')) (J : HasInst s.heap b 188 (bufA R t'')) (RW : IsRow s.heap R gs) (G : IsGdef w s.heap gd ps qs xss) (K : IsLook s.heap l kind flag ms T) (h0 : 0 ≤ at_) (h1 : at_ < gs.length)
   (hQ : ∀ h' tk', Keep s.heap h' → Q (.bool (ign ps qs xss flag ms (gs.getD at_.toNat (0, 0)).1)) { s with heap := h', toks := tk' }) :
   wpAny (model PySem.Challenge.rw_nu0163_01.row.prog w) A (call (.ref 97) [.ref sc, .int at_ tk]) Q E s := by
  walk_at "my_enter"
  intro g' L' h₁ kg B F N X T hA Ro
  replace I := I.keep kg
  replace J := J.keep kg
  replace RW := RW.keep kg
  replace G := G.keep kg
  replace K := K.keep kg
  w_top on
  k_steps
  all_goals (try dsimp only)
  all_goals exact ⟨⟨_, by k_asm⟩, fun kD => hQ _ _ kD⟩
end
local macro_rules | `(tactic| walk_at "call ref") => `(tactic| (k_here; k_dflt (refine passes_spec (by walk_at "my_cx") (by omega) (by exact HasInst.keep (by k_asm) (Fr.keep (by k_asm))) (by exact HasInst.keep (by k_asm) (Fr.keep (by k_asm))) (by exact IsRow.keep (by k_asm) (Fr.keep (by k_asm))) (by exact IsGdef.keep (by k_asm) (Fr.keep (by k_asm))) (by exact IsLook.keep (by k_asm) (Fr.keep (by k_asm))) (by omega) (by omega) ?_; k_whole; intro h' tk' k'; (have F' := Fr.keeps (by k_asm) k'); (have N' := News.grown (by k_asm) k'))))
section
variable {w : World} {mean : ExcName → Option Value} {mg mb : Str → Option Value} {A A₀ : Around} {base : Heap} {outer : List Env} {h₀ : Heap} {L : Addr} {m : Str → Option Value} {env : Env} {n : Nat} {s : Shared} {E : Value → Shared → Prop} {Q : Value → Shared → Prop}
theorem takes_spec {sc b gd lk l R T : Addr} {ps qs : List (Int × Int)} {xss : List (List Int)} {gs : List (Int × Int)} {kind : Str} {flag ms mask depth at_ : Int} {t t' t'' tk : Tok} (C : Cx w mean mg mb A A₀ base outer h₀ L m env s.heap n) (hn : 6 ≤ n)
   (I : HasInst s.heap sc 65 (sceneA b gd lk l mask t depth t')) (J : HasInst s.heap b 188 (bufA R t'')) (RW : IsRow s.heap R gs) (G : IsGdef w s.heap gd ps qs xss) (K : IsLook s.heap l kind flag ms T) (h0 : 0 ≤ at_) (h1 : at_ < gs.length)
   (hQ : ∀ h' tk', Keep s.heap h' → Q (.bool (decide (Builtin.bitAnd (gs.getD at_.toNat (0, 0)).2 mask ≠ 0) && !ign ps qs xss flag ms (gs.getD at_.toNat (0, 0)).1)) { s with heap := h', toks := tk' }) :
   wpAny (model PySem.Challenge.rw_nu0163_01.row.prog w) A (call (.ref 104) [.ref sc, .int at_ tk]) Q E s := by
  walk_at "my_enter"
  intro g' L' h₁ kg B F N X T hA Ro
  replace I := I.keep kg
  replace J := J.keep kg
  replace RW := RW.keep kg
  replace G := G.keep kg
  replace K := K.keep kg
  have hQ' : ∀ (b : Bool) h' tk', b = (decide (Builtin.bitAnd (gs.getD at_.toNat (0, 0)).2 mask ≠ 0) && !ign ps qs xss flag ms (gs.getD at_.toNat (0, 0)).1) → Keep s.heap h' → Q (.bool b) { s with heap := h', toks := tk' } := fun b h' tk' e k => by subst e; exact hQ _ _ k
  w_top on
  k_steps
  all_goals (try dsimp only)
  all_goals first
    | exact ⟨⟨_, by k_asm⟩, fun kD => hQ' _ _ _ (by rw [decide_eq_true (by with_reducible assumption), Bool.true_and]) kD⟩
    | (rename (Builtin.bitAnd _ _ = 0) => hz
       exact ⟨⟨_, by k_asm⟩, fun kD => hQ' _ _ _ (by rw [hz]; rfl) kD⟩)
end
def attrsOf : List DictEntry → List (Str × Value)
  | [] => []
  | e :: r => match e.key with
    | .str x _ => (x, e.val) :: attrsOf r
    | _ => attrsOf r
theorem getL_attrs : ∀ {es : List DictEntry}, (es.all fun e => match e.key with | .str _ _ => true | _ => false) = true → ∀ name, getL name es = some ((attrsOf es).lookup name)
  | [], _, _ => rfl
  | ⟨hh, key, v⟩ :: r, hk, name => by
    obtain ⟨h1, h2⟩ := Bool.and_eq_true_iff.mp hk
    cases key with
    | str x t =>
      have ih := getL_attrs h2 name
      unfold getL at ih ⊢
      simp only [attrsOf, List.lookup_cons]
      by_cases q : x = name
      · subst q
        rw [List.find?_cons_of_pos (by simp [Value.isStr])]
        simp
      · have q' : (name == x) = false := by simpa using fun e => q e.symm
        have q'' : ¬ ((Value.str x t).isStr name = true) := by simp [Value.isStr, q]
        rw [List.find?_cons_of_neg (by simpa using q''), q']
        simpa [DictEntry.refKey] using ih
    | _ => cases h1
theorem inst_of {h₀ h : Heap} {L x C dx : Addr} {news : List (Addr × Obj)} {es : List DictEntry} {n : Nat} {attrs : List (Str × Value)} (N : News h₀ L h news) (h1 : (x, instObj C dx) ∈ news) (h2 : (dx, dictOf es n) ∈ news)
    (hk : (es.all fun e => match e.key with | .str _ _ => true | _ => false) = true) (ha : attrsOf es = attrs) : HasInst h x C attrs := ⟨dx, es, n, (N _ h1).1, (N _ h2).1, fun name => by rw [getL_attrs hk, ha]⟩
/-- an object of a class, new since h -/
def NewInst (h h' : Heap) (x C : Addr) (attrs : List (Str × Value)) : Prop := ∃ dx es n, h'.get? x = some (instObj C dx) ∧ h'.get? dx = some (dictOf es n) ∧ (∀ name, getL name es = some (attrs.lookup name)) ∧ h.get? x = none ∧ h.get? dx = none
theorem NewInst.inst {h h' : Heap} {x C : Addr} {attrs : List (Str × Value)} (I : NewInst h h' x C attrs) : HasInst h' x C attrs := let ⟨dx, es, n, a, b, c, _, _⟩ := I; ⟨dx, es, n, a, b, c⟩
theorem fresh_of' {h g : Heap} {D : Addr} (k : Keep h g) (e : g.get? D = none) : h.get? D = none := by
  cases q : h.get? D with
  | none => rfl
  | some o => rw [k _ _ q] at e; cases e
theorem newInst_of {h g h' : Heap} {L x C dx : Addr} {news : List (Addr × Obj)} {es : List DictEntry} {n : Nat} {attrs : List (Str × Value)} (kg : Keep h g) (N : News g L h' news) (h1 : (x, instObj C dx) ∈ news) (h2 : (dx, dictOf es n) ∈ news)
    (hk : (es.all fun e => match e.key with | .str _ _ => true | _ => false) = true) (ha : attrsOf es = attrs) : NewInst h h' x C attrs :=
  ⟨dx, es, n, (N _ h1).1, (N _ h2).1, fun name => by rw [getL_attrs hk, ha], fresh_of' kg (N _ h1).2.2, fresh_of' kg (N _ h2).2.2⟩
def IsRefs (h : Heap) (S : Addr) (rs : List Addr) : Prop := h.IsList S (rs.map Value.ref).toArray
theorem IsRefs.keep {h h' : Heap} {S : Addr} {rs : List Addr} (I : IsRefs h S rs) (k : Keep h h') : IsRefs h' S rs := isList_keep I k
section
variable {w : World} {A : Around} {E : Value → Shared → Prop} {s : Shared} {h₀ : Heap} {L : Addr} {m : Str → Option Value} {Q : Value → Shared → Prop}
theorem refs_len_I {S : Addr} {rs : List Addr} (F : Fr h₀ L s.heap m) (I : IsRefs h₀ S rs) (hl : rs.length < 1000)
   (h : ∀ t', Q (.int (rs.length : Int) t') { s with toks := s.toks + 1 + 1 }) : wpAny (model PySem.Challenge.rw_nu0163_01.row.prog w) A (call (.builtin "len") [.ref S]) Q E s := by
  have e : (((rs.map Value.ref).toArray).size : Int) = rs.length := by rw [List.size_toArray, List.length_map]
  exact call_len_list (isList_keep I F.keep) (by rw [e]; omega) (by rw [e]; exact h _)
theorem refs_item_I {S : Addr} {rs : List Addr} {value slice : PySem.Expr} {k : Int} {u : Tok} (F : Fr h₀ L s.heap m) (I : IsRefs h₀ S rs) (h0 : 0 ≤ k) (h1 : k < rs.length) (h2 : rs.length < 1000)
   (h : Q (.ref (rs.getD k.toNat 0)) s) (hs : subscripted slice false (.ref S) (.int k u) = operate [.ref S, .int k u] (getItem (.ref S) (.int k u)) := by with_unfolding_all rfl) : wpAny (model PySem.Challenge.rw_nu0163_01.row.prog w) A (subscriptTail value slice (.ref S) (.int k u)) Q E s := by
  have hl : k.toNat < rs.length := by omega
  have hL := isList_keep I F.keep
  exact tail_any hL.typeIs slot_list_getitem.lookup (wpAny_getItem_list hL h0 (by omega) (by rw [List.getElem?_toArray, List.getElem?_map, List.getElem?_eq_getElem hl, List.getD_eq_getElem?_getD, List.getElem?_eq_getElem hl]; rfl) h) hs
end
local macro_rules | `(tactic| walk_at "call builtin:len") => `(tactic| (k_here; k_dflt (refine refs_len_I (by k_asm) (by k_asm) (by k_asm) ?_; k_whole; intro t')))
local macro_rules | `(tactic| walk_at "subscriptTail") => `(tactic| (k_here; k_dflt (refine refs_item_I (by k_asm) (by k_asm) (by omega) (by omega) (by k_asm) ?_; k_whole)))
section
variable {w : World} {mean : ExcName → Option Value} {mg mb : Str → Option Value} {A A₀ : Around} {base : Heap} {outer : List Env} {h₀ : Heap} {L : Addr} {m : Str → Option Value} {env : Env} {n : Nat} {s : Shared} {E : Value → Shared → Prop} {Q : Value → Shared → Prop}
theorem nested_none {sc b gd lk l : Addr} {rs : List Addr} {mask depth k : Int} {t t' tk : Tok} (C : Cx w mean mg mb A A₀ base outer h₀ L m env s.heap n) (hn : 3 ≤ n)
   (I : HasInst s.heap sc 65 (sceneA b gd lk l mask t depth t')) (J : IsRefs s.heap lk rs) (hl : rs.length < 1000) (hk : k < 0 ∨ rs.length ≤ k)
   (hQ : ∀ h' tk', Keep s.heap h' → Q .none { s with heap := h', toks := tk' }) :
   wpAny (model PySem.Challenge.rw_nu0163_01.row.prog w) A (call (.ref 111) [.ref sc, .int k tk]) Q E s := by
  walk_at "my_enter"
  intro g' L' h₁ kg B F N X T hA Ro
  replace I := I.keep kg
  replace J := J.keep kg
  w_top on
  k_steps
  all_goals (try dsimp only)
  all_goals first
    | exact ⟨⟨_, by k_asm⟩, fun kD => hQ _ _ kD⟩
    | (exfalso; omega)
theorem nested_some {sc b gd lk l : Addr} {rs : List Addr} {mask depth k : Int} {t t' tk : Tok} (C : Cx w mean mg mb A A₀ base outer h₀ L m env s.heap n) (hn : 3 ≤ n)
   (I : HasInst s.heap sc 65 (sceneA b gd lk l mask t depth t')) (J : IsRefs s.heap lk rs) (hl : rs.length < 1000) (h0 : 0 ≤ k) (h1 : k < rs.length)
   (hQ : ∀ h' tk' x t2 t3, Keep s.heap h' → NewInst s.heap h' x 65 (sceneA b gd lk (rs.getD k.toNat 0) mask t2 (depth + 1) t3) → Q (.ref x) { s with heap := h', toks := tk' }) :
   wpAny (model PySem.Challenge.rw_nu0163_01.row.prog w) A (call (.ref 111) [.ref sc, .int k tk]) Q E s := by
  walk_at "my_enter"
  intro g' L' h₁ kg B F N X T hA Ro
  replace I := I.keep kg
  replace J := J.keep kg
  w_top on
  k_steps
  all_goals (try dsimp only)
  exact ⟨⟨_, by k_asm⟩, fun kD => hQ _ _ _ _ _ kD (newInst_of kg (by k_asm) (by k_mem) (by k_mem) rfl rfl)⟩
end

set_option maxHeartbeats 8000000
def KeepBut (T : Addr) (h h' : Heap) : Prop := ∀ b o, b ≠ T → h.get? b = some o → h'.get? b = some o
structure DoneM (g : Heap) (L T : Addr) (h : Heap) (Q : Value → Shared → Prop) (fl : Flow) (s' : Shared) : Prop where
  fr : ∃ m' o', Fr g L s'.heap m' ∧ News g L s'.heap [(T, o')] ∧ (KeepBut T h s'.heap → s'.heap.get? T = some o' → Q (match fl with | .ret v => v | _ => .none) s')
section
variable {w : World} {mean : ExcName → Option Value} {mg mb : Str → Option Value} {A A₀ : Around} {base : Heap} {outer : List Env} {h₀ : Heap} {L : Addr} {m : Str → Option Value} {env : Env} {n : Nat} {s : Shared} {E : Value → Shared → Prop} {Q : Value → Shared → Prop}
/-- a call that may change one object of the caller's own -/
theorem pcallM {name qual : Str} {params : Arguments} {body : List Stmt} {scope : Scope} {dV kV doc pm cdv ct oc : Value} {an od : Option Addr} {osl : Array (Option Value)} {f T : Addr} {o : Obj} {args : Args} {binds : List (Str × Value)}
    (C : Cx w mean mg mb A A₀ base outer h₀ L m env s.heap n) (hn : n ≠ 0) (hT : s.heap.get? T = some o) (hTL : T ≠ L) (hT0 : h₀.get? T = none)
    (ho : (hd.heap_39 w.params).lookup f = some ⟨oc, od, .func (fnOf name qual params body scope dV kV doc pm an cdv ct), osl⟩) (hcd : codeIn (hd.heap_39 w.params) cdv qual = true)
    (hbind : BindsTo s (fnOf name qual params body scope dV kV doc pm an cdv ct) args binds) (hloc : ∀ y ∈ binds, scope.names.lookup y.1 = some .local)
    (h : ∀ g L' h₁, KeepBut T s.heap g → Below A base (env :: outer) g → Fr g L' h₁ (fun y => binds.reverse.lookup y) → News g L' h₁ [(T, o)] → (hd.heap_39 w.params).In g → Top hd.view_39 (looseW hd.view_39 []) mean mg mb g →
      (A.deeper (envOf qual scope L' f cdv)).frames = some (envOf qual scope L' f cdv :: env :: outer) → Room (A.deeper (envOf qual scope L' f cdv)) (n - 1) →
      wpAny (model PySem.Challenge.rw_nu0163_01.row.prog w) (A.deeper (envOf qual scope L' f cdv)) (execs body (envOf qual scope L' f cdv)) (DoneM g L' T s.heap Q) (fun _ _ => False) { s with heap := h₁, toks := s.toks + binds.length })
    (hco : scope.isCoroutine = false) (hgen : scope.isGenerator = false) (hk : scope.kind = .function)
    (hcell : ∀ x ∈ scope.names, x.2 ≠ .cell) : codeAny (model PySem.Challenge.rw_nu0163_01.row.prog w) A (.call (.ref f) args) (fun r s' => match r with | .ok (.ret v) => Q v s' | .ok _ => False | .error e => E e s') s := by
  obtain ⟨j, rfl⟩ : ∃ j, n = j + 1 := ⟨n - 1, by omega⟩
  have N0 : News h₀ L s.heap [(T, o)] := fun p hp => by rw [List.mem_singleton.mp hp]; exact ⟨hT, hTL, hT0⟩
  refine code_defG (news := [(T, o)]) C.B C.F C.X N0 C.T C.hA C.hf C.hke ho hcd (by have := C.R.dp; show _ < 1000; omega) hbind hloc (fun g L' h₁ FG F' N' B' X' T' G' => ?_) hco hgen hk hcell
  have kg : KeepBut T s.heap g := fun b o ne e => G' b o e (by simpa using ne)
  refine wpAny_mono (h g L' h₁ kg B' F' N' X' T' (by show (A.frames.map _) = _; rw [C.hA]; rfl) C.R.deeper) (fun fl s' q => ?_) (fun _ _ x => x.elim)
  obtain ⟨m', o', F2, N2, q⟩ := q.fr
  exact ⟨L', m', [(T, o')], F2, N2, fun _ _ => q (fun b o ne e => F2.keep b o (kg b o ne e)) (N2 _ (List.mem_singleton.mpr rfl)).1⟩
end
local macro_rules | `(tactic| walk_at "my_enterM") => `(tactic| (refine wpAny_call ?_; refine pcallM (by assumption) (by omega) (by assumption) (by assumption) (by assumption) (by k_is) (by k_is) (by exact BindsTo.of_eq rfl) (by exact locs rfl) ?_ (by exact rfl) (by exact rfl) (by exact rfl) (by decide)))

section
variable {w : World} {mean : ExcName → Option Value} {mg mb : Str → Option Value} {A A₀ : Around} {base : Heap} {outer : List Env} {h₀ : Heap} {L : Addr} {m : Str → Option Value} {env : Env} {n : Nat} {s : Shared} {E : Value → Shared → Prop} {Q : Value → Shared → Prop}
theorem draw_spec {T c : Addr} {vs : List Value} {cs : List Int} {k lim : Int} {t tk : Tok} {cap : Nat} (C : Cx w mean mg mb A A₀ base outer h₀ L m env s.heap n) (hn : 1 ≤ n)
   (hT : s.heap.get? T = some (listOf #[.ref c, .int k t] cap)) (hTL : T ≠ L) (hT0 : h₀.get? T = none)
   (hcT : c ≠ T) (I : s.heap.IsList c vs.toArray) (J : IntsAre vs cs) (h1 : 0 < cs.length) (h2 : cs.length ≤ 60) (hk0 : 0 ≤ k) (hk1 : k < 100) (hl0 : 0 < lim) (hl1 : lim ≤ 4096)
   (hQ : ∀ h' tk' t1 t2 r, KeepBut T s.heap h' → h'.get? T = some (listOf #[.ref c, .int (k + 1) t1] cap) → 0 ≤ r → r < lim → Q (.int r t2) { s with heap := h', toks := tk' }) :
   wpAny (model PySem.Challenge.rw_nu0163_01.row.prog w) A (call (.ref 336) [.ref T, .int lim tk]) Q E s := by
  walk_at "my_enterM"
  intro g L' h₁ kg B F N X T' hA R
  have I' : g.IsList c vs.toArray := let ⟨o, ho, r⟩ := I; ⟨o, kg _ _ hcT ho, r⟩
  w_top on
  k_steps
  all_goals (try dsimp only)
  exact ⟨_, _, by k_asm, by k_asm, fun kD hD => hQ _ _ _ _ _ kD hD (Int.fmod_nonneg_of_pos _ hl0) (Int.fmod_lt_of_pos _ hl0)⟩
end

set_option maxHeartbeats 8000000
theorem list_no_keys : typeLookup (.type "list") "keys" = pure none := by rw [typeLookup_type, builtinLookup_eq_fast]; kernel_rfl
theorem entry_upd_loop : entryFor table "dict.update.loop" = some Builtin.«dict.update.loop» := entryFor_of_tree (by kernel_rfl)
theorem plain_upd_loop : plainId "dict.update.loop" = true := by decide +kernel
section
variable {prog : Program} {w : World} {A : Around} {E : Value → Shared → Prop} {s : Shared}
theorem keys_miss {a : Addr} {o : Obj} {xs : Array Value} {k : Nat} {Q : Option Value → Shared → Prop}
    (hx : s.heap.get? a = some o) (hc : o.cls = .type "list") (hdat : o.data = .seq xs k) (hd : o.dict = none) (hA : A.handled = none)
    (h : ∀ h' tk, Keep s.heap h' → Q none { s with heap := h', toks := tk }) :
    wpAny (model prog w) A (getAttr? (.ref a) "keys") Q E s := by
  obtain ⟨c, dct, dat, sl⟩ := o
  simp only at hc hdat hd
  subst hc hdat hd
  obtain ⟨hp, g, d, tk, os⟩ := s
  have hT : ∀ tk', (⟨hp, g, d, tk', os⟩ : Shared).TypeIs (.ref a) "list" := fun _ => ⟨_, hx, rfl⟩
  have f1 := sub_AttributeError
  have f3 := F.slot_list_getattribute.lookup
  have f4 := F.slot_list_getattribute.bind (.ref a)
  have f5 := am_list_getattr_none
  unfold getAttr? getAttrBy? getAttrBy
  repeat (any_goals (first | assumption | exact hT _ | ((with_reducible show wpAny _ _ (call (Value.builtin "list.__getattribute__") _ _) _ _ _); refine call_meets F.slot_list_getattribute (hT _) am_entry_list_getattribute (F.args_list_getattribute_2 _ _) (meets_getattribute_miss_list a xs k sl "keys" _ list_no_keys (by decide) (by size_fits)) ⟨hx, hA, fun h' tk' e hx' => ?_⟩) | wp_step))
  obtain ⟨t', u', he⟩ := hx'.there
  show wpAny _ _ (getattributeRaised _ _ _ _ _ _ _) _ _ _
  unfold getattributeRaised
  repeat (any_goals (first | assumption | wp_step))
  exact h _ _ hx'.of.keeps
end
/-- the pairs of a list: each a tuple of an int and anything, as it lies in the heap -/
theorem off1_of {D : Addr} : ∀ {l : List (Addr × Obj)}, (∀ p ∈ l, p.1 ≠ D) → Off1 D l
  | [], _ => trivial
  | _ :: _, h => ⟨h _ (.head _), off1_of fun q hq => h q (.tail _ hq)⟩
def IsPairs (h : Heap) (vs : List Value) (kvs : List (Int × Value)) : Prop := vs.length = kvs.length ∧ ∀ (i : Nat) (v : Value), vs[i]? = some v → ∃ (a : Addr) (k : Int) (t : Tok) (x : Value), v = .ref a ∧ kvs[i]? = some (k, x) ∧ IsTup h a #[.int k t, x]
theorem IsPairs.keep {h h' : Heap} {vs : List Value} {kvs : List (Int × Value)} (I : IsPairs h vs kvs) (k : Keep h h') : IsPairs h' vs kvs :=
  ⟨I.1, fun i v e => let ⟨a, q, t, x, e1, e2, e3⟩ := I.2 i v e; ⟨a, q, t, x, e1, e2, isTup_keep e3 k⟩⟩
section
variable {prog : Program} {w : World} {A : Around} {E : Value → Shared → Prop} {s : Shared}
theorem dictOf_keepA {K : Type} [DecidableEq K] {knd : KeyKind prog w K} {h h' : Heap} {d : Addr} {kvs : List (K × Value)} (k : Keep h h') (x : h.DictOf knd d kvs) : h'.DictOf knd d kvs :=
  let ⟨o, es, ep, ho, r⟩ := x; ⟨o, es, ep, k _ _ ho, r⟩
theorem pairs_loop {R : Result → Shared → Prop} {l I D : Addr} {vs : List Value} {kvs : List (Int × Value)} {g : Heap} (hh : A.in1.handled = none) (hlI : l ≠ I) (hP : IsPairs g vs kvs) (hDI : D ≠ I) (hDl : D ≠ l) (hgD : g.get? D = none) (hgI : g.get? I = none)
    (hnd : (kvs.map (·.1)).Nodup) (hsz : vs.length ≤ 1000) :
    ∀ (j i : Nat) (s : Shared), vs.length - i = j → i ≤ vs.length → s.heap.IsListIter I l i → s.heap.IsList l vs.toArray → Keep g s.heap → s.heap.DictOf (intKind prog w) D (kvs.take i) →
      (∀ h' tk, Keep g h' → h'.DictOf (intKind prog w) D kvs → R (.ok (.ret .none)) { s with heap := h', toks := tk }) →
      codeAny (model prog w) A (.builtin "dict.update.loop" ⟨[.ref D, .ref I, rawInt i, .none], []⟩) R s := by
  have W := Walks.list (prog := prog) (w := w) hh I l hlI vs.toArray
  intro j
  induction j with
  | zero =>
    intro i s hj hi hit hl hk hd hR
    have hin : i = vs.length := by omega
    subst hin
    refine codeAny_builtin entry_upd_loop ?_
    rw [Around.under_plainId plain_upd_loop _]
    show wpAny _ A.in1 (pyNext (.ref I) >>= _) _ _ s
    have hit' : s.heap.IsListIter I l vs.toArray.size := by rw [List.size_toArray]; exact hit
    refine wpAny_bind (W.done s _ _ ⟨hit', hl⟩ fun h' tk hm => ?_)
    rw [hP.1, List.take_length] at hd
    have km : Keep g h' := fun b o e => hm b o (fun q => by rw [List.mem_singleton.mp q, hgI] at e; cases e) (hk b o e)
    have dm : h'.DictOf (intKind prog w) D kvs := let ⟨o, es, ep, ho, r⟩ := hd; ⟨o, es, ep, hm _ _ (by simpa using hDI) ho, r⟩
    exact wpAny_pure (hR h' tk km dm)
  | succ j ih =>
    intro i s hj hi hit hl hk hd hR
    have hlt : i < vs.length := by omega
    refine codeAny_builtin entry_upd_loop ?_
    rw [Around.under_plainId plain_upd_loop _]
    show wpAny _ A.in1 (pyNext (.ref I) >>= _) _ _ s
    refine wpAny_bind (W.item i s _ _ (by simpa using hlt) ⟨hit, hl⟩ fun v h' tk hv hst hm => ?_)
    have km : Keep g h' := fun b o e => hm b o (fun q => by rw [List.mem_singleton.mp q, hgI] at e; cases e) (hk b o e)
    have dm : h'.DictOf (intKind prog w) D (kvs.take i) := let ⟨o, es, ep, ho, r⟩ := hd; ⟨o, es, ep, hm _ _ (by simpa using hDI) ho, r⟩
    obtain ⟨a, k, t, x, rfl, e2, e3⟩ := hP.2 i v (by simpa using hv)
    obtain ⟨o, ho, hc, n, hdat⟩ := isTup_keep e3 km
    have hT : ({ s with heap := h', toks := tk } : Shared).TypeIs (.ref a) "tuple" := ⟨o, ho, hc⟩
    dsimp only
    refine wpAny_bind (wpAny_holding (wpAny_bind (wpAny_tryCatch ?_)))
    unfold Builtin.Dict.pairItems
    refine wpAny_bind (wpAny_typeOf hT ?_)
    rw [if_pos (by decide)]
    refine wpAny_bind (wpAny_seqItems ho hdat (wpAny_pure ?_))
    show wpAny _ _ (holding [Value.int k t, x] (dictSet D (Value.int k t) x)) _ _ _
    have hnot : ¬ ((kvs.take i).any fun kv => decide (kv.1 = k)) = true := by
      rw [List.any_eq_true]
      rintro ⟨kv, hkv, he⟩
      have he' : kv.1 = k := of_decide_eq_true he
      obtain ⟨q, hq, e4⟩ := List.mem_take_iff_getElem.mp hkv
      have hi2 : i < kvs.length := by rw [← hP.1]; exact hlt
      have e5 : kvs[i] = (k, x) := by rw [List.getElem?_eq_getElem hi2] at e2; exact Option.some.inj e2
      have nd := List.pairwise_iff_getElem.mp hnd q i (by rw [List.length_map]; omega) (by rw [List.length_map]; exact hi2) (by omega)
      rw [List.getElem_map, List.getElem_map, e4, e5] at nd
      exact nd he'
    refine wpAny_holding (wpAny_dictSet_pairs (knd := intKind prog w) (k := k) (intKind_is _ _ _ _) dm (fun h2 hd2 hs2 => ?_) (by rw [List.length_take, sizeLine_eq]; omega))
    rw [stored, if_neg hnot] at hd2
    have e6 : kvs.take i ++ [(k, x)] = kvs.take (i + 1) := by rw [List.take_add_one, e2]; rfl
    rw [e6] at hd2
    refine wpAny_pure ⟨plainId_quiet plain_upd_loop _, ?_⟩
    have eI : rawInt ((i : Int) + 1) = rawInt ((i + 1 : Nat) : Int) := by norm_cast
    show codeAny _ _ (.builtin "dict.update.loop" ⟨[.ref D, .ref I, rawInt ((i : Int) + 1), .none], []⟩) R _
    rw [eI]
    refine ih (i + 1) _ (by omega) hlt (hst.1.at fun o e => (hs2.2 I (Ne.symm hDI)).trans e) (hst.2.at fun o e => (hs2.2 l (Ne.symm hDl)).trans e) (fun b o e => (hs2.2 b (fun q => by rw [q, hgD] at e; cases e)).trans (km b o e)) hd2 fun h3 tk3 k3 d3 => hR h3 tk3 k3 d3
theorem call_dict_pairs {l : Addr} {vs : List Value} {kvs : List (Int × Value)} {Q : Value → Shared → Prop} (hh : A.handled = none) (hl : s.heap.get? l = some (lst vs)) (hP : IsPairs s.heap vs kvs) (hnd : (kvs.map (·.1)).Nodup) (hsz : vs.length ≤ 1000)
    (h : ∀ h' tk D, D = s.heap.objs.size → Keep s.heap h' → s.heap.get? D = none → h'.DictOf (intKind prog w) D kvs → Q (.ref D) { s with heap := h', toks := tk }) :
    wpAny (model prog w) A (call (.type "dict") [.ref l]) Q E s := by
  refine callType_codes (Q₁ := fun obj s₁ => obj = .ref s.heap.objs.size ∧ s₁ = { s with heap := s.heap.push { cls := .type "dict", data := .dict #[] } }) F.kt_called_dict (F.kt_typeCall_dict_1 _) F.entry_dict_init (kt_code_dict_new _ ⟨rfl, rfl⟩) ?_
  rintro obj s₁ ⟨rfl, rfl⟩
  have hnew : (s.heap.push { cls := .type "dict", data := .dict #[] }).DictOf (intKind prog w) s.heap.objs.size [] := Heap.DictOf.new s.heap
  have ho' := Heap.get?_push_of_some ({ cls := .type "dict", data := .dict #[] } : Obj) hl
  have hll : l < s.heap.objs.size := Heap.lt_size hl
  refine ⟨hnew.typeIs, F.args_dict_init_2 _ _, ?_⟩
  unfold Builtin.«dict.__init__»
  refine wpAny_bind ?_
  unfold Builtin.Dict.selfAndRest
  refine wpAny_bind (wpAny_notOrdered_dict hnew.typeIs ?_)
  show wpAny _ _ (pure (s.heap.objs.size, [Value.ref l])) _ _ _
  refine wpAny_pure ?_
  show wpAny _ _ (Builtin.Dict.updateFrom "dict.__init__" s.heap.objs.size (.ref l) [] .none) _ _ _
  unfold Builtin.Dict.updateFrom
  refine wpAny_bind (wpAny_typeOf (T := "list") ⟨_, ho', rfl⟩ ?_)
  rw [if_pos (by decide)]
  refine wpAny_bind (keys_miss ho' rfl rfl rfl hh fun h1 tk1 k1 => ?_)
  rw [if_pos (by rfl)]
  refine wpAny_bind (wpAny_rule ?_)
  have hl1 : h1.IsList l vs.toArray := ⟨_, k1 _ _ ho', rfl, _, rfl⟩
  refine wpAny_bind (wpAny_pyIter_list hl1 ?_)
  refine wpAny_pure ⟨plainId_quiet plain_upd_loop _, ?_⟩
  dsimp only
  have hS0 : s.heap.get? s.heap.objs.size = none := Heap.get?_none_of_le (Nat.le_refl _)
  have hDnew : h1.get? s.heap.objs.size = some ({ cls := .type "dict", data := .dict #[] } : Obj) := k1 _ _ (Heap.get?_push_size _ rfl)
  have hDlt : s.heap.objs.size < h1.objs.size := Heap.lt_size hDnew
  have kg : Keep s.heap (h1.push ({ cls := .type "list_iterator", data := .fields #[.ref l, .int 0 0] } : Obj)) := fun b o e => Heap.get?_push_of_some _ (k1 b o (Heap.get?_push_of_some _ e))
  have hgI : s.heap.get? h1.objs.size = none := by
    cases q : s.heap.get? h1.objs.size with
    | none => rfl
    | some o => exact absurd (Heap.lt_size (k1 _ _ (Heap.get?_push_of_some _ q))) (Nat.lt_irrefl _)
  refine pairs_loop (A := A.in1) (l := l) (I := h1.objs.size) (D := s.heap.objs.size) (g := s.heap) hh (Nat.ne_of_lt (Nat.lt_trans hll hDlt)) hP (Nat.ne_of_lt hDlt) (Nat.ne_of_gt hll) hS0 hgI hnd hsz (vs.length - 0) 0 _ rfl (Nat.zero_le _) ?_ ?_ ?_ ?_ ?_
  · exact ⟨_, Heap.get?_push_size _ rfl, rfl, rfl⟩
  · exact hl1.push _
  · exact kg
  · exact dictOf_keepA (fun b o e => Heap.get?_push_of_some _ (k1 b o e)) hnew
  · exact fun h2 tk2 k2 d2 => ⟨rfl, h h2 tk2 _ rfl k2 hS0 d2⟩
end

set_option maxHeartbeats 8000000
local macro_rules | `(tactic| walk_at "lc_eval_U") => `(tactic| (refine LCg.ListComp_U (by k_asm) (by with_unfolding_all rfl) (by decide) (by rfl) (by decide) (by rfl) ?_; k_steps))
theorem int_keys {prog : Program} {w : World} : ∀ {vs : List Value} {kvs : List (Int × Value)}, vs.length = kvs.length → (∀ (j : Nat) (v : Value), vs[j]? = some v → ∃ k x, kvs[j]? = some (k, x) ∧ (intKind prog w).is k v = true) → IntsAre vs (kvs.map (·.1))
  | [], [], _, _ => .nil
  | [], _ :: _, h, _ => by simp at h
  | _ :: _, [], h, _ => by simp at h
  | v :: vs, p :: kvs, h, hv => by
    obtain ⟨k, x, e, hk⟩ := hv 0 v rfl
    simp only [List.getElem?_cons_zero, Option.some.injEq] at e
    subst e
    obtain ⟨t, rfl⟩ := Flat.int_inv (kdl_flat_int hk)
    exact .cons k t (int_keys (by simpa using h) fun j v e => hv (j + 1) v (by simpa using e))
theorem intMap_keys {kvs : List (Int × Value)} {ps : List (Int × Int)} (hl : kvs.length = ps.length) (hv : ∀ (i : Nat) (k : Int) (v : Value), kvs[i]? = some (k, v) → ∃ (n : Int) (t : Tok), ps[i]? = some (k, n) ∧ v = Value.int n t) : kvs.map (·.1) = ps.map (·.1) := by
  apply List.ext_getElem (by simp [hl])
  intro i h1 h2
  simp only [List.length_map] at h1 h2
  obtain ⟨n, t, e, _⟩ := hv i kvs[i].1 kvs[i].2 (List.getElem?_eq_getElem h1)
  rw [List.getElem?_eq_getElem h2] at e
  simp [Option.some.inj e]
theorem valueAt_there : ∀ (kvs : List (Int × Value)) (ps : List (Int × Int)), kvs.length = ps.length → (∀ (i : Nat) (k : Int) (v : Value), kvs[i]? = some (k, v) → ∃ (n : Int) (t : Tok), ps[i]? = some (k, n) ∧ v = Value.int n t) →
    ∀ (k : Int), k ∈ ps.map (·.1) → ∃ t : Tok, valueAt kvs k = some (Value.int (intAt ps k) t)
  | [], [], _, _, k, hk => by simp at hk
  | [], _ :: _, h, _, _, _ => by simp at h
  | _ :: _, [], h, _, _, _ => by simp at h
  | (k', v) :: kvs, p :: ps, hl, h, k, hk => by
    obtain ⟨n, t, e, rfl⟩ := h 0 k' v rfl
    simp only [List.getElem?_cons_zero, Option.some.injEq] at e
    subst e
    by_cases q : k' = k
    · exact ⟨t, by simp [valueAt, intAt, q]⟩
    · have hk' : k ∈ ps.map (·.1) := by
        rw [List.map_cons, List.mem_cons] at hk
        rcases hk with hk | hk
        · exact absurd hk.symm q
        · exact hk
      obtain ⟨t', e'⟩ := valueAt_there kvs ps (by simpa using hl) (fun i a b q => h (i + 1) a b (by simpa using q)) k hk'
      exact ⟨t', by simpa [valueAt, intAt, List.find?_cons, q] using e'⟩
section
variable {w : World} {A : Around} {E : Value → Shared → Prop} {s : Shared} {h₀ : Heap} {L : Addr} {m : Str → Option Value} {news : List (Addr × Obj)} {Q : Value → Shared → Prop}
theorem sorted_I {d : Addr} {ps : List (Int × Int)} (F : Fr h₀ L s.heap m) (N : News h₀ L s.heap news) (hh : A.handled = none) (I : IntMap w h₀ d ps) (hlen : ps.length ≤ 12) (hso : (ps.map (·.1)).Pairwise (· < ·))
   (h : ∀ D h' tk vs n', Fr h₀ L h' m → News h₀ L h' ((D, listOf (List.toArray vs) n') :: news) → IntsAre vs (ps.map (·.1)) → Off1 D news → Q (.ref D) { s with heap := h', toks := tk }) :
   wpAny (model PySem.Challenge.rw_nu0163_01.row.prog w) A (call (.builtin "sorted") [.ref d]) Q E s := by
  obtain ⟨lo, kvs, hd, hl, hv⟩ := I
  obtain ⟨ep, hat⟩ := (dictOf_keep F.keep hd).dictAt
  refine kdu_sorted (kdl_dict (knd := intKind PySem.Challenge.rw_nu0163_01.row.prog w) (kvs := kvs) (ep := ep) lo) hh F N hat (by rw [sizeLine_eq]; omega) fun D h' tk vs F' N' hlt hvl hvv => ?_
  have hI : IntsAre vs (kvs.map (·.1)) := int_keys hvl hvv
  rw [intMap_keys hl hv] at hI
  have hoL : h'.get? D = some (seqObj "list" vs.toArray 0) := (N' _ (.head _)).1
  have hDL : D ≠ L := (N' _ (.head _)).2.1
  have hD0 : h₀.get? D = none := (N' _ (.head _)).2.2
  refine wpAny_call_entry slot_list_sort ⟨_, hoL, rfl⟩ entry_list_sort (list_sort_tree hoL hI (by omega) fun out ns' a1 a2 a3 => ⟨_, rfl, ?_⟩) (args_list_sort _)
  have e : ns' = ps.map (·.1) := lks_uniq a2 a3 (hso.imp fun h => Int.le_of_lt h)
  subst e
  obtain ⟨e1, he1⟩ := sortedHeap_at (vs := vs) (out := out) hoL
  have old : ∀ b o, b ≠ D → h'.get? b = some o → (sortedHeap h' D vs out).get? b = some o := fun b o hb e => by rw [sortedHeap_old hb (Heap.lt_size e)]; exact e
  have F2 : Fr h₀ L (sortedHeap h' D vs out) m := by
    obtain ⟨oL, a1, a2, hoL', a3⟩ := F'.ns
    exact ⟨⟨oL, a1, a2, old _ _ (Ne.symm hDL) hoL', a3⟩, fun b o e => old b o (fun q => by rw [q, hD0] at e; cases e) (F'.keep b o e), F'.above⟩
  refine h D _ _ out.toList e1 F2 (fun p hp => ?_) a1 (off1_of fun p hp => Nat.ne_of_lt (hlt p hp))
  rcases List.mem_cons.mp hp with rfl | hp
  · exact ⟨by rw [Array.toArray_toList]; exact he1, hDL, hD0⟩
  · exact ⟨old _ _ (Nat.ne_of_lt (hlt p hp)) (N' p (.tail _ hp)).1, (N' p (.tail _ hp)).2⟩
theorem dict_item_I {d : Addr} {ps : List (Int × Int)} {value slice : PySem.Expr} {k : Int} {u : Tok} (F : Fr h₀ L s.heap m) (I : IntMap w h₀ d ps) (hk : k ∈ ps.map (·.1))
   (h : ∀ t', Q (.int (intAt ps k) t') { s with toks := s.toks + 1 }) (hs : subscripted slice false (.ref d) (.int k u) = operate [.ref d, .int k u] (getItem (.ref d) (.int k u)) := by with_unfolding_all rfl) : wpAny (model PySem.Challenge.rw_nu0163_01.row.prog w) A (subscriptTail value slice (.ref d) (.int k u)) Q E s := by
  obtain ⟨lo, kvs, hd, hl, hv⟩ := I
  have hD := dictOf_keep F.keep hd
  obtain ⟨t, e⟩ := valueAt_there kvs ps hl hv k hk
  exact tail_any hD.typeIs slot_dict_getitem.lookup (wpAny_getItem_of (knd := intKind PySem.Challenge.rw_nu0163_01.row.prog w) (k := k) (intKind_is _ _ _ _) hD.mapOf e (h t)) hs
end
local macro_rules | `(tactic| walk_at "subscriptTail") => `(tactic| (k_here; k_dflt (refine dict_item_I (by k_asm) (by k_asm) (by k_asm) ?_; k_whole; intro t')))
theorem readsAll_len : ∀ {h : Heap} {vs : List Value} {ds : List PyData} {as : List Addr}, ReadsAll h vs ds as → vs.length = ds.length
  | _, _, _, _, .nil => rfl
  | _, _, _, _, .cons _ r => by rw [List.length_cons, List.length_cons, readsAll_len r]
theorem readsAll_snoc {h : Heap} {v : Value} {d : PyData} : ∀ {vs : List Value} {ds : List PyData} {as : List Addr}, ReadsAll h vs ds as → Reads h v d [] → ReadsAll h (vs ++ [v]) (ds ++ [d]) as
  | _, _, _, .nil, r => by simpa using ReadsAll.cons r .nil
  | _, _, _, .cons (as := a) (bs := b) x y, r => .cons x (readsAll_snoc y r)
local macro_rules | `(tactic| walk_at "my_tail") => `(tactic| first | assumption | (refine List.Mem.tail _ ?_; walk_at "my_tail"))
local macro_rules | `(tactic| walk_at "my_sub") => `(tactic| first | exact List.forall_mem_nil _ | (refine List.forall_mem_cons.mpr ⟨by k_mem, ?_⟩; walk_at "my_sub") | (intro p hp; walk_at "my_tail"))
/-- all that a ledger names lies in the heap -/
def Has (K : List (Addr × Obj)) (h : Heap) : Prop := ∀ p ∈ K, h.get? p.1 = some p.2
def NewK (g h' : Heap) (K : List (Addr × Obj)) : Prop := ∀ p ∈ K, h'.get? p.1 = some p.2 ∧ g.get? p.1 = none
theorem NewK.of {h g h' : Heap} {L : Addr} {news : List (Addr × Obj)} (kg : Keep h g) (N : News g L h' news) : NewK h h' news := fun p hp => ⟨(N p hp).1, fresh_of' kg (N p hp).2.2⟩
theorem News.addK {h₀ h h' : Heap} {L : Addr} {m : Str → Option Value} {news K : List (Addr × Obj)} (F : Fr h₀ L h m) (N : News h₀ L h news) (k : Keep h h') (n : NewK h h' K) : News h₀ L h' (news ++ K) := fun p hp => by
  rcases List.mem_append.mp hp with hp | hp
  · exact ⟨k _ _ (N p hp).1, (N p hp).2⟩
  · refine ⟨(n p hp).1, fun q => ?_, fresh_of' F.keep (n p hp).2⟩
    obtain ⟨oL, _, _, hL, _⟩ := F.ns
    have := (n p hp).2
    rw [q, hL] at this
    cases this
theorem NewK.off {h₀ h h' : Heap} {L : Addr} {news K : List (Addr × Obj)} (N : News h₀ L h news) (n : NewK h h' K) {a : Addr} {o : Obj} (ha : (a, o) ∈ news) : Off1 a K := off1_of fun p hp q => by
  have := (n p hp).2
  rw [q, (N _ ha).1] at this
  cases this
theorem off3_of1 {I C D : Addr} : ∀ {l : List (Addr × Obj)}, Off1 I l → Off1 C l → Off1 D l → Off3 I C D l
  | [], _, _, _ => trivial
  | _ :: _, a, b, c => ⟨⟨a.1, b.1, c.1⟩, off3_of1 a.2 b.2 c.2⟩
theorem off3_app {I C D : Addr} : ∀ {l l' : List (Addr × Obj)}, Off3 I C D l → Off3 I C D l' → Off3 I C D (l ++ l')
  | [], _, _, h => h
  | _ :: _, _, a, h => ⟨a.1, off3_app a.2 h⟩
theorem off1_app {D : Addr} : ∀ {l l' : List (Addr × Obj)}, Off1 D l → Off1 D l' → Off1 D (l ++ l')
  | [], _, _, h => h
  | _ :: _, _, a, h => ⟨a.1, off1_app a.2 h⟩
theorem Off1.mem {D : Addr} : ∀ {l : List (Addr × Obj)}, Off1 D l → ∀ p ∈ l, p.1 ≠ D
  | [], _, _, h => nomatch h
  | _ :: _, a, p, h => by
    rcases List.mem_cons.mp h with rfl | h
    · exact a.1
    · exact Off1.mem a.2 p h
theorem Has.left {K K' : List (Addr × Obj)} {h : Heap} (x : Has (K ++ K') h) : Has K h := fun p hp => x p (List.mem_append.mpr (.inl hp))
theorem Has.right {K K' : List (Addr × Obj)} {h : Heap} (x : Has (K ++ K') h) : Has K' h := fun p hp => x p (List.mem_append.mpr (.inr hp))
def cdT (ps : List (Int × Int)) : PyData := .tuple ((ps.map (·.1)).map fun g => .tuple [.int g, .int (intAt ps g)])
section
variable {w : World} {mean : ExcName → Option Value} {mg mb : Str → Option Value} {A A₀ : Around} {base : Heap} {outer : List Env} {h₀ : Heap} {L : Addr} {m : Str → Option Value} {env : Env} {n : Nat} {s : Shared} {E : Value → Shared → Prop} {Q : Value → Shared → Prop}
theorem cd_told_spec {x d : Addr} {ps : List (Int × Int)} (C : Cx w mean mg mb A A₀ base outer h₀ L m env s.heap n) (hn : 1 ≤ n)
   (I : HasInst s.heap x 235 [(Str.ofString "classes", .ref d)]) (D : IntMap w s.heap d ps) (hps : ps.length ≤ 12) (hso : (ps.map (·.1)).Pairwise (· < ·))
   (hQ : ∀ h' tk' v K, Keep s.heap h' → NewK s.heap h' K → (∀ h, Has K h → Reads h v (cdT ps) []) → Q v { s with heap := h', toks := tk' }) :
   wpAny (model PySem.Challenge.rw_nu0163_01.row.prog w) A (call (.ref 232) [.ref x]) Q E s := by
  walk_at "my_enterC"
  intro g L' h₁ tk cells kg B F N Y X T hA R
  replace I := I.keep kg
  replace D := D.keep kg
  k_cells Y
  w_top on
  walk_at "to_lc"
  walk_at "lc_eval_U"
  refine sorted_I (by k_asm) (by k_asm) (Room.hh (by assumption)) D hps hso ?_
  intro D1 h' tk' vs n' F' N' hI off
  simp only [LCg.Off1, and_true] at off
  refine LCg.CompSrc.ledger (Room.hh (by assumption)) F' N' (.head _) (by rw [List.size_toArray, sizeLine_eq, hI.length, List.length_map]; omega) (fun g => ?_)
  refine turns_U _ (fun i ys nw => ∃ K, nw = (D1, listOf (List.toArray vs) n') :: (_, _) :: K ∧ ∀ h, Has K h → ReadsAll h ys (((ps.map (·.1)).take i).map fun g => PyData.tuple [.int g, .int (intAt ps g)]) []) ⟨[], rfl, fun _ _ => ReadsAll.nil⟩ (fun i ys nw hi hJ v I' oI C' oC D' m₂ h tk E' hP hNs hx F2 N2 off ne => ?_) (fun ys nw hJ => ?_)
  · obtain ⟨K, rfl, hr⟩ := hJ
    obtain ⟨a, t, hai, rfl⟩ := ints_item' hI (by rw [← hP, List.getElem?_toArray])
    have ham : a ∈ ps.map (·.1) := List.mem_of_getElem? hai
    k_steps
    rename (_ ∧ _ ∧ _ ∧ _ ∧ _ ∧ AllLt _ _) => l1
    refine ⟨LCg.CompEnd.intro (by k_asm) (by k_asm) (_ :: _ :: (_, _) :: K) (by walk_at "my_sub") ⟨off.1, off.2.1, ⟨by k_ne, by k_ne, by k_ne⟩, off.2.2⟩ (.inr ⟨_, .head _, rfl, _, rfl⟩) ⟨_, rfl, fun h hK => ?_⟩⟩
    rw [List.take_add_one, hai, List.map_append]
    exact readsAll_snoc (hr h fun p hp => hK p (.tail _ hp)) (.tuple (hK _ (.head _)) rfl rfl (.cons (.int _ _) (.cons (.int _ _) .nil)))
  · obtain ⟨K, rfl, hr⟩ := hJ
    rw [List.size_toArray, hI.length, List.take_length] at hr
    intro D2 h tk F2 N2 o2
    have hR := hr h fun p hp => (N2 p (by walk_at "my_tail")).1
    have hlen := readsAll_len hR
    simp only [List.length_map] at hlen
    dsimp only
    k_steps
    rename (News _ _ _ _) => N3
    exact ⟨⟨_, by k_asm⟩, fun kD => hQ _ _ _ _ kD (NewK.of kg N3) (fun h hK => .tuple (hK _ (.head _)) rfl rfl (hr _ fun p hp => hK p (by walk_at "my_tail")))⟩
end
def IsCd (w : World) (h : Heap) (x : Addr) (ps : List (Int × Int)) : Prop := ∃ d, HasInst h x 235 [(Str.ofString "classes", .ref d)] ∧ IntMap w h d ps ∧ ps.length ≤ 12 ∧ (ps.map (·.1)).Pairwise (· < ·)
theorem IsCd.keep {w : World} {h h' : Heap} {x : Addr} {ps : List (Int × Int)} (I : IsCd w h x ps) (k : Keep h h') : IsCd w h' x ps := let ⟨d, a, b, r⟩ := I; ⟨d, a.keep k, b.keep k, r⟩
def IsTabs (w : World) (h : Heap) (T : Addr) (tabs : List (List (Int × Int))) : Prop := ∃ refs : List Value, h.IsList T refs.toArray ∧ refs.length = tabs.length ∧ tabs.length ≤ 2 ∧ ∀ (i : Nat) (v : Value), refs[i]? = some v → ∃ (x : Addr) (ps : List (Int × Int)), v = .ref x ∧ tabs[i]? = some ps ∧ IsCd w h x ps
theorem IsTabs.keep {w : World} {h h' : Heap} {T : Addr} {tabs : List (List (Int × Int))} (I : IsTabs w h T tabs) (k : Keep h h') : IsTabs w h' T tabs :=
  let ⟨refs, a, b, c, d⟩ := I; ⟨refs, isList_keep a k, b, c, fun i v e => let ⟨x, ps, p, q, r⟩ := d i v e; ⟨x, ps, p, q, r.keep k⟩⟩
def lookT (kind : Str) (flag ms : Int) (tabs : List (List (Int × Int))) : PyData := .tuple [.str kind, .int flag, .int (if Builtin.bitAnd flag 16 ≠ 0 then ms else -1), .tuple (tabs.map cdT)]


set_option maxHeartbeats 8000000
local macro_rules | `(tactic| walk_at "call ref") => `(tactic| (k_here; k_dflt (refine cd_told_spec (by walk_at "my_cx") (by omega) (by exact HasInst.keep (by k_asm) (Fr.keep (by k_asm))) (by exact IntMap.keep (by k_asm) (Fr.keep (by k_asm))) (by k_asm) (by k_asm) ?_; k_whole; intro h' tk' v' K' k' n' r'; (have F' := Fr.keeps (by k_asm) k'); (have N' := News.addK (by k_asm) (by k_asm) k' n'); (simp only [List.cons_append, List.nil_append] at N'); (try k_unmd))))
section
variable {w : World} {mean : ExcName → Option Value} {mg mb : Str → Option Value} {A A₀ : Around} {base : Heap} {outer : List Env} {h₀ : Heap} {L : Addr} {m : Str → Option Value} {env : Env} {n : Nat} {s : Shared} {E : Value → Shared → Prop} {Q : Value → Shared → Prop}
theorem look_told_spec {x T : Addr} {tabs : List (List (Int × Int))} {kind : Str} {flag ms : Int} (C : Cx w mean mg mb A A₀ base outer h₀ L m env s.heap n) (hn : 2 ≤ n)
   (I : IsLook s.heap x kind flag ms T) (D : IsTabs w s.heap T tabs)
   (hQ : ∀ h' tk' v K, Keep s.heap h' → NewK s.heap h' K → (∀ h, Has K h → Reads h v (lookT kind flag ms tabs) []) → Q v { s with heap := h', toks := tk' }) :
   wpAny (model PySem.Challenge.rw_nu0163_01.row.prog w) A (call (.ref 40) [.ref x]) Q E s := by
  walk_at "my_enter"
  intro g L' h₁ kg B F N X T' hA R
  obtain ⟨t1, t2, t3, I⟩ := I.keep kg
  obtain ⟨refs, hl, hrl, hlen, hD⟩ := D.keep kg
  w_top on
  walk_at "to_lc"
  all_goals (walk_at "lc_eval_U")
  all_goals (refine LCg.CompSrc.base (Room.hh (by assumption)) (by k_asm) (by k_asm) hl (by rw [List.size_toArray, sizeLine_eq]; omega) (fun g0 => ?_))
  all_goals (refine turns_U _ (fun i ys nw => ∃ K, nw = K ∧ ∀ h, Has K h → ReadsAll h ys ((tabs.take i).map cdT) []) ⟨[], rfl, fun _ _ => ReadsAll.nil⟩ (fun i ys nw hi hJ v I' oI C' oC D' m₂ h tk E' hP hNs hx F2 N2 off ne => ?_) (fun ys nw hJ => ?_))
  · obtain ⟨K, rfl, hr⟩ := hJ
    obtain ⟨x1, ps, rfl, hps, d1, Ix, Dx, lx, sx⟩ := hD i v (by simpa using hP)
    k_steps
    rename (NewK _ _ _) => nk
    rename (∀ h, Has _ h → Reads h _ _ _) => rd
    refine ⟨LCg.CompEnd.intro (by k_asm) (by k_asm) (nw ++ _) (by walk_at "my_sub") (off3_app off (off3_of1 (nk.off N2 (.head _)) (nk.off N2 (.tail _ (.head _))) (nk.off N2 (.tail _ (.tail _ (.head _)))))) (.inl hl) ⟨_, rfl, fun h hK => ?_⟩⟩
    rw [List.take_add_one, hps, List.map_append]
    exact readsAll_snoc (hr h hK.left) (rd h hK.right)
  · obtain ⟨K, rfl, hr⟩ := hJ
    rw [List.size_toArray, hrl, List.take_length] at hr
    intro D2 h tk F2 N2 o2
    have hR := hr h fun p hp => (N2 p (by walk_at "my_tail")).1
    have hlen := readsAll_len hR
    simp only [List.length_map] at hlen
    dsimp only
    k_steps
    rename (News _ _ _ _) => N3
    refine ⟨⟨_, by k_asm⟩, fun kD => hQ _ _ _ _ kD (NewK.of kg N3) (fun h hK => ?_)⟩
    rw [lookT, if_pos (by assumption)]
    exact .tuple (hK _ (.head _)) rfl rfl (.cons (.str _ _) (.cons (.int _ _) (.cons (.int _ _) (.cons (.tuple (hK _ (.tail _ (.head _))) rfl rfl (hr _ fun p hp => hK p (by walk_at "my_tail"))) .nil))))
  · obtain ⟨K, rfl, hr⟩ := hJ
    obtain ⟨x1, ps, rfl, hps, d1, Ix, Dx, lx, sx⟩ := hD i v (by simpa using hP)
    k_steps
    rename (NewK _ _ _) => nk
    rename (∀ h, Has _ h → Reads h _ _ _) => rd
    refine ⟨LCg.CompEnd.intro (by k_asm) (by k_asm) (nw ++ _) (by walk_at "my_sub") (off3_app off (off3_of1 (nk.off N2 (.head _)) (nk.off N2 (.tail _ (.head _))) (nk.off N2 (.tail _ (.tail _ (.head _)))))) (.inl hl) ⟨_, rfl, fun h hK => ?_⟩⟩
    rw [List.take_add_one, hps, List.map_append]
    exact readsAll_snoc (hr h hK.left) (rd h hK.right)
  · obtain ⟨K, rfl, hr⟩ := hJ
    rw [List.size_toArray, hrl, List.take_length] at hr
    intro D2 h tk F2 N2 o2
    have hR := hr h fun p hp => (N2 p (by walk_at "my_tail")).1
    have hlen := readsAll_len hR
    simp only [List.length_map] at hlen
    dsimp only
    k_steps
    rename (News _ _ _ _) => N3
    refine ⟨⟨_, by k_asm⟩, fun kD => hQ _ _ _ _ kD (NewK.of kg N3) (fun h hK => ?_)⟩
    rw [lookT, if_neg (by simpa using (by assumption : Builtin.bitAnd flag 16 = 0))]
    exact .tuple (hK _ (.head _)) rfl rfl (.cons (.str _ _) (.cons (.int _ _) (.cons (.int _ _) (.cons (.tuple (hK _ (.tail _ (.head _))) rfl rfl (hr _ fun p hp => hK p (by walk_at "my_tail"))) .nil))))
end


set_option maxHeartbeats 8000000
def lawDef : Stmt := match PySem.Challenge.pw_nu0163_01.main.body[29]? with | some x => x | none => .Return none ⟨0, 0, 0, 0⟩
def lawBody : List Stmt := match lawDef with | .FunctionDef _ _ body _ _ _ _ _ _ _ => body | _ => []
def lawScope : Scope := match lawDef with | .FunctionDef _ _ _ _ _ _ scope _ _ _ => scope | _ => { kind := .function, names := [], isGenerator := false, isCoroutine := false }
abbrev lawEnv (L fa : Addr) (cd : Value) : Env := envOfC (Str.ofString "law") lawScope L fa cd
theorem ldL {M : Model} {A : Around} {E : Value → Shared → Prop} {s : Shared} {h₀ : Heap} {L fa : Addr} {cd : Value} {m : Str → Option Value} {x : Str} {pos : Pos} {v : Value} {Q : Value → Shared → Prop} (F : Fr h₀ L s.heap m) (hl : lawScope.names.lookup x = some .local) (hv : m x = some v) (h : Q v s)
    (hk : (lawEnv L fa cd).kindOf x = some .local := by with_unfolding_all rfl) (hd : (x == ("__debug__" : Str)) = false := by decide) :
    wpAny M A (eval (.Name x pos) (lawEnv L fa cd)) Q E s := wpAny_Name (wpAny_loadName_local rfl hk F.ns hv h) hd
local macro_rules | `(tactic| walk_at "eval Name") => `(tactic| (k_here; (with_reducible refine' ldL ?F ?l ?v ?_); (case l => rfl); (case F => k_asm); (case v => walk_at "my_look")))
def On (K : List (Addr × Obj)) (P : Heap → Prop) : Prop := ∀ h, Has K h → P h
theorem On.mono {K K' : List (Addr × Obj)} {P : Heap → Prop} (x : On K P) (s : ∀ p ∈ K, p ∈ K') : On K' P := fun h hK => x h fun p hp => hK p (s p hp)
/-- the ledger's rest lies apart from the tape and from the frame's cells -/
def OffK (L T : Addr) (K : List (Addr × Obj)) : Prop := ∀ p ∈ K, @Ne Nat p.1 T ∧ (@LE.le Nat _ p.1 L ∨ @LT.lt Nat _ (L + 1 + 1 + 1 + 1 + 1 + 1 + 1 + 1 + 1) p.1)
theorem OffK.nil {L T : Addr} : OffK L T [] := fun _ h => nomatch h
theorem OffK.cons {L T : Addr} {p : Addr × Obj} {K : List (Addr × Obj)} (h1 : @Ne Nat p.1 T) (h2 : @LE.le Nat _ p.1 L ∨ @LT.lt Nat _ (L + 1 + 1 + 1 + 1 + 1 + 1 + 1 + 1 + 1) p.1) (h : OffK L T K) : OffK L T (p :: K) := List.forall_mem_cons.mpr ⟨⟨h1, h2⟩, h⟩
theorem OffK.app {L T : Addr} {K K' : List (Addr × Obj)} (h : OffK L T K) (h' : OffK L T K') : OffK L T (K ++ K') := fun p hp => (List.mem_append.mp hp).elim (h p) (h' p)
structure Tape (L T c : Addr) (K : List (Addr × Obj)) (vs : List Value) (cs : List Int) : Prop where
  off : OffK L T K
  hi : @LT.lt Nat _ (L + 1 + 1 + 1 + 1 + 1 + 1 + 1 + 1 + 1) T
  hc : On K (fun h => h.IsList c vs.toArray)
  ct : c ≠ T
  ia : IntsAre vs cs
  ne : 0 < cs.length
  le : cs.length ≤ 60
local macro_rules | `(tactic| walk_at "one_stmt") => `(tactic| (walk_at "my_step"; repeat' ((fail_if_success (with_reducible show wpAny _ _ (execs _ _) _ _ _)); walk_at "my_step"); all_goals (try k_data)))
section
variable {w : World} {mean : ExcName → Option Value} {mg mb : Str → Option Value} {A A₀ : Around} {base : Heap} {outer : List Env} {h₀ : Heap} {L fa : Addr} {cd : Value} {m : Str → Option Value} {s : Shared} {E : Value → Shared → Prop} {Q : Flow → Shared → Prop} {T c : Addr} {vs : List Value} {cs : List Int} {K : List (Addr × Obj)} {o1 o2 o3 o4 o5 o6 o7 o8 o9 : Obj} {cap : Nat} {tt : Tok}
theorem seg0 {l : Addr} {ws : List Value} {ns : List Int}
   (B : Below A₀ base outer h₀) (X : (hd.heap_39 w.params).In h₀) (T0 : Top hd.view_39 (looseW hd.view_39 []) mean mg mb h₀) (hA : A.frames = some (lawEnv L fa cd :: outer)) (R : Room A 10)
   (F : Fr h₀ L s.heap m) (N : News h₀ L s.heap ((L + 1 + 1 + 1 + 1 + 1 + 1 + 1 + 1 + 1, o9) :: (L + 1 + 1 + 1 + 1 + 1 + 1 + 1 + 1, o8) :: (L + 1 + 1 + 1 + 1 + 1 + 1 + 1, o7) :: (L + 1 + 1 + 1 + 1 + 1 + 1, o6) :: (L + 1 + 1 + 1 + 1 + 1, o5) :: (L + 1 + 1 + 1 + 1, o4) :: (L + 1 + 1 + 1, o3) :: (L + 1 + 1, o2) :: (L + 1, o1) :: []))
   (d1 : o1.data = .cell none) (d2 : o2.data = .cell none) (d3 : o3.data = .cell none) (d4 : o4.data = .cell none) (d5 : o5.data = .cell none) (d6 : o6.data = .cell none) (d7 : o7.data = .cell none) (d8 : o8.data = .cell none) (d9 : o9.data = .cell none)
   (hm : m (Str.ofString "script") = some (.ref l)) (hl : h₀.IsList l ws.toArray) (hi : IntsAre ws ns) (hn : ns.length ≤ 63)
   (hQ : ∀ h' tk' T c vs cs K t cap (o1 : Obj), Fr h₀ L h' m → News h₀ L h' ((L + 1 + 1 + 1 + 1 + 1 + 1 + 1 + 1 + 1, o9) :: (L + 1 + 1 + 1 + 1 + 1 + 1 + 1 + 1, o8) :: (L + 1 + 1 + 1 + 1 + 1 + 1 + 1, o7) :: (L + 1 + 1 + 1 + 1 + 1 + 1, o6) :: (L + 1 + 1 + 1 + 1 + 1, o5) :: (L + 1 + 1 + 1 + 1, o4) :: (L + 1 + 1 + 1, o3) :: (L + 1 + 1, o2) :: (L + 1, o1) :: (T, listOf #[.ref c, .int 0 t] cap) :: K) → o1.data = .cell (some (.ref T)) → Tape L T c K vs cs → wpAny (model PySem.Challenge.rw_nu0163_01.row.prog w) A (execs (lawBody.drop 1) (lawEnv L fa cd)) Q E { s with heap := h', toks := tk' })
   : wpAny (model PySem.Challenge.rw_nu0163_01.row.prog w) A (execs (lawBody.drop 0) (lawEnv L fa cd)) Q E s := by
  conv in List.drop _ _ => whnf
  w_top on
  walk_at "one_stmt"
  · rename (0 < (List.take 60 ns).length) => hpos
    refine hQ _ _ _ _ _ _ [(_, _)] _ _ _ (by k_asm) (fun p hp => (by k_asm : News h₀ L _ _) p ((by walk_at "my_sub" : ∀ p ∈ _, p ∈ _) p hp)) (by assumption) ⟨OffK.cons (by dsimp only; omega) (.inr (by dsimp only; omega)) .nil, by omega, fun h hK => ⟨_, hK _ (.head _), rfl, _, rfl⟩, by k_ne, by assumption, hpos, by rw [List.length_take]; omega⟩
  · refine hQ _ _ _ _ _ _ [(_, _)] _ _ _ (by k_asm) (fun p hp => (by k_asm : News h₀ L _ _) p ((by walk_at "my_sub" : ∀ p ∈ _, p ∈ _) p hp)) (by assumption) ⟨OffK.cons (by dsimp only; omega) (.inr (by dsimp only; omega)) .nil, by omega, fun h hK => ⟨_, hK _ (.head _), rfl, _, rfl⟩, by k_ne, .cons 0 _ .nil, by decide, by decide⟩
end


set_option maxHeartbeats 2500000
local macro_rules | `(tactic| walk_at "subscriptTail") => `(tactic| (k_here; k_dflt (first | (refine pair_item0 (by exact (by with_reducible assumption : On _ _) _ (by walk_at "my_has")) ?_; k_whole) | (refine pair_item1 (by exact (by with_reducible assumption : On _ _) _ (by walk_at "my_has")) ?_; k_whole))))
theorem On.list {K : List (Addr × Obj)} {c : Addr} {a : Array Value} {h : Heap} (x : On K fun h => h.IsList c a) (hK : Has K h) : h.IsList c a := x h hK
theorem OffK.at {L T : Addr} {K : List (Addr × Obj)} (x : OffK L T K) : ∀ p ∈ K, @Ne Nat p.1 T ∧ (@LE.le Nat _ p.1 L ∨ @LT.lt Nat _ (L + 1 + 1 + 1 + 1 + 1 + 1 + 1 + 1 + 1) p.1) := x
theorem AllLt.at {d : Addr} {l : List (Addr × Obj)} (h : AllLt d l) : ∀ p ∈ l, @LT.lt Nat _ p.1 d := by
  induction l with
  | nil => exact fun _ hp => nomatch hp
  | cons q r ih =>
    intro p hp
    rcases List.mem_cons.mp hp with rfl | hp
    · exact h.1
    · exact ih h.2 p hp
theorem News.draw {h₀ h h' : Heap} {L T : Addr} {o o' : Obj} {news : List (Addr × Obj)} {g : Obj → List (Addr × Obj)} (N : News h₀ L h news) (U : UpdF T o news g) (kb : KeepBut T h h') (e : h'.get? T = some o') : News h₀ L h' (g o') := by
  obtain ⟨pre, post, rfl, hg, h1, h2⟩ := U.split
  rw [hg]
  intro p hp
  rcases List.mem_append.mp hp with hp | hp
  · have z := N p (List.mem_append_left _ hp)
    exact ⟨kb _ _ (h1 p hp) z.1, z.2⟩
  · rcases List.mem_cons.mp hp with rfl | hp
    · exact ⟨e, (N (T, o) (List.mem_append_right _ (.head _))).2⟩
    · have z := N p (List.mem_append_right _ (.tail _ hp))
      exact ⟨kb _ _ (h2 p hp) z.1, z.2⟩
theorem Fr.draw {h₀ h h' : Heap} {L T : Addr} {m : Str → Option Value} (F : Fr h₀ L h m) (hTL : T ≠ L) (hT0 : h₀.get? T = none) (kb : KeepBut T h h') : Fr h₀ L h' m := by
  obtain ⟨oL, a1, a2, hL, a3⟩ := F.ns
  exact ⟨⟨oL, a1, a2, kb _ _ (Ne.symm hTL) hL, a3⟩, fun b o e => kb b o (fun q => by rw [q, hT0] at e; cases e) (F.keep b o e), F.above⟩
theorem News.apartL {h₀ h : Heap} {L T : Addr} {o : Obj} {news : List (Addr × Obj)} (N : News h₀ L h news) (hm : (T, o) ∈ news) : T ≠ L := (N _ hm).2.1
local macro_rules | `(tactic| walk_at "my_tail") => `(tactic| (first | with_reducible assumption | ((with_reducible refine List.Mem.tail _ ?_); walk_at "my_tail") | ((with_reducible refine List.mem_append_left _ ?_); walk_at "my_tail") | ((with_reducible refine List.mem_append_right _ ?_); walk_at "my_tail")))
local macro_rules | `(tactic| walk_at "my_has") => `(tactic| exact fun p hp => (News.get (by k_asm) (by walk_at "my_tail")))
local macro_rules | `(tactic| k_all) => `(tactic| first | exact List.forall_mem_nil _ | (exact List.forall_mem_cons.mpr ⟨(by k_ne), (by k_all)⟩) | ((with_reducible refine List.forall_mem_append.mpr ⟨?_, ?_⟩) <;> k_all) | (intro p hp; have q := OffK.at (by with_reducible assumption) p hp; (try dsimp only at q ⊢); refine neN ?_; omega) | (intro p hp; have q := AllLt.at (by with_reducible assumption) p hp; (try dsimp only at q ⊢); refine neN ?_; omega))
local macro_rules | `(tactic| walk_at "call ref") => `(tactic| (k_here; k_dflt (refine draw_spec (by walk_at "my_cx") (by omega) (by exact News.get (by k_asm) (by k_mem)) (by exact News.apartL (by k_asm) (by k_mem)) (by exact News.fresh (by k_asm) (by k_mem)) (by k_asm) (by exact On.list (by with_reducible assumption) (by walk_at "my_has")) (by k_asm) (by k_asm) (by k_asm) (by omega) (by omega) (by decide) (by decide) ?_; k_whole; intro h' tk' t1' t2' r' kb' e' r0' r1'; (have F' := Fr.draw (by k_asm) (News.apartL (by k_asm) (by k_mem)) (News.fresh (by k_asm) (by k_mem)) kb'); (have N' := News.draw (by k_asm) (by k_updF) kb' e'); (try dsimp only at N'); clear kb' e'; (try k_unmd))))
local macro_rules | `(tactic| walk_at "my_unf") => `(tactic| ((repeat (k_unmd; k_unfold)); (try dsimp only)))
theorem sub_new1 {i c d e1 e2 e3 e4 e5 e6 e7 e8 e9 e10 x : Addr × Obj} {K : List (Addr × Obj)} : ∀ p ∈ i :: c :: d :: e1 :: e2 :: e3 :: e4 :: e5 :: e6 :: e7 :: e8 :: e9 :: e10 :: x :: K, p ∈ x :: i :: c :: d :: e1 :: e2 :: e3 :: e4 :: e5 :: e6 :: e7 :: e8 :: e9 :: e10 :: K := by walk_at "my_sub"
theorem sub_top1 {e1 e2 e3 e4 e5 e6 e7 e8 e9 e10 x : Addr × Obj} {K : List (Addr × Obj)} : ∀ p ∈ e1 :: e2 :: e3 :: e4 :: e5 :: e6 :: e7 :: e8 :: e9 :: e10 :: x :: K, p ∈ x :: e1 :: e2 :: e3 :: e4 :: e5 :: e6 :: e7 :: e8 :: e9 :: e10 :: K := by walk_at "my_sub"
theorem sub_top2 {e1 e2 e3 e4 e5 e6 e7 e8 e9 e10 x y : Addr × Obj} {K : List (Addr × Obj)} : ∀ p ∈ e1 :: e2 :: e3 :: e4 :: e5 :: e6 :: e7 :: e8 :: e9 :: e10 :: x :: y :: K, p ∈ x :: y :: e1 :: e2 :: e3 :: e4 :: e5 :: e6 :: e7 :: e8 :: e9 :: e10 :: K := by walk_at "my_sub"
theorem sub_top3 {e1 e2 e3 e4 e5 e6 e7 e8 e9 e10 x y z : Addr × Obj} {K : List (Addr × Obj)} : ∀ p ∈ e1 :: e2 :: e3 :: e4 :: e5 :: e6 :: e7 :: e8 :: e9 :: e10 :: x :: y :: z :: K, p ∈ x :: y :: z :: e1 :: e2 :: e3 :: e4 :: e5 :: e6 :: e7 :: e8 :: e9 :: e10 :: K := by walk_at "my_sub"
theorem News.sub {h₀ h : Heap} {L : Addr} {l l' : List (Addr × Obj)} (N : News h₀ L h l) (s : ∀ p ∈ l', p ∈ l) : News h₀ L h l' := fun p hp => N p (s p hp)
abbrev tup2 (a : Int) (t1 : Tok) (b : Int) (t2 : Tok) : Obj := { cls := .type "tuple", data := .seq #[.int a t1, .int b t2] }
def PrsK (K : List (Addr × Obj)) (ys : List Value) (qs : List (Int × Int)) : Prop := ys.length = qs.length ∧ ∀ (i : Nat) (v : Value), ys[i]? = some v → ∃ (a : Addr) (q : Int × Int) (t1 t2 : Tok), v = .ref a ∧ qs[i]? = some q ∧ (a, tup2 q.1 t1 q.2 t2) ∈ K
theorem PrsK.mono {K K' : List (Addr × Obj)} {ys : List Value} {qs : List (Int × Int)} (x : PrsK K ys qs) (s : ∀ p ∈ K, p ∈ K') : PrsK K' ys qs := ⟨x.1, fun i v e => let ⟨a, q, t1, t2, e1, e2, e3⟩ := x.2 i v e; ⟨a, q, t1, t2, e1, e2, s _ e3⟩⟩
theorem PrsK.snoc {K : List (Addr × Obj)} {ys : List Value} {qs : List (Int × Int)} {a : Addr} {q : Int × Int} {t1 t2 : Tok} (x : PrsK K ys qs) (ht : (a, tup2 q.1 t1 q.2 t2) ∈ K) : PrsK K (ys ++ [.ref a]) (qs ++ [q]) := by
  refine ⟨by simp [x.1], fun i v e => ?_⟩
  rw [List.getElem?_append] at e
  split at e
  · obtain ⟨a', q', u1, u2, e1, e2, e3⟩ := x.2 i v e
    have hi : i < qs.length := by rw [← x.1]; assumption
    exact ⟨a', q', u1, u2, e1, by rw [List.getElem?_append_left hi]; exact e2, e3⟩
  · have hi : i - ys.length = 0 := by
      cases hq : i - ys.length with
      | zero => rfl
      | succ n => rw [hq] at e; simp at e
    rw [hi] at e
    simp only [List.getElem?_cons_zero, Option.some.injEq] at e
    have hi2 : i = qs.length := by rw [← x.1]; omega
    exact ⟨a, q, t1, t2, e.symm, by rw [hi2]; simp, ht⟩
section
variable {w : World} {mean : ExcName → Option Value} {mg mb : Str → Option Value} {A A₀ : Around} {base : Heap} {outer : List Env} {h₀ : Heap} {L fa : Addr} {cd : Value} {m : Str → Option Value} {s : Shared} {E : Value → Shared → Prop} {Q : Flow → Shared → Prop} {T c : Addr} {vs : List Value} {cs : List Int} {K : List (Addr × Obj)} {o1 o2 o3 o4 o5 o6 o7 o8 o9 : Obj} {cap : Nat} {tt : Tok}
theorem seg1 (B : Below A₀ base outer h₀) (X : (hd.heap_39 w.params).In h₀) (T0 : Top hd.view_39 (looseW hd.view_39 []) mean mg mb h₀) (hA : A.frames = some (lawEnv L fa cd :: outer)) (R : Room A 10)
   (F : Fr h₀ L s.heap m) (N : News h₀ L s.heap ((L + 1 + 1 + 1 + 1 + 1 + 1 + 1 + 1 + 1, o9) :: (L + 1 + 1 + 1 + 1 + 1 + 1 + 1 + 1, o8) :: (L + 1 + 1 + 1 + 1 + 1 + 1 + 1, o7) :: (L + 1 + 1 + 1 + 1 + 1 + 1, o6) :: (L + 1 + 1 + 1 + 1 + 1, o5) :: (L + 1 + 1 + 1 + 1, o4) :: (L + 1 + 1 + 1, o3) :: (L + 1 + 1, o2) :: (L + 1, o1) :: (T, listOf #[.ref c, .int 0 tt] cap) :: K))
   (d1 : o1.data = .cell (some (.ref T))) (Ta : Tape L T c K vs cs)
   (hQ : ∀ h' tk' P ys qs K' t, Fr h₀ L h' (fun y => if y = Str.ofString "pairs" then some (.ref P) else m y) → News h₀ L h' ((L + 1 + 1 + 1 + 1 + 1 + 1 + 1 + 1 + 1, o9) :: (L + 1 + 1 + 1 + 1 + 1 + 1 + 1 + 1, o8) :: (L + 1 + 1 + 1 + 1 + 1 + 1 + 1, o7) :: (L + 1 + 1 + 1 + 1 + 1 + 1, o6) :: (L + 1 + 1 + 1 + 1 + 1, o5) :: (L + 1 + 1 + 1 + 1, o4) :: (L + 1 + 1 + 1, o3) :: (L + 1 + 1, o2) :: (L + 1, o1) :: (T, listOf #[.ref c, .int 24 t] cap) :: K') → Tape L T c K' vs cs → (P, lst ys) ∈ K' → PrsK K' ys qs → qs.length = 12 → (∀ q ∈ qs, 0 ≤ q.1 ∧ q.1 < 6 ∧ 0 ≤ q.2 ∧ q.2 < 4) → wpAny (model PySem.Challenge.rw_nu0163_01.row.prog w) A (execs (lawBody.drop 2) (lawEnv L fa cd)) Q E { s with heap := h', toks := tk' })
   : wpAny (model PySem.Challenge.rw_nu0163_01.row.prog w) A (execs (lawBody.drop 1) (lawEnv L fa cd)) Q E s := by
  obtain ⟨off, hi, hc, ct, ia, ne, le⟩ := Ta
  conv in List.drop _ _ => whnf
  w_top on
  walk_at "my_step"
  refine LCg.Assign_ListComp_U (by k_asm) (by rfl) (by with_unfolding_all rfl) (by with_unfolding_all rfl) (by decide) (by rfl) (by decide) (by rfl) (by rfl) (by rfl) ?_
  k_steps
  refine LCg.CompSrc.range (n := 12) (Room.hh (by assumption)) (by k_asm) (by k_asm) (by assumption) (by decide) (by decide) (by decide) (fun g => ?_)
  refine turns_U 12 (fun i ys nw => ∃ K' k t qs, nw = (L + 1 + 1 + 1 + 1 + 1 + 1 + 1 + 1 + 1, o9) :: (L + 1 + 1 + 1 + 1 + 1 + 1 + 1 + 1, o8) :: (L + 1 + 1 + 1 + 1 + 1 + 1 + 1, o7) :: (L + 1 + 1 + 1 + 1 + 1 + 1, o6) :: (L + 1 + 1 + 1 + 1 + 1, o5) :: (L + 1 + 1 + 1 + 1, o4) :: (L + 1 + 1 + 1, o3) :: (L + 1 + 1, o2) :: (L + 1, o1) :: (T, listOf #[.ref c, .int k t] cap) :: K' ∧ k = 2 * (i : Int) ∧ OffK L T K' ∧ (∀ p ∈ K, p ∈ K') ∧ PrsK K' ys qs ∧ qs.length = i ∧ (∀ q ∈ qs, 0 ≤ q.1 ∧ q.1 < 6 ∧ 0 ≤ q.2 ∧ q.2 < 4)) ⟨K, 0, tt, [], rfl, rfl, off, fun _ h => h, ⟨rfl, fun i v e => by simp at e⟩, rfl, fun _ h => nomatch h⟩ (fun i ys nw hi12 hJ v I' oI C' oC D' m₂ h tk E' hP hNs hx F2 N2 off3 ne3 => ?_) (fun ys nw hJ => ?_)
  · obtain ⟨K1, kk, t, qs, rfl, hkk, offK, sub, hprs, hql, hq⟩ := hJ
    obtain ⟨t', rfl⟩ := hP
    replace hc := hc.mono sub
    have off4 := off3
    simp only [LCg.Off3] at off4
    k_steps
    walk_at "my_unf"
    clear off4
    rename (_ < _ ∧ _ < _ ∧ _) => l1
    obtain ⟨q1, q2, q3, q4, q5, q6, q7, q8, q9, q10, qK⟩ := off3
    rename (News _ _ _ _) => N3
    refine ⟨LCg.CompEnd.intro (by k_asm) N3 _ sub_new1 ⟨q1, q2, q3, q4, q5, q6, q7, q8, q9, q10, ⟨Nat.ne_of_gt l1.1, Nat.ne_of_gt l1.2.1, Nat.ne_of_gt l1.2.2.1⟩, qK⟩ trivial ⟨_, _, _, qs ++ [(_, _)], rfl, by omega, OffK.cons (Nat.ne_of_gt l1.2.2.2.2.2.2.2.2.2.2.2.2.1) (.inr l1.2.2.2.1) offK, fun p hp => .tail _ (sub p hp), (hprs.mono fun p hp => .tail _ hp).snoc (.head _), by rw [List.length_append, hql]; rfl, fun q hq' => ?_⟩⟩
    rcases List.mem_append.mp hq' with hq' | hq'
    · exact hq q hq'
    · rw [List.mem_singleton.mp hq']
      exact ⟨by k_asm, by k_asm, by k_asm, by k_asm⟩
  · obtain ⟨K1, kk, t, qs, rfl, hkk, offK, sub, hprs, hql, hq⟩ := hJ
    intro D h tk F2 N2 o1'
    obtain ⟨r9, r8, r7, r6, r5, r4, r3, r2, r1, rT, rK⟩ := o1'
    refine hQ _ _ D ys qs ((D, lst ys) :: K1) t F2 (by subst hkk; exact News.sub (h₀ := h₀) (L := L) N2 sub_top1) ⟨OffK.cons (Ne.symm rT) (by dsimp only; omega) offK, hi, hc.mono fun p hp => .tail _ (sub p hp), ct, ia, ne, le⟩ (.head _) (hprs.mono fun p hp => .tail _ hp) hql hq
end


set_option maxHeartbeats 2500000
theorem Assign_plain {M : Model} {A : Around} {E : Value → Shared → Prop} {s : Shared} {env : Env} {x : Str} {p pos : Pos} {value : PySem.Expr} {Q : Flow → Shared → Prop} (hs : swapsWith value (some (.Name x p)) pos.line env = pure false)
    (h : wpAny M A (eval value env) (fun v s' => wpAny M A (storeName env x v) (fun _ s'' => Q .next s'') E s') E s) : wpAny M A (exec (.Assign [.Name x p] value pos) env) Q E s := by
  have e : exec (.Assign [.Name x p] value pos) env = (do
      standAt pos
      if ← swapsWith value (some (.Name x p)) pos.line env then
        evalThenUse value env (assign (.Name x p) env)
        return .next
      let v ← eval value env
      standAt p
      bindName env x v
      pure .next) := rfl
  rw [e, hs]
  refine wpAny_bind (wpAny_standAt (wpAny_bind (wpAny_pure ?_)))
  rw [if_neg (by decide)]
  exact wpAny_bind (wpAny_mono h (fun v s' q => wpAny_bind (wpAny_standAt (wpAny_bind (wpAny_bindName (wpAny_mono q (fun _ s'' z => wpAny_pure z) fun _ _ z => z))))) fun _ _ z => z)
theorem mem10 {e1 e2 e3 e4 e5 e6 e7 e8 e9 e10 p : Addr × Obj} {K : List (Addr × Obj)} (h : p ∈ K) : p ∈ e1 :: e2 :: e3 :: e4 :: e5 :: e6 :: e7 :: e8 :: e9 :: e10 :: K := (.tail _ (.tail _ (.tail _ (.tail _ (.tail _ (.tail _ (.tail _ (.tail _ (.tail _ (.tail _  h ))))))))))
theorem memT {e1 e2 e3 e4 e5 e6 e7 e8 e9 e10 : Addr × Obj} {K : List (Addr × Obj)} : e10 ∈ e1 :: e2 :: e3 :: e4 :: e5 :: e6 :: e7 :: e8 :: e9 :: e10 :: K := (.tail _ (.tail _ (.tail _ (.tail _ (.tail _ (.tail _ (.tail _ (.tail _ (.tail _  (.head _) )))))))))
theorem pair_item0 {prog : Program} {w : World} {A : Around} {E : Value → Shared → Prop} {s : Shared} {h₀ : Heap} {L : Addr} {news : List (Addr × Obj)} {a : Addr} {q1 q2 : Int} {t1 t2 u : Tok} {value slice : PySem.Expr} {Q : Value → Shared → Prop} (N : News h₀ L s.heap news) (hm : (a, tup2 q1 t1 q2 t2) ∈ news) (h : Q (.int q1 t1) s)
   (hs : subscripted slice false (.ref a) (.int 0 u) = operate [.ref a, .int 0 u] (getItem (.ref a) (.int 0 u)) := by with_unfolding_all rfl) : wpAny (model prog w) A (subscriptTail value slice (.ref a) (.int 0 u)) Q E s :=
  item_tupleT (l := [.int q1 t1, .int q2 t2]) ⟨_, (N _ hm).1, rfl, _, rfl⟩ (by decide) (by decide) rfl rfl h hs
theorem pair_item1 {prog : Program} {w : World} {A : Around} {E : Value → Shared → Prop} {s : Shared} {h₀ : Heap} {L : Addr} {news : List (Addr × Obj)} {a : Addr} {q1 q2 : Int} {t1 t2 u : Tok} {value slice : PySem.Expr} {Q : Value → Shared → Prop} (N : News h₀ L s.heap news) (hm : (a, tup2 q1 t1 q2 t2) ∈ news) (h : Q (.int q2 t2) s)
   (hs : subscripted slice false (.ref a) (.int 1 u) = operate [.ref a, .int 1 u] (getItem (.ref a) (.int 1 u)) := by with_unfolding_all rfl) : wpAny (model prog w) A (subscriptTail value slice (.ref a) (.int 1 u)) Q E s :=
  item_tupleT (l := [.int q1 t1, .int q2 t2]) ⟨_, (N _ hm).1, rfl, _, rfl⟩ (by decide) (by decide) rfl rfl h hs
theorem ints_snoc_map {ys : List Value} {qs : List (Int × Int)} {f : Int × Int → Int} {i : Nat} {q : Int × Int} {t : Tok} (h : IntsAre ys ((qs.take i).map f)) (e : qs[i]? = some q) : IntsAre (ys ++ [Value.int (f q) t]) ((qs.take (i + 1)).map f) := by
  rw [List.take_add_one, e, List.map_append]
  exact h.append (.cons _ t .nil)
local macro_rules | `(tactic| walk_at "subscriptTail") => `(tactic| (k_here; first | ((with_reducible show wpAny _ _ (subscriptTail _ _ (Value.ref _) (Value.int 0 _)) _ _ _); k_dflt (refine pair_item0 (by k_asm) (by walk_at "my_tail") ?_; k_whole)) | ((with_reducible show wpAny _ _ (subscriptTail _ _ (Value.ref _) (Value.int 1 _)) _ _ _); k_dflt (refine pair_item1 (by k_asm) (by walk_at "my_tail") ?_; k_whole))))
local macro_rules | `(tactic| walk_at "open_stmt") => `(tactic| (repeat' ((fail_if_success (with_reducible show wpAny _ _ (exec _ _) _ _ _)); walk_at "my_step")))
local macro_rules | `(tactic| walk_at "lc_assign_C") => `(tactic| (refine Assign_plain (by with_unfolding_all rfl) ?_; refine LCg.ListComp_U (by k_asm) (by with_unfolding_all rfl) (by decide) (by rfl) (by decide) (by rfl) ?_; k_steps; all_goals (try k_data)))
local macro_rules | `(tactic| walk_at "to_execs") => `(tactic| (repeat' ((fail_if_success (with_reducible show wpAny _ _ (execs _ _) _ _ _)); walk_at "my_step"); all_goals (try k_data)))
section
variable {w : World} {mean : ExcName → Option Value} {mg mb : Str → Option Value} {A A₀ : Around} {base : Heap} {outer : List Env} {h₀ : Heap} {L fa : Addr} {cd : Value} {m : Str → Option Value} {s : Shared} {E : Value → Shared → Prop} {Q : Flow → Shared → Prop} {T c : Addr} {vs : List Value} {cs : List Int} {K : List (Addr × Obj)} {o1 o2 o3 o4 o5 o6 o7 o8 o9 : Obj} {cap : Nat} {tt : Tok}
theorem seg2 {P : Addr} {ys : List Value} {qs : List (Int × Int)} (B : Below A₀ base outer h₀) (X : (hd.heap_39 w.params).In h₀) (T0 : Top hd.view_39 (looseW hd.view_39 []) mean mg mb h₀) (hA : A.frames = some (lawEnv L fa cd :: outer)) (R : Room A 10)
   (F : Fr h₀ L s.heap m) (N : News h₀ L s.heap ((L + 1 + 1 + 1 + 1 + 1 + 1 + 1 + 1 + 1, o9) :: (L + 1 + 1 + 1 + 1 + 1 + 1 + 1 + 1, o8) :: (L + 1 + 1 + 1 + 1 + 1 + 1 + 1, o7) :: (L + 1 + 1 + 1 + 1 + 1 + 1, o6) :: (L + 1 + 1 + 1 + 1 + 1, o5) :: (L + 1 + 1 + 1 + 1, o4) :: (L + 1 + 1 + 1, o3) :: (L + 1 + 1, o2) :: (L + 1, o1) :: (T, listOf #[.ref c, .int 24 tt] cap) :: K))
   (d1 : o1.data = .cell (some (.ref T))) (d2 : o2.data = .cell none) (d3 : o3.data = .cell none) (Ta : Tape L T c K vs cs)
   (hm : m (Str.ofString "pairs") = some (.ref P)) (hPm : (P, lst ys) ∈ K) (hprs : PrsK K ys qs) (hql : qs.length = 12) (hyl : ys.length = 12)
   (hQ : ∀ h' tk' (o2 o3 : Obj) D1 D2 v1 v2, Fr h₀ L h' m → News h₀ L h' ((L + 1 + 1 + 1 + 1 + 1 + 1 + 1 + 1 + 1, o9) :: (L + 1 + 1 + 1 + 1 + 1 + 1 + 1 + 1, o8) :: (L + 1 + 1 + 1 + 1 + 1 + 1 + 1, o7) :: (L + 1 + 1 + 1 + 1 + 1 + 1, o6) :: (L + 1 + 1 + 1 + 1 + 1, o5) :: (L + 1 + 1 + 1 + 1, o4) :: (L + 1 + 1 + 1, o3) :: (L + 1 + 1, o2) :: (L + 1, o1) :: (T, listOf #[.ref c, .int 24 tt] cap) :: (D2, lst v2) :: (D1, lst v1) :: K) → Tape L T c ((D2, lst v2) :: (D1, lst v1) :: K) vs cs → o2.data = .cell (some (.ref D1)) → o3.data = .cell (some (.ref D2)) → IntsAre v1 (qs.map (·.1)) → IntsAre v2 (qs.map (·.2)) → wpAny (model PySem.Challenge.rw_nu0163_01.row.prog w) A (execs (lawBody.drop 4) (lawEnv L fa cd)) Q E { s with heap := h', toks := tk' })
   : wpAny (model PySem.Challenge.rw_nu0163_01.row.prog w) A (execs (lawBody.drop 2) (lawEnv L fa cd)) Q E s := by
  obtain ⟨off, hi, hc, ct, ia, ne, le⟩ := Ta
  conv in List.drop _ _ => whnf
  w_top on
  walk_at "open_stmt"
  walk_at "lc_assign_C"
  refine .inl ⟨P, (List.toArray ys), _, rfl, Room.hh (by assumption), by k_asm, by k_asm, .inr ⟨_, mem10 hPm, rfl, _, rfl⟩, by rw [List.size_toArray, sizeLine_eq, hyl]; omega, fun s₂ hs₂ => ?_⟩
  obtain ⟨g, rfl⟩ := hs₂
  refine turns_U _ (fun i zs nw => nw = _ ∧ IntsAre zs ((qs.take i).map (·.1))) ⟨rfl, .nil⟩ (fun i zs nw hi12 hJ v I' oI C' oC D' m₂ h tk E' hP hNs hx F2 N2 off3 ne3 => ?_) (fun zs nw hJ => ?_)
  · obtain ⟨rfl, hz⟩ := hJ
    obtain ⟨a, q, u1, u2, rfl, hqi, hT⟩ := hprs.2 i v (by simpa using hP)
    k_steps
    walk_at "my_unf"
    exact ⟨LCg.CompEnd.intro F2 N2 _ (fun _ h => h) off3 (.inr ⟨_, mem10 hPm, rfl, _, rfl⟩) ⟨rfl, ints_snoc_map hz hqi⟩⟩
  · obtain ⟨rfl, hz⟩ := hJ
    rw [List.size_toArray, hyl, ← hql, List.take_length] at hz
    intro D1 h tk F2 N2 o1'
    simp only [LCg.Off1] at o1'
    dsimp only
    walk_at "to_execs"
    rename (_ = Data.cell (some (Value.ref D1))) => d2'
    try clear N2
    walk_at "open_stmt"
    walk_at "lc_assign_C"
    refine .inl ⟨P, (List.toArray ys), _, rfl, Room.hh (by assumption), by k_asm, by k_asm, .inr ⟨_, .tail _ (mem10 hPm), rfl, _, rfl⟩, by rw [List.size_toArray, sizeLine_eq, hyl]; omega, fun s₂ hs₂ => ?_⟩
    obtain ⟨g, rfl⟩ := hs₂
    refine turns_U _ (fun i xs nw => nw = _ ∧ IntsAre xs ((qs.take i).map (·.2))) ⟨rfl, .nil⟩ (fun i xs nw hi12 hJ v I' oI C' oC D' m₂ h tk E' hP hNs hx F2 N2 off3 ne3 => ?_) (fun xs nw hJ => ?_)
    · obtain ⟨rfl, hz2⟩ := hJ
      obtain ⟨a, q, u1, u2, rfl, hqi, hT⟩ := hprs.2 i v (by simpa using hP)
      k_steps
      walk_at "my_unf"
      exact ⟨LCg.CompEnd.intro F2 N2 _ (fun _ h => h) off3 (.inr ⟨_, .tail _ (mem10 hPm), rfl, _, rfl⟩) ⟨rfl, ints_snoc_map hz2 hqi⟩⟩
    · obtain ⟨rfl, hz2⟩ := hJ
      rw [List.size_toArray, hyl, ← hql, List.take_length] at hz2
      intro D2 h tk F2 N2 o2'
      simp only [LCg.Off1] at o2'
      dsimp only
      walk_at "to_execs"
      rename (_ = Data.cell (some (Value.ref D2))) => d3'
      rename (News _ _ _ _) => N3
      obtain ⟨r9, r8, r7, r6, r5, r4, r3, r2, r1, rT, rK⟩ := o1'
      obtain ⟨p0, p9, p8, p7, p6, p5, p4, p3, p2, p1, pT, pK⟩ := o2'
      exact hQ _ _ _ _ D1 D2 zs xs (by k_asm) (News.sub N3 sub_top2) ⟨OffK.cons (Ne.symm pT) (by dsimp only; omega) (OffK.cons (Ne.symm rT) (by dsimp only; omega) off), hi, hc.mono fun p hp => .tail _ (.tail _ hp), ct, ia, ne, le⟩ d2' d3' hz hz2
end


set_option maxHeartbeats 2500000
inductive TurnE (h₀ : Heap) (L I : Addr) (oI : Obj) (J : (Str → Option Value) → List (Addr × Obj) → Prop) (s₁ : Shared) (Q : Flow → Shared → Prop) : Flow → Shared → Prop
  | ret {v : Value} {s₂ : Shared} : Q (.ret v) s₂ → TurnE h₀ L I oI J s₁ Q (.ret v) s₂
  | next {h' : Heap} {tk : Nat} {m' : Str → Option Value} {nx all : List (Addr × Obj)} : Fr h₀ L h' m' → News h₀ L h' all → (∀ p ∈ (I, oI) :: nx, p ∈ all) → Off1 I nx → J m' nx → TurnE h₀ L I oI J s₁ Q .next { s₁ with heap := h', toks := tk }
section
variable {prog : Program} {w : World} {A : Around} {s : Shared} {env : Env} {h₀ : Heap} {E : Value → Shared → Prop} {Q : Flow → Shared → Prop} {x : Str} {body : List Stmt}
theorem range_loop {r : Addr} {a b : Int} {t u v : Tok} {n : Nat} {m : Str → Option Value} {news : List (Addr × Obj)} (J : Nat → (Str → Option Value) → List (Addr × Obj) → Prop)
   (hh : A.handled = none) (hr : IsRange s.heap r a b 1 t u v) (hsm : Builtin.Range.small a b 1 = true) (hn : Builtin.Range.rangeSize a b 1 = ((n : Nat) : Int)) (F : Fr h₀ env.locals s.heap m) (N : News h₀ env.locals s.heap news) (hj : J 0 m news)
   (turn : ∀ i m₁ news₁ h tk I oI t, i < n → J i m₁ news₁ → Off1 I news₁ → Fr h₀ env.locals h (fun y => if y = x then some (.int (a + (i : Int)) t) else m₁ y) → News h₀ env.locals h ((I, oI) :: news₁) →
      wpAny (model prog w) A (execs body env) (TurnE h₀ env.locals I oI (J (i + 1)) { s with heap := h, toks := tk } Q) E { s with heap := h, toks := tk })
   (done : ∀ m₁ news₁ h tk, J n m₁ news₁ → Fr h₀ env.locals h m₁ → News h₀ env.locals h news₁ → Q .next { s with heap := h, toks := tk })
   : wpAny (model prog w) A (pyIter (.ref r)) (fun it s₂ => LoopAtV prog w A h₀ env x body Q E it s₂) E s := by
  refine wpAny_pyIter_range hr hsm ?_
  have hnew := next_is_new F
  refine ⟨s.heap.objs.size, [s.heap.objs.size], [s.heap.objs.size], n, _, _, m, news, J, rfl, range_walks hh a n, ?_, ?_, ?_, (by show IsRangeIter _ _ _ _ _; rw [hn]; simpa using Heap.get?_push_size _ rfl), F.push _, (fun p hp => ⟨Heap.get?_push_of_some _ (N p hp).1, (N p hp).2⟩), hj, ?_, ?_⟩
  · intro hm
    exact absurd F.ns.lt ((List.mem_singleton.mp hm) ▸ Nat.lt_irrefl _)
  · intro b hb
    rw [List.mem_singleton.mp hb]
    exact hnew
  · intro p hp hI
    exact absurd (Heap.lt_size (N p hp).1) ((List.mem_singleton.mp hI) ▸ Nat.lt_irrefl _)
  · rintro i v m₁ news₁ s₁ own ⟨h, tk, rfl⟩ hin ⟨t', rfl⟩ hJ hnw hof hog hown hst F₁ N₁
    obtain ⟨oI, hg⟩ : ∃ oI, h.get? s.heap.objs.size = some oI := ⟨_, hst⟩
    have all : ∀ p ∈ own, p = (s.heap.objs.size, oI) := fun p hp => by
      have e1 := List.mem_singleton.mp (hof p hp)
      have e2 := hog p hp
      obtain ⟨p1, p2⟩ := p
      dsimp only at e1 e2
      subst e1
      rw [show h.get? s.heap.objs.size = some p2 from e2] at hg
      rw [Option.some.inj hg]
    have hI : (s.heap.objs.size, oI) ∈ own := hown _ (.head _) hnew _ hg
    refine wpAny_mono (turn i m₁ news₁ h tk s.heap.objs.size oI t' hin hJ (off1_of fun p hp q => hnw p hp (List.mem_singleton.mpr q)) F₁ (fun p hp => ?_)) (fun f s₂ q => ?_) fun _ _ e => e
    · rcases List.mem_cons.mp hp with rfl | hp
      · exact N₁ _ (List.mem_append_left _ hI)
      · exact N₁ _ (List.mem_append_right _ hp)
    · cases q with
      | ret q => exact q
      | next F2 N2 sb o1 hJ2 =>
        refine ⟨rfl, _, _, _, _, rfl, F2, fun p hp => ?_, fun p hp q => Off1.mem o1 p hp (List.mem_singleton.mp q), hJ2⟩
        rcases List.mem_append.mp hp with hp | hp
        · rw [all p hp]; exact N2 _ (sb _ (.head _))
        · exact N2 _ (sb _ (.tail _ hp))
  · exact fun h' tk m' news' F' N' _ hJ => done m' news' h' tk hJ F' N'
theorem range_turns {r : Addr} {a b : Int} {t u v : Tok} {n : Nat} {px : Pos} {m : Str → Option Value} {news : List (Addr × Obj)} (J : Nat → (Str → Option Value) → List (Addr × Obj) → Prop)
   (hh : A.handled = none) (hr : IsRange s.heap r a b 1 t u v) (hsm : Builtin.Range.small a b 1 = true) (hn : Builtin.Range.rangeSize a b 1 = ((n : Nat) : Int)) (F : Fr h₀ env.locals s.heap m) (N : News h₀ env.locals s.heap news) (hj : J 0 m news)
   (turn : ∀ i m₁ news₁ h tk I oI t, i < n → J i m₁ news₁ → Off1 I news₁ → Fr h₀ env.locals h m₁ → News h₀ env.locals h ((I, oI) :: news₁) →
      wpAny (model prog w) A (assign (.Name x px) env (.int (a + (i : Int)) t)) (fun _ s₃ => wpAny (model prog w) A (execs body env) (TurnE h₀ env.locals I oI (J (i + 1)) { s with heap := h, toks := tk } Q) E s₃) E { s with heap := h, toks := tk })
   (done : ∀ m₁ news₁ h tk, J n m₁ news₁ → Fr h₀ env.locals h m₁ → News h₀ env.locals h news₁ → Q .next { s with heap := h, toks := tk })
   : wpAny (model prog w) A (pyIter (.ref r)) (fun it s₂ => TurnsAt prog w A h₀ env (.Name x px) body Q E it s₂) E s := by
  refine wpAny_pyIter_range hr hsm ?_
  have hnew := next_is_new F
  refine ⟨s.heap.objs.size, [s.heap.objs.size], [s.heap.objs.size], n, _, _, _, m, news, J, rfl, KTurns.ofWalks (range_walks hh a n) (fun i v s' Q' E' st hq => wpAny_pure hq), ?_, ?_, ?_, (by show IsRangeIter _ _ _ _ _; rw [hn]; simpa using Heap.get?_push_size _ rfl), F.push _, (fun p hp => ⟨Heap.get?_push_of_some _ (N p hp).1, (N p hp).2⟩), hj, ?_, ?_⟩
  · intro hm
    exact absurd F.ns.lt ((List.mem_singleton.mp hm) ▸ Nat.lt_irrefl _)
  · intro b hb
    rw [List.mem_singleton.mp hb]
    exact hnew
  · intro p hp hI
    exact absurd (Heap.lt_size (N p hp).1) ((List.mem_singleton.mp hI) ▸ Nat.lt_irrefl _)
  · rintro i v m₁ news₁ h tk own hin ⟨t', rfl⟩ hJ hnw hof hog hown hst F₁ N₁
    obtain ⟨oI, hg⟩ : ∃ oI, h.get? s.heap.objs.size = some oI := ⟨_, hst⟩
    have all : ∀ p ∈ own, p = (s.heap.objs.size, oI) := fun p hp => by
      have e1 := List.mem_singleton.mp (hof p hp)
      have e2 := hog p hp
      obtain ⟨p1, p2⟩ := p
      dsimp only at e1 e2
      subst e1
      rw [show h.get? s.heap.objs.size = some p2 from e2] at hg
      rw [Option.some.inj hg]
    have hI : (s.heap.objs.size, oI) ∈ own := hown _ (.head _) hnew _ hg
    refine wpAny_mono (turn i m₁ news₁ h tk s.heap.objs.size oI t' hin hJ (off1_of fun p hp q => hnw p hp (List.mem_singleton.mpr q)) F₁ (fun p hp => ?_)) (fun _ s₃ h3 => wpAny_mono h3 (fun f s₂ q => ?_) fun _ _ e => e) fun _ _ e => e
    · rcases List.mem_cons.mp hp with rfl | hp
      · exact N₁ _ (List.mem_append_left _ hI)
      · exact N₁ _ (List.mem_append_right _ hp)
    · cases q with
      | ret q => exact q
      | next F2 N2 sb o1 hJ2 =>
        refine ⟨rfl, _, _, _, _, rfl, F2, fun p hp => ?_, fun p hp q => Off1.mem o1 p hp (List.mem_singleton.mp q), hJ2⟩
        rcases List.mem_append.mp hp with hp | hp
        · rw [all p hp]; exact N2 _ (sb _ (.head _))
        · exact N2 _ (sb _ (.tail _ hp))
  · exact fun h' tk m' news' F' N' _ hJ => done m' news' h' tk hJ F' N'
theorem list_loop {l : Addr} {ol : Obj} {its : List Value} {cap : Nat} {m : Str → Option Value} {news : List (Addr × Obj)} (J : Nat → (Str → Option Value) → List (Addr × Obj) → Prop)
   (hh : A.handled = none) (hm : (l, listOf its.toArray cap) ∈ news) (F : Fr h₀ env.locals s.heap m) (N : News h₀ env.locals s.heap news) (hj : J 0 m news)
   (hJl : ∀ i m₁ news₁, J i m₁ news₁ → (l, listOf its.toArray cap) ∈ news₁)
   (turn : ∀ i v m₁ news₁ h tk I oI, its[i]? = some v → J i m₁ news₁ → Off1 I news₁ → Fr h₀ env.locals h (fun y => if y = x then some v else m₁ y) → News h₀ env.locals h ((I, oI) :: news₁) →
      wpAny (model prog w) A (execs body env) (TurnE h₀ env.locals I oI (J (i + 1)) { s with heap := h, toks := tk } Q) E { s with heap := h, toks := tk })
   (done : ∀ m₁ news₁ h tk, J its.length m₁ news₁ → Fr h₀ env.locals h m₁ → News h₀ env.locals h news₁ → Q .next { s with heap := h, toks := tk })
   : wpAny (model prog w) A (pyIter (.ref l)) (fun it s₂ => LoopAtV prog w A h₀ env x body Q E it s₂) E s := by
  have hls : s.heap.IsList l its.toArray := ⟨_, (N _ hm).1, rfl, _, rfl⟩
  have hlt : l < s.heap.objs.size := Heap.lt_size (N _ hm).1
  have hne : l ≠ s.heap.objs.size := Nat.ne_of_lt hlt
  refine wpAny_pyIter_list hls ?_
  have hnew := next_is_new F
  have hlL : l ≠ env.locals := fun e => (N _ hm).2.1 e
  have hl0 : h₀.get? l = none := (N _ hm).2.2
  refine ⟨s.heap.objs.size, _, _, its.toArray.size, _, _, m, news, J, rfl, Walks.list hh s.heap.objs.size l hne its.toArray, ?_, ?_, ?_, ⟨⟨_, Heap.get?_push_size _ rfl, rfl, rfl⟩, hls.at fun o e => Heap.get?_push_of_some _ e⟩, F.push _, (fun p hp => ⟨Heap.get?_push_of_some _ (N p hp).1, (N p hp).2⟩), hj, ?_, ?_⟩
  · intro hm
    rcases List.mem_cons.mp hm with e | hm
    · exact absurd F.ns.lt (e ▸ Nat.lt_irrefl _)
    · exact hlL (List.mem_singleton.mp hm).symm
  · intro b hb
    rw [List.mem_singleton.mp hb]
    exact hnew
  · intro p hp hI
    exact absurd (Heap.lt_size (N p hp).1) ((List.mem_singleton.mp hI) ▸ Nat.lt_irrefl _)
  · rintro i v m₁ news₁ s₁ own ⟨h, tk, rfl⟩ hin hP hJ hnw hof hog hown hst F₁ N₁
    obtain ⟨oI, hg, _⟩ := id hst.1
    have all : ∀ p ∈ own, p = (s.heap.objs.size, oI) ∨ p.1 = l := fun p hp => by
      rcases List.mem_cons.mp (hof p hp) with e1 | e1
      · left
        have e2 := hog p hp
        obtain ⟨p1, p2⟩ := p
        dsimp only at e1 e2
        subst e1
        rw [show h.get? s.heap.objs.size = some p2 from e2] at hg
        rw [Option.some.inj hg]
      · exact .inr (List.mem_singleton.mp e1)
    have hI : (s.heap.objs.size, oI) ∈ own := hown _ (.head _) hnew _ hg
    refine wpAny_mono (turn i v m₁ news₁ h tk s.heap.objs.size oI (by simpa using hP) hJ (off1_of fun p hp q => hnw p hp (List.mem_singleton.mpr q)) F₁ (fun p hp => ?_)) (fun f s₂ q => ?_) fun _ _ e => e
    · rcases List.mem_cons.mp hp with rfl | hp
      · exact N₁ _ (List.mem_append_left _ hI)
      · exact N₁ _ (List.mem_append_right _ hp)
    · cases q with
      | ret q => exact q
      | next F2 N2 sb o1 hJ2 =>
        refine ⟨rfl, _, _, _, _, rfl, F2, fun p hp => ?_, fun p hp q => Off1.mem o1 p hp (List.mem_singleton.mp q), hJ2⟩
        rcases List.mem_append.mp hp with hp | hp
        · rcases all p hp with rfl | e
          · exact N2 _ (sb _ (.head _))
          · have h1 := (N₁ p (List.mem_append_left _ hp)).1
            have h2 := (N₁ _ (List.mem_append_right _ (hJl _ _ _ hJ))).1
            obtain ⟨p1, p2⟩ := p
            dsimp only at e h1
            subst e
            rw [show h.get? p1 = some (listOf its.toArray cap) from h2] at h1
            rw [← Option.some.inj h1]
            exact N2 _ (sb _ (.tail _ (hJl _ _ _ hJ2)))
        · exact N2 _ (sb _ (.tail _ hp))
  · exact fun h' tk m' news' F' N' _ hJ => done m' news' h' tk (by simpa using hJ) F' N'
end


set_option maxHeartbeats 2500000
/-- the list of the sets, as the ledger has it -/
structure SetsK (K : List (Addr × Obj)) (refs : List Value) (xss : List (List Int)) : Prop where
  len : refs.length = xss.length
  few : xss.length ≤ 3
  at_ : ∀ (i : Nat) (v : Value), refs[i]? = some v → ∃ (x : Addr) (xs : List Int) (ys : List Value), v = .ref x ∧ xss[i]? = some xs ∧ (x, lst ys) ∈ K ∧ IntsAre ys xs ∧ xs.length ≤ 12 ∧ xs.Pairwise (· < ·)
theorem SetsK.mono {K K' : List (Addr × Obj)} {refs : List Value} {xss : List (List Int)} (x : SetsK K refs xss) (s : ∀ p ∈ K, p ∈ K') : SetsK K' refs xss := ⟨x.len, x.few, fun i v e => let ⟨a, xs, ys, e1, e2, e3, r⟩ := x.at_ i v e; ⟨a, xs, ys, e1, e2, s _ e3, r⟩⟩
theorem SetsK.snoc {K : List (Addr × Obj)} {refs : List Value} {xss : List (List Int)} {D : Addr} {xs : List Int} {ys : List Value} (x : SetsK K refs xss) (few : xss.length < 3) (hm : (D, lst ys) ∈ K) (hi : IntsAre ys xs) (hl : xs.length ≤ 12) (hp : xs.Pairwise (· < ·)) : SetsK K (refs ++ [.ref D]) (xss ++ [xs]) := by
  refine ⟨by rw [List.length_append, List.length_append, x.len]; rfl, by rw [List.length_append]; exact few, fun i v e => ?_⟩
  rw [List.getElem?_append] at e
  split at e
  · obtain ⟨a, xs', ys', e1, e2, r⟩ := x.at_ i v e
    have hi : i < xss.length := by rw [← x.len]; assumption
    exact ⟨a, xs', ys', e1, by rw [List.getElem?_append_left hi]; exact e2, r⟩
  · have h0 : i - refs.length = 0 := by
      cases hq : i - refs.length with
      | zero => rfl
      | succ n => rw [hq] at e; simp at e
    rw [h0] at e
    simp only [List.getElem?_cons_zero, Option.some.injEq] at e
    have hi2 : i = xss.length := by rw [← x.len]; omega
    exact ⟨D, xs, ys, e.symm, by rw [hi2]; simp, hm, hi, hl, hp⟩
local macro_rules | `(tactic| k_all) => `(tactic| (intro p hp; exact (by with_reducible assumption : ∀ p ∈ _, @Ne Nat p.1 _) p hp))
local macro_rules | `(tactic| walk_at "to_range") => `(tactic| (repeat' ((fail_if_success (with_reducible show wpAny _ _ (call (Value.type "range") _) _ _ _)); walk_at "my_step")))
theorem small_range {n : Int} (h : 0 ≤ n) : Builtin.Range.rangeSize 0 n 1 = ((n.toNat : Nat) : Int) := by
  unfold Builtin.Range.rangeSize
  rw [if_pos (by decide)]
  split <;> omega
/-- rising ints below a bound -/
def Asc (j : Nat) (ys : List Value) : Prop := ∃ xs : List Int, IntsAre ys xs ∧ xs.length ≤ j ∧ xs.Pairwise (· < ·) ∧ ∀ x ∈ xs, x < (j : Int)
theorem Asc.nil : Asc 0 [] := ⟨[], .nil, by decide, .nil, fun _ h => nomatch h⟩
theorem Asc.skip {j : Nat} {ys : List Value} (h : Asc j ys) : Asc (j + 1) ys := let ⟨xs, a, b, c, d⟩ := h; ⟨xs, a, by omega, c, fun x hx => by have := d x hx; omega⟩
theorem Asc.snoc {j : Nat} {ys : List Value} {t : Tok} (h : Asc j ys) : Asc (j + 1) (ys ++ [Value.int (0 + (j : Int)) t]) :=
  let ⟨xs, a, b, c, d⟩ := h
  ⟨xs ++ [0 + (j : Int)], a.append (.cons _ _ .nil), by rw [List.length_append]; exact Nat.succ_le_succ b, List.pairwise_append.mpr ⟨c, List.pairwise_singleton .., fun x hx y hy => by rw [List.mem_singleton.mp hy]; have := d x hx; omega⟩, fun x hx => by
    rcases List.mem_append.mp hx with hx | hx
    · have := d x hx; omega
    · rw [List.mem_singleton.mp hx]; omega⟩
section
variable {w : World} {mean : ExcName → Option Value} {mg mb : Str → Option Value} {A A₀ : Around} {base : Heap} {outer : List Env} {h₀ : Heap} {L fa : Addr} {cd : Value} {m : Str → Option Value} {s : Shared} {Q : Flow → Shared → Prop} {T c : Addr} {vs : List Value} {cs : List Int} {K : List (Addr × Obj)} {o1 o2 o3 o4 o5 o6 o7 o8 o9 : Obj} {cap : Nat} {tt : Tok} {kk : Int}
theorem seg3 (B : Below A₀ base outer h₀) (X : (hd.heap_39 w.params).In h₀) (T0 : Top hd.view_39 (looseW hd.view_39 []) mean mg mb h₀) (hA : A.frames = some (lawEnv L fa cd :: outer)) (R : Room A 10)
   (F : Fr h₀ L s.heap m) (N : News h₀ L s.heap ((L + 1 + 1 + 1 + 1 + 1 + 1 + 1 + 1 + 1, o9) :: (L + 1 + 1 + 1 + 1 + 1 + 1 + 1 + 1, o8) :: (L + 1 + 1 + 1 + 1 + 1 + 1 + 1, o7) :: (L + 1 + 1 + 1 + 1 + 1 + 1, o6) :: (L + 1 + 1 + 1 + 1 + 1, o5) :: (L + 1 + 1 + 1 + 1, o4) :: (L + 1 + 1 + 1, o3) :: (L + 1 + 1, o2) :: (L + 1, o1) :: (T, listOf #[.ref c, .int 24 tt] cap) :: K))
   (d1 : o1.data = .cell (some (.ref T))) (d4 : o4.data = .cell none) (Ta : Tape L T c K vs cs)
   (hQ : ∀ h' tk' m' S refs xss K' (o4 : Obj) kk t capS, Fr h₀ L h' m' → News h₀ L h' ((L + 1 + 1 + 1 + 1 + 1 + 1 + 1 + 1 + 1, o9) :: (L + 1 + 1 + 1 + 1 + 1 + 1 + 1 + 1, o8) :: (L + 1 + 1 + 1 + 1 + 1 + 1 + 1, o7) :: (L + 1 + 1 + 1 + 1 + 1 + 1, o6) :: (L + 1 + 1 + 1 + 1 + 1, o5) :: (L + 1 + 1 + 1 + 1, o4) :: (L + 1 + 1 + 1, o3) :: (L + 1 + 1, o2) :: (L + 1, o1) :: (T, listOf #[.ref c, .int kk t] cap) :: K') → Tape L T c K' vs cs → (∀ p ∈ K, p ∈ K') → (S, listOf (List.toArray refs) capS) ∈ K' → SetsK K' refs xss → m' (Str.ofString "sets") = some (.ref S) → (∀ y, y ≠ Str.ofString "sets" → y ≠ Str.ofString "k" → m' y = m y) → 25 ≤ kk → kk ≤ 28 → wpAny (model PySem.Challenge.rw_nu0163_01.row.prog w) A (execs (lawBody.drop 6) (lawEnv L fa cd)) Q (fun _ _ => False) { s with heap := h', toks := tk' })
   : wpAny (model PySem.Challenge.rw_nu0163_01.row.prog w) A (execs (lawBody.drop 4) (lawEnv L fa cd)) Q (fun _ _ => False) s := by
  obtain ⟨off, hi, hc, ct, ia, ne, le⟩ := Ta
  conv in List.drop _ _ => whnf
  w_top on
  walk_at "one_stmt"
  rename_i S _ l1 _ F1 N1
  walk_at "open_stmt"
  refine For_invV h₀ rfl rfl ?_ (fun _ => rfl) PySem.PassesOwn.never
  walk_at "to_range"
  rename_i g0 tk0 u1 u2 r r0 r1 F2 N2
  with_unfolding_all refine range1_rows F2 N2 ?_
  intro h3 tk3 w1 w2 w3 hR F3 N3 k3
  clear N1 F1 N2 F2
  refine range_loop (fun i m₁ nw => ∃ K1 k t refs xss capS, ∃ q4 : Obj, nw = (L + 1 + 1 + 1 + 1 + 1 + 1 + 1 + 1 + 1, o9) :: (L + 1 + 1 + 1 + 1 + 1 + 1 + 1 + 1, o8) :: (L + 1 + 1 + 1 + 1 + 1 + 1 + 1, o7) :: (L + 1 + 1 + 1 + 1 + 1 + 1, o6) :: (L + 1 + 1 + 1 + 1 + 1, o5) :: (L + 1 + 1 + 1 + 1, q4) :: (L + 1 + 1 + 1, o3) :: (L + 1 + 1, o2) :: (L + 1, o1) :: (T, listOf #[.ref c, .int k t] cap) :: (S, listOf (List.toArray refs) capS) :: K1 ∧ (∃ v, q4.data = .cell v) ∧ k = 25 + (i : Int) ∧ OffK L T K1 ∧ (∀ p ∈ K1, @Ne Nat p.1 S) ∧ (∀ p ∈ K, p ∈ K1) ∧ xss.length = i ∧ SetsK K1 refs xss ∧ m₁ (Str.ofString "sets") = some (.ref S) ∧ ∀ y, y ≠ Str.ofString "sets" → y ≠ Str.ofString "k" → m₁ y = m y) (Room.hh (by assumption)) hR (small_one (by decide) (by decide) (by omega) (by omega)) (small_range r0) F3 (News.sub N3 (by walk_at "my_sub")) ⟨K, _, _, [], [], 0, _, rfl, ⟨_, d4⟩, rfl, off, fun p hp => Nat.ne_of_lt (AllLt.at l1.2.2.2.2.2.2.2.2.2.2 p hp), fun _ h => h, rfl, ⟨rfl, by decide, fun i v e => by simp at e⟩, rfl, fun y hy hy2 => if_neg hy⟩ ?_ ?_
  · clear N3 F3
    rintro i m₁ news₁ h tk I oI t hin ⟨K1, k, tk1, refs, xss, capS, q4, rfl, ⟨v4, e4⟩, hk, offK, offS, sub, hxl, hS, hms, hmo⟩ oI' F4 N4
    replace F4 : Fr h₀ L h _ := F4
    replace N4 : News h₀ L h _ := N4
    replace hc := hc.mono sub
    have oI2 := oI'
    simp only [LCg.Off1] at oI2
    walk_at "to_lc"
    walk_at "lc_eval_T"
    walk_at "src_range_T"
    refine turns_T 12 (fun j ys nw => nw = _ ∧ Asc j ys) ⟨rfl, Asc.nil⟩ (fun j ys nw hj hJ v I2 oI2 C2 oC2 D2 m₂ h tk E' hP hNs hx F5 N5 off3 ne3 => ?_) (fun ys nw hJ => ?_)
    · obtain ⟨rfl, hys⟩ := hJ
      obtain ⟨t, rfl⟩ := hP
      k_steps
      all_goals (walk_at "my_unf")
      all_goals first
        | exact ⟨LCg.CompEnd.intro (by k_asm) (by k_asm) _ (fun _ h => h) off3 trivial ⟨rfl, hys.snoc⟩⟩
        | exact ⟨LCg.CompEnd.intro (by k_asm) (by k_asm) _ (fun _ h => h) off3 trivial ⟨rfl, hys.skip⟩⟩
    · obtain ⟨rfl, xs, hys, hlx, hpw, hlt⟩ := hJ
      intro D h tk F5 N5 o1'
      dsimp only
      k_steps
      walk_at "my_unf"
      have hDL : @Ne Nat D L := (N5 _ (.head _)).2.1
      have q1 := o1'
      simp only [LCg.Off1] at q1
      have hrl : refs.length ≤ 3 := by rw [hS.len]; exact hS.few
      refine append_K F5 N5 (by k_upd) (fun h6 F6 N6 => ?_) (by rw [List.size_toArray, sizeLine_eq]; omega)
      rw [List.push_toArray] at N6
      refine wpAny_execs_nil (TurnE.next (m' := _) (nx := (L + 1 + 1 + 1 + 1 + 1 + 1 + 1 + 1 + 1, o9) :: (L + 1 + 1 + 1 + 1 + 1 + 1 + 1 + 1, o8) :: (L + 1 + 1 + 1 + 1 + 1 + 1 + 1, o7) :: (L + 1 + 1 + 1 + 1 + 1 + 1, o6) :: (L + 1 + 1 + 1 + 1 + 1, o5) :: (L + 1 + 1 + 1 + 1, _) :: (L + 1 + 1 + 1, o3) :: (L + 1 + 1, o2) :: (L + 1, o1) :: (T, _) :: (S, listOf (List.toArray (refs ++ [.ref D])) (capS + 1)) :: (D, lst ys) :: K1) F6 N6 (by walk_at "my_sub") ?_ ?_)
      · obtain ⟨b9, b8, b7, b6, b5, b4, b3, b2, b1, bT, bS, bK⟩ := oI'
        exact ⟨b9, b8, b7, b6, b5, b4, b3, b2, b1, bT, bS, Ne.symm o1'.1, bK⟩
      · refine ⟨_, _, _, refs ++ [.ref D], xss ++ [xs], _, _, rfl, ⟨_, by assumption⟩, by omega, OffK.cons (by k_ne) (by dsimp only; omega) offK, List.forall_mem_cons.mpr ⟨by k_ne, offS⟩, fun p hp => .tail _ (sub p hp), by rw [List.length_append, hxl]; rfl, (hS.mono fun p hp => .tail _ hp).snoc (by omega) (.head _) hys hlx hpw, (if_neg (by decide)).trans hms, fun y h1 h2 => (if_neg h2).trans (hmo y h1 h2)⟩
  · rintro m₁ news₁ h tk ⟨K1, k, tk1, refs, xss, capS, q4, rfl, hq4, hk, offK, offS, sub, hxl, hS, hms, hmo⟩ F4 N4
    exact hQ _ _ m₁ S refs xss ((S, _) :: K1) q4 k tk1 capS F4 (News.sub (h₀ := h₀) (L := L) N4 fun _ h => h) ⟨OffK.cons (by dsimp only; omega) (.inr (by dsimp only; omega)) offK, hi, hc.mono fun p hp => .tail _ (sub p hp), ct, ia, ne, le⟩ (fun p hp => .tail _ (sub p hp)) (.head _) (hS.mono fun p hp => .tail _ hp) hms hmo (by omega) (by omega)
end


set_option maxHeartbeats 2500000
section
variable {w : World} {mean : ExcName → Option Value} {mg mb : Str → Option Value} {A A₀ : Around} {base : Heap} {outer : List Env} {h₀ : Heap} {L fa : Addr} {cd : Value} {m : Str → Option Value} {s : Shared} {Q : Flow → Shared → Prop} {T c : Addr} {vs : List Value} {cs : List Int} {K : List (Addr × Obj)} {o1 o2 o3 o4 o5 o6 o7 o8 o9 : Obj} {cap : Nat} {tt : Tok} {kk : Int}
theorem seg4 (B : Below A₀ base outer h₀) (X : (hd.heap_39 w.params).In h₀) (T0 : Top hd.view_39 (looseW hd.view_39 []) mean mg mb h₀) (hA : A.frames = some (lawEnv L fa cd :: outer)) (R : Room A 10)
   (F : Fr h₀ L s.heap m) (N : News h₀ L s.heap ((L + 1 + 1 + 1 + 1 + 1 + 1 + 1 + 1 + 1, o9) :: (L + 1 + 1 + 1 + 1 + 1 + 1 + 1 + 1, o8) :: (L + 1 + 1 + 1 + 1 + 1 + 1 + 1, o7) :: (L + 1 + 1 + 1 + 1 + 1 + 1, o6) :: (L + 1 + 1 + 1 + 1 + 1, o5) :: (L + 1 + 1 + 1 + 1, o4) :: (L + 1 + 1 + 1, o3) :: (L + 1 + 1, o2) :: (L + 1, o1) :: (T, listOf #[.ref c, .int kk tt] cap) :: K))
   (d1 : o1.data = .cell (some (.ref T))) (Ta : Tape L T c K vs cs) (k0 : 25 ≤ kk) (k1 : kk ≤ 28)
   (hQ : ∀ h' tk' t k flag t1 num t2, Fr h₀ L h' (fun y => if y = Str.ofString "number" then some (.int num t2) else if y = Str.ofString "flag" then some (.int flag t1) else m y) → News h₀ L h' ((L + 1 + 1 + 1 + 1 + 1 + 1 + 1 + 1 + 1, o9) :: (L + 1 + 1 + 1 + 1 + 1 + 1 + 1 + 1, o8) :: (L + 1 + 1 + 1 + 1 + 1 + 1 + 1, o7) :: (L + 1 + 1 + 1 + 1 + 1 + 1, o6) :: (L + 1 + 1 + 1 + 1 + 1, o5) :: (L + 1 + 1 + 1 + 1, o4) :: (L + 1 + 1 + 1, o3) :: (L + 1 + 1, o2) :: (L + 1, o1) :: (T, listOf #[.ref c, .int k t] cap) :: K) → 28 ≤ k → k ≤ 31 → 0 ≤ flag → flag < 1024 → 0 ≤ num → num < 4 → wpAny (model PySem.Challenge.rw_nu0163_01.row.prog w) A (execs (lawBody.drop 8) (lawEnv L fa cd)) Q (fun _ _ => False) { s with heap := h', toks := tk' })
   : wpAny (model PySem.Challenge.rw_nu0163_01.row.prog w) A (execs (lawBody.drop 6) (lawEnv L fa cd)) Q (fun _ _ => False) s := by
  have Ta' := Ta
  obtain ⟨off, hi, hc, ct, ia, ne, le⟩ := Ta
  conv in List.drop _ _ => whnf
  w_top on
  walk_at "open_stmt"
  walk_at "to_execs"
  walk_at "my_unf"
  walk_at "open_stmt"
  walk_at "to_execs"
  walk_at "my_unf"
  exact hQ _ _ _ _ _ _ _ _ (by k_asm) (by k_asm) (by omega) (by omega) (by omega) (by omega) (by omega) (by omega)
end


set_option maxHeartbeats 2500000
/-- an object that is a dict of ints to ints -/
def IntO (w : World) (o : Obj) (ps : List (Int × Int)) : Prop := ∃ kvs : List (Int × Value), o.IsDictOf (intKind PySem.Challenge.rw_nu0163_01.row.prog w) kvs ∧ kvs.length = ps.length ∧ ∀ (i : Nat) (k : Int) (v : Value), kvs[i]? = some (k, v) → ∃ (n : Int) (t : Tok), ps[i]? = some (k, n) ∧ v = Value.int n t
theorem IntO.map {w : World} {o : Obj} {ps : List (Int × Int)} {D : Addr} {K : List (Addr × Obj)} (x : IntO w o ps) (lo : (D == sysModules) = false) (hm : (D, o) ∈ K) : On K (fun h => IntMap w h D ps) := fun h hK => let ⟨kvs, a, b, c⟩ := x; ⟨lo, kvs, Heap.dictOf_iff.mpr ⟨o, hK _ hm, a⟩, b, c⟩
theorem PrsK.kvs {K : List (Addr × Obj)} : ∀ {ys : List Value} {qs : List (Int × Int)}, PrsK K ys qs → ∃ kvs : List (Int × Value), kvs.length = ys.length ∧ ∀ (i : Nat) (v : Value), ys[i]? = some v → ∃ (a : Addr) (q : Int × Int) (t1 t2 : Tok), v = .ref a ∧ qs[i]? = some q ∧ (a, tup2 q.1 t1 q.2 t2) ∈ K ∧ kvs[i]? = some (q.1, .int q.2 t2)
  | [], [], _ => ⟨[], rfl, fun i v e => by simp at e⟩
  | [], _ :: _, h => by have := h.1; simp at this
  | _ :: _, [], h => by have := h.1; simp at this
  | y :: ys, q :: qs, h => by
    obtain ⟨kvs, e, r⟩ := PrsK.kvs (K := K) (ys := ys) (qs := qs) ⟨by have := h.1; simpa using this, fun i v hv => by simpa using h.2 (i + 1) v (by simpa using hv)⟩
    obtain ⟨a, q', t1, t2, e1, e2, e3⟩ := h.2 0 y rfl
    simp only [List.getElem?_cons_zero, Option.some.injEq] at e2
    subst e2
    refine ⟨(q.1, .int q.2 t2) :: kvs, by simp [e], fun i v hv => ?_⟩
    cases i with
    | zero => exact ⟨a, q, t1, t2, by simpa [e1] using hv.symm, rfl, e3, rfl⟩
    | succ i => simpa using r i v (by simpa using hv)
section
variable {w : World} {A : Around} {E : Value → Shared → Prop} {s : Shared} {h₀ : Heap} {L : Addr} {m : Str → Option Value} {news : List (Addr × Obj)} {Q : Value → Shared → Prop}
theorem dict_pairs_L {D : Addr} {ys : List Value} {qs : List (Int × Int)} (F : Fr h₀ L s.heap m) (N : News h₀ L s.heap news) (hh : A.handled = none) (hb : h₀.NoLimit) (hm : (D, lst ys) ∈ news) (hp : PrsK news ys qs) (hnd : (qs.map (·.1)).Nodup) (hl : ys.length ≤ 1000)
   (h : ∀ h' tk D' o', Fr h₀ L h' m → News h₀ L h' ((D', o') :: news) → Off1 D' news → (D' == sysModules) = false → IntO w o' qs → Q (.ref D') { s with heap := h', toks := tk }) :
   wpAny (model PySem.Challenge.rw_nu0163_01.row.prog w) A (call (.type "dict") [.ref D]) Q E s := by
  obtain ⟨kvs, e, r⟩ := hp.kvs
  have hlen : kvs.length = qs.length := e.trans hp.1
  have hat : ∀ (i : Nat) (k : Int) (v : Value), kvs[i]? = some (k, v) → ∃ (n : Int) (t : Tok), qs[i]? = some (k, n) ∧ v = Value.int n t := fun i k v hv => by
    have hi : i < ys.length := by rw [← e]; exact (List.getElem?_eq_some_iff.mp hv).1
    obtain ⟨a, q, t1, t2, e1, e2, e3, e4⟩ := r i ys[i] (List.getElem?_eq_getElem hi)
    rw [e4] at hv
    obtain ⟨rfl, rfl⟩ := Prod.mk.inj (Option.some.inj hv)
    exact ⟨q.2, t2, e2, rfl⟩
  refine call_dict_pairs hh (N _ hm).1 (kvs := kvs) ⟨e.symm, fun i v hv => ?_⟩ ?_ hl fun h' tk D' eD k' e0 hd => ?_
  · obtain ⟨a, q, t1, t2, e1, e2, e3, e4⟩ := r i v hv
    exact ⟨a, q.1, t1, .int q.2 t2, e1, e4, ⟨_, (N _ e3).1, rfl, _, rfl⟩⟩
  · rw [intMap_keys hlen hat]; exact hnd
  · obtain ⟨o', ho', hd'⟩ := Heap.dictOf_iff.mp hd
    have h0 : h₀.get? D' = none := fresh_of' F.keep e0
    refine h h' tk D' o' (F.keeps k') (fun p hp => ?_) (off1_of fun p hp q => ?_) (eD ▸ F.notModules (modules_low hb)) ⟨kvs, hd', hlen, hat⟩
    · rcases List.mem_cons.mp hp with rfl | hp
      · refine ⟨ho', fun q => ?_, h0⟩
        obtain ⟨oL, _, _, hL, _⟩ := F.ns
        rw [show D' = L from q, hL] at e0; cases e0
      · exact ⟨k' _ _ (N p hp).1, (N p hp).2⟩
    · have z := (N p hp).1
      rw [q, e0] at z; cases z
end


set_option maxHeartbeats 2500000
theorem item_On {w : World} {A : Around} {E : Value → Shared → Prop} {s : Shared} {D : Addr} {ys : List Value} {xs : List Int} {value slice : PySem.Expr} {k : Int} {u : Tok} {Q : Value → Shared → Prop} (hL : s.heap.IsList D ys.toArray) (I : IntsAre ys xs) (h0 : 0 ≤ k) (h1 : k < xs.length) (h2 : xs.length < 1000)
   (h : ∀ t', Q (.int (xs.getD k.toNat 0) t') s) (hs : subscripted slice false (.ref D) (.int k u) = operate [.ref D, .int k u] (getItem (.ref D) (.int k u)) := by with_unfolding_all rfl) : wpAny (model PySem.Challenge.rw_nu0163_01.row.prog w) A (subscriptTail value slice (.ref D) (.int k u)) Q E s := by
  obtain ⟨t', e⟩ := ints_item I k.toNat (by omega)
  exact tail_any hL.typeIs slot_list_getitem.lookup (wpAny_getItem_list hL h0 (by omega) (by rw [List.getElem?_toArray, e]) (h t')) hs
local macro_rules | `(tactic| walk_at "subscriptTail") => `(tactic| (k_here; k_dflt (refine item_On (by exact On.list (by with_reducible assumption) (by walk_at "my_has")) (by with_reducible assumption) (by omega) (by omega) (by omega) ?_; k_whole; intro t')))
local macro_rules | `(tactic| walk_at "to_law") => `(tactic| (repeat' ((fail_if_success (with_reducible show wpAny _ _ (execs _ (lawEnv _ _ _)) _ _ _)); walk_at "my_step"); all_goals (try k_data)))
def pairsUpTo (cs : List Int) (i : Nat) : List (Int × Int) := ((rng i).filter fun k => decide (cs.getD k.toNat 0 > 0)).map fun k => (k, cs.getD k.toNat 0)
theorem pairs_yes {cs : List Int} {i : Nat} (h : cs.getD (0 + (i : Int)).toNat 0 > 0) : pairsUpTo cs (i + 1) = pairsUpTo cs i ++ [(0 + (i : Int), cs.getD (0 + (i : Int)).toNat 0)] := by
  rw [Int.zero_add] at h ⊢
  unfold pairsUpTo
  rw [rng_succ, List.filter_append, List.map_append, List.filter_cons, if_pos (by simpa using h)]
  rfl
theorem pairs_no {cs : List Int} {i : Nat} (h : ¬ cs.getD (0 + (i : Int)).toNat 0 > 0) : pairsUpTo cs (i + 1) = pairsUpTo cs i := by
  rw [Int.zero_add] at h
  unfold pairsUpTo
  rw [rng_succ, List.filter_append, List.filter_cons, if_neg (by simpa using h), List.filter_nil, List.append_nil]
theorem On.inst {K : List (Addr × Obj)} {x C dx : Addr} {es : List DictEntry} {n : Nat} {attrs : List (Str × Value)} (h1 : (x, instObj C dx) ∈ K) (h2 : (dx, dictOf es n) ∈ K)
    (hk : (es.all fun e => match e.key with | .str _ _ => true | _ => false) = true) (ha : attrsOf es = attrs) : On K (fun h => HasInst h x C attrs) := fun h hK => ⟨dx, es, n, hK _ h1, hK _ h2, fun name => by rw [getL_attrs hk, ha]⟩
theorem sub_top4 {e1 e2 e3 e4 e5 e6 e7 e8 e9 e10 x y z u : Addr × Obj} {K : List (Addr × Obj)} : ∀ p ∈ e1 :: e2 :: e3 :: e4 :: e5 :: e6 :: e7 :: e8 :: e9 :: e10 :: x :: y :: z :: u :: K, p ∈ x :: y :: z :: u :: e1 :: e2 :: e3 :: e4 :: e5 :: e6 :: e7 :: e8 :: e9 :: e10 :: K := by walk_at "my_sub"
theorem rng_mem {n : Nat} {g : Int} : g ∈ rng n ↔ 0 ≤ g ∧ g < n := by
  simp only [rng, List.mem_map, List.mem_range]
  constructor
  · rintro ⟨j, hj, rfl⟩
    exact ⟨Int.natCast_nonneg j, by show (j : Int) < n; omega⟩
  · rintro ⟨h0, h1⟩
    exact ⟨g.toNat, by omega, by show ((g.toNat : Nat) : Int) = g; omega⟩
theorem rng_pw : ∀ n : Nat, (rng n).Pairwise (· < ·)
  | 0 => .nil
  | n + 1 => by
    rw [rng_succ]
    exact List.pairwise_append.mpr ⟨rng_pw n, List.pairwise_singleton .., fun x hx y hy => by rw [List.mem_singleton.mp hy]; exact (rng_mem.mp hx).2⟩
theorem pairs_fst (xs : List Int) (i : Nat) : (pairsUpTo xs i).map (·.1) = (rng i).filter fun k => decide (xs.getD k.toNat 0 > 0) := by
  unfold pairsUpTo
  rw [List.map_map]
  exact List.map_id _
theorem pairs_sorted (xs : List Int) : ((pairsUpTo xs 12).map (·.1)).Pairwise (· < ·) := by rw [pairs_fst]; exact (rng_pw 12).filter _
theorem pairs_nodup (xs : List Int) : ((pairsUpTo xs 12).map (·.1)).Nodup := (pairs_sorted xs).imp fun h => Int.ne_of_lt h
theorem pairs_len (xs : List Int) : (pairsUpTo xs 12).length ≤ 12 := by
  have := congrArg List.length (pairs_fst xs 12)
  rw [List.length_map] at this
  rw [this]; exact filt_len
section
variable {w : World} {mean : ExcName → Option Value} {mg mb : Str → Option Value} {A A₀ : Around} {base : Heap} {outer : List Env} {h₀ : Heap} {L fa : Addr} {cd : Value} {m : Str → Option Value} {s : Shared} {Q : Flow → Shared → Prop} {T c : Addr} {vs : List Value} {cs : List Int} {K : List (Addr × Obj)} {o1 o2 o3 o4 o5 o6 o7 o8 o9 : Obj} {cap : Nat} {tt : Tok} {kk : Int}
theorem seg5 {D1 : Addr} {v1 : List Value} {xs : List Int} (B : Below A₀ base outer h₀) (X : (hd.heap_39 w.params).In h₀) (T0 : Top hd.view_39 (looseW hd.view_39 []) mean mg mb h₀) (hA : A.frames = some (lawEnv L fa cd :: outer)) (R : Room A 10)
   (F : Fr h₀ L s.heap m) (N : News h₀ L s.heap ((L + 1 + 1 + 1 + 1 + 1 + 1 + 1 + 1 + 1, o9) :: (L + 1 + 1 + 1 + 1 + 1 + 1 + 1 + 1, o8) :: (L + 1 + 1 + 1 + 1 + 1 + 1 + 1, o7) :: (L + 1 + 1 + 1 + 1 + 1 + 1, o6) :: (L + 1 + 1 + 1 + 1 + 1, o5) :: (L + 1 + 1 + 1 + 1, o4) :: (L + 1 + 1 + 1, o3) :: (L + 1 + 1, o2) :: (L + 1, o1) :: (T, listOf #[.ref c, .int kk tt] cap) :: K))
   (d2 : o2.data = .cell (some (.ref D1))) (Ta : Tape L T c K vs cs) (hD1 : (D1, lst v1) ∈ K) (iv : IntsAre v1 xs) (lx : xs.length = 12)
   (hQ : ∀ h' tk' X Dd K', Fr h₀ L h' (fun y => if y = Str.ofString "known" then some (.ref X) else m y) → News h₀ L h' ((L + 1 + 1 + 1 + 1 + 1 + 1 + 1 + 1 + 1, o9) :: (L + 1 + 1 + 1 + 1 + 1 + 1 + 1 + 1, o8) :: (L + 1 + 1 + 1 + 1 + 1 + 1 + 1, o7) :: (L + 1 + 1 + 1 + 1 + 1 + 1, o6) :: (L + 1 + 1 + 1 + 1 + 1, o5) :: (L + 1 + 1 + 1 + 1, o4) :: (L + 1 + 1 + 1, o3) :: (L + 1 + 1, o2) :: (L + 1, o1) :: (T, listOf #[.ref c, .int kk tt] cap) :: K') → Tape L T c K' vs cs → (∀ p ∈ K, p ∈ K') → On K' (fun h => HasInst h X 235 [(Str.ofString "classes", .ref Dd)]) → On K' (fun h => IntMap w h Dd (pairsUpTo xs 12)) → wpAny (model PySem.Challenge.rw_nu0163_01.row.prog w) A (execs (lawBody.drop 9) (lawEnv L fa cd)) Q (fun _ _ => False) { s with heap := h', toks := tk' })
   : wpAny (model PySem.Challenge.rw_nu0163_01.row.prog w) A (execs (lawBody.drop 8) (lawEnv L fa cd)) Q (fun _ _ => False) s := by
  have Ta' := Ta
  obtain ⟨off, hi, hc, ct, ia, ne, le⟩ := Ta
  have hl1 : On K (fun h => h.IsList D1 v1.toArray) := fun h hK => ⟨_, hK _ hD1, rfl, _, rfl⟩
  conv in List.drop _ _ => whnf
  w_top on
  walk_at "to_lc"
  walk_at "lc_eval_T"
  walk_at "src_range_T"
  refine turns_T 12 (fun i ys nw => ∃ K1, nw = (L + 1 + 1 + 1 + 1 + 1 + 1 + 1 + 1 + 1, o9) :: (L + 1 + 1 + 1 + 1 + 1 + 1 + 1 + 1, o8) :: (L + 1 + 1 + 1 + 1 + 1 + 1 + 1, o7) :: (L + 1 + 1 + 1 + 1 + 1 + 1, o6) :: (L + 1 + 1 + 1 + 1 + 1, o5) :: (L + 1 + 1 + 1 + 1, o4) :: (L + 1 + 1 + 1, o3) :: (L + 1 + 1, o2) :: (L + 1, o1) :: (T, listOf #[.ref c, .int kk tt] cap) :: K1 ∧ OffK L T K1 ∧ (∀ p ∈ K, p ∈ K1) ∧ PrsK K1 ys (pairsUpTo xs i)) ⟨K, rfl, off, fun _ h => h, ⟨rfl, fun i v e => by simp at e⟩⟩ (fun i ys nw hi12 hJ v I' oI C' oC D' m₂ h tk E' hP hNs hx F2 N2 off3 ne3 => ?_) (fun ys nw hJ => ?_)
  · obtain ⟨K1, rfl, offK, sub, hprs⟩ := hJ
    obtain ⟨t', rfl⟩ := hP
    replace hl1 := hl1.mono sub
    k_steps
    all_goals (walk_at "my_unf")
    · rename (_ < _ ∧ _ < _ ∧ _) => l1
      rename (News _ _ _ _) => N3
      obtain ⟨q1, q2, q3, q4, q5, q6, q7, q8, q9, q10, qK⟩ := off3
      refine ⟨LCg.CompEnd.intro (by k_asm) N3 _ sub_new1 ⟨q1, q2, q3, q4, q5, q6, q7, q8, q9, q10, ⟨Nat.ne_of_gt l1.1, Nat.ne_of_gt l1.2.1, Nat.ne_of_gt l1.2.2.1⟩, qK⟩ trivial ⟨_, rfl, OffK.cons (Nat.ne_of_gt l1.2.2.2.2.2.2.2.2.2.2.2.2.1) (.inr l1.2.2.2.1) offK, fun p hp => .tail _ (sub p hp), ?_⟩⟩
      rw [pairs_yes (by assumption)]
      exact (hprs.mono fun p hp => .tail _ hp).snoc (.head _)
    · exact ⟨LCg.CompEnd.intro (by k_asm) (by k_asm) _ (fun _ h => h) off3 trivial ⟨_, rfl, offK, sub, by rw [pairs_no (by assumption)]; exact hprs⟩⟩
  · obtain ⟨K1, rfl, offK, sub, hprs⟩ := hJ
    intro D h tk F2 N2 o1'
    have q1 := o1'
    simp only [LCg.Off1] at q1
    dsimp only
    repeat' ((fail_if_success (with_reducible show wpAny _ _ (call (Value.type "dict") _) _ _ _)); walk_at "my_step")
    refine dict_pairs_L (D := D) (ys := ys) (qs := pairsUpTo xs 12) F2 N2 (Room.hh (by assumption)) (Top.nolimit (by assumption)) (.head _) (hprs.mono fun p hp => .tail _ (mem10 hp)) (pairs_nodup _) ?_ ?_
    · have := pairs_len xs
      rw [hprs.1]; omega
    intro h3 tk3 Dd oD F3 N3 o3 lo hO
    have q3 := o3
    simp only [LCg.Off1] at q3
    clear N2 F2
    walk_at "to_law"
    walk_at "my_unf"
    rename (News h₀ _ _ _) => N4
    exact hQ _ _ _ Dd (_ :: _ :: (Dd, oD) :: (D, lst ys) :: K1) (by k_asm) (News.sub N4 sub_top4) ⟨OffK.cons (by k_ne) (by dsimp only; omega) (OffK.cons (by k_ne) (by dsimp only; omega) (OffK.cons (by k_ne) (by dsimp only; omega) (OffK.cons (by k_ne) (by dsimp only; omega) offK))), hi, hc.mono fun p hp => .tail _ (.tail _ (.tail _ (.tail _ (sub p hp)))), Ta'.ct, Ta'.ia, Ta'.ne, Ta'.le⟩ (fun p hp => .tail _ (.tail _ (.tail _ (.tail _ (sub p hp))))) (On.inst (.head _) (.tail _ (.head _)) rfl rfl) (hO.map lo (.tail _ (.tail _ (.head _))))
end
section
variable {w : World} {mean : ExcName → Option Value} {mg mb : Str → Option Value} {A A₀ : Around} {base : Heap} {outer : List Env} {h₀ : Heap} {L fa : Addr} {cd : Value} {m : Str → Option Value} {s : Shared} {Q : Flow → Shared → Prop} {T c : Addr} {vs : List Value} {cs : List Int} {K : List (Addr × Obj)} {o1 o2 o3 o4 o5 o6 o7 o8 o9 : Obj} {cap : Nat} {tt : Tok} {kk : Int}
theorem seg6 {D1 : Addr} {v1 : List Value} {xs : List Int} (B : Below A₀ base outer h₀) (X : (hd.heap_39 w.params).In h₀) (T0 : Top hd.view_39 (looseW hd.view_39 []) mean mg mb h₀) (hA : A.frames = some (lawEnv L fa cd :: outer)) (R : Room A 10)
   (F : Fr h₀ L s.heap m) (N : News h₀ L s.heap ((L + 1 + 1 + 1 + 1 + 1 + 1 + 1 + 1 + 1, o9) :: (L + 1 + 1 + 1 + 1 + 1 + 1 + 1 + 1, o8) :: (L + 1 + 1 + 1 + 1 + 1 + 1 + 1, o7) :: (L + 1 + 1 + 1 + 1 + 1 + 1, o6) :: (L + 1 + 1 + 1 + 1 + 1, o5) :: (L + 1 + 1 + 1 + 1, o4) :: (L + 1 + 1 + 1, o3) :: (L + 1 + 1, o2) :: (L + 1, o1) :: (T, listOf #[.ref c, .int kk tt] cap) :: K))
   (d3 : o3.data = .cell (some (.ref D1))) (Ta : Tape L T c K vs cs) (hD1 : (D1, lst v1) ∈ K) (iv : IntsAre v1 xs) (lx : xs.length = 12)
   (hQ : ∀ h' tk' X Dd K', Fr h₀ L h' (fun y => if y = Str.ofString "attach" then some (.ref X) else m y) → News h₀ L h' ((L + 1 + 1 + 1 + 1 + 1 + 1 + 1 + 1 + 1, o9) :: (L + 1 + 1 + 1 + 1 + 1 + 1 + 1 + 1, o8) :: (L + 1 + 1 + 1 + 1 + 1 + 1 + 1, o7) :: (L + 1 + 1 + 1 + 1 + 1 + 1, o6) :: (L + 1 + 1 + 1 + 1 + 1, o5) :: (L + 1 + 1 + 1 + 1, o4) :: (L + 1 + 1 + 1, o3) :: (L + 1 + 1, o2) :: (L + 1, o1) :: (T, listOf #[.ref c, .int kk tt] cap) :: K') → Tape L T c K' vs cs → (∀ p ∈ K, p ∈ K') → On K' (fun h => HasInst h X 235 [(Str.ofString "classes", .ref Dd)]) → On K' (fun h => IntMap w h Dd (pairsUpTo xs 12)) → wpAny (model PySem.Challenge.rw_nu0163_01.row.prog w) A (execs (lawBody.drop 10) (lawEnv L fa cd)) Q (fun _ _ => False) { s with heap := h', toks := tk' })
   : wpAny (model PySem.Challenge.rw_nu0163_01.row.prog w) A (execs (lawBody.drop 9) (lawEnv L fa cd)) Q (fun _ _ => False) s := by
  have Ta' := Ta
  obtain ⟨off, hi, hc, ct, ia, ne, le⟩ := Ta
  have hl1 : On K (fun h => h.IsList D1 v1.toArray) := fun h hK => ⟨_, hK _ hD1, rfl, _, rfl⟩
  conv in List.drop _ _ => whnf
  w_top on
  walk_at "to_lc"
  walk_at "lc_eval_T"
  walk_at "src_range_T"
  refine turns_T 12 (fun i ys nw => ∃ K1, nw = (L + 1 + 1 + 1 + 1 + 1 + 1 + 1 + 1 + 1, o9) :: (L + 1 + 1 + 1 + 1 + 1 + 1 + 1 + 1, o8) :: (L + 1 + 1 + 1 + 1 + 1 + 1 + 1, o7) :: (L + 1 + 1 + 1 + 1 + 1 + 1, o6) :: (L + 1 + 1 + 1 + 1 + 1, o5) :: (L + 1 + 1 + 1 + 1, o4) :: (L + 1 + 1 + 1, o3) :: (L + 1 + 1, o2) :: (L + 1, o1) :: (T, listOf #[.ref c, .int kk tt] cap) :: K1 ∧ OffK L T K1 ∧ (∀ p ∈ K, p ∈ K1) ∧ PrsK K1 ys (pairsUpTo xs i)) ⟨K, rfl, off, fun _ h => h, ⟨rfl, fun i v e => by simp at e⟩⟩ (fun i ys nw hi12 hJ v I' oI C' oC D' m₂ h tk E' hP hNs hx F2 N2 off3 ne3 => ?_) (fun ys nw hJ => ?_)
  · obtain ⟨K1, rfl, offK, sub, hprs⟩ := hJ
    obtain ⟨t', rfl⟩ := hP
    replace hl1 := hl1.mono sub
    k_steps
    all_goals (walk_at "my_unf")
    · rename (_ < _ ∧ _ < _ ∧ _) => l1
      rename (News _ _ _ _) => N3
      obtain ⟨q1, q2, q3, q4, q5, q6, q7, q8, q9, q10, qK⟩ := off3
      refine ⟨LCg.CompEnd.intro (by k_asm) N3 _ sub_new1 ⟨q1, q2, q3, q4, q5, q6, q7, q8, q9, q10, ⟨Nat.ne_of_gt l1.1, Nat.ne_of_gt l1.2.1, Nat.ne_of_gt l1.2.2.1⟩, qK⟩ trivial ⟨_, rfl, OffK.cons (Nat.ne_of_gt l1.2.2.2.2.2.2.2.2.2.2.2.2.1) (.inr l1.2.2.2.1) offK, fun p hp => .tail _ (sub p hp), ?_⟩⟩
      rw [pairs_yes (by assumption)]
      exact (hprs.mono fun p hp => .tail _ hp).snoc (.head _)
    · exact ⟨LCg.CompEnd.intro (by k_asm) (by k_asm) _ (fun _ h => h) off3 trivial ⟨_, rfl, offK, sub, by rw [pairs_no (by assumption)]; exact hprs⟩⟩
  · obtain ⟨K1, rfl, offK, sub, hprs⟩ := hJ
    intro D h tk F2 N2 o1'
    have q1 := o1'
    simp only [LCg.Off1] at q1
    dsimp only
    repeat' ((fail_if_success (with_reducible show wpAny _ _ (call (Value.type "dict") _) _ _ _)); walk_at "my_step")
    refine dict_pairs_L (D := D) (ys := ys) (qs := pairsUpTo xs 12) F2 N2 (Room.hh (by assumption)) (Top.nolimit (by assumption)) (.head _) (hprs.mono fun p hp => .tail _ (mem10 hp)) (pairs_nodup _) ?_ ?_
    · have := pairs_len xs
      rw [hprs.1]; omega
    intro h3 tk3 Dd oD F3 N3 o3 lo hO
    have q3 := o3
    simp only [LCg.Off1] at q3
    clear N2 F2
    walk_at "to_law"
    walk_at "my_unf"
    rename (News h₀ _ _ _) => N4
    exact hQ _ _ _ Dd (_ :: _ :: (Dd, oD) :: (D, lst ys) :: K1) (by k_asm) (News.sub N4 sub_top4) ⟨OffK.cons (by k_ne) (by dsimp only; omega) (OffK.cons (by k_ne) (by dsimp only; omega) (OffK.cons (by k_ne) (by dsimp only; omega) (OffK.cons (by k_ne) (by dsimp only; omega) offK))), hi, hc.mono fun p hp => .tail _ (.tail _ (.tail _ (.tail _ (sub p hp)))), Ta'.ct, Ta'.ia, Ta'.ne, Ta'.le⟩ (fun p hp => .tail _ (.tail _ (.tail _ (.tail _ (sub p hp))))) (On.inst (.head _) (.tail _ (.head _)) rfl rfl) (hO.map lo (.tail _ (.tail _ (.head _))))
end


set_option maxHeartbeats 2500000
local macro_rules | `(tactic| walk_at "call type:tuple") => `(tactic| (k_here; (with_reducible show wpAny _ _ (call (Value.type _) [Value.ref _]) _ _ _); k_dflt (refine kde_tupleOf (zs := _) (by k_asm) (by k_asm) (by exact News.isList (by k_asm) (by walk_at "my_tail")) (by (rw [List.size_toArray]; omega)) (by exact rfl) ?_; k_whole); intro D' h' F' N' l1; (try k_lt l1); (try k_sweep)))
theorem sub_new3 {i c d e1 e2 e3 e4 e5 e6 e7 e8 e9 e10 x y z : Addr × Obj} {K : List (Addr × Obj)} : ∀ p ∈ i :: c :: d :: e1 :: e2 :: e3 :: e4 :: e5 :: e6 :: e7 :: e8 :: e9 :: e10 :: x :: y :: z :: K, p ∈ x :: y :: z :: i :: c :: d :: e1 :: e2 :: e3 :: e4 :: e5 :: e6 :: e7 :: e8 :: e9 :: e10 :: K := by walk_at "my_sub"
theorem sub_top5 {e1 e2 e3 e4 e5 e6 e7 e8 e9 e10 x y z u v : Addr × Obj} {K : List (Addr × Obj)} : ∀ p ∈ e1 :: e2 :: e3 :: e4 :: e5 :: e6 :: e7 :: e8 :: e9 :: e10 :: x :: y :: z :: u :: v :: K, p ∈ x :: y :: z :: u :: v :: e1 :: e2 :: e3 :: e4 :: e5 :: e6 :: e7 :: e8 :: e9 :: e10 :: K := by walk_at "my_sub"
theorem Has.tail5 {x y z u v : Addr × Obj} {K : List (Addr × Obj)} {h : Heap} (H : Has (x :: y :: z :: u :: v :: K) h) : Has K h := fun p hp => H p (.tail _ (.tail _ (.tail _ (.tail _ (.tail _ hp)))))
def CovK (K : List (Addr × Obj)) (ys : List Value) (xss : List (List Int)) : Prop := ys.length = xss.length ∧ ∀ (i : Nat) (v : Value), ys[i]? = some v → ∃ (x : Addr) (xs : List Int), v = .ref x ∧ xss[i]? = some xs ∧ On K (fun h => IsCov h x xs)
theorem CovK.mono {K K' : List (Addr × Obj)} {ys : List Value} {xss : List (List Int)} (x : CovK K ys xss) (s : ∀ p ∈ K, p ∈ K') : CovK K' ys xss := ⟨x.1, fun i v e => let ⟨a, q, e1, e2, e3⟩ := x.2 i v e; ⟨a, q, e1, e2, e3.mono s⟩⟩
theorem CovK.snoc {K : List (Addr × Obj)} {ys : List Value} {xss : List (List Int)} {a : Addr} {q : List Int} (x : CovK K ys xss) (ht : On K (fun h => IsCov h a q)) : CovK K (ys ++ [.ref a]) (xss ++ [q]) := by
  refine ⟨by simp [x.1], fun i v e => ?_⟩
  rw [List.getElem?_append] at e
  split at e
  · obtain ⟨a', q', e1, e2, e3⟩ := x.2 i v e
    have hi : i < xss.length := by rw [← x.1]; assumption
    exact ⟨a', q', e1, by rw [List.getElem?_append_left hi]; exact e2, e3⟩
  · have hi : i - ys.length = 0 := by
      cases hq : i - ys.length with
      | zero => rfl
      | succ n => rw [hq] at e; simp at e
    rw [hi] at e
    simp only [List.getElem?_cons_zero, Option.some.injEq] at e
    have hi2 : i = xss.length := by rw [← x.1]; omega
    exact ⟨a, q, e.symm, by rw [hi2]; simp, ht⟩
theorem CovK.sets {K : List (Addr × Obj)} {ys : List Value} {xss : List (List Int)} {D : Addr} {h : Heap} (hD : h.get? D = some (lst ys)) (few : xss.length ≤ 3) (at_ : ∀ (i : Nat) (v : Value), ys[i]? = some v → ∃ (x : Addr) (xs : List Int), v = .ref x ∧ xss[i]? = some xs ∧ On K (fun h => IsCov h x xs)) (len : ys.length = xss.length) (hK : Has K h) : IsSets h D xss :=
  ⟨ys, ⟨_, hD, rfl, _, rfl⟩, len, by omega, fun i v e => let ⟨x, xs, e1, e2, e3⟩ := at_ i v e; ⟨x, xs, e1, e2, e3 h hK⟩⟩
section
variable {w : World} {mean : ExcName → Option Value} {mg mb : Str → Option Value} {A A₀ : Around} {base : Heap} {outer : List Env} {h₀ : Heap} {L fa : Addr} {cd : Value} {m : Str → Option Value} {s : Shared} {Q : Flow → Shared → Prop} {T c : Addr} {vs : List Value} {cs : List Int} {K : List (Addr × Obj)} {o1 o2 o3 o4 o5 o6 o7 o8 o9 : Obj} {cap : Nat} {tt : Tok} {kk : Int}
theorem seg7 {X1 X2 E1 E2 S : Addr} {refs : List Value} {xss : List (List Int)} {ps qs : List (Int × Int)} {capS : Nat} (B : Below A₀ base outer h₀) (X : (hd.heap_39 w.params).In h₀) (T0 : Top hd.view_39 (looseW hd.view_39 []) mean mg mb h₀) (hA : A.frames = some (lawEnv L fa cd :: outer)) (R : Room A 10)
   (F : Fr h₀ L s.heap m) (N : News h₀ L s.heap ((L + 1 + 1 + 1 + 1 + 1 + 1 + 1 + 1 + 1, o9) :: (L + 1 + 1 + 1 + 1 + 1 + 1 + 1 + 1, o8) :: (L + 1 + 1 + 1 + 1 + 1 + 1 + 1, o7) :: (L + 1 + 1 + 1 + 1 + 1 + 1, o6) :: (L + 1 + 1 + 1 + 1 + 1, o5) :: (L + 1 + 1 + 1 + 1, o4) :: (L + 1 + 1 + 1, o3) :: (L + 1 + 1, o2) :: (L + 1, o1) :: (T, listOf #[.ref c, .int kk tt] cap) :: K)) (Ta : Tape L T c K vs cs)
   (m1 : m (Str.ofString "known") = some (.ref X1)) (m2 : m (Str.ofString "attach") = some (.ref X2)) (m3 : m (Str.ofString "sets") = some (.ref S))
   (hX1 : On K (fun h => HasInst h X1 235 [(Str.ofString "classes", .ref E1)])) (hM1 : On K (fun h => IntMap w h E1 ps)) (hX2 : On K (fun h => HasInst h X2 235 [(Str.ofString "classes", .ref E2)])) (hM2 : On K (fun h => IntMap w h E2 qs))
   (hSm : (S, listOf (List.toArray refs) capS) ∈ K) (hS : SetsK K refs xss)
   (hQ : ∀ h' tk' G K', Fr h₀ L h' (fun y => if y = Str.ofString "gdef" then some (.ref G) else m y) → News h₀ L h' ((L + 1 + 1 + 1 + 1 + 1 + 1 + 1 + 1 + 1, o9) :: (L + 1 + 1 + 1 + 1 + 1 + 1 + 1 + 1, o8) :: (L + 1 + 1 + 1 + 1 + 1 + 1 + 1, o7) :: (L + 1 + 1 + 1 + 1 + 1 + 1, o6) :: (L + 1 + 1 + 1 + 1 + 1, o5) :: (L + 1 + 1 + 1 + 1, o4) :: (L + 1 + 1 + 1, o3) :: (L + 1 + 1, o2) :: (L + 1, o1) :: (T, listOf #[.ref c, .int kk tt] cap) :: K') → Tape L T c K' vs cs → (∀ p ∈ K, p ∈ K') → On K' (fun h => IsGdef w h G ps qs xss) → wpAny (model PySem.Challenge.rw_nu0163_01.row.prog w) A (execs (lawBody.drop 11) (lawEnv L fa cd)) Q (fun _ _ => False) { s with heap := h', toks := tk' })
   : wpAny (model PySem.Challenge.rw_nu0163_01.row.prog w) A (execs (lawBody.drop 10) (lawEnv L fa cd)) Q (fun _ _ => False) s := by
  have Ta' := Ta
  obtain ⟨off, hi, hc, ct, ia, ne, le⟩ := Ta
  conv in List.drop _ _ => whnf
  w_top on
  walk_at "to_lc"
  walk_at "lc_eval_U"
  refine .inl ⟨S, (List.toArray refs), _, rfl, Room.hh (by assumption), by k_asm, by k_asm, .inr ⟨_, mem10 hSm, rfl, _, rfl⟩, by have := hS.len; have := hS.few; rw [List.size_toArray, sizeLine_eq]; omega, fun s₂ hs₂ => ?_⟩
  obtain ⟨g, rfl⟩ := hs₂
  refine turns_U _ (fun i ys nw => ∃ K1, nw = (L + 1 + 1 + 1 + 1 + 1 + 1 + 1 + 1 + 1, o9) :: (L + 1 + 1 + 1 + 1 + 1 + 1 + 1 + 1, o8) :: (L + 1 + 1 + 1 + 1 + 1 + 1 + 1, o7) :: (L + 1 + 1 + 1 + 1 + 1 + 1, o6) :: (L + 1 + 1 + 1 + 1 + 1, o5) :: (L + 1 + 1 + 1 + 1, o4) :: (L + 1 + 1 + 1, o3) :: (L + 1 + 1, o2) :: (L + 1, o1) :: (T, listOf #[.ref c, .int kk tt] cap) :: K1 ∧ OffK L T K1 ∧ (∀ p ∈ K, p ∈ K1) ∧ CovK K1 ys (xss.take i)) ⟨K, rfl, off, fun _ h => h, ⟨rfl, fun i v e => by simp at e⟩⟩ (fun i ys nw hi12 hJ v I' oI C' oC D' m₂ h tk E' hP hNs hx F2 N2 off3 ne3 => ?_) (fun ys nw hJ => ?_)
  · obtain ⟨K1, rfl, offK, sub, hcov⟩ := hJ
    obtain ⟨x1, xs, ys1, rfl, hxs, hx1, iy, ly, py⟩ := hS.at_ i v (by simpa using hP)
    have hx2 := sub _ hx1
    clear hx1
    have hyl : ys1.length ≤ 12 := by rw [iy.length]; exact ly
    k_steps
    all_goals (walk_at "my_unf")
    rename (News h₀ _ _ _) => N3
    obtain ⟨q1, q2, q3, q4, q5, q6, q7, q8, q9, q10, qK⟩ := off3
    refine ⟨LCg.CompEnd.intro (by k_asm) N3 _ sub_new3 ⟨q1, q2, q3, q4, q5, q6, q7, q8, q9, q10, ⟨by k_ne, by k_ne, by k_ne⟩, ⟨by k_ne, by k_ne, by k_ne⟩, ⟨by k_ne, by k_ne, by k_ne⟩, qK⟩ (.inr ⟨_, mem10 (.tail _ (.tail _ (.tail _ (sub _ hSm)))), rfl, _, rfl⟩) ⟨_, rfl, OffK.cons (by k_ne) (by dsimp only; omega) (OffK.cons (by k_ne) (by dsimp only; omega) (OffK.cons (by k_ne) (by dsimp only; omega) offK)), fun p hp => .tail _ (.tail _ (.tail _ (sub p hp))), ?_⟩⟩
    rw [List.take_add_one, hxs]
    refine (hcov.mono fun p hp => .tail _ (.tail _ (.tail _ hp))).snoc fun h hK => ⟨_, ys1, On.inst (.head _) (.tail _ (.head _)) rfl rfl h hK, ⟨_, hK _ (.tail _ (.tail _ (.head _))), rfl, _, rfl⟩, iy, by omega, py⟩
  · obtain ⟨K1, rfl, offK, sub, hcov⟩ := hJ
    rw [List.size_toArray, hS.len, List.take_length] at hcov
    intro D h tk F2 N2 o1'
    have q1 := o1'
    simp only [LCg.Off1] at q1
    dsimp only
    walk_at "to_law"
    walk_at "my_unf"
    rename (News h₀ _ _ _) => N4
    exact hQ _ _ _ (_ :: _ :: _ :: _ :: (D, lst ys) :: K1) (by k_asm) (News.sub N4 sub_top5) ⟨OffK.cons (by k_ne) (by dsimp only; omega) (OffK.cons (by k_ne) (by dsimp only; omega) (OffK.cons (by k_ne) (by dsimp only; omega) (OffK.cons (by k_ne) (by dsimp only; omega) (OffK.cons (by k_ne) (by dsimp only; omega) offK)))), hi, hc.mono fun p hp => .tail _ (.tail _ (.tail _ (.tail _ (.tail _ (sub p hp))))), Ta'.ct, Ta'.ia, Ta'.ne, Ta'.le⟩ (fun p hp => .tail _ (.tail _ (.tail _ (.tail _ (.tail _ (sub p hp))))))
      (fun h hK => ⟨X1, X2, D, _, _, E1, E2, On.inst (.tail _ (.tail _ (.head _))) (.tail _ (.tail _ (.tail _ (.head _)))) rfl rfl h hK, (hX1.mono sub) h hK.tail5, (hM1.mono sub) h hK.tail5, (hX2.mono sub) h hK.tail5, (hM2.mono sub) h hK.tail5, CovK.sets (hK _ (.tail _ (.tail _ (.tail _ (.tail _ (.head _)))))) hS.few (hcov.2) hcov.1 hK.tail5⟩)
end


set_option maxHeartbeats 2500000
theorem SetsK.lists {K : List (Addr × Obj)} {refs : List Value} {xss : List (List Int)} {S : Addr} {capS : Nat} (x : SetsK K refs xss) (hm : (S, listOf (List.toArray refs) capS) ∈ K) : On K (fun h => IsLists h S xss) := fun h hK =>
  ⟨refs, ⟨_, hK _ hm, rfl, _, rfl⟩, x.len, by have := x.few; omega, fun i v e => let ⟨a, xs, ys, e1, e2, e3, e4, _⟩ := x.at_ i v e; ⟨a, xs, ys, e1, e2, ⟨_, hK _ e3, rfl, _, rfl⟩, e4⟩⟩
theorem add_new {h₀ h h' : Heap} {L D : Addr} {m : Str → Option Value} {news : List (Addr × Obj)} {o : Obj} (F : Fr h₀ L h m) (N : News h₀ L h news) (k : Keep h h') (e : h'.get? D = some o) (e0 : h.get? D = none) : News h₀ L h' ((D, o) :: news) ∧ Off1 D news ∧ @Ne Nat D L := by
  have hDL : @Ne Nat D L := fun q => by
    obtain ⟨oL, _, _, hL, _⟩ := F.ns
    rw [show D = L from q, hL] at e0; cases e0
  refine ⟨fun p hp => ?_, off1_of fun p hp q => ?_, hDL⟩
  · rcases List.mem_cons.mp hp with rfl | hp
    · exact ⟨e, hDL, fresh_of' F.keep e0⟩
    · exact ⟨k _ _ (N p hp).1, (N p hp).2⟩
  · have z := (N p hp).1
    rw [q, e0] at z; cases z
theorem On.look {K : List (Addr × Obj)} {x dx T : Addr} {kind : Str} {flag ms : Int} {es : List DictEntry} {n : Nat} {t1 t2 t3 : Tok} (h1 : (x, instObj 43 dx) ∈ K) (h2 : (dx, dictOf es n) ∈ K)
    (hk : (es.all fun e => match e.key with | .str _ _ => true | _ => false) = true) (ha : attrsOf es = lookA kind t1 flag t2 ms t3 T) : On K (fun h => IsLook h x kind flag ms T) := fun h hK => ⟨t1, t2, t3, On.inst h1 h2 hk ha h hK⟩
theorem On.noTabs {K : List (Addr × Obj)} {w : World} {T : Addr} {n : Nat} (h1 : (T, listOf #[] n) ∈ K) : On K (fun h => IsTabs w h T []) := fun h hK => ⟨[], ⟨_, hK _ h1, rfl, _, rfl⟩, rfl, by decide, fun i v e => by simp at e⟩
theorem sub_top1' {e1 e2 e3 e4 e5 e6 e7 e8 e9 e10 x : Addr × Obj} {K : List (Addr × Obj)} : ∀ p ∈ e1 :: e2 :: e3 :: e4 :: e5 :: e6 :: e7 :: e8 :: e9 :: e10 :: x :: K, p ∈ x :: e1 :: e2 :: e3 :: e4 :: e5 :: e6 :: e7 :: e8 :: e9 :: e10 :: K := by walk_at "my_sub"
section
variable {w : World} {mean : ExcName → Option Value} {mg mb : Str → Option Value} {A A₀ : Around} {base : Heap} {outer : List Env} {h₀ : Heap} {L fa : Addr} {cd : Value} {m : Str → Option Value} {s : Shared} {Q : Flow → Shared → Prop} {T c : Addr} {vs : List Value} {cs : List Int} {K : List (Addr × Obj)} {o1 o2 o3 o4 o5 o6 o7 o8 o9 : Obj} {cap : Nat} {tt : Tok} {kk : Int}
theorem seg8 {flag num : Int} {t1 t2 : Tok} (B : Below A₀ base outer h₀) (X : (hd.heap_39 w.params).In h₀) (T0 : Top hd.view_39 (looseW hd.view_39 []) mean mg mb h₀) (hA : A.frames = some (lawEnv L fa cd :: outer)) (R : Room A 10)
   (F : Fr h₀ L s.heap m) (N : News h₀ L s.heap ((L + 1 + 1 + 1 + 1 + 1 + 1 + 1 + 1 + 1, o9) :: (L + 1 + 1 + 1 + 1 + 1 + 1 + 1 + 1, o8) :: (L + 1 + 1 + 1 + 1 + 1 + 1 + 1, o7) :: (L + 1 + 1 + 1 + 1 + 1 + 1, o6) :: (L + 1 + 1 + 1 + 1 + 1, o5) :: (L + 1 + 1 + 1 + 1, o4) :: (L + 1 + 1 + 1, o3) :: (L + 1 + 1, o2) :: (L + 1, o1) :: (T, listOf #[.ref c, .int kk tt] cap) :: K)) (Ta : Tape L T c K vs cs)
   (m1 : m (Str.ofString "flag") = some (.int flag t1)) (m2 : m (Str.ofString "number") = some (.int num t2))
   (hQ : ∀ h' tk' l Tb K', Fr h₀ L h' (fun y => if y = Str.ofString "lookup" then some (.ref l) else m y) → News h₀ L h' ((L + 1 + 1 + 1 + 1 + 1 + 1 + 1 + 1 + 1, o9) :: (L + 1 + 1 + 1 + 1 + 1 + 1 + 1 + 1, o8) :: (L + 1 + 1 + 1 + 1 + 1 + 1 + 1, o7) :: (L + 1 + 1 + 1 + 1 + 1 + 1, o6) :: (L + 1 + 1 + 1 + 1 + 1, o5) :: (L + 1 + 1 + 1 + 1, o4) :: (L + 1 + 1 + 1, o3) :: (L + 1 + 1, o2) :: (L + 1, o1) :: (T, listOf #[.ref c, .int kk tt] cap) :: K') → Tape L T c K' vs cs → (∀ p ∈ K, p ∈ K') → On K' (fun h => IsLook h l (Str.ofString "single") flag num Tb) → On K' (fun h => IsTabs w h Tb []) → wpAny (model PySem.Challenge.rw_nu0163_01.row.prog w) A (execs (lawBody.drop 12) (lawEnv L fa cd)) Q (fun _ _ => False) { s with heap := h', toks := tk' })
   : wpAny (model PySem.Challenge.rw_nu0163_01.row.prog w) A (execs (lawBody.drop 11) (lawEnv L fa cd)) Q (fun _ _ => False) s := by
  have Ta' := Ta
  obtain ⟨off, hi, hc, ct, ia, ne, le⟩ := Ta
  conv in List.drop _ _ => whnf
  w_top on
  walk_at "open_stmt"
  walk_at "to_law"
  walk_at "my_unf"
  rename (News h₀ _ _ _) => N4
  exact hQ _ _ _ _ (_ :: _ :: (_, listOf #[] _) :: K) (by k_asm) (News.sub N4 sub_top3) ⟨OffK.cons (by k_ne) (by dsimp only; omega) (OffK.cons (by k_ne) (by dsimp only; omega) (OffK.cons (by k_ne) (by dsimp only; omega) off)), hi, hc.mono fun p hp => .tail _ (.tail _ (.tail _ hp)), Ta'.ct, Ta'.ia, Ta'.ne, Ta'.le⟩ (fun p hp => .tail _ (.tail _ (.tail _ hp)))
     (On.look (.head _) (.tail _ (.head _)) rfl rfl) (On.noTabs (.tail _ (.tail _ (.head _))))
theorem seg9 {D1 D2 S : Addr} {v1 v2 : List Value} {c1 c2 : List Int} {xss : List (List Int)} {flag num : Int} {t1 t2 : Tok} (B : Below A₀ base outer h₀) (X : (hd.heap_39 w.params).In h₀) (T0 : Top hd.view_39 (looseW hd.view_39 []) mean mg mb h₀) (hA : A.frames = some (lawEnv L fa cd :: outer)) (R : Room A 10)
   (F : Fr h₀ L s.heap m) (N : News h₀ L s.heap ((L + 1 + 1 + 1 + 1 + 1 + 1 + 1 + 1 + 1, o9) :: (L + 1 + 1 + 1 + 1 + 1 + 1 + 1 + 1, o8) :: (L + 1 + 1 + 1 + 1 + 1 + 1 + 1, o7) :: (L + 1 + 1 + 1 + 1 + 1 + 1, o6) :: (L + 1 + 1 + 1 + 1 + 1, o5) :: (L + 1 + 1 + 1 + 1, o4) :: (L + 1 + 1 + 1, o3) :: (L + 1 + 1, o2) :: (L + 1, o1) :: (T, listOf #[.ref c, .int kk tt] cap) :: K)) (Ta : Tape L T c K vs cs)
   (d2 : o2.data = .cell (some (.ref D1))) (d3 : o3.data = .cell (some (.ref D2)))
   (m1 : m (Str.ofString "flag") = some (.int flag t1)) (m2 : m (Str.ofString "number") = some (.int num t2)) (m3 : m (Str.ofString "sets") = some (.ref S))
   (hl1 : On K (fun h => h.IsList D1 v1.toArray)) (hl2 : On K (fun h => h.IsList D2 v2.toArray)) (i1 : IntsAre v1 c1) (i2 : IntsAre v2 c2) (z1 : c1.length = 12) (z2 : c2.length = 12) (hS : On K (fun h => IsLists h S xss)) (n0 : 0 ≤ num)
   (hQ : ∀ h' tk' D vD K', Fr h₀ L h' (fun y => if y = Str.ofString "due" then some (.ref D) else m y) → News h₀ L h' ((L + 1 + 1 + 1 + 1 + 1 + 1 + 1 + 1 + 1, o9) :: (L + 1 + 1 + 1 + 1 + 1 + 1 + 1 + 1, o8) :: (L + 1 + 1 + 1 + 1 + 1 + 1 + 1, o7) :: (L + 1 + 1 + 1 + 1 + 1 + 1, o6) :: (L + 1 + 1 + 1 + 1 + 1, o5) :: (L + 1 + 1 + 1 + 1, o4) :: (L + 1 + 1 + 1, o3) :: (L + 1 + 1, o2) :: (L + 1, o1) :: (T, listOf #[.ref c, .int kk tt] cap) :: K') → Tape L T c K' vs cs → (∀ p ∈ K, p ∈ K') → On K' (fun h => h.IsList D (List.toArray vD)) → IntsAre vD (dueOf c1 c2 xss flag num) → wpAny (model PySem.Challenge.rw_nu0163_01.row.prog w) A (execs (lawBody.drop 13) (lawEnv L fa cd)) Q (fun _ _ => False) { s with heap := h', toks := tk' })
   : wpAny (model PySem.Challenge.rw_nu0163_01.row.prog w) A (execs (lawBody.drop 12) (lawEnv L fa cd)) Q (fun _ _ => False) s := by
  have Ta' := Ta
  obtain ⟨off, hi, hc, ct, ia, ne, le⟩ := Ta
  conv in List.drop _ _ => whnf
  w_top on
  walk_at "open_stmt"
  repeat' ((fail_if_success (with_reducible show wpAny _ _ (call (Value.ref 341) _) _ _ _)); walk_at "my_step")
  refine law_ignored_spec (mean := mean) (mg := mg) (mb := mb) (A₀ := A₀) (base := base) (outer := outer) (h₀ := h₀) (L := L) (m := m) (env := lawEnv L fa cd) (n := 10) (by walk_at "my_cx") (by decide) (hl1 _ (by walk_at "my_has")) i1 z1 (hl2 _ (by walk_at "my_has")) i2 z2 (hS _ (by walk_at "my_has")) n0 fun h' tk' D vD k' iD jD eD => ?_
  obtain ⟨oD, gD, cD, nD, dD⟩ := iD
  have F5 : Fr h₀ L h' m := Fr.keeps F k'
  obtain ⟨N5, q1, hDL⟩ := add_new F N k' gD eD
  have q2 := q1
  simp only [LCg.Off1] at q2
  clear F N
  walk_at "to_law"
  walk_at "my_unf"
  rename (News h₀ _ _ _) => N6
  exact hQ _ _ D vD ((D, oD) :: K) (by k_asm) (News.sub N6 sub_top1') ⟨OffK.cons (by k_ne) (by dsimp only; omega) off, hi, hc.mono fun p hp => .tail _ hp, Ta'.ct, Ta'.ia, Ta'.ne, Ta'.le⟩ (fun p hp => .tail _ hp) (fun h hK => ⟨oD, hK _ (.head _), cD, nD, dD⟩) jD
end


set_option maxHeartbeats 2500000
theorem On.gdef {w : World} {K : List (Addr × Obj)} {x : Addr} {ps qs : List (Int × Int)} {xss : List (List Int)} {h : Heap} (y : On K fun h => IsGdef w h x ps qs xss) (hK : Has K h) : IsGdef w h x ps qs xss := y h hK
theorem On.lookAt {K : List (Addr × Obj)} {x T : Addr} {kind : Str} {flag ms : Int} {h : Heap} (y : On K fun h => IsLook h x kind flag ms T) (hK : Has K h) : IsLook h x kind flag ms T := y h hK
theorem in_ints_On {w : World} {A : Around} {E : Value → Shared → Prop} {s : Shared} {D : Addr} {vs : List Value} {xs : List Int} {k : Int} {t : Tok} {Q : Value → Shared → Prop} (hl : s.heap.IsList D vs.toArray) (hi : IntsAre vs xs) (h : Q (.bool (decide (k ∈ xs))) s) :
   wpAny (model PySem.Challenge.rw_nu0163_01.row.prog w) A (compareOp .In (.int k t) (.ref D)) Q E s := by
  refine in_list_ints hl hi ?_
  have e : xs.any (· == k) = decide (k ∈ xs) := by rw [Bool.eq_iff_iff]; simp
  rw [e]; exact h
theorem notin_ints_On {w : World} {A : Around} {E : Value → Shared → Prop} {s : Shared} {D : Addr} {vs : List Value} {xs : List Int} {k : Int} {t : Tok} {Q : Value → Shared → Prop} (hl : s.heap.IsList D vs.toArray) (hi : IntsAre vs xs) (h : Q (.bool (!decide (k ∈ xs))) s) :
   wpAny (model PySem.Challenge.rw_nu0163_01.row.prog w) A (compareOp .NotIn (.int k t) (.ref D)) Q E s := by
  refine notin_list_ints hl hi ?_
  have e : xs.any (· == k) = decide (k ∈ xs) := by rw [Bool.eq_iff_iff]; simp
  rw [e]; exact h
local macro_rules | `(tactic| walk_at "compareOp In int ref") => `(tactic| (k_here; k_dflt (refine in_ints_On (by exact On.list (by with_reducible assumption) (by walk_at "my_has")) (by with_reducible assumption) ?_; k_whole)))
local macro_rules | `(tactic| walk_at "compareOp NotIn") => `(tactic| (k_here; (with_reducible show wpAny _ _ (compareOp _ (Value.int _ _) (Value.ref _)) _ _ _); k_dflt (refine notin_ints_On (by exact On.list (by with_reducible assumption) (by walk_at "my_has")) (by with_reducible assumption) ?_; k_whole)))
local macro_rules | `(tactic| walk_at "call ref") => `(tactic| (k_here; (with_reducible show wpAny _ _ (call (Value.ref 90) _) _ _ _); k_dflt (refine is_ignored_spec (by walk_at "my_cx") (by omega) (by exact On.gdef (by with_reducible assumption) (by walk_at "my_has")) (by exact On.lookAt (by with_reducible assumption) (by walk_at "my_has")) ?_; k_whole; intro h' tk' k'; (have F' := Fr.keeps (by k_asm) k'); (have N' := News.grown (by k_asm) k'))))
section
variable {w : World} {mean : ExcName → Option Value} {mg mb : Str → Option Value} {A A₀ : Around} {base : Heap} {outer : List Env} {h₀ : Heap} {L fa : Addr} {cd : Value} {m : Str → Option Value} {s : Shared} {Q : Flow → Shared → Prop} {T c : Addr} {vs : List Value} {cs : List Int} {K : List (Addr × Obj)} {o1 o2 o3 o4 o5 o6 o7 o8 o9 : Obj} {cap : Nat} {tt : Tok} {kk : Int}
theorem seg10 {G l Tb D : Addr} {ps qs : List (Int × Int)} {xss : List (List Int)} {kind : Str} {flag num : Int} {vD : List Value} {due : List Int} (B : Below A₀ base outer h₀) (X : (hd.heap_39 w.params).In h₀) (T0 : Top hd.view_39 (looseW hd.view_39 []) mean mg mb h₀) (hA : A.frames = some (lawEnv L fa cd :: outer)) (R : Room A 10)
   (F : Fr h₀ L s.heap m) (N : News h₀ L s.heap ((L + 1 + 1 + 1 + 1 + 1 + 1 + 1 + 1 + 1, o9) :: (L + 1 + 1 + 1 + 1 + 1 + 1 + 1 + 1, o8) :: (L + 1 + 1 + 1 + 1 + 1 + 1 + 1, o7) :: (L + 1 + 1 + 1 + 1 + 1 + 1, o6) :: (L + 1 + 1 + 1 + 1 + 1, o5) :: (L + 1 + 1 + 1 + 1, o4) :: (L + 1 + 1 + 1, o3) :: (L + 1 + 1, o2) :: (L + 1, o1) :: (T, listOf #[.ref c, .int kk tt] cap) :: K))
   (m1 : m (Str.ofString "gdef") = some (.ref G)) (m2 : m (Str.ofString "lookup") = some (.ref l)) (m3 : m (Str.ofString "due") = some (.ref D))
   (hG : On K (fun h => IsGdef w h G ps qs xss)) (hl : On K (fun h => IsLook h l kind flag num Tb)) (hD : On K (fun h => h.IsList D (List.toArray vD))) (iD : IntsAre vD due)
   (hEq : ∀ g, 0 ≤ g → g < 12 → ign ps qs xss flag num g = decide (g ∈ due))
   (hQ : ∀ h' tk' m', Fr h₀ L h' m' → News h₀ L h' ((L + 1 + 1 + 1 + 1 + 1 + 1 + 1 + 1 + 1, o9) :: (L + 1 + 1 + 1 + 1 + 1 + 1 + 1 + 1, o8) :: (L + 1 + 1 + 1 + 1 + 1 + 1 + 1, o7) :: (L + 1 + 1 + 1 + 1 + 1 + 1, o6) :: (L + 1 + 1 + 1 + 1 + 1, o5) :: (L + 1 + 1 + 1 + 1, o4) :: (L + 1 + 1 + 1, o3) :: (L + 1 + 1, o2) :: (L + 1, o1) :: (T, listOf #[.ref c, .int kk tt] cap) :: K) → (∀ y, y ≠ Str.ofString "glyph" → m' y = m y) → wpAny (model PySem.Challenge.rw_nu0163_01.row.prog w) A (execs (lawBody.drop 14) (lawEnv L fa cd)) Q (fun _ _ => False) { s with heap := h', toks := tk' })
   : wpAny (model PySem.Challenge.rw_nu0163_01.row.prog w) A (execs (lawBody.drop 13) (lawEnv L fa cd)) Q (fun _ _ => False) s := by
  conv in List.drop _ _ => whnf
  w_top on
  walk_at "open_stmt"
  refine For_invV h₀ rfl rfl ?_ (fun _ => rfl) PySem.PassesOwn.never
  walk_at "to_range"
  rename (Fr h₀ _ _ _) => F2
  rename (News h₀ _ _ _) => N2
  with_unfolding_all refine range1_rows F2 N2 ?_
  intro h3 tk3 w1 w2 w3 hR F3 N3 k3
  clear N2 F2
  refine range_loop (fun i m₁ nw => nw = (L + 1 + 1 + 1 + 1 + 1 + 1 + 1 + 1 + 1, o9) :: (L + 1 + 1 + 1 + 1 + 1 + 1 + 1 + 1, o8) :: (L + 1 + 1 + 1 + 1 + 1 + 1 + 1, o7) :: (L + 1 + 1 + 1 + 1 + 1 + 1, o6) :: (L + 1 + 1 + 1 + 1 + 1, o5) :: (L + 1 + 1 + 1 + 1, o4) :: (L + 1 + 1 + 1, o3) :: (L + 1 + 1, o2) :: (L + 1, o1) :: (T, listOf #[.ref c, .int kk tt] cap) :: K ∧ ∀ y, y ≠ Str.ofString "glyph" → m₁ y = m y) (Room.hh (by assumption)) hR (small_one (by decide) (by decide) (by decide) (by decide)) (small_range (by decide)) F3 N3 ⟨rfl, fun y hy => rfl⟩ ?_ ?_
  · clear N3 F3
    rintro i m₁ news₁ h tk I oI t hin ⟨rfl, hmo⟩ oI' F4 N4
    replace F4 : Fr h₀ L h _ := F4
    replace N4 : News h₀ L h _ := N4
    have hg := hEq (0 + (i : Int)) (by omega) (by have : i < 12 := hin; omega)
    have n1 := (hmo _ (by decide)).trans m1
    have n2 := (hmo _ (by decide)).trans m2
    have n3 := (hmo _ (by decide)).trans m3
    k_steps
    · rename (_ = true) => ha
      rw [hg] at ha
      simp at ha
    · exact TurnE.next (m' := _) (by k_asm) (by k_asm) (fun _ h => h) oI' ⟨rfl, fun y hy => (if_neg hy).trans (hmo y hy)⟩
  · rintro m₁ news₁ h tk ⟨rfl, hmo⟩ F4 N4
    exact hQ _ _ m₁ F4 N4 hmo
end


set_option maxHeartbeats 2500000
/-- an Info: its dict and itself -/
structure Inf where
  d : Addr
  x : Addr
  es : List DictEntry
  n : Nat
def Inf.objs (q : Inf) : List (Addr × Obj) := [(q.d, dictOf q.es q.n), (q.x, instObj 142 q.d)]
structure Inf.Ok (q : Inf) (p : Int × Int) : Prop where
  keys : (q.es.all fun e => match e.key with | .str _ _ => true | _ => false) = true
  len : q.es.length ≤ 100
  g : ∃ t, getL (Str.ofString "glyph") q.es = some (some (.int p.1 t))
  mask : ∃ t, getL (Str.ofString "mask") q.es = some (some (.int p.2 t))
  b : 0 ≤ p.1 ∧ p.1 < 12 ∧ 0 ≤ p.2 ∧ p.2 < 8
abbrev objsOf (infs : List Inf) : List (Addr × Obj) := infs.flatMap Inf.objs
structure InfsAt (L T : Addr) (K : List (Addr × Obj)) (infs : List Inf) : Prop where
  off : OffK L T (objsOf infs)
  asc : (objsOf infs).Pairwise fun a b => @LT.lt Nat _ a.1 b.1
  over : ∀ p ∈ K, ∀ p' ∈ objsOf infs, @LT.lt Nat _ p.1 p'.1
  hi : ∀ p' ∈ objsOf infs, @LT.lt Nat _ T p'.1
def OkRow (infs : List Inf) (gs : List (Int × Int)) : Prop := infs.length = gs.length ∧ ∀ (j : Nat) (q : Inf), infs[j]? = some q → ∃ p, gs[j]? = some p ∧ q.Ok p
theorem OkRow.snoc {infs : List Inf} {gs : List (Int × Int)} {q : Inf} {p : Int × Int} (h : OkRow infs gs) (hq : q.Ok p) : OkRow (infs ++ [q]) (gs ++ [p]) := by
  refine ⟨by simp [h.1], fun i v e => ?_⟩
  rw [List.getElem?_append] at e
  split at e
  · obtain ⟨p', e1, e2⟩ := h.2 i v e
    have hi : i < gs.length := by rw [← h.1]; assumption
    exact ⟨p', by rw [List.getElem?_append_left hi]; exact e1, e2⟩
  · have hi : i - infs.length = 0 := by
      cases hq : i - infs.length with
      | zero => rfl
      | succ n => rw [hq] at e; simp at e
    rw [hi] at e
    simp only [List.getElem?_cons_zero, Option.some.injEq] at e
    have hi2 : i = gs.length := by rw [← h.1]; omega
    exact ⟨p, by rw [hi2]; simp, e ▸ hq⟩
theorem objs_snoc (infs : List Inf) (q : Inf) : objsOf (infs ++ [q]) = objsOf infs ++ q.objs := by simp [objsOf]
theorem InfsAt.snoc {L T : Addr} {K : List (Addr × Obj)} {infs : List Inf} {q : Inf} (h : InfsAt L T K infs) (h1 : AllLt q.d (objsOf infs ++ K)) (h2 : @LT.lt Nat _ q.d q.x) (h3 : @LT.lt Nat _ T q.d) (h4 : @LT.lt Nat _ (L + 1 + 1 + 1 + 1 + 1 + 1 + 1 + 1 + 1) q.d) : InfsAt L T K (infs ++ [q]) := by
  have hd := AllLt.at h1
  have ho : ∀ p ∈ q.objs, p.1 = q.d ∨ p.1 = q.x := fun p hp => by
    simp only [Inf.objs, List.mem_cons, List.not_mem_nil, or_false] at hp
    rcases hp with rfl | rfl <;> simp
  have hge : ∀ p ∈ q.objs, @LE.le Nat _ q.d p.1 := fun p hp => by
    rcases ho p hp with e | e <;> rw [e]
    · exact Nat.le_refl _
    · exact Nat.le_of_lt h2
  refine ⟨?_, ?_, ?_, ?_⟩ <;> rw [objs_snoc]
  · exact h.off.app fun p hp => ⟨Nat.ne_of_gt (Nat.lt_of_lt_of_le h3 (hge p hp)), .inr (Nat.lt_of_lt_of_le h4 (hge p hp))⟩
  · refine List.pairwise_append.mpr ⟨h.asc, ?_, fun a ha b hb => Nat.lt_of_lt_of_le (hd a (List.mem_append_left _ ha)) (hge b hb)⟩
    exact List.pairwise_cons.mpr ⟨fun b hb => by rw [List.mem_singleton.mp hb]; exact h2, List.pairwise_singleton ..⟩
  · intro p hp p' hp'
    rcases List.mem_append.mp hp' with hp' | hp'
    · exact h.over p hp p' hp'
    · exact Nat.lt_of_lt_of_le (hd p (List.mem_append_right _ hp)) (hge p' hp')
  · intro p' hp'
    rcases List.mem_append.mp hp' with hp' | hp'
    · exact h.hi p' hp'
    · exact Nat.lt_of_lt_of_le h3 (hge p' hp')
theorem snoc_cases {infs : List Inf} {q : Inf} {K : List (Addr × Obj)} {p : Addr × Obj} (hp : p ∈ objsOf (infs ++ [q]) ++ K) : p = (q.x, instObj 142 q.d) ∨ p = (q.d, dictOf q.es q.n) ∨ p ∈ objsOf infs ++ K := by
  rw [objs_snoc] at hp
  rcases List.mem_append.mp hp with hp | hp
  · rcases List.mem_append.mp hp with hp | hp
    · exact .inr (.inr (List.mem_append_left _ hp))
    · simp only [Inf.objs, List.mem_cons, List.not_mem_nil, or_false] at hp
      rcases hp with hp | hp
      · exact .inr (.inl hp)
      · exact .inl hp
  · exact .inr (.inr (List.mem_append_right _ hp))
theorem getL_at {es : List DictEntry} {name : Str} {v : Value} (hk : (es.all fun e => match e.key with | .str _ _ => true | _ => false) = true) (h : (attrsOf es).lookup name = some v) : getL name es = some (some v) := by rw [getL_attrs hk, h]
theorem sub_perm2 {i c d e1 e2 e3 e4 e5 e6 e7 e8 e9 e10 x y : Addr × Obj} {K K2 : List (Addr × Obj)} (s : ∀ p ∈ K2, p = x ∨ p = y ∨ p ∈ K) : ∀ p ∈ i :: c :: d :: e1 :: e2 :: e3 :: e4 :: e5 :: e6 :: e7 :: e8 :: e9 :: e10 :: K2, p ∈ x :: y :: i :: c :: d :: e1 :: e2 :: e3 :: e4 :: e5 :: e6 :: e7 :: e8 :: e9 :: e10 :: K := by
  iterate 13 (refine List.forall_mem_cons.mpr ⟨by k_mem, ?_⟩)
  intro p hp
  rcases s p hp with rfl | rfl | hp
  · exact .head _
  · exact .tail _ (.head _)
  · walk_at "my_tail"
section
variable {w : World} {mean : ExcName → Option Value} {mg mb : Str → Option Value} {A A₀ : Around} {base : Heap} {outer : List Env} {h₀ : Heap} {L fa : Addr} {cd : Value} {m : Str → Option Value} {s : Shared} {Q : Flow → Shared → Prop} {T c : Addr} {vs : List Value} {cs : List Int} {K : List (Addr × Obj)} {o1 o2 o3 o4 o5 o6 o7 o8 o9 : Obj} {cap : Nat} {tt : Tok} {kk : Int}
theorem seg11 (B : Below A₀ base outer h₀) (X : (hd.heap_39 w.params).In h₀) (T0 : Top hd.view_39 (looseW hd.view_39 []) mean mg mb h₀) (hA : A.frames = some (lawEnv L fa cd :: outer)) (R : Room A 10)
   (F : Fr h₀ L s.heap m) (N : News h₀ L s.heap ((L + 1 + 1 + 1 + 1 + 1 + 1 + 1 + 1 + 1, o9) :: (L + 1 + 1 + 1 + 1 + 1 + 1 + 1 + 1, o8) :: (L + 1 + 1 + 1 + 1 + 1 + 1 + 1, o7) :: (L + 1 + 1 + 1 + 1 + 1 + 1, o6) :: (L + 1 + 1 + 1 + 1 + 1, o5) :: (L + 1 + 1 + 1 + 1, o4) :: (L + 1 + 1 + 1, o3) :: (L + 1 + 1, o2) :: (L + 1, o1) :: (T, listOf #[.ref c, .int kk tt] cap) :: K))
   (d1 : o1.data = .cell (some (.ref T))) (d5 : o5.data = .cell none) (Ta : Tape L T c K vs cs) (k0 : 25 ≤ kk) (k1 : kk ≤ 40)
   (hQ : ∀ h' tk' (o5 : Obj) Rw infs gs k t, Fr h₀ L h' m → News h₀ L h' ((L + 1 + 1 + 1 + 1 + 1 + 1 + 1 + 1 + 1, o9) :: (L + 1 + 1 + 1 + 1 + 1 + 1 + 1 + 1, o8) :: (L + 1 + 1 + 1 + 1 + 1 + 1 + 1, o7) :: (L + 1 + 1 + 1 + 1 + 1 + 1, o6) :: (L + 1 + 1 + 1 + 1 + 1, o5) :: (L + 1 + 1 + 1 + 1, o4) :: (L + 1 + 1 + 1, o3) :: (L + 1 + 1, o2) :: (L + 1, o1) :: (T, listOf #[.ref c, .int k t] cap) :: (Rw, lst (infs.map (fun q => Value.ref q.x))) :: (objsOf infs ++ K)) → o5.data = .cell (some (.ref Rw)) → k = kk + 4 → gs.length = 4 → InfsAt L T K infs → OkRow infs gs → (∀ q ∈ infs, q.es.length ≤ 20) → Off1 Rw (objsOf infs ++ K) → OffK L T [(Rw, lst (infs.map (fun q => Value.ref q.x)))] → wpAny (model PySem.Challenge.rw_nu0163_01.row.prog w) A (execs (lawBody.drop 15) (lawEnv L fa cd)) Q (fun _ _ => False) { s with heap := h', toks := tk' })
   : wpAny (model PySem.Challenge.rw_nu0163_01.row.prog w) A (execs (lawBody.drop 14) (lawEnv L fa cd)) Q (fun _ _ => False) s := by
  have Ta' := Ta
  obtain ⟨off, hi, hc, ct, ia, ne, le⟩ := Ta
  conv in List.drop _ _ => whnf
  w_top on
  walk_at "open_stmt"
  walk_at "lc_assign_C"
  refine LCg.CompSrc.range (n := 4) (Room.hh (by assumption)) (by k_asm) (by k_asm) (by assumption) (by decide) (by decide) (by decide) (fun g => ?_)
  refine turns_U 4 (fun i ys nw => ∃ infs gs k t, nw = (L + 1 + 1 + 1 + 1 + 1 + 1 + 1 + 1 + 1, o9) :: (L + 1 + 1 + 1 + 1 + 1 + 1 + 1 + 1, o8) :: (L + 1 + 1 + 1 + 1 + 1 + 1 + 1, o7) :: (L + 1 + 1 + 1 + 1 + 1 + 1, o6) :: (L + 1 + 1 + 1 + 1 + 1, o5) :: (L + 1 + 1 + 1 + 1, o4) :: (L + 1 + 1 + 1, o3) :: (L + 1 + 1, o2) :: (L + 1, o1) :: (T, listOf #[.ref c, .int k t] cap) :: (objsOf infs ++ K) ∧ k = kk + (i : Int) ∧ gs.length = i ∧ ys = infs.map (fun q => Value.ref q.x) ∧ InfsAt L T K infs ∧ OkRow infs gs ∧ (∀ q ∈ infs, q.es.length ≤ 20)) ⟨[], [], kk, tt, rfl, by simp, rfl, rfl, ⟨OffK.nil, .nil, (fun _ _ _ h => nomatch h), (fun _ h => nomatch h)⟩, ⟨rfl, fun i v e => by simp at e⟩, (fun _ h => nomatch h)⟩ (fun i ys nw hi12 hJ v I' oI C' oC D' m₂ h tk E' hP hNs hx F2 N2 off3 ne3 => ?_) (fun ys nw hJ => ?_)
  · obtain ⟨infs, gs, k, t, rfl, hk, hgl, rfl, hat, hok, hes⟩ := hJ
    obtain ⟨t', rfl⟩ := hP
    obtain ⟨K1, hK1⟩ : ∃ K1, K1 = objsOf infs ++ K := ⟨_, rfl⟩
    rw [← hK1] at N2 off3
    have offK : OffK L T K1 := hK1 ▸ hat.off.app off
    replace hc := hc.mono (fun p hp => (hK1 ▸ List.mem_append_right _ hp : p ∈ K1))
    have off4 := off3
    simp only [LCg.Off3] at off4
    k_steps
    all_goals (walk_at "my_unf")
    rename (News h₀ _ _ _) => N3
    rename (_ < _ ∧ _ < _ ∧ _) => l1
    rename (_ < (12 : Int)) => hr1
    have hal := l1.2.2.2.2.2.2.2.2.2.2.2.2.2
    obtain ⟨q1, q2, q3, q4, q5, q6, q7, q8, q9, q10, qK⟩ := off3
    refine ⟨LCg.CompEnd.intro (by k_asm) N3 _ (sub_perm2 (K2 := objsOf (infs ++ [⟨_, _, _, _⟩]) ++ K) fun p hp => hK1 ▸ snoc_cases hp) ⟨q1, q2, q3, q4, q5, q6, q7, q8, q9, q10, LCg.Off3.of fun p hp => ?_⟩ trivial ⟨infs ++ [⟨_, _, _, _⟩], gs ++ [(_, 0)], _, _, rfl, by omega, by rw [List.length_append, hgl]; rfl, by rw [List.map_append]; rfl, hat.snoc (hK1 ▸ hal) (by assumption) (by dsimp only; omega) (by dsimp only; omega), hok.snoc ⟨rfl, Nat.le_of_ble_eq_true rfl, ⟨_, getL_at rfl rfl⟩, ⟨_, getL_at rfl rfl⟩, ⟨by assumption, hr1, by dsimp only; decide, by dsimp only; decide⟩⟩, fun q hq => (List.mem_append.mp hq).elim (hes q) (fun h => by rw [List.mem_singleton.mp h]; exact Nat.le_of_ble_eq_true rfl)⟩⟩
    rcases snoc_cases hp with rfl | rfl | hp
    · exact ⟨by k_ne, by k_ne, by k_ne⟩
    · exact ⟨by k_ne, by k_ne, by k_ne⟩
    · exact LCg.Off3.mem qK p (hK1 ▸ hp)
  · obtain ⟨infs, gs, k, t, rfl, hk, hgl, rfl, hat, hok, hes⟩ := hJ
    intro D h tk F2 N2 o1'
    obtain ⟨K1, hK1⟩ : ∃ K1, K1 = objsOf infs ++ K := ⟨_, rfl⟩
    rw [← hK1] at N2 o1'
    have offK : OffK L T K1 := hK1 ▸ hat.off.app off
    have q1 := o1'
    simp only [LCg.Off1] at q1
    dsimp only
    walk_at "to_law"
    walk_at "my_unf"
    rename (_ = Data.cell (some (Value.ref D))) => d5'
    rename (News h₀ _ _ _) => N3
    exact hQ _ _ _ D infs gs k t (by k_asm) (hK1 ▸ News.sub N3 sub_top1') d5' hk hgl hat hok hes (hK1 ▸ o1'.2.2.2.2.2.2.2.2.2.2) (OffK.cons (by k_ne) (by dsimp only; omega) .nil)
end


set_option maxHeartbeats 2500000
abbrev strKeys (es : List DictEntry) : Prop := (es.all fun e => match e.key with | .str _ _ => true | _ => false) = true
theorem put_attrs {name : Str} {hsh : Int} {t : Tok} {v : Value} : ∀ {es : List DictEntry}, strKeys es → strKeys (putL name hsh (.str name t) v es) ∧ (putL name hsh (.str name t) v es).length ≤ es.length + 1 ∧ ∀ name', (attrsOf (putL name hsh (.str name t) v es)).lookup name' = if name' = name then some v else (attrsOf es).lookup name'
  | [], _ => by
    refine ⟨rfl, Nat.le_refl _, fun name' => ?_⟩
    by_cases q : name' = name
    · simp [putL, attrsOf, List.lookup, q]
    · have q' : (name' == name) = false := by simpa using q
      simp [putL, attrsOf, List.lookup, q, q']
  | ⟨hh, key, v0⟩ :: r, hk => by
    obtain ⟨h1, h2⟩ := Bool.and_eq_true_iff.mp hk
    cases key with
    | str x u =>
      obtain ⟨i1, i2, i3⟩ := put_attrs (name := name) (hsh := hsh) (t := t) (v := v) (es := r) h2
      by_cases q : x = name
      · subst q
        have e : putL x hsh (.str x t) v (⟨hh, .str x u, v0⟩ :: r) = ⟨hh, .str x u, v⟩ :: r := by simp [putL, Value.isStr]
        rw [e]
        refine ⟨hk, by simp, fun name' => ?_⟩
        by_cases q2 : name' = x
        · simp [attrsOf, List.lookup, q2]
        · have q' : (name' == x) = false := by simpa using q2
          simp [attrsOf, List.lookup, q2, q']
      · have e : putL name hsh (.str name t) v (⟨hh, .str x u, v0⟩ :: r) = ⟨hh, .str x u, v0⟩ :: putL name hsh (.str name t) v r := by simp [putL, Value.isStr, q]
        rw [e]
        refine ⟨Bool.and_eq_true_iff.mpr ⟨rfl, i1⟩, by simpa using i2, fun name' => ?_⟩
        by_cases q2 : name' = x
        · subst q2
          simp [attrsOf, List.lookup, q]
        · have q' : (name' == x) = false := by simpa using q2
          simp only [attrsOf, List.lookup, q']
          exact i3 name'
    | _ => cases h1
theorem Inf.Ok.put {q : Inf} {p : Int × Int} {hsh r : Int} {t t2 : Tok} {n' : Nat} (h : q.Ok p) (hl : q.es.length ≤ 99) (h0 : 0 ≤ r) (h1 : r < 8) : Inf.Ok ⟨q.d, q.x, putL (Str.ofString "mask") hsh (.str (Str.ofString "mask") t) (.int r t2) q.es, n'⟩ (p.1, r) := by
  obtain ⟨i1, i2, i3⟩ := put_attrs (name := Str.ofString "mask") (hsh := hsh) (t := t) (v := .int r t2) h.keys
  obtain ⟨tg, hg⟩ := h.g
  refine ⟨i1, by dsimp only; omega, ⟨tg, ?_⟩, ⟨t2, ?_⟩, ⟨h.b.1, h.b.2.1, h0, h1⟩⟩
  · rw [getL_attrs i1, i3, if_neg (by decide), ← getL_attrs h.keys, hg]
  · rw [getL_attrs i1, i3, if_pos rfl]
theorem upd_app {d : Addr} {o o' : Obj} {r r' : List (Addr × Obj)} : ∀ {pre : List (Addr × Obj)}, (∀ p ∈ pre, p.1 ≠ d) → Upd d o o' r r' → Upd d o o' (pre ++ r) (pre ++ r')
  | [], _, u => u
  | _ :: _, h, u => .tail (h _ (.head _)) (upd_app (fun p hp => h p (.tail _ hp)) u)
theorem objs_mid (A B : List Inf) (q : Inf) (K : List (Addr × Obj)) : objsOf (A ++ q :: B) ++ K = objsOf A ++ ((q.d, dictOf q.es q.n) :: (q.x, instObj 142 q.d) :: (objsOf B ++ K)) := by simp [objsOf, Inf.objs]
theorem objs_mid' (A B : List Inf) (q : Inf) : objsOf (A ++ q :: B) = objsOf A ++ ((q.d, dictOf q.es q.n) :: (q.x, instObj 142 q.d) :: objsOf B) := by simp [objsOf, Inf.objs]
theorem upd_objs {L T : Addr} {K : List (Addr × Obj)} {A B : List Inf} {q : Inf} {es' : List DictEntry} {n' : Nat} (h : InfsAt L T K (A ++ q :: B)) : Upd q.d (dictOf q.es q.n) (dictOf es' n') (objsOf (A ++ q :: B) ++ K) (objsOf (A ++ ⟨q.d, q.x, es', n'⟩ :: B) ++ K) := by
  rw [objs_mid, objs_mid]
  have ha := h.asc
  rw [objs_mid'] at ha
  obtain ⟨a1, a2, a3⟩ := List.pairwise_append.mp ha
  obtain ⟨b1, b2⟩ := List.pairwise_cons.mp a2
  refine upd_app (fun p hp => Nat.ne_of_lt (a3 p hp _ (.head _))) (.head fun p hp => ?_)
  rcases List.mem_cons.mp hp with rfl | hp
  · exact Nat.ne_of_gt (b1 _ (.head _))
  rcases List.mem_append.mp hp with hp | hp
  · exact Nat.ne_of_gt (b1 _ (.tail _ hp))
  · exact Nat.ne_of_lt (h.over p hp (q.d, dictOf q.es q.n) (by rw [objs_mid']; exact List.mem_append_right _ (.head _)))
theorem off1_map {D : Addr} {l l' : List (Addr × Obj)} (e : l.map (·.1) = l'.map (·.1)) (h : Off1 D l) : Off1 D l' := off1_of fun p hp => by
  have : p.1 ∈ l.map (·.1) := e ▸ List.mem_map_of_mem hp
  obtain ⟨p', hp', e'⟩ := List.mem_map.mp this
  rw [← e']; exact Off1.mem h p' hp'
theorem all_map {P : Addr → Prop} {l l' : List (Addr × Obj)} (e : l.map (·.1) = l'.map (·.1)) (h : ∀ p ∈ l, P p.1) : ∀ p ∈ l', P p.1 := fun p hp => by
  have : p.1 ∈ l.map (·.1) := e ▸ List.mem_map_of_mem hp
  obtain ⟨p', hp', e'⟩ := List.mem_map.mp this
  rw [← e']; exact h p' hp'
theorem InfsAt.same {L T : Addr} {K : List (Addr × Obj)} {infs infs' : List Inf} (e : (objsOf infs).map (·.1) = (objsOf infs').map (·.1)) (h : InfsAt L T K infs) : InfsAt L T K infs' := by
  refine ⟨all_map (P := fun a => @Ne Nat a T ∧ (@LE.le Nat _ a L ∨ @LT.lt Nat _ (L + 1 + 1 + 1 + 1 + 1 + 1 + 1 + 1 + 1) a)) e h.off, ?_, fun p hp => all_map (P := fun a => @LT.lt Nat _ p.1 a) e (h.over p hp), all_map (P := fun a => @LT.lt Nat _ T a) e h.hi⟩
  have := List.pairwise_map.mpr h.asc
  rw [e] at this
  exact List.pairwise_map.mp this
theorem OkRow.set {infs : List Inf} {gs : List (Int × Int)} {A B : List Inf} {q q' : Inf} {p : Int × Int} (h : OkRow infs gs) (e : infs = A ++ q :: B) (hq : q'.Ok p) : OkRow (A ++ q' :: B) (gs.set A.length p) := by
  subst e
  refine ⟨by have := h.1; simp at this ⊢; omega, fun j v e => ?_⟩
  have hl : A.length < gs.length := by have := h.1; simp at this; omega
  by_cases hj : j = A.length
  · subst hj
    rw [List.getElem?_append_right (Nat.le_refl _), Nat.sub_self, List.getElem?_cons_zero] at e
    have := Option.some.inj e
    subst this
    exact ⟨p, by rw [List.getElem?_set_self hl], hq⟩
  · have e2 : (A ++ q :: B)[j]? = some v := by
      rw [List.getElem?_append] at e ⊢
      split at e
      · rename_i hlt
        rw [if_pos hlt]; exact e
      · rename_i hlt
        rw [if_neg hlt]
        obtain ⟨k, hk⟩ : ∃ k, j - A.length = k + 1 := ⟨j - A.length - 1, by omega⟩
        rw [hk] at e ⊢
        simpa using e
    obtain ⟨p', e3, e4⟩ := h.2 j v e2
    exact ⟨p', by rw [List.getElem?_set_ne (fun q => hj q.symm)]; exact e3, e4⟩
section
variable {w : World} {mean : ExcName → Option Value} {mg mb : Str → Option Value} {A A₀ : Around} {base : Heap} {outer : List Env} {h₀ : Heap} {L fa : Addr} {cd : Value} {m : Str → Option Value} {s : Shared} {Q : Flow → Shared → Prop} {T c : Addr} {vs : List Value} {cs : List Int} {K : List (Addr × Obj)} {o1 o2 o3 o4 o5 o6 o7 o8 o9 : Obj} {cap : Nat} {tt : Tok} {kk : Int}
theorem seg12 {Rw : Addr} {infs : List Inf} {gs : List (Int × Int)} (B : Below A₀ base outer h₀) (X : (hd.heap_39 w.params).In h₀) (T0 : Top hd.view_39 (looseW hd.view_39 []) mean mg mb h₀) (hA : A.frames = some (lawEnv L fa cd :: outer)) (R : Room A 10)
   (F : Fr h₀ L s.heap m) (N : News h₀ L s.heap ((L + 1 + 1 + 1 + 1 + 1 + 1 + 1 + 1 + 1, o9) :: (L + 1 + 1 + 1 + 1 + 1 + 1 + 1 + 1, o8) :: (L + 1 + 1 + 1 + 1 + 1 + 1 + 1, o7) :: (L + 1 + 1 + 1 + 1 + 1 + 1, o6) :: (L + 1 + 1 + 1 + 1 + 1, o5) :: (L + 1 + 1 + 1 + 1, o4) :: (L + 1 + 1 + 1, o3) :: (L + 1 + 1, o2) :: (L + 1, o1) :: (T, listOf #[.ref c, .int kk tt] cap) :: (Rw, lst (infs.map (fun (q : Inf) => Value.ref q.x))) :: (objsOf infs ++ K)))
   (d1 : o1.data = .cell (some (.ref T))) (d5 : o5.data = .cell (some (.ref Rw))) (Ta : Tape L T c K vs cs) (k0 : 25 ≤ kk) (k1 : kk ≤ 45)
   (hgl : gs.length = 4) (hat : InfsAt L T K infs) (hok : OkRow infs gs) (hes : ∀ q ∈ infs, q.es.length ≤ 20) (oR : Off1 Rw (objsOf infs ++ K)) (offR : OffK L T [(Rw, lst (infs.map (fun (q : Inf) => Value.ref q.x)))])
   (hQ : ∀ h' tk' m' gs' k t K', Fr h₀ L h' m' → News h₀ L h' ((L + 1 + 1 + 1 + 1 + 1 + 1 + 1 + 1 + 1, o9) :: (L + 1 + 1 + 1 + 1 + 1 + 1 + 1 + 1, o8) :: (L + 1 + 1 + 1 + 1 + 1 + 1 + 1, o7) :: (L + 1 + 1 + 1 + 1 + 1 + 1, o6) :: (L + 1 + 1 + 1 + 1 + 1, o5) :: (L + 1 + 1 + 1 + 1, o4) :: (L + 1 + 1 + 1, o3) :: (L + 1 + 1, o2) :: (L + 1, o1) :: (T, listOf #[.ref c, .int k t] cap) :: K') → Tape L T c K' vs cs → (∀ p ∈ K, p ∈ K') → k = kk + 4 → On K' (fun h => IsRow h Rw gs') → gs'.length = 4 → (∀ p ∈ gs', 0 ≤ p.1 ∧ p.1 < 12 ∧ 0 ≤ p.2 ∧ p.2 < 8) → (∀ y, y ≠ Str.ofString "info" → m' y = m y) → wpAny (model PySem.Challenge.rw_nu0163_01.row.prog w) A (execs (lawBody.drop 16) (lawEnv L fa cd)) Q (fun _ _ => False) { s with heap := h', toks := tk' })
   : wpAny (model PySem.Challenge.rw_nu0163_01.row.prog w) A (execs (lawBody.drop 15) (lawEnv L fa cd)) Q (fun _ _ => False) s := by
  have Ta' := Ta
  obtain ⟨off, hi, hc, ct, ia, ne, le⟩ := Ta
  have offR1 := offR _ (.head _)
  dsimp only at offR1
  conv in List.drop _ _ => whnf
  w_top on
  walk_at "open_stmt"
  refine For_invV h₀ rfl rfl ?_ (fun _ => rfl) PySem.PassesOwn.never
  repeat' ((fail_if_success (with_reducible show wpAny _ _ (pyIter _) _ _ _)); walk_at "my_step")
  rename (Fr h₀ _ _ _) => F2
  rename (News h₀ _ _ _) => N2
  have hil : infs.length = 4 := hok.1.trans hgl
  refine list_loop (ol := lst []) (its := infs.map (fun (q : Inf) => Value.ref q.x)) (cap := (infs.map (fun (q : Inf) => Value.ref q.x)).length) (fun i m₁ nw => ∃ infs' gs' k t, nw = (L + 1 + 1 + 1 + 1 + 1 + 1 + 1 + 1 + 1, o9) :: (L + 1 + 1 + 1 + 1 + 1 + 1 + 1 + 1, o8) :: (L + 1 + 1 + 1 + 1 + 1 + 1 + 1, o7) :: (L + 1 + 1 + 1 + 1 + 1 + 1, o6) :: (L + 1 + 1 + 1 + 1 + 1, o5) :: (L + 1 + 1 + 1 + 1, o4) :: (L + 1 + 1 + 1, o3) :: (L + 1 + 1, o2) :: (L + 1, o1) :: (T, listOf #[.ref c, .int k t] cap) :: (Rw, lst (infs.map (fun (q : Inf) => Value.ref q.x))) :: (objsOf infs' ++ K) ∧ k = kk + (i : Int) ∧ (objsOf infs').map (·.1) = (objsOf infs).map (·.1) ∧ infs'.map (fun (q : Inf) => Value.ref q.x) = infs.map (fun (q : Inf) => Value.ref q.x) ∧ OkRow infs' gs' ∧ (∀ q ∈ infs', q.es.length ≤ 20 + i) ∧ (∀ y, y ≠ Str.ofString "info" → m₁ y = m y)) (Room.hh (by assumption)) (mem10 (.head _)) F2 N2 ⟨infs, gs, kk, tt, rfl, by simp, rfl, rfl, hok, hes, fun y hy => rfl⟩ (fun i m₁ nw hJ => by obtain ⟨_, _, _, _, rfl, _⟩ := hJ; exact mem10 (.head _)) ?_ ?_
  · clear N2 F2
    rintro i v m₁ news₁ h tk I oI hv ⟨infs', gs', k, t, rfl, hk, hmap, hxs, hok', hes', hmo⟩ oI' F4 N4
    replace F4 : Fr h₀ L h _ := F4
    replace N4 : News h₀ L h _ := N4
    have hat' : InfsAt L T K infs' := hat.same hmap.symm
    rw [← hxs] at hv
    rw [List.getElem?_map] at hv
    obtain ⟨q, hq, rfl⟩ := Option.map_eq_some_iff.mp hv
    have hil' : infs'.length = 4 := by
      have := congrArg List.length hxs
      simpa [hil] using this
    have hi4 : i < infs'.length := (List.getElem?_eq_some_iff.mp hq).1
    obtain ⟨A1, B1, hAB, hA1⟩ : ∃ A1 B1, infs' = A1 ++ q :: B1 ∧ A1.length = i := ⟨infs'.take i, infs'.drop (i + 1), by
      have e1 := List.getElem?_eq_some_iff.mp hq
      obtain ⟨h1, h2⟩ := e1
      rw [← h2, ← List.drop_eq_getElem_cons h1, List.take_append_drop], by rw [List.length_take]; omega⟩
    obtain ⟨K1, hK1⟩ : ∃ K1, K1 = objsOf infs' ++ K := ⟨_, rfl⟩
    rw [← hK1] at N4 oI'
    have offK : OffK L T K1 := hK1 ▸ hat'.off.app off
    replace hc := hc.mono (fun p hp => (hK1 ▸ List.mem_append_right _ hp : p ∈ K1))
    have oI2 := oI'
    simp only [LCg.Off1] at oI2
    repeat' ((fail_if_success (with_reducible show wpAny _ _ (setAttr _ _ _) _ _ _)); walk_at "my_step")
    rename (Fr h₀ _ _ _) => F5
    rename (News h₀ _ _ _) => N5
    rename (_ < (8 : Int)) => hr8
    obtain ⟨p, hp, hOk⟩ := hok'.2 i q hq
    have hqd : (q.d, dictOf q.es q.n) ∈ K1 := by rw [hK1, hAB, objs_mid]; exact List.mem_append_right _ (.head _)
    have hqx : (q.x, instObj 142 q.d) ∈ K1 := by rw [hK1, hAB, objs_mid]; exact List.mem_append_right _ (.tail _ (.head _))
    have f1 := offK _ hqd
    have f2 : @Ne Nat q.d I := Off1.mem (oI'.2.2.2.2.2.2.2.2.2.2.2) _ hqd
    have f3 : @Ne Nat q.d Rw := Off1.mem (off1_map (l := objsOf infs ++ K) (l' := K1) (by rw [hK1, List.map_append, List.map_append, hmap]) oR) _ hqd
    have f4 := hat'.hi (q.d, dictOf q.es q.n) (by rw [hAB, objs_mid']; exact List.mem_append_right _ (.head _))
    have f5 := hes' q (by rw [hAB]; exact List.mem_append_right _ (.head _))
    have hq2 := hat'
    rw [hAB] at hq2
    dsimp only at f1 f4
    refine' set_dict F5 X N5 (x := q.x) (C := 142) (es := q.es) (n := q.n) ⟨(N5 _ (.tail _ (.tail _ (mem10 hqx)))).1, rfl, rfl, (N5 _ (.tail _ (.tail _ (mem10 hqd)))).1⟩ rfl ?k6 ?k7 ?k8 ?k9 ?k10 rfl ?k12 ?k13 ?_
    case k6 => k_is
    case k7 => k_is
    case k8 => k_is
    case k9 => k_is
    case k10 => (obtain ⟨t, e⟩ := hOk.mask; rw [e]; rfl)
    case k12 => (rw [hK1, hAB]; exact Upd.tail (by k_ne) (Upd.tail (by k_ne) (Upd.tail (by k_ne) (Upd.tail (by k_ne) (Upd.tail (by k_ne) (Upd.tail (by k_ne) (Upd.tail (by k_ne) (Upd.tail (by k_ne) (Upd.tail (by k_ne) (Upd.tail (by k_ne) (Upd.tail (by k_ne) (Upd.tail (by k_ne) (upd_objs hq2)))))))))))))
    case k13 => exact Nat.le_trans (put_attrs hOk.keys).2.1 (by omega)
    intro h6 F6 N6
    refine wpAny_execs_nil (TurnE.next (m' := _) (nx := (L + 1 + 1 + 1 + 1 + 1 + 1 + 1 + 1 + 1, o9) :: (L + 1 + 1 + 1 + 1 + 1 + 1 + 1 + 1, o8) :: (L + 1 + 1 + 1 + 1 + 1 + 1 + 1, o7) :: (L + 1 + 1 + 1 + 1 + 1 + 1, o6) :: (L + 1 + 1 + 1 + 1 + 1, o5) :: (L + 1 + 1 + 1 + 1, o4) :: (L + 1 + 1 + 1, o3) :: (L + 1 + 1, o2) :: (L + 1, o1) :: (T, _) :: (Rw, _) :: (objsOf (A1 ++ ⟨q.d, q.x, _, _⟩ :: B1) ++ K)) F6 N6 (fun _ h => h) ?_ ?_)
    · obtain ⟨b9, b8, b7, b6, b5, b4, b3, b2, b1, bT, bR, bK⟩ := oI'
      exact ⟨b9, b8, b7, b6, b5, b4, b3, b2, b1, bT, bR, off1_map (by rw [hK1, hAB, objs_mid, objs_mid]; simp) bK⟩
    · refine ⟨_, _, _, _, rfl, by omega, ?_, ?_, hok'.set hAB (hOk.put (by omega) (by assumption) hr8), ?_, fun y hy => (if_neg hy).trans (hmo y hy)⟩
      · rw [← hmap, hAB, objs_mid', objs_mid']; simp
      · rw [← hxs, hAB]; simp
      · intro q2 hq2
        rcases List.mem_append.mp hq2 with h2 | h2
        · have := hes' q2 (by rw [hAB]; exact List.mem_append_left _ h2); omega
        · rcases List.mem_cons.mp h2 with rfl | h2
          · exact Nat.le_trans (put_attrs hOk.keys).2.1 (by omega)
          · have := hes' q2 (by rw [hAB]; exact List.mem_append_right _ (.tail _ h2)); omega
  · rintro m₁ news₁ h tk ⟨infs', gs', k, t, rfl, hk, hmap, hxs, hok', hes', hmo⟩ F4 N4
    have hat' : InfsAt L T K infs' := hat.same hmap.symm
    refine hQ _ _ m₁ gs' k t ((Rw, _) :: (objsOf infs' ++ K)) F4 (News.sub (h₀ := h₀) (L := L) N4 fun _ h => h) ⟨?_, hi, hc.mono fun p hp => .tail _ (List.mem_append_right _ hp), Ta'.ct, Ta'.ia, Ta'.ne, Ta'.le⟩ (fun p hp => .tail _ (List.mem_append_right _ hp)) (by rw [hk, List.length_map, hil]; rfl) (fun h hK => ?_) (by have := hok'.1; have := congrArg List.length hxs; simp [hil] at this; omega) ?_ hmo
    · exact OffK.cons offR1.1 offR1.2 (hat'.off.app off)
    · refine ⟨_, ⟨_, hK _ (.head _), rfl, _, rfl⟩, by rw [← hxs, List.length_map]; exact hok'.1, by have := hok'.1; have := congrArg List.length hxs; simp [hil] at this; omega, fun i v e => ?_⟩
      rw [← hxs, List.getElem?_map] at e
      obtain ⟨q, hq, rfl⟩ := Option.map_eq_some_iff.mp e
      obtain ⟨p, hp, hOk⟩ := hok'.2 i q hq
      obtain ⟨t1, e1⟩ := hOk.g
      obtain ⟨t2, e2⟩ := hOk.mask
      have hm : ∀ o ∈ q.objs, h.get? o.1 = some o.2 := fun o ho => hK o (.tail _ (List.mem_append_left _ (List.mem_flatMap.mpr ⟨q, List.mem_of_getElem? hq, ho⟩)))
      exact ⟨q.x, p, rfl, hp, t1, t2, ⟨q.d, q.es, q.n, hm _ (.tail _ (.head _)), hm _ (.head _), e1⟩, ⟨q.d, q.es, q.n, hm _ (.tail _ (.head _)), hm _ (.head _), e2⟩⟩
    · intro p hp
      obtain ⟨i, hi2, rfl⟩ := List.mem_iff_getElem.mp hp
      have hl : i < infs'.length := by rw [hok'.1]; exact hi2
      obtain ⟨p', hp', hOk⟩ := hok'.2 i _ (List.getElem?_eq_getElem hl)
      rw [List.getElem?_eq_getElem hi2] at hp'
      rw [Option.some.inj hp']
      exact hOk.b
end


set_option maxHeartbeats 2500000
theorem Cx.law {w : World} {mean : ExcName → Option Value} {mg mb : Str → Option Value} {A A₀ : Around} {base : Heap} {outer : List Env} {h₀ h : Heap} {L fa : Addr} {cd : Value} {m : Str → Option Value} {n : Nat} (hA : A.frames = some (lawEnv L fa cd :: outer)) (F : Fr h₀ L h m) (B : Below A₀ base outer h₀) (X : (hd.heap_39 w.params).In h₀) (T0 : Top hd.view_39 (looseW hd.view_39 []) mean mg mb h₀) (R : Room A n) : Cx w mean mg mb A A₀ base outer h₀ L m (lawEnv L fa cd) h n := ⟨B, F, X, T0, hA, rfl, rfl, R⟩
local macro_rules | `(tactic| walk_at "my_cx") => `(tactic| exact Cx.law (by with_reducible assumption) (by k_asm) (by k_asm) (by k_asm) (by k_asm) (by with_reducible assumption))
theorem On.tabs2 {K : List (Addr × Obj)} {w : World} {T x1 x2 : Addr} {n : Nat} {ps qs : List (Int × Int)} (h1 : (T, listOf #[.ref x1, .ref x2] n) ∈ K) (a : On K (fun h => IsCd w h x1 ps)) (b : On K (fun h => IsCd w h x2 qs)) : On K (fun h => IsTabs w h T [ps, qs]) := fun h hK =>
  ⟨[.ref x1, .ref x2], ⟨_, hK _ h1, rfl, _, rfl⟩, rfl, Nat.le_refl _, fun i v e => by
    match i, e with
    | 0, e => simp only [List.getElem?_cons_zero, Option.some.injEq] at e; exact ⟨x1, ps, e.symm, rfl, a h hK⟩
    | 1, e => simp only [List.getElem?_cons_succ, List.getElem?_cons_zero, Option.some.injEq] at e; exact ⟨x2, qs, e.symm, rfl, b h hK⟩
    | i + 2, e => simp at e⟩
section
variable {w : World} {mean : ExcName → Option Value} {mg mb : Str → Option Value} {A A₀ : Around} {base : Heap} {outer : List Env} {h₀ : Heap} {L fa : Addr} {cd : Value} {m : Str → Option Value} {s : Shared} {Q : Flow → Shared → Prop} {T c : Addr} {vs : List Value} {cs : List Int} {K : List (Addr × Obj)} {o1 o2 o3 o4 o5 o6 o7 o8 o9 : Obj} {cap : Nat} {tt : Tok} {kk : Int}
theorem seg13 {X1 X2 : Addr} {num : Int} {t2 : Tok} {ps qs : List (Int × Int)} (B : Below A₀ base outer h₀) (X : (hd.heap_39 w.params).In h₀) (T0 : Top hd.view_39 (looseW hd.view_39 []) mean mg mb h₀) (hA : A.frames = some (lawEnv L fa cd :: outer)) (R : Room A 10)
   (F : Fr h₀ L s.heap m) (N : News h₀ L s.heap ((L + 1 + 1 + 1 + 1 + 1 + 1 + 1 + 1 + 1, o9) :: (L + 1 + 1 + 1 + 1 + 1 + 1 + 1 + 1, o8) :: (L + 1 + 1 + 1 + 1 + 1 + 1 + 1, o7) :: (L + 1 + 1 + 1 + 1 + 1 + 1, o6) :: (L + 1 + 1 + 1 + 1 + 1, o5) :: (L + 1 + 1 + 1 + 1, o4) :: (L + 1 + 1 + 1, o3) :: (L + 1 + 1, o2) :: (L + 1, o1) :: (T, listOf #[.ref c, .int kk tt] cap) :: K))
   (d1 : o1.data = .cell (some (.ref T))) (d6 : o6.data = .cell none) (Ta : Tape L T c K vs cs) (k0 : 25 ≤ kk) (k1 : kk ≤ 50)
   (m1 : m (Str.ofString "known") = some (.ref X1)) (m2 : m (Str.ofString "attach") = some (.ref X2)) (m3 : m (Str.ofString "number") = some (.int num t2))
   (hX1 : On K (fun h => IsCd w h X1 ps)) (hX2 : On K (fun h => IsCd w h X2 qs))
   (hQ : ∀ h' tk' l Tb K' f2 msk t3 k t (o6 : Obj), Fr h₀ L h' (fun y => if y = Str.ofString "other" then some (.ref l) else m y) → News h₀ L h' ((L + 1 + 1 + 1 + 1 + 1 + 1 + 1 + 1 + 1, o9) :: (L + 1 + 1 + 1 + 1 + 1 + 1 + 1 + 1, o8) :: (L + 1 + 1 + 1 + 1 + 1 + 1 + 1, o7) :: (L + 1 + 1 + 1 + 1 + 1 + 1, o6) :: (L + 1 + 1 + 1 + 1 + 1, o5) :: (L + 1 + 1 + 1 + 1, o4) :: (L + 1 + 1 + 1, o3) :: (L + 1 + 1, o2) :: (L + 1, o1) :: (T, listOf #[.ref c, .int k t] cap) :: K') → OffK L T K' → o6.data = .cell (some (.int msk t3)) → (∀ p ∈ K, p ∈ K') → On K' (fun h => IsLook h l (Str.ofString "pair") f2 num Tb) → On K' (fun h => IsTabs w h Tb [ps, qs]) → 0 ≤ f2 → f2 < 16 → 1 ≤ msk → msk < 8 → wpAny (model PySem.Challenge.rw_nu0163_01.row.prog w) A (execs (lawBody.drop 18) (lawEnv L fa cd)) Q (fun _ _ => False) { s with heap := h', toks := tk' })
   : wpAny (model PySem.Challenge.rw_nu0163_01.row.prog w) A (execs (lawBody.drop 16) (lawEnv L fa cd)) Q (fun _ _ => False) s := by
  have Ta' := Ta
  obtain ⟨off, hi, hc, ct, ia, ne, le⟩ := Ta
  conv in List.drop _ _ => whnf
  w_top on
  walk_at "open_stmt"
  walk_at "to_law"
  walk_at "my_unf"
  walk_at "open_stmt"
  walk_at "to_law"
  walk_at "my_unf"
  rename (News h₀ _ _ _) => N4
  rename (_ = Data.cell (some (Value.int _ _))) => d6'
  rename (_ < (16 : Int)) => hr16
  exact hQ _ _ _ _ (_ :: _ :: (_, listOf #[_, _] _) :: K) _ _ _ _ _ _ (by k_asm) (News.sub N4 sub_top3) (OffK.cons (by k_ne) (by dsimp only; omega) (OffK.cons (by k_ne) (by dsimp only; omega) (OffK.cons (by k_ne) (by dsimp only; omega) off))) d6' (fun p hp => .tail _ (.tail _ (.tail _ hp)))
     (On.look (.head _) (.tail _ (.head _)) rfl rfl) (On.tabs2 (.tail _ (.tail _ (.head _))) (hX1.mono fun p hp => .tail _ (.tail _ (.tail _ hp))) (hX2.mono fun p hp => .tail _ (.tail _ (.tail _ hp)))) (by assumption) hr16 (by omega) (by omega)
end


set_option maxHeartbeats 2500000
section
variable {w : World} {mean : ExcName → Option Value} {mg mb : Str → Option Value} {A A₀ : Around} {base : Heap} {outer : List Env} {h₀ : Heap} {L fa : Addr} {cd : Value} {m : Str → Option Value} {s : Shared} {Q : Flow → Shared → Prop} {T c : Addr} {vs : List Value} {cs : List Int} {K : List (Addr × Obj)} {o1 o2 o3 o4 o5 o6 o7 o8 o9 : Obj} {cap : Nat} {tt : Tok} {kk : Int}
theorem seg14 {Rw G l l2 : Addr} {msk : Int} {t6 : Tok} (B : Below A₀ base outer h₀) (X : (hd.heap_39 w.params).In h₀) (T0 : Top hd.view_39 (looseW hd.view_39 []) mean mg mb h₀) (hA : A.frames = some (lawEnv L fa cd :: outer)) (R : Room A 10)
   (F : Fr h₀ L s.heap m) (N : News h₀ L s.heap ((L + 1 + 1 + 1 + 1 + 1 + 1 + 1 + 1 + 1, o9) :: (L + 1 + 1 + 1 + 1 + 1 + 1 + 1 + 1, o8) :: (L + 1 + 1 + 1 + 1 + 1 + 1 + 1, o7) :: (L + 1 + 1 + 1 + 1 + 1 + 1, o6) :: (L + 1 + 1 + 1 + 1 + 1, o5) :: (L + 1 + 1 + 1 + 1, o4) :: (L + 1 + 1 + 1, o3) :: (L + 1 + 1, o2) :: (L + 1, o1) :: (T, listOf #[.ref c, .int kk tt] cap) :: K))
   (d5 : o5.data = .cell (some (.ref Rw))) (d6 : o6.data = .cell (some (.int msk t6))) (off : OffK L T K) (hi : @LT.lt Nat _ (L + 1 + 1 + 1 + 1 + 1 + 1 + 1 + 1 + 1) T)
   (m1 : m (Str.ofString "gdef") = some (.ref G)) (m2 : m (Str.ofString "lookup") = some (.ref l)) (m3 : m (Str.ofString "other") = some (.ref l2))
   (hQ : ∀ h' tk' sc b lk ta tb td K', Fr h₀ L h' (fun y => if y = Str.ofString "scene" then some (.ref sc) else if y = Str.ofString "buffer" then some (.ref b) else m y) → News h₀ L h' ((L + 1 + 1 + 1 + 1 + 1 + 1 + 1 + 1 + 1, o9) :: (L + 1 + 1 + 1 + 1 + 1 + 1 + 1 + 1, o8) :: (L + 1 + 1 + 1 + 1 + 1 + 1 + 1, o7) :: (L + 1 + 1 + 1 + 1 + 1 + 1, o6) :: (L + 1 + 1 + 1 + 1 + 1, o5) :: (L + 1 + 1 + 1 + 1, o4) :: (L + 1 + 1 + 1, o3) :: (L + 1 + 1, o2) :: (L + 1, o1) :: (T, listOf #[.ref c, .int kk tt] cap) :: K') → OffK L T K' → (∀ p ∈ K, p ∈ K') → On K' (fun h => HasInst h sc 65 (sceneA b G lk l msk ta 2 tb)) → On K' (fun h => HasInst h b 188 (bufA Rw td)) → On K' (fun h => IsRefs h lk [l, l2]) → wpAny (model PySem.Challenge.rw_nu0163_01.row.prog w) A (execs (lawBody.drop 20) (lawEnv L fa cd)) Q (fun _ _ => False) { s with heap := h', toks := tk' })
   : wpAny (model PySem.Challenge.rw_nu0163_01.row.prog w) A (execs (lawBody.drop 18) (lawEnv L fa cd)) Q (fun _ _ => False) s := by
  conv in List.drop _ _ => whnf
  w_top on
  walk_at "open_stmt"
  walk_at "to_law"
  walk_at "my_unf"
  walk_at "open_stmt"
  walk_at "to_law"
  walk_at "my_unf"
  rename (News h₀ _ _ _) => N4
  rename (Fr h₀ _ _ _) => F4
  exact hQ _ _ _ _ _ _ _ _ (_ :: _ :: (_, listOf #[.ref l, .ref l2] _) :: _ :: _ :: K) F4 (News.sub N4 sub_top5) (OffK.cons (by k_ne) (by dsimp only; omega) (OffK.cons (by k_ne) (by dsimp only; omega) (OffK.cons (by k_ne) (by dsimp only; omega) (OffK.cons (by k_ne) (by dsimp only; omega) (OffK.cons (by k_ne) (by dsimp only; omega) off))))) (fun p hp => .tail _ (.tail _ (.tail _ (.tail _ (.tail _ hp)))))
     (On.inst (.head _) (.tail _ (.head _)) rfl rfl) (On.inst (.tail _ (.tail _ (.tail _ (.head _)))) (.tail _ (.tail _ (.tail _ (.tail _ (.head _))))) rfl rfl) (fun h hK => ⟨_, hK _ (.tail _ (.tail _ (.head _))), rfl, _, rfl⟩)
end


set_option maxHeartbeats 2500000
local macro_rules | `(tactic| walk_at "to_ite") => `(tactic| (repeat' ((fail_if_success (with_reducible show @ite _ _ _ _ _)); (fail_if_success (with_reducible show TEnd _)); walk_at "my_step")))
theorem small_ix (j : Nat) : 0 ≤ 0 + (j : Int) := by omega
theorem small_ix2 {j : Nat} (h : j < 3) : 0 + (j : Int) ≤ 1000000 := by omega
theorem small_ix3 {j : Nat} (h : j < 3) : 0 + (j : Int) < 9000 := by omega
local macro_rules | `(tactic| walk_at "binaryOp Pow int int") => `(tactic| (k_here; (with_reducible refine pow_int_small ?kb1 ?kb2 ?kb3 ?_); (case kb1 => exact small_ix _); (case kb2 => exact small_ix2 (by with_reducible assumption)); (case kb3 => decide)))
local macro_rules | `(tactic| walk_at "binaryOp FloorDiv int int") => `(tactic| (k_here; (with_reducible refine floordiv_int ?kbe ?_ (Or.inl (PyProof.noPylong_of_log2 ?kbp))); (case kbe => exact Int.ne_of_gt (pow_pos_of (by decide) _)); (case kbp => exact kbt_py (small_ix3 (by with_reducible assumption)))))
local macro_rules | `(tactic| walk_at "binaryOp Mod int int") => `(tactic| (k_here; (with_reducible refine mod_int' ?kbe ?_); (case kbe => decide)))
def bitAt (a k : Int) : Int := (a.fdiv (2 ^ k.toNat)).fmod 2
local macro_rules | `(tactic| walk_at "to_tend") => `(tactic| (repeat' ((fail_if_success (with_reducible show TEnd _)); walk_at "my_step")))
def bothP (a b : Int) (k : Int) : Bool := decide (bitAt a k = 1 ∧ bitAt b k = 1)
theorem both_fin : ∀ a b : Fin 8, (Builtin.bitAnd (a.val : Int) (b.val : Int) ≠ 0) ↔ (rng 3).filter (bothP (a.val : Int) (b.val : Int)) ≠ [] := by decide
theorem both_bits {a b : Int} (a0 : 0 ≤ a) (a1 : a < 8) (b0 : 0 ≤ b) (b1 : b < 8) : (Builtin.bitAnd a b ≠ 0) ↔ (rng 3).filter (bothP a b) ≠ [] := by
  have := both_fin ⟨a.toNat, by omega⟩ ⟨b.toNat, by omega⟩
  rwa [show ((⟨a.toNat, by omega⟩ : Fin 8).val : Int) = a by simp; omega, show ((⟨b.toNat, by omega⟩ : Fin 8).val : Int) = b by simp; omega] at this
theorem On.instAt {K : List (Addr × Obj)} {x C : Addr} {attrs : List (Str × Value)} {h : Heap} (y : On K fun h => HasInst h x C attrs) (hK : Has K h) : HasInst h x C attrs := y h hK
theorem On.row {K : List (Addr × Obj)} {x : Addr} {gs : List (Int × Int)} {h : Heap} (y : On K fun h => IsRow h x gs) (hK : Has K h) : IsRow h x gs := y h hK
theorem On.refs {K : List (Addr × Obj)} {x : Addr} {rs : List Addr} {h : Heap} (y : On K fun h => IsRefs h x rs) (hK : Has K h) : IsRefs h x rs := y h hK
theorem On.tabs {K : List (Addr × Obj)} {w : World} {x : Addr} {ts : List (List (Int × Int))} {h : Heap} (y : On K fun h => IsTabs w h x ts) (hK : Has K h) : IsTabs w h x ts := y h hK
section
variable {prog : Program} {w : World} {A : Around} {E : Value → Shared → Prop} {s : Shared} {K : Frag} {h₀ : Heap} {L : Addr} {m : Str → Option Value}
theorem attr_H {x C : Addr} {name : Str} {v : Value} {attr : Option Value} {expr : Bool} {Q : Value → Shared → Prop} (F : Fr h₀ L s.heap m) (X₀ : K.In h₀) (I : HasAttr s.heap x C name v) (hg : plainGet K C name = true) (hh : hasDictIn K C = true)
    (ha : findIn K (.ref C) name = some attr) (hn : noGet K attr = true) (hv : handedIn v = true) (h : Q v { s with toks := s.toks + 1 }) :
    wpAny (model prog w) A (getAttr (.ref x) name expr) Q E s := by
  obtain ⟨dx, es, n, a, b, c⟩ := I
  exact get_own (es := es) (n := n) F X₀ ⟨a, rfl, rfl, b⟩ hg hh ha hn c hv h
theorem row_item_On {R : Addr} {gs : List (Int × Int)} {value slice : PySem.Expr} {k : Int} {u : Tok} {Q : Value → Shared → Prop} (I : IsRow s.heap R gs) (h0 : 0 ≤ k) (h1 : k < gs.length)
   (h : ∀ x t1 t2, HasAttr s.heap x 142 (Str.ofString "glyph") (.int (gs.getD k.toNat (0, 0)).1 t1) → HasAttr s.heap x 142 (Str.ofString "mask") (.int (gs.getD k.toNat (0, 0)).2 t2) → Q (.ref x) s) (hs : subscripted slice false (.ref R) (.int k u) = operate [.ref R, .int k u] (getItem (.ref R) (.int k u)) := by with_unfolding_all rfl) : wpAny (model prog w) A (subscriptTail value slice (.ref R) (.int k u)) Q E s := by
  obtain ⟨refs, a, b, c, d⟩ := I
  have hl : k.toNat < refs.length := by omega
  obtain ⟨x, p, e1, e2, t1, t2, e3, e4⟩ := d k.toNat refs[k.toNat] (List.getElem?_eq_getElem hl)
  have ep : gs.getD k.toNat (0, 0) = p := by rw [List.getD_eq_getElem?_getD, e2]; rfl
  exact tail_any a.typeIs slot_list_getitem.lookup (wpAny_getItem_list a h0 (by omega) (by rw [List.getElem?_toArray, List.getElem?_eq_getElem hl, e1]) (h x t1 t2 (ep ▸ e3) (ep ▸ e4))) hs
end
local macro_rules | `(tactic| walk_at "getAttr ref") => `(tactic| (k_here; k_dflt (refine attr_H (by k_asm) (by k_asm) (by assumption) (by k_is) (by k_is) (by k_is) (by k_is) (by k_handed) ?_; k_whole)))
local macro_rules | `(tactic| walk_at "subscriptTail") => `(tactic| (k_here; k_dflt (refine row_item_On (by exact On.row (by with_reducible assumption) (by walk_at "my_has")) (by omega) (by omega) ?_; k_whole; intro x' t1' t2' i1' i2')))
local macro_rules | `(tactic| walk_at "call ref") => `(tactic| (k_here; (with_reducible show wpAny _ _ (call (Value.ref 97) _) _ _ _); k_dflt (refine passes_spec (by walk_at "my_cx") (by omega) (by exact On.instAt (by with_reducible assumption) (by walk_at "my_has")) (by exact On.instAt (by with_reducible assumption) (by walk_at "my_has")) (by exact On.row (by with_reducible assumption) (by walk_at "my_has")) (by exact On.gdef (by with_reducible assumption) (by walk_at "my_has")) (by exact On.lookAt (by with_reducible assumption) (by walk_at "my_has")) (by omega) (by omega) ?_; k_whole; intro h' tk' k'; (have F' := Fr.keeps (by k_asm) k'); (have N' := News.grown (by k_asm) k'))))
local macro_rules | `(tactic| walk_at "call ref") => `(tactic| (k_here; (with_reducible show wpAny _ _ (call (Value.ref 104) _) _ _ _); k_dflt (refine takes_spec (by walk_at "my_cx") (by omega) (by exact On.instAt (by with_reducible assumption) (by walk_at "my_has")) (by exact On.instAt (by with_reducible assumption) (by walk_at "my_has")) (by exact On.row (by with_reducible assumption) (by walk_at "my_has")) (by exact On.gdef (by with_reducible assumption) (by walk_at "my_has")) (by exact On.lookAt (by with_reducible assumption) (by walk_at "my_has")) (by omega) (by omega) ?_; k_whole; intro h' tk' k'; (have F' := Fr.keeps (by k_asm) k'); (have N' := News.grown (by k_asm) k'))))
section
variable {w : World} {mean : ExcName → Option Value} {mg mb : Str → Option Value} {A A₀ : Around} {base : Heap} {outer : List Env} {h₀ : Heap} {L fa : Addr} {cd : Value} {m : Str → Option Value} {s : Shared} {Q : Flow → Shared → Prop} {T c : Addr} {vs : List Value} {cs : List Int} {K : List (Addr × Obj)} {o1 o2 o3 o4 o5 o6 o7 o8 o9 : Obj} {cap : Nat} {tt : Tok} {kk : Int}
theorem seg15 {Rw G l Tb D sc b lk : Addr} {ps qs : List (Int × Int)} {xss : List (List Int)} {kind : Str} {flag num msk : Int} {vD : List Value} {due : List Int} {gs : List (Int × Int)} {t6 ta tb td : Tok} (B : Below A₀ base outer h₀) (X : (hd.heap_39 w.params).In h₀) (T0 : Top hd.view_39 (looseW hd.view_39 []) mean mg mb h₀) (hA : A.frames = some (lawEnv L fa cd :: outer)) (R : Room A 10)
   (F : Fr h₀ L s.heap m) (N : News h₀ L s.heap ((L + 1 + 1 + 1 + 1 + 1 + 1 + 1 + 1 + 1, o9) :: (L + 1 + 1 + 1 + 1 + 1 + 1 + 1 + 1, o8) :: (L + 1 + 1 + 1 + 1 + 1 + 1 + 1, o7) :: (L + 1 + 1 + 1 + 1 + 1 + 1, o6) :: (L + 1 + 1 + 1 + 1 + 1, o5) :: (L + 1 + 1 + 1 + 1, o4) :: (L + 1 + 1 + 1, o3) :: (L + 1 + 1, o2) :: (L + 1, o1) :: (T, listOf #[.ref c, .int kk tt] cap) :: K))
   (d5 : o5.data = .cell (some (.ref Rw))) (d6 : o6.data = .cell (some (.int msk t6))) (d7 : o7.data = .cell none) (off : OffK L T K) (hi : @LT.lt Nat _ (L + 1 + 1 + 1 + 1 + 1 + 1 + 1 + 1 + 1) T)
   (m1 : m (Str.ofString "scene") = some (.ref sc)) (m2 : m (Str.ofString "due") = some (.ref D))
   (hsc : On K (fun h => HasInst h sc 65 (sceneA b G lk l msk ta 2 tb))) (hb : On K (fun h => HasInst h b 188 (bufA Rw td))) (hrow : On K (fun h => IsRow h Rw gs))
   (hG : On K (fun h => IsGdef w h G ps qs xss)) (hl : On K (fun h => IsLook h l kind flag num Tb)) (hD : On K (fun h => h.IsList D (List.toArray vD))) (iD : IntsAre vD due)
   (hgl : gs.length = 4) (hgb : ∀ p ∈ gs, 0 ≤ p.1 ∧ p.1 < 12 ∧ 0 ≤ p.2 ∧ p.2 < 8) (k1 : 1 ≤ msk) (k2 : msk < 8)
   (hEq : ∀ g, 0 ≤ g → g < 12 → ign ps qs xss flag num g = decide (g ∈ due))
   (hQ : ∀ h' tk' m' (o7 : Obj), Fr h₀ L h' m' → News h₀ L h' ((L + 1 + 1 + 1 + 1 + 1 + 1 + 1 + 1 + 1, o9) :: (L + 1 + 1 + 1 + 1 + 1 + 1 + 1 + 1, o8) :: (L + 1 + 1 + 1 + 1 + 1 + 1 + 1, o7) :: (L + 1 + 1 + 1 + 1 + 1 + 1, o6) :: (L + 1 + 1 + 1 + 1 + 1, o5) :: (L + 1 + 1 + 1 + 1, o4) :: (L + 1 + 1 + 1, o3) :: (L + 1 + 1, o2) :: (L + 1, o1) :: (T, listOf #[.ref c, .int kk tt] cap) :: K) → (∃ v, o7.data = .cell v) → (∀ y, y ≠ Str.ofString "shared" → m' y = m y) → wpAny (model PySem.Challenge.rw_nu0163_01.row.prog w) A (execs (lawBody.drop 21) (lawEnv L fa cd)) Q (fun _ _ => False) { s with heap := h', toks := tk' })
   : wpAny (model PySem.Challenge.rw_nu0163_01.row.prog w) A (execs (lawBody.drop 20) (lawEnv L fa cd)) Q (fun _ _ => False) s := by
  conv in List.drop _ _ => whnf
  w_top on
  walk_at "open_stmt"
  refine For_turns (h₀ := h₀) F ?_ (fun _ => rfl) PySem.PassesOwn.never
  walk_at "to_range"
  rename (Fr h₀ _ _ _) => F2
  rename (News h₀ _ _ _) => N2
  with_unfolding_all refine range1_rows F2 N2 ?_
  intro h3 tk3 w1 w2 w3 hR F3 N3 k3
  clear N2 F2
  refine range_turns (fun i m₁ nw => ∃ q7 : Obj, nw = (L + 1 + 1 + 1 + 1 + 1 + 1 + 1 + 1 + 1, o9) :: (L + 1 + 1 + 1 + 1 + 1 + 1 + 1 + 1, o8) :: (L + 1 + 1 + 1 + 1 + 1 + 1 + 1, q7) :: (L + 1 + 1 + 1 + 1 + 1 + 1, o6) :: (L + 1 + 1 + 1 + 1 + 1, o5) :: (L + 1 + 1 + 1 + 1, o4) :: (L + 1 + 1 + 1, o3) :: (L + 1 + 1, o2) :: (L + 1, o1) :: (T, listOf #[.ref c, .int kk tt] cap) :: K ∧ (∃ v, q7.data = .cell v) ∧ ∀ y, y ≠ Str.ofString "shared" → m₁ y = m y) (Room.hh (by assumption)) hR (small_one (by decide) (by decide) (by decide) (by decide)) (small_range (by decide)) F3 N3 ⟨o7, rfl, ⟨_, d7⟩, fun y hy => rfl⟩ ?_ ?_
  · clear N3 F3
    rintro i m₁ news₁ h tk I oI t hin ⟨q7, rfl, ⟨v7, e7⟩, hmo⟩ oI' F4 N4
    replace F4 : Fr h₀ L h _ := F4
    replace N4 : News h₀ L h _ := N4
    have hi4 : i < 4 := hin
    have hp := hgb (gs.getD (0 + (i : Int)).toNat (0, 0)) (by rw [List.getD_eq_getElem?_getD, List.getElem?_eq_getElem (by omega)]; exact List.getElem_mem _)
    have hg := hEq (gs.getD (0 + (i : Int)).toNat (0, 0)).1 hp.1 hp.2.1
    have n1 := (hmo _ (by decide)).trans m1
    have n2 := (hmo _ (by decide)).trans m2
    have oI2 := oI'
    simp only [LCg.Off1] at oI2
    walk_at "to_lc"
    · rename (_ = true) => ha
      rw [hg] at ha
      simp at ha
    walk_at "lc_assign_T"
    refine LCt.CompSrcT.range (n := 3) (Room.hh (by assumption)) (by k_asm) (by k_asm) (by assumption) (by decide) (by decide) (by decide) (fun g => ?_)
    refine turns_T 3 (fun j ys nw => nw = _ ∧ IntsAre ys ((rng j).filter (bothP (gs.getD (0 + (i : Int)).toNat (0, 0)).2 msk))) ⟨rfl, .nil⟩ (fun j ys nw hj hJ v I2 oI2 C2 oC2 D2 m₂ h tk E' hP hNs hx F5 N5 off3 ne3 => ?_) (fun ys nw hJ => ?_)
    · obtain ⟨rfl, hys⟩ := hJ
      obtain ⟨t, rfl⟩ := hP
      iterate 20 (walk_at "my_step")
      split
      · rename (_ = true) => hb1
        rw [beq_iff_eq] at hb1
        replace hb1 : bitAt (gs.getD (0 + (i : Int)).toNat (0, 0)).2 (0 + (j : Int)) = 1 := hb1
        iterate 15 (walk_at "my_step")
        split
        · rename ((_ == _) = true) => hb2
          rw [beq_iff_eq] at hb2
          replace hb2 : bitAt msk (0 + (j : Int)) = 1 := hb2
          walk_at "to_tend"
          exact ⟨LCg.CompEnd.intro (by k_asm) (by k_asm) _ (fun _ h => h) off3 trivial ⟨rfl, filt_yes hys (decide_eq_true ⟨hb1, hb2⟩)⟩⟩
        · rename (¬ (_ == _) = true) => hb2
          rw [beq_iff_eq] at hb2
          replace hb2 : ¬ bitAt msk (0 + (j : Int)) = 1 := hb2
          walk_at "to_tend"
          exact ⟨LCg.CompEnd.intro (by k_asm) (by k_asm) _ (fun _ h => h) off3 trivial ⟨rfl, filt_no hys (decide_eq_false fun q => hb2 q.2)⟩⟩
      · rename (¬ (_ == _) = true) => hb1
        rw [beq_iff_eq] at hb1
        replace hb1 : ¬ bitAt (gs.getD (0 + (i : Int)).toNat (0, 0)).2 (0 + (j : Int)) = 1 := hb1
        walk_at "to_tend"
        exact ⟨LCg.CompEnd.intro (by k_asm) (by k_asm) _ (fun _ h => h) off3 trivial ⟨rfl, filt_no hys (decide_eq_false fun q => hb1 q.1)⟩⟩
    · obtain ⟨rfl, hys⟩ := hJ
      intro D5 h tk F5 N5 o1'
      dsimp only
      repeat' ((fail_if_success (with_reducible show wpAny _ _ (compareOp _ (Value.ref _) (Value.ref _)) _ _ _)); (fail_if_success (with_reducible show @ite _ _ _ _ _)); walk_at "my_step")
      refine ne_intsK (us := []) (News.isList (by k_asm) (by k_mem)) hys (News.isList (by k_asm) (by k_mem)) .nil (by have := R.un; show A.units + 64 < 9900; omega) ?_
      have hz1 := both_bits hp.2.2.1 hp.2.2.2 (Int.le_trans (by decide) k1) k2
      have hz : (!decide ((rng 3).filter (bothP (gs.getD (0 + (i : Int)).toNat (0, 0)).2 msk) = [])) = decide (Builtin.bitAnd (gs.getD (0 + (i : Int)).toNat (0, 0)).2 msk ≠ 0) := by
        rw [Bool.eq_iff_iff]; simp only [Bool.not_eq_true', decide_eq_false_iff_not, decide_eq_true_eq]; exact hz1.symm
      rw [hz, hg]
      clear hz hz1
      generalize decide (Builtin.bitAnd (gs.getD (0 + (i : Int)).toNat (0, 0)).2 msk ≠ 0) = z
      cases z
      · k_steps
        · rename ((_ != _) = true) => ha
          simp at ha
        · rename (_ = Data.cell (some (Value.int (0 + (i : Int)) _))) => d7'
          rename (News h₀ _ _ _) => N6
          exact TurnE.next (m' := _) (by k_asm) N6 (fun p hp => .tail _ (.tail _ hp)) oI' ⟨_, rfl, ⟨_, d7'⟩, fun y hy => (if_neg hy).trans (hmo y hy)⟩
      · k_steps
        · rename ((_ != _) = true) => ha
          simp at ha
        · rename (_ = Data.cell (some (Value.int (0 + (i : Int)) _))) => d7'
          rename (News h₀ _ _ _) => N6
          exact TurnE.next (m' := _) (by k_asm) N6 (fun p hp => .tail _ (.tail _ hp)) oI' ⟨_, rfl, ⟨_, d7'⟩, fun y hy => (if_neg hy).trans (hmo y hy)⟩
  · rintro m₁ news₁ h tk ⟨q7, rfl, hv, hmo⟩ F4 N4
    exact hQ _ _ m₁ q7 F4 N4 hv hmo
end


set_option maxHeartbeats 2500000
theorem lay_all : ∀ {xs : List PyData}, (∀ d ∈ xs, d.canLay0 = true) → PyData.canLayAll0 xs = true
  | [], _ => rfl
  | x :: xs, h => by
    unfold PyData.canLayAll0
    rw [h x (.head _), lay_all fun d hd => h d (.tail _ hd)]; rfl
theorem depth_all {n : Nat} : ∀ {xs : List PyData}, (∀ d ∈ xs, d.depth ≤ n) → PyData.depthAll xs ≤ n
  | [], _ => Nat.zero_le _
  | x :: xs, h => by
    unfold PyData.depthAll
    exact Nat.max_le.mpr ⟨h x (.head _), depth_all fun d hd => h d (.tail _ hd)⟩
theorem cdT_ok (ps : List (Int × Int)) : (cdT ps).canLay0 = true ∧ (cdT ps).depth ≤ 10 := by
  have h : ∀ d ∈ (ps.map (·.1)).map fun g => PyData.tuple [.int g, .int (intAt ps g)], d.canLay0 = true ∧ d.depth ≤ 5 := fun d hd => by
    obtain ⟨g, _, rfl⟩ := List.mem_map.mp hd
    exact ⟨rfl, by show PyData.depth (.tuple [.int g, .int (intAt ps g)]) ≤ 5; simp [PyData.depth, PyData.depthAll]⟩
  refine ⟨?_, ?_⟩
  · unfold cdT PyData.canLay0
    exact lay_all fun d hd => (h d hd).1
  · unfold cdT PyData.depth
    have := depth_all fun d hd => (h d hd).2
    omega
theorem lookT_ok {kind : Str} (hk : PyData.strOk kind = true) (flag ms : Int) (tabs : List (List (Int × Int))) : SeqAt.shaped (lookT kind flag ms tabs) = true := by
  have h : ∀ d ∈ tabs.map cdT, d.canLay0 = true ∧ d.depth ≤ 10 := fun d hd => by
    obtain ⟨ps, _, rfl⟩ := List.mem_map.mp hd
    exact cdT_ok ps
  have h1 : (PyData.tuple (tabs.map cdT)).canLay0 = true := by unfold PyData.canLay0; exact lay_all fun d hd => (h d hd).1
  have h2 : (PyData.tuple (tabs.map cdT)).depth ≤ 20 := by
    unfold PyData.depth
    have := depth_all fun d hd => (h d hd).2
    omega
  have a : (lookT kind flag ms tabs).canLay0 = true := by
    unfold lookT PyData.canLay0
    refine lay_all fun d hd => ?_
    simp only [List.mem_cons, List.not_mem_nil, or_false] at hd
    rcases hd with rfl | rfl | rfl | rfl
    · unfold PyData.canLay0; exact hk
    · rfl
    · rfl
    · exact h1
  have b : (lookT kind flag ms tabs).depth ≤ 64 := by
    unfold lookT PyData.depth
    have : PyData.depthAll [.str kind, .int flag, .int (if Builtin.bitAnd flag 16 ≠ 0 then ms else -1), .tuple (tabs.map cdT)] ≤ 30 := depth_all fun d hd => by
      simp only [List.mem_cons, List.not_mem_nil, or_false] at hd
      rcases hd with rfl | rfl | rfl | rfl
      · simp [PyData.depth]
      · simp [PyData.depth]
      · simp [PyData.depth]
      · omega
    omega
  unfold SeqAt.shaped
  rw [a, decide_eq_true b]; rfl
section
variable {prog : Program} {w : World} {A : Around} {E : Value → Shared → Prop} {s : Shared} {Kf : Frag} {h₀ : Heap} {L : Addr} {m : Str → Option Value}
theorem ne_told {v v' : Value} {d : PyData} {Q : Value → Shared → Prop} (ra : Reads s.heap v d []) (rb : Reads s.heap v' d []) (hd : SeqAt.shaped d = true) (hu : A.units + 64 < cLine) (h : Q (.bool false) s) : wpAny (model prog w) A (compareOp .NotEq v v') Q E s :=
  ne_dataH ra rb hd hd hu (by rw [SeqAt.eqv_refl d (SeqAt.canLay_of_shaped hd)]; exact h)
theorem eq_told {v v' : Value} {d : PyData} {as : List Addr} {Q : Value → Shared → Prop} (ra : Reads s.heap v d []) (rb : Reads s.heap v' d as) (hd : SeqAt.shaped d = true) (hu : A.units + 64 < cLine) (h : Q (.bool true) s) : wpAny (model prog w) A (compareOp .Eq v v') Q E s :=
  eq_dataH ra rb hd hd hu (by rw [SeqAt.eqv_refl d (SeqAt.canLay_of_shaped hd)]; exact h)
theorem attr_IH {x C : Addr} {attrs : List (Str × Value)} {name : Str} {v : Value} {attr : Option Value} {expr : Bool} {Q : Value → Shared → Prop} (F : Fr h₀ L s.heap m) (X₀ : Kf.In h₀) (I : HasInst s.heap x C attrs) (hg : plainGet Kf C name = true) (hh : hasDictIn Kf C = true)
    (ha : findIn Kf (.ref C) name = some attr) (hn : noGet Kf attr = true) (hl : attrs.lookup name = some v) (hv : handedIn v = true) (h : Q v { s with toks := s.toks + 1 }) :
    wpAny (model prog w) A (getAttr (.ref x) name expr) Q E s := by
  obtain ⟨dx, es, n, a, b, c⟩ := I
  exact get_own (es := es) (n := n) F X₀ ⟨a, rfl, rfl, b⟩ hg hh ha hn (by rw [c, hl]) hv h
theorem method_IH {x C : Addr} {attrs : List (Str × Value)} {name : Str} {f : Addr} {pl : Sem Bool} {Q : Value × List Value → Shared → Prop} (F : Fr h₀ L s.heap m) (X₀ : Kf.In h₀) (I : HasInst s.heap x C attrs) (hg : plainGet Kf C name = true)
    (hf : findIn Kf (.ref C) name = some (some (.ref f))) (ht : isFn Kf (.ref f) = true) (hl : attrs.lookup name = none) (h : Q (.ref f, [.ref x]) s) : wpAny (model prog w) A (getMethod (.ref x) name pl) Q E s := by
  obtain ⟨dx, es, n, a, b, c⟩ := I
  exact method_inst (es := es) (n := n) F X₀ ⟨a, rfl, rfl, b⟩ hg hf ht (by rw [c, hl]) h
theorem method_look {x T : Addr} {kind : Str} {flag ms : Int} {name : Str} {f : Addr} {pl : Sem Bool} {Q : Value × List Value → Shared → Prop} (F : Fr h₀ L s.heap m) (X₀ : Kf.In h₀) (I : IsLook s.heap x kind flag ms T) (hg : plainGet Kf 43 name = true)
    (hf : findIn Kf (.ref 43) name = some (some (.ref f))) (ht : isFn Kf (.ref f) = true) (hl : ∀ t1 t2 t3, (lookA kind t1 flag t2 ms t3 T).lookup name = none) (h : Q (.ref f, [.ref x]) s) : wpAny (model prog w) A (getMethod (.ref x) name pl) Q E s := by
  obtain ⟨t1, t2, t3, I⟩ := I
  exact method_IH F X₀ I hg hf ht (hl _ _ _) h
end
local macro_rules | `(tactic| walk_at "getAttr ref") => `(tactic| (k_here; k_dflt (refine attr_IH (by k_asm) (by k_asm) (by exact On.instAt (by with_reducible assumption) (by walk_at "my_has")) (by k_is) (by k_is) (by k_is) (by k_is) (by exact rfl) (by k_handed) ?_; k_whole)))
local macro_rules | `(tactic| walk_at "getMethod ref") => `(tactic| (k_here; k_dflt (refine method_look (by k_asm) (by k_asm) (by exact On.lookAt (by with_reducible assumption) (by walk_at "my_has")) (by k_is) (by k_is) (by k_is) (by exact fun _ _ _ => rfl) ?_; k_whole)))
local macro_rules | `(tactic| walk_at "call ref") => `(tactic| (k_here; (with_reducible show wpAny _ _ (call (Value.ref 40) _) _ _ _); k_dflt (refine look_told_spec (by walk_at "my_cx") (by omega) (by exact On.lookAt (by with_reducible assumption) (by walk_at "my_has")) (by exact On.tabs (by with_reducible assumption) (by walk_at "my_has")) ?_; k_whole; intro h' tk' v' K' k' n' r'; (have F' := Fr.keeps (by k_asm) k'); (have N' := News.addK (by k_asm) (by k_asm) k' n'); (simp only [List.cons_append, List.nil_append] at N'); (try k_unmd))))
local macro_rules | `(tactic| walk_at "call ref") => `(tactic| (k_here; (with_reducible show wpAny _ _ (call (Value.ref 111) _) _ _ _); k_dflt (refine nested_none (by walk_at "my_cx") (by omega) (by exact On.instAt (by with_reducible assumption) (by walk_at "my_has")) (by exact On.refs (by with_reducible assumption) (by walk_at "my_has")) (by exact (by decide : 2 < 1000)) (by first | exact .inl (by decide) | exact .inr (Int.le_refl 2)) ?_; k_whole; intro h' tk' k'; (have F' := Fr.keeps (by k_asm) k'); (have N' := News.grown (by k_asm) k'))))
theorem sub_top2' {e1 e2 e3 e4 e5 e6 e7 e8 e9 e10 x y : Addr × Obj} {K : List (Addr × Obj)} : ∀ p ∈ e1 :: e2 :: e3 :: e4 :: e5 :: e6 :: e7 :: e8 :: e9 :: e10 :: x :: y :: K, p ∈ x :: y :: e1 :: e2 :: e3 :: e4 :: e5 :: e6 :: e7 :: e8 :: e9 :: e10 :: K := by walk_at "my_sub"
section
variable {w : World} {mean : ExcName → Option Value} {mg mb : Str → Option Value} {A A₀ : Around} {base : Heap} {outer : List Env} {h₀ : Heap} {L fa : Addr} {cd : Value} {m : Str → Option Value} {s : Shared} {Q : Flow → Shared → Prop} {T c : Addr} {vs : List Value} {cs : List Int} {K : List (Addr × Obj)} {o1 o2 o3 o4 o5 o6 o7 o8 o9 : Obj} {cap : Nat} {tt : Tok} {kk : Int}
theorem seg16 {G l l2 sc b lk : Addr} {msk : Int} {ta tb : Tok} (B : Below A₀ base outer h₀) (X : (hd.heap_39 w.params).In h₀) (T0 : Top hd.view_39 (looseW hd.view_39 []) mean mg mb h₀) (hA : A.frames = some (lawEnv L fa cd :: outer)) (R : Room A 10)
   (F : Fr h₀ L s.heap m) (N : News h₀ L s.heap ((L + 1 + 1 + 1 + 1 + 1 + 1 + 1 + 1 + 1, o9) :: (L + 1 + 1 + 1 + 1 + 1 + 1 + 1 + 1, o8) :: (L + 1 + 1 + 1 + 1 + 1 + 1 + 1, o7) :: (L + 1 + 1 + 1 + 1 + 1 + 1, o6) :: (L + 1 + 1 + 1 + 1 + 1, o5) :: (L + 1 + 1 + 1 + 1, o4) :: (L + 1 + 1 + 1, o3) :: (L + 1 + 1, o2) :: (L + 1, o1) :: (T, listOf #[.ref c, .int kk tt] cap) :: K))
   (d8 : o8.data = .cell none) (off : OffK L T K) (hi : @LT.lt Nat _ (L + 1 + 1 + 1 + 1 + 1 + 1 + 1 + 1 + 1) T)
   (m1 : m (Str.ofString "scene") = some (.ref sc))
   (hsc : On K (fun h => HasInst h sc 65 (sceneA b G lk l msk ta 2 tb))) (hlk : On K (fun h => IsRefs h lk [l, l2]))
   (hQ : ∀ h' tk' x t2 t3 (o8 : Obj) K', Fr h₀ L h' m → News h₀ L h' ((L + 1 + 1 + 1 + 1 + 1 + 1 + 1 + 1 + 1, o9) :: (L + 1 + 1 + 1 + 1 + 1 + 1 + 1 + 1, o8) :: (L + 1 + 1 + 1 + 1 + 1 + 1 + 1, o7) :: (L + 1 + 1 + 1 + 1 + 1 + 1, o6) :: (L + 1 + 1 + 1 + 1 + 1, o5) :: (L + 1 + 1 + 1 + 1, o4) :: (L + 1 + 1 + 1, o3) :: (L + 1 + 1, o2) :: (L + 1, o1) :: (T, listOf #[.ref c, .int kk tt] cap) :: K') → o8.data = .cell (some (.ref x)) → OffK L T K' → (∀ p ∈ K, p ∈ K') → On K' (fun h => HasInst h x 65 (sceneA b G lk l2 msk t2 (2 + 1) t3)) → wpAny (model PySem.Challenge.rw_nu0163_01.row.prog w) A (execs (lawBody.drop 22) (lawEnv L fa cd)) Q (fun _ _ => False) { s with heap := h', toks := tk' })
   : wpAny (model PySem.Challenge.rw_nu0163_01.row.prog w) A (execs (lawBody.drop 21) (lawEnv L fa cd)) Q (fun _ _ => False) s := by
  conv in List.drop _ _ => whnf
  w_top on
  walk_at "open_stmt"
  repeat' ((fail_if_success (with_reducible show wpAny _ _ (call (Value.ref 111) _) _ _ _)); walk_at "my_step")
  refine nested_some (mean := mean) (mg := mg) (mb := mb) (A₀ := A₀) (base := base) (outer := outer) (h₀ := h₀) (L := L) (m := m) (env := lawEnv L fa cd) (n := 10) (by walk_at "my_cx") (by decide) (On.instAt hsc (by walk_at "my_has")) (On.refs hlk (by walk_at "my_has")) (by decide : 2 < 1000) (by decide) (by decide : (1 : Int) < 2) fun h' tk' x t2 t3 k' hN => ?_
  obtain ⟨dx, es, n, gx, gd, hat, ex, ed⟩ := hN
  have F5 : Fr h₀ L h' m := Fr.keeps F k'
  obtain ⟨N5, q1, hDL⟩ := add_new F N k' gx ex
  obtain ⟨N6, q2, hDL2⟩ := add_new F N k' gd ed
  have q3 := q1
  have q4 := q2
  simp only [LCg.Off1] at q3 q4
  have N7 : News h₀ L h' ((x, _) :: (dx, _) :: _) := fun p hp => by
    rcases List.mem_cons.mp hp with rfl | hp
    · exact N5 _ (.head _)
    · exact N6 p hp
  clear F N N5 N6
  walk_at "to_law"
  walk_at "my_unf"
  rename (_ = Data.cell (some (Value.ref x))) => d8'
  rename (News h₀ _ _ _) => N8
  exact hQ _ _ x t2 t3 _ ((x, _) :: (dx, dictOf es n) :: K) (by k_asm) (News.sub N8 sub_top2') d8' (OffK.cons (by k_ne) (by dsimp only; omega) (OffK.cons (by k_ne) (by dsimp only; omega) off)) (fun p hp => .tail _ (.tail _ hp)) (fun h hK => ⟨dx, es, n, hK _ (.head _), hK _ (.tail _ (.head _)), hat⟩)
end


set_option maxHeartbeats 2500000
local macro_rules | `(tactic| walk_at "to_ite2") => `(tactic| (repeat' ((fail_if_success (with_reducible show @ite _ _ _ _ _)); walk_at "my_step")))
theorem sub_k {e1 e2 e3 e4 e5 e6 e7 e8 e9 e10 : Addr × Obj} {K K2 : List (Addr × Obj)} (s : ∀ p ∈ K, p ∈ K2) : ∀ p ∈ e1 :: e2 :: e3 :: e4 :: e5 :: e6 :: e7 :: e8 :: e9 :: e10 :: K, p ∈ e1 :: e2 :: e3 :: e4 :: e5 :: e6 :: e7 :: e8 :: e9 :: e10 :: K2 := by
  iterate 10 (refine List.forall_mem_cons.mpr ⟨by k_mem, ?_⟩)
  exact fun p hp => mem10 (s p hp)
section
variable {w : World} {mean : ExcName → Option Value} {mg mb : Str → Option Value} {A A₀ : Around} {base : Heap} {outer : List Env} {h₀ : Heap} {L fa : Addr} {cd : Value} {m : Str → Option Value} {s : Shared} {Q : Flow → Shared → Prop} {T c : Addr} {vs : List Value} {cs : List Int} {K : List (Addr × Obj)} {o1 o2 o3 o4 o5 o6 o7 o8 o9 : Obj} {cap : Nat} {tt : Tok} {kk : Int}
theorem seg17 {G l l2 sc b lk x Tb : Addr} {msk f2 num : Int} {ta tb t2 t3 t6 : Tok} {tabs : List (List (Int × Int))} (B : Below A₀ base outer h₀) (X : (hd.heap_39 w.params).In h₀) (T0 : Top hd.view_39 (looseW hd.view_39 []) mean mg mb h₀) (hA : A.frames = some (lawEnv L fa cd :: outer)) (R : Room A 10)
   (F : Fr h₀ L s.heap m) (N : News h₀ L s.heap ((L + 1 + 1 + 1 + 1 + 1 + 1 + 1 + 1 + 1, o9) :: (L + 1 + 1 + 1 + 1 + 1 + 1 + 1 + 1, o8) :: (L + 1 + 1 + 1 + 1 + 1 + 1 + 1, o7) :: (L + 1 + 1 + 1 + 1 + 1 + 1, o6) :: (L + 1 + 1 + 1 + 1 + 1, o5) :: (L + 1 + 1 + 1 + 1, o4) :: (L + 1 + 1 + 1, o3) :: (L + 1 + 1, o2) :: (L + 1, o1) :: (T, listOf #[.ref c, .int kk tt] cap) :: K))
   (d6 : o6.data = .cell (some (.int msk t6))) (d8 : o8.data = .cell (some (.ref x))) (off : OffK L T K) (hi : @LT.lt Nat _ (L + 1 + 1 + 1 + 1 + 1 + 1 + 1 + 1 + 1) T)
   (m1 : m (Str.ofString "scene") = some (.ref sc)) (m2 : m (Str.ofString "other") = some (.ref l2))
   (hsc : On K (fun h => HasInst h sc 65 (sceneA b G lk l msk ta 2 tb))) (hlk : On K (fun h => IsRefs h lk [l, l2]))
   (hx : On K (fun h => HasInst h x 65 (sceneA b G lk l2 msk t2 3 t3))) (hl2 : On K (fun h => IsLook h l2 (Str.ofString "pair") f2 num Tb)) (htb : On K (fun h => IsTabs w h Tb tabs))
   (hQ : ∀ h' tk', Fr h₀ L h' m → News h₀ L h' ((L + 1 + 1 + 1 + 1 + 1 + 1 + 1 + 1 + 1, o9) :: (L + 1 + 1 + 1 + 1 + 1 + 1 + 1 + 1, o8) :: (L + 1 + 1 + 1 + 1 + 1 + 1 + 1, o7) :: (L + 1 + 1 + 1 + 1 + 1 + 1, o6) :: (L + 1 + 1 + 1 + 1 + 1, o5) :: (L + 1 + 1 + 1 + 1, o4) :: (L + 1 + 1 + 1, o3) :: (L + 1 + 1, o2) :: (L + 1, o1) :: (T, listOf #[.ref c, .int kk tt] cap) :: K) → wpAny (model PySem.Challenge.rw_nu0163_01.row.prog w) A (execs (lawBody.drop 23) (lawEnv L fa cd)) Q (fun _ _ => False) { s with heap := h', toks := tk' })
   : wpAny (model PySem.Challenge.rw_nu0163_01.row.prog w) A (execs (lawBody.drop 22) (lawEnv L fa cd)) Q (fun _ _ => False) s := by
  conv in List.drop _ _ => whnf
  w_top on
  repeat' ((fail_if_success (with_reducible show wpAny _ _ (call (Value.ref 40) _) _ _ _)); walk_at "my_step")
  refine look_told_spec (mean := mean) (mg := mg) (mb := mb) (A₀ := A₀) (base := base) (outer := outer) (h₀ := h₀) (L := L) (m := m) (env := lawEnv L fa cd) (n := 10) (by walk_at "my_cx") (by decide) (On.lookAt hl2 (by walk_at "my_has")) (On.tabs htb (by walk_at "my_has")) fun h1 tk1 v1 K1 k1' n1 r1 => ?_
  have F1 : Fr h₀ L h1 m := Fr.keeps F k1'
  have N1 := News.addK F N k1' n1
  obtain ⟨K2, hK2⟩ : ∃ K2, K2 = K ++ K1 := ⟨_, rfl⟩
  simp only [List.cons_append, ← hK2] at N1
  have s1 : ∀ p ∈ K, p ∈ K2 := fun p hp => hK2 ▸ List.mem_append_left _ hp
  have s2 : ∀ p ∈ K1, p ∈ K2 := fun p hp => hK2 ▸ List.mem_append_right _ hp
  replace hsc := hsc.mono s1
  replace hlk := hlk.mono s1
  replace hx := hx.mono s1
  replace hl2 := hl2.mono s1
  replace htb := htb.mono s1
  clear F N
  repeat' ((fail_if_success (with_reducible show wpAny _ _ (call (Value.ref 40) _) _ _ _)); walk_at "my_step")
  refine look_told_spec (mean := mean) (mg := mg) (mb := mb) (A₀ := A₀) (base := base) (outer := outer) (h₀ := h₀) (L := L) (m := m) (env := lawEnv L fa cd) (n := 10) (by walk_at "my_cx") (by decide) (On.lookAt hl2 (by walk_at "my_has")) (On.tabs htb (by walk_at "my_has")) fun h3 tk3 v3 K3 k3' n3 r3 => ?_
  have F3 : Fr h₀ L h3 m := Fr.keeps F1 k3'
  have N3 := News.addK F1 N1 k3' n3
  have ra := r1 h3 fun p hp => (News.get N3 (List.mem_append_left _ (mem10 (s2 p hp))))
  have rb := r3 h3 fun p hp => (n3 p hp).1
  replace N3 := News.sub N3 (fun p hp => List.mem_append_left _ hp)
  clear F1 N1
  refine ne_told ra rb (lookT_ok (by decide +kernel) _ _ _) (by have := R.un; show A.units + 64 < 9900; omega) ?_
  walk_at "to_ite2"
  rw [if_neg Bool.false_ne_true]
  walk_at "to_ite2"
  rw [if_neg (by decide)]
  walk_at "to_ite2"
  rw [if_neg (by simp)]
  walk_at "to_ite2"
  rw [if_neg Bool.false_ne_true]
  walk_at "to_law"
  walk_at "my_unf"
  rename (News h₀ _ _ _) => N8
  refine wpAny_execs_nil ?_
  exact hQ _ _ (by k_asm) (News.sub N8 (sub_k s1))
end


set_option maxHeartbeats 2500000
theorem attr_flag {prog : Program} {w : World} {A : Around} {E : Value → Shared → Prop} {s : Shared} {Kf : Frag} {h₀ : Heap} {L : Addr} {m : Str → Option Value} {x T : Addr} {kind : Str} {flag ms : Int} {attr : Option Value} {expr : Bool} {Q : Value → Shared → Prop} (F : Fr h₀ L s.heap m) (X₀ : Kf.In h₀) (I : IsLook s.heap x kind flag ms T) (hg : plainGet Kf 43 (Str.ofString "flag") = true) (hh : hasDictIn Kf 43 = true)
    (ha : findIn Kf (.ref 43) (Str.ofString "flag") = some attr) (hn : noGet Kf attr = true) (h : ∀ t, Q (.int flag t) { s with toks := s.toks + 1 }) :
    wpAny (model prog w) A (getAttr (.ref x) (Str.ofString "flag") expr) Q E s := by
  obtain ⟨t1, t2, t3, I⟩ := I
  exact attr_IH F X₀ I hg hh ha hn rfl rfl (h t2)
local macro_rules | `(tactic| walk_at "getAttr ref") => `(tactic| (k_here; k_dflt (refine attr_flag (by k_asm) (by k_asm) (by exact On.lookAt (by with_reducible assumption) (by walk_at "my_has")) (by k_is) (by k_is) (by k_is) (by k_is) ?_; k_whole; intro t')))
theorem tn (j : Nat) : (0 + (j : Int)).toNat = j := by omega
theorem reads_bools {h : Heap} {f : Nat → Bool} : ∀ l : List Nat, ReadsAll h (l.map fun k => Value.bool (f k)) (l.map fun k => PyData.bool (f k)) []
  | [] => .nil
  | _ :: l => .cons (.bool _) (reads_bools l)
theorem list_bools {h : Heap} {f : Nat → Bool} {n : Nat} {D : Addr} (hD : h.get? D = some (lst ((List.range n).map fun k => Value.bool (f k)))) : ∃ as, Reads h (.ref D) (.list ((List.range n).map fun k => PyData.bool (f k))) as := ⟨_, .list hD rfl rfl (reads_bools _)⟩
theorem bools_ok {f : Nat → Bool} (l : List Nat) : SeqAt.shaped (.list (l.map fun k => PyData.bool (f k))) = true := by
  have a : (PyData.list (l.map fun k => PyData.bool (f k))).canLay0 = true := by
    unfold PyData.canLay0
    exact lay_all fun d hd => by obtain ⟨k, _, rfl⟩ := List.mem_map.mp hd; rfl
  have b : (PyData.list (l.map fun k => PyData.bool (f k))).depth ≤ 64 := by
    unfold PyData.depth
    have := depth_all (n := 5) (xs := l.map fun k => PyData.bool (f k)) fun d hd => by obtain ⟨k, _, rfl⟩ := List.mem_map.mp hd; simp [PyData.depth]
    omega
  unfold SeqAt.shaped
  rw [a, decide_eq_true b]; rfl
theorem bools_snoc {f : Nat → Bool} {j : Nat} {b : Bool} (h : b = f j) : (List.range j).map (fun k => Value.bool (f k)) ++ [Value.bool b] = (List.range (j + 1)).map fun k => Value.bool (f k) := by rw [List.range_succ, List.map_append, h]; rfl
section
variable {w : World} {mean : ExcName → Option Value} {mg mb : Str → Option Value} {A A₀ : Around} {base : Heap} {outer : List Env} {h₀ : Heap} {L fa : Addr} {cd : Value} {m : Str → Option Value} {s : Shared} {Q : Flow → Shared → Prop} {T c : Addr} {vs : List Value} {cs : List Int} {K : List (Addr × Obj)} {o1 o2 o3 o4 o5 o6 o7 o8 o9 : Obj} {cap : Nat} {tt : Tok} {kk : Int}
theorem seg18 {D1 D2 S l2 Tb : Addr} {v1 v2 : List Value} {c1 c2 : List Int} {xss : List (List Int)} {f2 num : Int} {t2 : Tok} (B : Below A₀ base outer h₀) (X : (hd.heap_39 w.params).In h₀) (T0 : Top hd.view_39 (looseW hd.view_39 []) mean mg mb h₀) (hA : A.frames = some (lawEnv L fa cd :: outer)) (R : Room A 10)
   (F : Fr h₀ L s.heap m) (N : News h₀ L s.heap ((L + 1 + 1 + 1 + 1 + 1 + 1 + 1 + 1 + 1, o9) :: (L + 1 + 1 + 1 + 1 + 1 + 1 + 1 + 1, o8) :: (L + 1 + 1 + 1 + 1 + 1 + 1 + 1, o7) :: (L + 1 + 1 + 1 + 1 + 1 + 1, o6) :: (L + 1 + 1 + 1 + 1 + 1, o5) :: (L + 1 + 1 + 1 + 1, o4) :: (L + 1 + 1 + 1, o3) :: (L + 1 + 1, o2) :: (L + 1, o1) :: (T, listOf #[.ref c, .int kk tt] cap) :: K)) (off : OffK L T K) (hi : @LT.lt Nat _ (L + 1 + 1 + 1 + 1 + 1 + 1 + 1 + 1 + 1) T)
   (d2 : o2.data = .cell (some (.ref D1))) (d3 : o3.data = .cell (some (.ref D2))) (d9 : o9.data = .cell none)
   (m1 : m (Str.ofString "other") = some (.ref l2)) (m2 : m (Str.ofString "number") = some (.int num t2)) (m3 : m (Str.ofString "sets") = some (.ref S))
   (hk2 : On K (fun h => IsLook h l2 (Str.ofString "pair") f2 num Tb))
   (hl1 : On K (fun h => h.IsList D1 v1.toArray)) (hl2 : On K (fun h => h.IsList D2 v2.toArray)) (i1 : IntsAre v1 c1) (i2 : IntsAre v2 c2) (z1 : c1.length = 12) (z2 : c2.length = 12) (hS : On K (fun h => IsLists h S xss)) (n0 : 0 ≤ num)
   (hQ : ∀ h' tk' D vD K' (o9 : Obj), Fr h₀ L h' m → News h₀ L h' ((L + 1 + 1 + 1 + 1 + 1 + 1 + 1 + 1 + 1, o9) :: (L + 1 + 1 + 1 + 1 + 1 + 1 + 1 + 1, o8) :: (L + 1 + 1 + 1 + 1 + 1 + 1 + 1, o7) :: (L + 1 + 1 + 1 + 1 + 1 + 1, o6) :: (L + 1 + 1 + 1 + 1 + 1, o5) :: (L + 1 + 1 + 1 + 1, o4) :: (L + 1 + 1 + 1, o3) :: (L + 1 + 1, o2) :: (L + 1, o1) :: (T, listOf #[.ref c, .int kk tt] cap) :: K') → OffK L T K' → (∀ p ∈ K, p ∈ K') → o9.data = .cell (some (.ref D)) → On K' (fun h => h.IsList D (List.toArray vD)) → IntsAre vD (dueOf c1 c2 xss f2 num) → wpAny (model PySem.Challenge.rw_nu0163_01.row.prog w) A (execs (lawBody.drop 24) (lawEnv L fa cd)) Q (fun _ _ => False) { s with heap := h', toks := tk' })
   : wpAny (model PySem.Challenge.rw_nu0163_01.row.prog w) A (execs (lawBody.drop 23) (lawEnv L fa cd)) Q (fun _ _ => False) s := by
  conv in List.drop _ _ => whnf
  w_top on
  walk_at "open_stmt"
  repeat' ((fail_if_success (with_reducible show wpAny _ _ (call (Value.ref 341) _) _ _ _)); walk_at "my_step")
  refine law_ignored_spec (mean := mean) (mg := mg) (mb := mb) (A₀ := A₀) (base := base) (outer := outer) (h₀ := h₀) (L := L) (m := m) (env := lawEnv L fa cd) (n := 10) (by walk_at "my_cx") (by decide) (hl1 _ (by walk_at "my_has")) i1 z1 (hl2 _ (by walk_at "my_has")) i2 z2 (hS _ (by walk_at "my_has")) n0 fun h' tk' D vD k' iD jD eD => ?_
  obtain ⟨oD, gD, cD, nD, dD⟩ := iD
  have F5 : Fr h₀ L h' m := Fr.keeps F k'
  obtain ⟨N5, q1, hDL⟩ := add_new F N k' gD eD
  have q2 := q1
  simp only [LCg.Off1] at q2
  clear F N
  walk_at "to_law"
  walk_at "my_unf"
  rename (_ = Data.cell (some (Value.ref D))) => d9'
  rename (News h₀ _ _ _) => N6
  exact hQ _ _ D vD ((D, oD) :: K) _ (by k_asm) (News.sub N6 sub_top1') (OffK.cons (by k_ne) (by dsimp only; omega) off) (fun p hp => .tail _ hp) d9' (fun h hK => ⟨oD, hK _ (.head _), cD, nD, dD⟩) jD
end


set_option maxHeartbeats 2500000
local macro_rules | `(tactic| walk_at "getAttr ref") => `(tactic| (k_here; k_dflt (refine attr_H (by k_asm) (by k_asm) (by with_reducible assumption) (by k_is) (by k_is) (by k_is) (by k_is) (by k_handed) ?_; k_whole)))
structure BoolsTo (f : Nat → Bool) (j : Nat) (ys : List Value) : Prop where
  eq : ys = (List.range j).map fun k => Value.bool (f k)
theorem BoolsTo.snoc {f : Nat → Bool} {j : Nat} {ys : List Value} {b : Bool} (h : BoolsTo f j ys) (e : b = f j) : BoolsTo f (j + 1) (ys ++ [Value.bool b]) := ⟨by rw [h.eq]; exact bools_snoc e⟩
section
variable {w : World} {mean : ExcName → Option Value} {mg mb : Str → Option Value} {A A₀ : Around} {base : Heap} {outer : List Env} {h₀ : Heap} {L fa : Addr} {cd : Value} {m : Str → Option Value} {s : Shared} {Q : Flow → Shared → Prop} {T c : Addr} {vs : List Value} {cs : List Int} {K : List (Addr × Obj)} {o1 o2 o3 o4 o5 o6 o7 o8 o9 : Obj} {cap : Nat} {tt : Tok} {kk : Int}
theorem seg19 {Rw G l2 Tb D x b lk : Addr} {ps qs : List (Int × Int)} {xss : List (List Int)} {kind : Str} {f2 num msk : Int} {vD : List Value} {due : List Int} {gs : List (Int × Int)} {t2 t3 td : Tok} (B : Below A₀ base outer h₀) (X : (hd.heap_39 w.params).In h₀) (T0 : Top hd.view_39 (looseW hd.view_39 []) mean mg mb h₀) (hA : A.frames = some (lawEnv L fa cd :: outer)) (R : Room A 10)
   (F : Fr h₀ L s.heap m) (N : News h₀ L s.heap ((L + 1 + 1 + 1 + 1 + 1 + 1 + 1 + 1 + 1, o9) :: (L + 1 + 1 + 1 + 1 + 1 + 1 + 1 + 1, o8) :: (L + 1 + 1 + 1 + 1 + 1 + 1 + 1, o7) :: (L + 1 + 1 + 1 + 1 + 1 + 1, o6) :: (L + 1 + 1 + 1 + 1 + 1, o5) :: (L + 1 + 1 + 1 + 1, o4) :: (L + 1 + 1 + 1, o3) :: (L + 1 + 1, o2) :: (L + 1, o1) :: (T, listOf #[.ref c, .int kk tt] cap) :: K))
   (d5 : o5.data = .cell (some (.ref Rw))) (d8 : o8.data = .cell (some (.ref x))) (d9 : o9.data = .cell (some (.ref D))) (off : OffK L T K)
   (hx : On K (fun h => HasInst h x 65 (sceneA b G lk l2 msk t2 3 t3))) (hb : On K (fun h => HasInst h b 188 (bufA Rw td))) (hrow : On K (fun h => IsRow h Rw gs))
   (hG : On K (fun h => IsGdef w h G ps qs xss)) (hl2 : On K (fun h => IsLook h l2 kind f2 num Tb)) (hD : On K (fun h => h.IsList D (List.toArray vD))) (iD : IntsAre vD due)
   (hgl : gs.length = 4) (hgb : ∀ p ∈ gs, 0 ≤ p.1 ∧ p.1 < 12 ∧ 0 ≤ p.2 ∧ p.2 < 8)
   (hEq : ∀ g, 0 ≤ g → g < 12 → ign ps qs xss f2 num g = decide (g ∈ due))
   (hQ : ∀ h' tk', Fr h₀ L h' m → News h₀ L h' ((L + 1 + 1 + 1 + 1 + 1 + 1 + 1 + 1 + 1, o9) :: (L + 1 + 1 + 1 + 1 + 1 + 1 + 1 + 1, o8) :: (L + 1 + 1 + 1 + 1 + 1 + 1 + 1, o7) :: (L + 1 + 1 + 1 + 1 + 1 + 1, o6) :: (L + 1 + 1 + 1 + 1 + 1, o5) :: (L + 1 + 1 + 1 + 1, o4) :: (L + 1 + 1 + 1, o3) :: (L + 1 + 1, o2) :: (L + 1, o1) :: (T, listOf #[.ref c, .int kk tt] cap) :: K) → wpAny (model PySem.Challenge.rw_nu0163_01.row.prog w) A (execs (lawBody.drop 25) (lawEnv L fa cd)) Q (fun _ _ => False) { s with heap := h', toks := tk' })
   : wpAny (model PySem.Challenge.rw_nu0163_01.row.prog w) A (execs (lawBody.drop 24) (lawEnv L fa cd)) Q (fun _ _ => False) s := by
  conv in List.drop _ _ => whnf
  w_top on
  walk_at "to_lc"
  walk_at "lc_eval_U"
  refine LCg.CompSrc.range (n := 4) (Room.hh (by assumption)) (by k_asm) (by k_asm) (by assumption) (by decide) (by decide) (by decide) (fun g => ?_)
  dsimp only
  refine turns_U 4 (fun j ys nw => nw = _ ∧ BoolsTo (fun k => ign ps qs xss f2 num (gs.getD k (0, 0)).1) j ys) ⟨rfl, ⟨rfl⟩⟩ (fun j ys nw hj hJ v I2 oI2 C2 oC2 D2 m₂ h tk E' hP hNs hx F5 N5 off3 ne3 => ?_) (fun ys nw hJ => ?_)
  · obtain ⟨rfl, hys⟩ := hJ
    obtain ⟨t, rfl⟩ := hP
    walk_at "to_tend"
    exact ⟨LCg.CompEnd.intro (by k_asm) (by k_asm) _ (fun _ h => h) off3 trivial ⟨rfl, hys.snoc (by rw [tn])⟩⟩
  · obtain ⟨rfl, hy1⟩ := hJ
    intro D5 h tk F5 N5 o5
    dsimp only
    walk_at "to_lc"
    walk_at "lc_eval_U"
    refine LCg.CompSrc.range (n := 4) (Room.hh (by assumption)) (by k_asm) (by k_asm) (by assumption) (by decide) (by decide) (by decide) (fun g => ?_)
    dsimp only
    refine turns_U 4 (fun j ys nw => nw = _ ∧ BoolsTo (fun k => decide ((gs.getD k (0, 0)).1 ∈ due)) j ys) ⟨rfl, ⟨rfl⟩⟩ (fun j ys nw hj hJ v I2 oI2 C2 oC2 D2 m₂ h tk E' hP hNs hx F5 N5 off3 ne3 => ?_) (fun ys nw hJ => ?_)
    · obtain ⟨rfl, hys⟩ := hJ
      obtain ⟨t, rfl⟩ := hP
      repeat' ((fail_if_success (with_reducible show wpAny _ _ (compareOp _ _ _) _ _ _)); walk_at "my_step")
      walk_at "my_step"
      exact ⟨LCg.CompEnd.intro F5 N5 _ (fun _ h => h) off3 trivial ⟨rfl, hys.snoc (by rw [tn])⟩⟩
    · obtain ⟨rfl, hy2⟩ := hJ
      intro D6 h tk F6 N6 o6
      dsimp only
      repeat' ((fail_if_success (with_reducible show wpAny _ _ (compareOp _ _ _) _ _ _)); walk_at "my_step")
      have e : ((List.range 4).map fun k => Value.bool (decide ((gs.getD k (0, 0)).1 ∈ due))) = (List.range 4).map fun k => Value.bool (ign ps qs xss f2 num (gs.getD k (0, 0)).1) := by
        apply List.map_congr_left
        intro k hk
        have hk4 : k < gs.length := by rw [hgl]; exact List.mem_range.mp hk
        have hp := hgb (gs.getD k (0, 0)) (by rw [List.getD_eq_getElem?_getD, List.getElem?_eq_getElem hk4]; exact List.getElem_mem _)
        rw [hEq _ hp.1 hp.2.1]
      have e2 := hy2.eq
      rw [e] at e2
      have e1 := hy1.eq
      obtain ⟨as1, ra⟩ := list_bools (h := h) (f := fun k => ign ps qs xss f2 num (gs.getD k (0, 0)).1) (n := 4) (D := D5) (e1 ▸ (N6 _ (.tail _ (.head _))).1)
      obtain ⟨as2, rb⟩ := list_bools (h := h) (f := fun k => ign ps qs xss f2 num (gs.getD k (0, 0)).1) (n := 4) (D := D6) (e2 ▸ (N6 _ (.head _)).1)
      refine ne_dataH ra rb (bools_ok _) (bools_ok _) (by have := R.un; show A.units + 64 < 9900; omega) ?_
      rw [SeqAt.eqv_refl _ (SeqAt.canLay_of_shaped (bools_ok _))]
      rw [show (!true) = false from rfl]
      clear ra rb e1 e2 e hy1 hy2
      walk_at "my_step"
      rw [if_neg Bool.false_ne_true]
      refine wpAny_execs_nil ?_
      rename (News h₀ _ _ _) => N8
      exact hQ _ _ (by k_asm) (News.sub N8 (fun p hp => .tail _ (.tail _ hp)))
end


set_option maxHeartbeats 2500000
local macro_rules | `(tactic| walk_at "getAttr ref") => `(tactic| (k_here; k_dflt (refine attr_IH (by k_asm) (by k_asm) (by with_reducible assumption) (by k_is) (by k_is) (by k_is) (by k_is) (by exact rfl) (by k_handed) ?_; k_whole)))
local macro_rules | `(tactic| walk_at "getMethod ref") => `(tactic| (k_here; k_dflt (refine method_IH (by k_asm) (by k_asm) (by exact On.instAt (by with_reducible assumption) (by walk_at "my_has")) (by k_is) (by k_is) (by k_is) (by exact rfl) ?_; k_whole)))
section
variable {w : World} {mean : ExcName → Option Value} {mg mb : Str → Option Value} {A A₀ : Around} {base : Heap} {outer : List Env} {h₀ : Heap} {L fa : Addr} {cd : Value} {m : Str → Option Value} {s : Shared} {Q : Flow → Shared → Prop} {T c : Addr} {vs : List Value} {cs : List Int} {K : List (Addr × Obj)} {o1 o2 o3 o4 o5 o6 o7 o8 o9 : Obj} {cap : Nat} {tt : Tok} {kk : Int}
theorem seg20 {G l l2 sc b lk x : Addr} {msk : Int} {ta tb t2 t3 : Tok} (B : Below A₀ base outer h₀) (X : (hd.heap_39 w.params).In h₀) (T0 : Top hd.view_39 (looseW hd.view_39 []) mean mg mb h₀) (hA : A.frames = some (lawEnv L fa cd :: outer)) (R : Room A 10)
   (F : Fr h₀ L s.heap m) (N : News h₀ L s.heap ((L + 1 + 1 + 1 + 1 + 1 + 1 + 1 + 1 + 1, o9) :: (L + 1 + 1 + 1 + 1 + 1 + 1 + 1 + 1, o8) :: (L + 1 + 1 + 1 + 1 + 1 + 1 + 1, o7) :: (L + 1 + 1 + 1 + 1 + 1 + 1, o6) :: (L + 1 + 1 + 1 + 1 + 1, o5) :: (L + 1 + 1 + 1 + 1, o4) :: (L + 1 + 1 + 1, o3) :: (L + 1 + 1, o2) :: (L + 1, o1) :: (T, listOf #[.ref c, .int kk tt] cap) :: K))
   (d8 : o8.data = .cell (some (.ref x))) (off : OffK L T K)
   (m1 : m (Str.ofString "scene") = some (.ref sc))
   (hsc : On K (fun h => HasInst h sc 65 (sceneA b G lk l msk ta 2 tb))) (hlk : On K (fun h => IsRefs h lk [l, l2]))
   (hx : On K (fun h => HasInst h x 65 (sceneA b G lk l2 msk t2 3 t3)))
   (hQ : ∀ h' tk', Fr h₀ L h' m → News h₀ L h' ((L + 1 + 1 + 1 + 1 + 1 + 1 + 1 + 1 + 1, o9) :: (L + 1 + 1 + 1 + 1 + 1 + 1 + 1 + 1, o8) :: (L + 1 + 1 + 1 + 1 + 1 + 1 + 1, o7) :: (L + 1 + 1 + 1 + 1 + 1 + 1, o6) :: (L + 1 + 1 + 1 + 1 + 1, o5) :: (L + 1 + 1 + 1 + 1, o4) :: (L + 1 + 1 + 1, o3) :: (L + 1 + 1, o2) :: (L + 1, o1) :: (T, listOf #[.ref c, .int kk tt] cap) :: K) → wpAny (model PySem.Challenge.rw_nu0163_01.row.prog w) A (execs (lawBody.drop 26) (lawEnv L fa cd)) Q (fun _ _ => False) { s with heap := h', toks := tk' })
   : wpAny (model PySem.Challenge.rw_nu0163_01.row.prog w) A (execs (lawBody.drop 25) (lawEnv L fa cd)) Q (fun _ _ => False) s := by
  conv in List.drop _ _ => whnf
  w_top on
  repeat' ((fail_if_success (with_reducible show wpAny _ _ (call (Value.ref 111) [_, Value.int 0 _]) _ _ _)); (fail_if_success (with_reducible show @ite _ _ _ _ _)); walk_at "my_step")
  rw [if_neg Bool.false_ne_true]
  repeat' ((fail_if_success (with_reducible show wpAny _ _ (call (Value.ref 111) [_, Value.int 0 _]) _ _ _)); walk_at "my_step")
  refine nested_some (mean := mean) (mg := mg) (mb := mb) (A₀ := A₀) (base := base) (outer := outer) (h₀ := h₀) (L := L) (m := m) (env := lawEnv L fa cd) (n := 10) (by walk_at "my_cx") (by decide) (On.instAt hx (by walk_at "my_has")) (On.refs hlk (by walk_at "my_has")) (by decide : 2 < 1000) (by decide) (by decide : (0 : Int) < 2) fun h1 tk1 x2 t4 t5 k1' hN => ?_
  have hI := hN.inst
  clear hN
  rename (Fr h₀ _ _ _) => F1
  rename (News h₀ _ _ _) => N1
  have F2 : Fr h₀ L h1 m := Fr.keeps F1 k1'
  have N2 : News h₀ L h1 ((L + 1 + 1 + 1 + 1 + 1 + 1 + 1 + 1 + 1, o9) :: (L + 1 + 1 + 1 + 1 + 1 + 1 + 1 + 1, o8) :: (L + 1 + 1 + 1 + 1 + 1 + 1 + 1, o7) :: (L + 1 + 1 + 1 + 1 + 1 + 1, o6) :: (L + 1 + 1 + 1 + 1 + 1, o5) :: (L + 1 + 1 + 1 + 1, o4) :: (L + 1 + 1 + 1, o3) :: (L + 1 + 1, o2) :: (L + 1, o1) :: (T, listOf #[.ref c, .int kk tt] cap) :: K) := News.grown N1 k1'
  clear F1 N1
  walk_at "to_ite2"
  rw [if_neg (by decide)]
  walk_at "to_ite2"
  rw [if_neg Bool.false_ne_true]
  refine wpAny_execs_nil ?_
  rename (News h₀ _ _ _) => N8
  exact hQ _ _ (by k_asm) N8
end


set_option maxHeartbeats 2500000
theorem and_pow (x : Int) (k : Nat) : Builtin.bitAnd x (2 ^ k) ≠ 0 ↔ (x.fdiv (2 ^ k)).fmod 2 = 1 := by
  rw [kbt_bitF]
  split
  · rename_i h
    exact ⟨fun _ => h, fun _ => Int.ne_of_gt (kbt_pos k)⟩
  · rename_i h
    exact ⟨fun q => absurd rfl q, fun q => absurd q h⟩
theorem sub_app {l K K' K2 : List (Addr × Obj)} (e : ∀ p ∈ K2, p ∈ K ∨ p ∈ K') (h : ∀ p ∈ K, p ∈ l) : ∀ p ∈ l ++ K2, p ∈ l ++ K' := fun p hp => by
  rcases List.mem_append.mp hp with hp | hp
  · exact List.mem_append_left _ hp
  · rcases e p hp with q | q
    · exact List.mem_append_left _ (h p q)
    · exact List.mem_append_right _ q
theorem ite_go {c a b : Prop} {i : Decidable c} (h : c) (x : a) : @ite Prop c i a b := (if_pos h).mpr x
section
variable {w : World} {mean : ExcName → Option Value} {mg mb : Str → Option Value} {A A₀ : Around} {base : Heap} {outer : List Env} {h₀ : Heap} {L fa : Addr} {cd : Value} {m : Str → Option Value} {s : Shared} {Q : Flow → Shared → Prop} {T c : Addr} {vs : List Value} {cs : List Int} {K : List (Addr × Obj)} {o1 o2 o3 o4 o5 o6 o7 o8 o9 : Obj} {cap : Nat} {tt : Tok} {kk : Int}
theorem seg21 {l l2 Tb1 Tb2 X1 X2 E1 E2 : Addr} {flag num f2 : Int} {t1 t2 : Tok} {ps qs : List (Int × Int)} (B : Below A₀ base outer h₀) (X : (hd.heap_39 w.params).In h₀) (T0 : Top hd.view_39 (looseW hd.view_39 []) mean mg mb h₀) (hA : A.frames = some (lawEnv L fa cd :: outer)) (R : Room A 10)
   (F : Fr h₀ L s.heap m) (N : News h₀ L s.heap ((L + 1 + 1 + 1 + 1 + 1 + 1 + 1 + 1 + 1, o9) :: (L + 1 + 1 + 1 + 1 + 1 + 1 + 1 + 1, o8) :: (L + 1 + 1 + 1 + 1 + 1 + 1 + 1, o7) :: (L + 1 + 1 + 1 + 1 + 1 + 1, o6) :: (L + 1 + 1 + 1 + 1 + 1, o5) :: (L + 1 + 1 + 1 + 1, o4) :: (L + 1 + 1 + 1, o3) :: (L + 1 + 1, o2) :: (L + 1, o1) :: (T, listOf #[.ref c, .int kk tt] cap) :: K)) (off : OffK L T K)
   (m1 : m (Str.ofString "lookup") = some (.ref l)) (m2 : m (Str.ofString "flag") = some (.int flag t1)) (m3 : m (Str.ofString "number") = some (.int num t2)) (m4 : m (Str.ofString "other") = some (.ref l2)) (m5 : m (Str.ofString "known") = some (.ref X1)) (m6 : m (Str.ofString "attach") = some (.ref X2))
   (hk1 : On K (fun h => IsLook h l (Str.ofString "single") flag num Tb1)) (ht1 : On K (fun h => IsTabs w h Tb1 [])) (hk2 : On K (fun h => IsLook h l2 (Str.ofString "pair") f2 num Tb2)) (ht2 : On K (fun h => IsTabs w h Tb2 [ps, qs]))
   (hX1 : On K (fun h => HasInst h X1 235 [(Str.ofString "classes", .ref E1)])) (hM1 : On K (fun h => IntMap w h E1 ps)) (hX2 : On K (fun h => HasInst h X2 235 [(Str.ofString "classes", .ref E2)])) (hM2 : On K (fun h => IntMap w h E2 qs))
   (p1 : ps.length ≤ 12) (p2 : (ps.map (·.1)).Pairwise (· < ·)) (q1 : qs.length ≤ 12) (q2 : (qs.map (·.1)).Pairwise (· < ·)) (f0 : 0 ≤ f2) (f1 : f2 < 16)
   (hQ : ∀ h' tk', Fr h₀ L h' m → Q (.ret (.bool true)) { s with heap := h', toks := tk' })
   : wpAny (model PySem.Challenge.rw_nu0163_01.row.prog w) A (execs (lawBody.drop 26) (lawEnv L fa cd)) Q (fun _ _ => False) s := by
  have hb1 := and_pow flag 4
  have hb2 := and_pow f2 4
  rw [show (2 : Int) ^ 4 = 16 from rfl] at hb1 hb2
  have hz : ¬ (f2.fdiv 16).fmod 2 = 1 := by
    rw [Int.fdiv_eq_ediv_of_nonneg _ (by decide), Int.fmod_eq_emod_of_nonneg _ (by decide)]; omega
  replace hb1 : TEnd _ := ⟨hb1⟩
  replace hb2 : TEnd _ := ⟨hb2⟩
  replace hz : TEnd _ := ⟨hz⟩
  conv in List.drop _ _ => whnf
  w_top on
  repeat' ((fail_if_success (with_reducible show wpAny _ _ (call (Value.ref 40) _) _ _ _)); walk_at "my_step")
  refine look_told_spec (mean := mean) (mg := mg) (mb := mb) (A₀ := A₀) (base := base) (outer := outer) (h₀ := h₀) (L := L) (m := m) (env := lawEnv L fa cd) (n := 10) (by walk_at "my_cx") (by decide) (On.lookAt hk1 (by walk_at "my_has")) (On.tabs ht1 (by walk_at "my_has")) fun ha1 tka1 v1 Ka1 ka1 na1 ra1 => ?_
  rename (Fr h₀ _ _ _) => Fo
  rename (News h₀ _ _ _) => No
  have Fn1 : Fr h₀ L ha1 m := Fr.keeps Fo ka1
  have Nn1 := News.addK Fo No ka1 na1
  simp only [List.cons_append, List.nil_append] at Nn1
  refine Exists.elim (⟨_, rfl⟩ : ∃ K1, K1 = K ++ Ka1) fun K1 hK1 => ?_
  rw [← hK1] at Nn1
  have s1 : ∀ p ∈ K, p ∈ K1 := fun p hp => hK1 ▸ List.mem_append_left _ hp
  have u1 : On K1 (fun h => Reads h v1 _ []) := fun h hK => ra1 h fun p hp => hK p (hK1 ▸ List.mem_append_right _ hp)
  clear Fo No ra1 na1
  replace hk1 := hk1.mono s1
  replace ht1 := ht1.mono s1
  replace hk2 := hk2.mono s1
  replace ht2 := ht2.mono s1
  replace hX1 := hX1.mono s1
  replace hM1 := hM1.mono s1
  replace hX2 := hX2.mono s1
  replace hM2 := hM2.mono s1
  walk_at "to_ite2"
  split
  · rename (_ = true) => hc
    replace hc := beq_iff_eq.mp hc
    replace hc : TEnd _ := ⟨hc⟩
    repeat' ((fail_if_success (with_reducible show wpAny _ _ (compareOp _ _ _) _ _ _)); walk_at "my_step")
    rename (News h₀ _ _ _) => Nt
    refine eq_told (d := lookT (Str.ofString "single") flag num []) (u1 _ (by walk_at "my_has")) (by unfold lookT; rw [if_pos (hb1.out.mpr hc.out)]; exact .tuple (Nt _ (.head _)).1 rfl rfl (.cons (.str _ _) (.cons (.int _ _) (.cons (.int _ _) (.cons (.tuple (Nt _ (.tail _ (.head _))).1 rfl rfl .nil) .nil))))) (lookT_ok (by decide +kernel) _ _ _) (by have := R.un; show A.units + 64 < 9900; omega) ?_
    walk_at "to_ite2"
    ((with_reducible refine ite_go ?_ ?_); exact rfl)
    repeat' ((fail_if_success (with_reducible show wpAny _ _ (call (Value.ref 40) _) _ _ _)); walk_at "my_step")
    refine look_told_spec (mean := mean) (mg := mg) (mb := mb) (A₀ := A₀) (base := base) (outer := outer) (h₀ := h₀) (L := L) (m := m) (env := lawEnv L fa cd) (n := 10) (by walk_at "my_cx") (by decide) (On.lookAt hk2 (by walk_at "my_has")) (On.tabs ht2 (by walk_at "my_has")) fun ha2 tka2 v2 Ka2 ka2 na2 ra2 => ?_
    rename (Fr h₀ _ _ _) => Fo
    rename (News h₀ _ _ _) => No
    have Fn2 : Fr h₀ L ha2 m := Fr.keeps Fo ka2
    have Nn2 := News.addK Fo No ka2 na2
    simp only [List.cons_append, List.nil_append] at Nn2
    refine Exists.elim (⟨_, rfl⟩ : ∃ K2, K2 = K1 ++ Ka2) fun K2 hK2 => ?_
    rw [← hK2] at Nn2
    have s2 : ∀ p ∈ K1, p ∈ K2 := fun p hp => hK2 ▸ List.mem_append_left _ hp
    have u2 : On K2 (fun h => Reads h v2 _ []) := fun h hK => ra2 h fun p hp => hK p (hK2 ▸ List.mem_append_right _ hp)
    clear Fo No ra2 na2
    replace hk1 := hk1.mono s2
    replace ht1 := ht1.mono s2
    replace hk2 := hk2.mono s2
    replace ht2 := ht2.mono s2
    replace hX1 := hX1.mono s2
    replace hM1 := hM1.mono s2
    replace hX2 := hX2.mono s2
    replace hM2 := hM2.mono s2
    repeat' ((fail_if_success (with_reducible show wpAny _ _ (getAttr _ _ _) _ _ _)); walk_at "my_step")
    rename (Fr h₀ _ _ _) => Fo
    refine' attr_flag Fo X (On.lookAt hk2 (by walk_at "my_has")) ?a ?b ?c ?d ?_
    case a => k_is
    case b => k_is
    case c => k_is
    case d => k_is
    intro t9
    dsimp only
    repeat' ((fail_if_success (with_reducible show wpAny _ _ (getMethod _ _ _) _ _ _)); walk_at "my_step")
    rename (Fr h₀ _ _ _) => Fo
    refine' method_IH Fo X (On.instAt hX1 (by walk_at "my_has")) ?a ?b ?c ?d ?_
    case a => k_is
    case b => k_is
    case c => k_is
    case d => exact rfl
    dsimp only
    repeat' ((fail_if_success (with_reducible show wpAny _ _ (call (Value.ref 232) _) _ _ _)); walk_at "my_step")
    refine cd_told_spec (mean := mean) (mg := mg) (mb := mb) (A₀ := A₀) (base := base) (outer := outer) (h₀ := h₀) (L := L) (m := m) (env := lawEnv L fa cd) (n := 10) (by walk_at "my_cx") (by decide) (On.instAt hX1 (by walk_at "my_has")) (hM1 _ (by walk_at "my_has")) p1 p2 fun ha3 tka3 v3 Ka3 ka3 na3 ra3 => ?_
    rename (Fr h₀ _ _ _) => Fo
    rename (News h₀ _ _ _) => No
    have Fn3 : Fr h₀ L ha3 m := Fr.keeps Fo ka3
    have Nn3 := News.addK Fo No ka3 na3
    simp only [List.cons_append, List.nil_append] at Nn3
    refine Exists.elim (⟨_, rfl⟩ : ∃ K3, K3 = K2 ++ Ka3) fun K3 hK3 => ?_
    rw [← hK3] at Nn3
    have s3 : ∀ p ∈ K2, p ∈ K3 := fun p hp => hK3 ▸ List.mem_append_left _ hp
    have u3 : On K3 (fun h => Reads h v3 _ []) := fun h hK => ra3 h fun p hp => hK p (hK3 ▸ List.mem_append_right _ hp)
    clear Fo No ra3 na3
    replace hk1 := hk1.mono s3
    replace ht1 := ht1.mono s3
    replace hk2 := hk2.mono s3
    replace ht2 := ht2.mono s3
    replace hX1 := hX1.mono s3
    replace hM1 := hM1.mono s3
    replace hX2 := hX2.mono s3
    replace hM2 := hM2.mono s3
    replace u2 := u2.mono s3
    repeat' ((fail_if_success (with_reducible show wpAny _ _ (getMethod _ _ _) _ _ _)); walk_at "my_step")
    rename (Fr h₀ _ _ _) => Fo
    refine' method_IH Fo X (On.instAt hX2 (by walk_at "my_has")) ?a ?b ?c ?d ?_
    case a => k_is
    case b => k_is
    case c => k_is
    case d => exact rfl
    dsimp only
    repeat' ((fail_if_success (with_reducible show wpAny _ _ (call (Value.ref 232) _) _ _ _)); walk_at "my_step")
    refine cd_told_spec (mean := mean) (mg := mg) (mb := mb) (A₀ := A₀) (base := base) (outer := outer) (h₀ := h₀) (L := L) (m := m) (env := lawEnv L fa cd) (n := 10) (by walk_at "my_cx") (by decide) (On.instAt hX2 (by walk_at "my_has")) (hM2 _ (by walk_at "my_has")) q1 q2 fun ha4 tka4 v4 Ka4 ka4 na4 ra4 => ?_
    rename (Fr h₀ _ _ _) => Fo
    rename (News h₀ _ _ _) => No
    have Fn4 : Fr h₀ L ha4 m := Fr.keeps Fo ka4
    have Nn4 := News.addK Fo No ka4 na4
    simp only [List.cons_append, List.nil_append] at Nn4
    refine Exists.elim (⟨_, rfl⟩ : ∃ K4, K4 = K3 ++ Ka4) fun K4 hK4 => ?_
    rw [← hK4] at Nn4
    have s4 : ∀ p ∈ K3, p ∈ K4 := fun p hp => hK4 ▸ List.mem_append_left _ hp
    have u4 : On K4 (fun h => Reads h v4 _ []) := fun h hK => ra4 h fun p hp => hK p (hK4 ▸ List.mem_append_right _ hp)
    clear Fo No ra4 na4
    replace hk1 := hk1.mono s4
    replace ht1 := ht1.mono s4
    replace hk2 := hk2.mono s4
    replace ht2 := ht2.mono s4
    replace hX1 := hX1.mono s4
    replace hM1 := hM1.mono s4
    replace hX2 := hX2.mono s4
    replace hM2 := hM2.mono s4
    replace u2 := u2.mono s4
    replace u3 := u3.mono s4
    repeat' ((fail_if_success (with_reducible show wpAny _ _ (compareOp _ _ _) _ _ _)); walk_at "my_step")
    rename (News h₀ _ _ _) => Nu
    refine eq_told (d := lookT (Str.ofString "pair") f2 num [ps, qs]) (u2 _ (by walk_at "my_has")) (by unfold lookT; rw [if_neg (fun q => hz.out (hb2.out.mp q))]; exact .tuple (Nu _ (.head _)).1 rfl rfl (.cons (.str _ _) (.cons (.int _ _) (.cons (.int _ _) (.cons (.tuple (Nu _ (.tail _ (.head _))).1 rfl rfl (.cons (u3 _ (by walk_at "my_has")) (.cons (u4 _ (by walk_at "my_has")) .nil))) .nil))))) (lookT_ok (by decide +kernel) _ _ _) (by have := R.un; show A.units + 64 < 9900; omega) ?_
    repeat' ((with_reducible show wpAny _ _ _ _ _ _); walk_at "my_step")
    exact hQ _ _ (by k_asm)
  · rename (¬ _ = true) => hc
    replace hc := mt beq_iff_eq.mpr hc
    replace hc : TEnd _ := ⟨hc⟩
    repeat' ((fail_if_success (with_reducible show wpAny _ _ (compareOp _ _ _) _ _ _)); walk_at "my_step")
    rename (News h₀ _ _ _) => Nt
    refine eq_told (d := lookT (Str.ofString "single") flag num []) (u1 _ (by walk_at "my_has")) (by have hn : ¬ (Builtin.bitAnd flag 16 ≠ 0) := (fun q => hc.out (hb1.out.mp q)); unfold lookT; rw [if_neg hn]; exact .tuple (Nt _ (.head _)).1 rfl rfl (.cons (.str _ _) (.cons (.int _ _) (.cons (.int _ _) (.cons (.tuple (Nt _ (.tail _ (.head _))).1 rfl rfl .nil) .nil))))) (lookT_ok (by decide +kernel) _ _ _) (by have := R.un; show A.units + 64 < 9900; omega) ?_
    walk_at "to_ite2"
    ((with_reducible refine ite_go ?_ ?_); exact rfl)
    repeat' ((fail_if_success (with_reducible show wpAny _ _ (call (Value.ref 40) _) _ _ _)); walk_at "my_step")
    refine look_told_spec (mean := mean) (mg := mg) (mb := mb) (A₀ := A₀) (base := base) (outer := outer) (h₀ := h₀) (L := L) (m := m) (env := lawEnv L fa cd) (n := 10) (by walk_at "my_cx") (by decide) (On.lookAt hk2 (by walk_at "my_has")) (On.tabs ht2 (by walk_at "my_has")) fun ha2 tka2 v2 Ka2 ka2 na2 ra2 => ?_
    rename (Fr h₀ _ _ _) => Fo
    rename (News h₀ _ _ _) => No
    have Fn2 : Fr h₀ L ha2 m := Fr.keeps Fo ka2
    have Nn2 := News.addK Fo No ka2 na2
    simp only [List.cons_append, List.nil_append] at Nn2
    refine Exists.elim (⟨_, rfl⟩ : ∃ K2, K2 = K1 ++ Ka2) fun K2 hK2 => ?_
    rw [← hK2] at Nn2
    have s2 : ∀ p ∈ K1, p ∈ K2 := fun p hp => hK2 ▸ List.mem_append_left _ hp
    have u2 : On K2 (fun h => Reads h v2 _ []) := fun h hK => ra2 h fun p hp => hK p (hK2 ▸ List.mem_append_right _ hp)
    clear Fo No ra2 na2
    replace hk1 := hk1.mono s2
    replace ht1 := ht1.mono s2
    replace hk2 := hk2.mono s2
    replace ht2 := ht2.mono s2
    replace hX1 := hX1.mono s2
    replace hM1 := hM1.mono s2
    replace hX2 := hX2.mono s2
    replace hM2 := hM2.mono s2
    repeat' ((fail_if_success (with_reducible show wpAny _ _ (getAttr _ _ _) _ _ _)); walk_at "my_step")
    rename (Fr h₀ _ _ _) => Fo
    refine' attr_flag Fo X (On.lookAt hk2 (by walk_at "my_has")) ?a ?b ?c ?d ?_
    case a => k_is
    case b => k_is
    case c => k_is
    case d => k_is
    intro t9
    dsimp only
    repeat' ((fail_if_success (with_reducible show wpAny _ _ (getMethod _ _ _) _ _ _)); walk_at "my_step")
    rename (Fr h₀ _ _ _) => Fo
    refine' method_IH Fo X (On.instAt hX1 (by walk_at "my_has")) ?a ?b ?c ?d ?_
    case a => k_is
    case b => k_is
    case c => k_is
    case d => exact rfl
    dsimp only
    repeat' ((fail_if_success (with_reducible show wpAny _ _ (call (Value.ref 232) _) _ _ _)); walk_at "my_step")
    refine cd_told_spec (mean := mean) (mg := mg) (mb := mb) (A₀ := A₀) (base := base) (outer := outer) (h₀ := h₀) (L := L) (m := m) (env := lawEnv L fa cd) (n := 10) (by walk_at "my_cx") (by decide) (On.instAt hX1 (by walk_at "my_has")) (hM1 _ (by walk_at "my_has")) p1 p2 fun ha3 tka3 v3 Ka3 ka3 na3 ra3 => ?_
    rename (Fr h₀ _ _ _) => Fo
    rename (News h₀ _ _ _) => No
    have Fn3 : Fr h₀ L ha3 m := Fr.keeps Fo ka3
    have Nn3 := News.addK Fo No ka3 na3
    simp only [List.cons_append, List.nil_append] at Nn3
    refine Exists.elim (⟨_, rfl⟩ : ∃ K3, K3 = K2 ++ Ka3) fun K3 hK3 => ?_
    rw [← hK3] at Nn3
    have s3 : ∀ p ∈ K2, p ∈ K3 := fun p hp => hK3 ▸ List.mem_append_left _ hp
    have u3 : On K3 (fun h => Reads h v3 _ []) := fun h hK => ra3 h fun p hp => hK p (hK3 ▸ List.mem_append_right _ hp)
    clear Fo No ra3 na3
    replace hk1 := hk1.mono s3
    replace ht1 := ht1.mono s3
    replace hk2 := hk2.mono s3
    replace ht2 := ht2.mono s3
    replace hX1 := hX1.mono s3
    replace hM1 := hM1.mono s3
    replace hX2 := hX2.mono s3
    replace hM2 := hM2.mono s3
    replace u2 := u2.mono s3
    repeat' ((fail_if_success (with_reducible show wpAny _ _ (getMethod _ _ _) _ _ _)); walk_at "my_step")
    rename (Fr h₀ _ _ _) => Fo
    refine' method_IH Fo X (On.instAt hX2 (by walk_at "my_has")) ?a ?b ?c ?d ?_
    case a => k_is
    case b => k_is
    case c => k_is
    case d => exact rfl
    dsimp only
    repeat' ((fail_if_success (with_reducible show wpAny _ _ (call (Value.ref 232) _) _ _ _)); walk_at "my_step")
    refine cd_told_spec (mean := mean) (mg := mg) (mb := mb) (A₀ := A₀) (base := base) (outer := outer) (h₀ := h₀) (L := L) (m := m) (env := lawEnv L fa cd) (n := 10) (by walk_at "my_cx") (by decide) (On.instAt hX2 (by walk_at "my_has")) (hM2 _ (by walk_at "my_has")) q1 q2 fun ha4 tka4 v4 Ka4 ka4 na4 ra4 => ?_
    rename (Fr h₀ _ _ _) => Fo
    rename (News h₀ _ _ _) => No
    have Fn4 : Fr h₀ L ha4 m := Fr.keeps Fo ka4
    have Nn4 := News.addK Fo No ka4 na4
    simp only [List.cons_append, List.nil_append] at Nn4
    refine Exists.elim (⟨_, rfl⟩ : ∃ K4, K4 = K3 ++ Ka4) fun K4 hK4 => ?_
    rw [← hK4] at Nn4
    have s4 : ∀ p ∈ K3, p ∈ K4 := fun p hp => hK4 ▸ List.mem_append_left _ hp
    have u4 : On K4 (fun h => Reads h v4 _ []) := fun h hK => ra4 h fun p hp => hK p (hK4 ▸ List.mem_append_right _ hp)
    clear Fo No ra4 na4
    replace hk1 := hk1.mono s4
    replace ht1 := ht1.mono s4
    replace hk2 := hk2.mono s4
    replace ht2 := ht2.mono s4
    replace hX1 := hX1.mono s4
    replace hM1 := hM1.mono s4
    replace hX2 := hX2.mono s4
    replace hM2 := hM2.mono s4
    replace u2 := u2.mono s4
    replace u3 := u3.mono s4
    repeat' ((fail_if_success (with_reducible show wpAny _ _ (compareOp _ _ _) _ _ _)); walk_at "my_step")
    rename (News h₀ _ _ _) => Nu
    refine eq_told (d := lookT (Str.ofString "pair") f2 num [ps, qs]) (u2 _ (by walk_at "my_has")) (by unfold lookT; rw [if_neg (fun q => hz.out (hb2.out.mp q))]; exact .tuple (Nu _ (.head _)).1 rfl rfl (.cons (.str _ _) (.cons (.int _ _) (.cons (.int _ _) (.cons (.tuple (Nu _ (.tail _ (.head _))).1 rfl rfl (.cons (u3 _ (by walk_at "my_has")) (.cons (u4 _ (by walk_at "my_has")) .nil))) .nil))))) (lookT_ok (by decide +kernel) _ _ _) (by have := R.un; show A.units + 64 < 9900; omega) ?_
    repeat' ((with_reducible show wpAny _ _ _ _ _ _); walk_at "my_step")
    exact hQ _ _ (by k_asm)
end


set_option maxHeartbeats 4000000
def mapOf (cs : List Int) : List (Int × Int) := pairsUpTo cs 12
theorem intAt_map {f : Int → Int} {g : Int} : ∀ {l : List Int}, intAt (l.map fun k => (k, f k)) g = if g ∈ l then f g else 0
  | [] => by simp [intAt]
  | x :: l => by
    have ih := intAt_map (f := f) (g := g) (l := l)
    unfold intAt at ih ⊢
    by_cases q : x = g
    · subst q; simp
    · have q' : ¬ g = x := fun e => q e.symm
      simp only [List.map_cons, List.find?_cons, q, decide_false, List.mem_cons, q', false_or]
      exact ih
theorem intAt_mapOf {cs : List Int} {g : Int} (hc : ∀ i, 0 ≤ cs.getD i 0) (h0 : 0 ≤ g) (h1 : g < 12) : intAt (mapOf cs) g = cs.getD g.toNat 0 := by
  rw [mapOf, pairsUpTo, intAt_map]
  have hg : g ∈ rng 12 := rng_mem.mpr ⟨h0, by omega⟩
  have := hc g.toNat
  split
  · rfl
  · rename_i h
    rw [List.mem_filter] at h
    simp only [decide_eq_true_eq, not_and] at h
    have := h hg
    omega
theorem and_zero (x : Int) : Builtin.bitAnd x 0 = 0 := by
  have := kbt_mask x 0
  simpa using this
theorem law_plain {cs hs : List Int} {xss : List (List Int)} {flag num g : Int} (hc : ∀ i, 0 ≤ cs.getD i 0) (hh : ∀ i, 0 ≤ hs.getD i 0) (f0 : 0 ≤ flag) (f1 : flag < 1024) (n0 : 0 ≤ num) (h0 : 0 ≤ g) (h1 : g < 12) :
    ign (mapOf cs) (mapOf hs) xss flag num g = decide (g ∈ dueOf cs hs xss flag num) := by
  have hg : g ∈ rng 12 := rng_mem.mpr ⟨h0, by omega⟩
  have e2 := and_pow flag 1
  have e4 := and_pow flag 2
  have e8 := and_pow flag 3
  have e16 := and_pow flag 4
  rw [show (2 : Int) ^ 1 = 2 from rfl] at e2
  rw [show (2 : Int) ^ 2 = 4 from rfl] at e4
  rw [show (2 : Int) ^ 3 = 8 from rfl] at e8
  rw [show (2 : Int) ^ 4 = 16 from rfl] at e16
  have ew : (flag.fdiv 256).fmod 256 = flag.fdiv 256 := by
    rw [Int.fdiv_eq_ediv_of_nonneg _ (by decide), Int.fmod_eq_emod_of_nonneg _ (by decide)]; omega
  have es : inSet xss num g = decide (g ∈ if num < xss.length then xss.getD num.toNat [] else []) := by
    unfold inSet
    by_cases q : num < xss.length
    · simp [n0, q]
    · simp [q]
  unfold ign dueOf
  rw [intAt_mapOf hc h0 h1, intAt_mapOf hh h0 h1, ew, es]
  have hcg := hc g.toNat
  generalize hC : cs.getD g.toNat 0 = C at *
  have z0 : Builtin.bitAnd flag 0 = 0 := and_zero flag
  have hD := hC
  rw [List.getD_eq_getElem?_getD] at hD
  by_cases c1 : C = 1
  · subst c1
    have : bitOf (classOf 1) = 2 := by decide
    have n1 : (classOf 1 ≠ 3) = True := by decide
    rw [this]
    simp only [e2, n1, if_true]
    split <;> rename_i q2 <;> (repeat' split) <;> simp [hD, hg, q2, classOf]
  by_cases c2 : C = 2
  · subst c2
    have : bitOf (classOf 2) = 4 := by decide
    have n1 : (classOf 2 ≠ 3) = True := by decide
    rw [this]
    simp only [e4, n1, if_true]
    split <;> rename_i q2 <;> (repeat' split) <;> simp [hD, hg, q2, classOf]
  by_cases c3 : C = 3
  · subst c3
    have : bitOf (classOf 3) = 8 := by decide
    rw [this]
    simp only [e8, e16]
    by_cases q8 : (flag.fdiv 8).fmod 2 = 1
    · simp [q8, hg, hD]
    by_cases q16 : (flag.fdiv 16).fmod 2 = 1
    · by_cases ql : num < xss.length
      · simp [q8, q16, hg, hD, classOf, ql]
      · simp [q8, q16, hg, hD, classOf, ql]
    by_cases q256 : flag.fdiv 256 > 0
    · by_cases qe : hs[g.toNat]?.getD 0 = flag.fdiv 256
      · simp [q8, q16, q256, hg, hD, classOf, qe]
      · simp [q8, q16, q256, hg, hD, classOf, qe]
    · have : ¬ 0 < flag.fdiv 256 := q256
      simp [q8, q16, this, hg, hD, classOf]
  · have hb : bitOf (classOf C) = 0 := by
      unfold bitOf classOf
      split <;> simp_all
    have hn : classOf C ≠ 3 := by unfold classOf; split <;> omega
    rw [hb, z0]
    simp only [ne_eq, not_true_eq_false, if_false, hn, not_false_eq_true, if_true]
    (repeat' split) <;> simp [hD, c1, c2, c3]
theorem getD_nonneg {xs : List Int} (h : ∀ x ∈ xs, 0 ≤ x) (i : Nat) : 0 ≤ xs.getD i 0 := by
  rw [List.getD_eq_getElem?_getD]
  cases e : xs[i]? with
  | none => exact Int.le_refl 0
  | some v => exact h v (List.mem_of_getElem? e)
section
variable {w : World} {mean : ExcName → Option Value} {mg mb : Str → Option Value} {A A₀ : Around} {base : Heap} {outer : List Env} {h₀ : Heap} {L fa : Addr} {cd : Value} {m : Str → Option Value} {s : Shared} {Q : Flow → Shared → Prop} {o1 o2 o3 o4 o5 o6 o7 o8 o9 : Obj} 
theorem chain {l0 : Addr} {ws : List Value} {ns : List Int}
   (B : Below A₀ base outer h₀) (X : (hd.heap_39 w.params).In h₀) (T0 : Top hd.view_39 (looseW hd.view_39 []) mean mg mb h₀) (hA : A.frames = some (lawEnv L fa cd :: outer)) (R : Room A 10)
   (F : Fr h₀ L s.heap m) (N : News h₀ L s.heap ((L + 1 + 1 + 1 + 1 + 1 + 1 + 1 + 1 + 1, o9) :: (L + 1 + 1 + 1 + 1 + 1 + 1 + 1 + 1, o8) :: (L + 1 + 1 + 1 + 1 + 1 + 1 + 1, o7) :: (L + 1 + 1 + 1 + 1 + 1 + 1, o6) :: (L + 1 + 1 + 1 + 1 + 1, o5) :: (L + 1 + 1 + 1 + 1, o4) :: (L + 1 + 1 + 1, o3) :: (L + 1 + 1, o2) :: (L + 1, o1) :: []))
   (d1 : o1.data = .cell none) (d2 : o2.data = .cell none) (d3 : o3.data = .cell none) (d4 : o4.data = .cell none) (d5 : o5.data = .cell none) (d6 : o6.data = .cell none) (d7 : o7.data = .cell none) (d8 : o8.data = .cell none) (d9 : o9.data = .cell none)
   (hm : m (Str.ofString "script") = some (.ref l0)) (hl0 : h₀.IsList l0 ws.toArray) (hi0 : IntsAre ws ns) (hn : ns.length ≤ 63)
   (hQ : ∀ h' tk' m', Fr h₀ L h' m' → Q (.ret (.bool true)) { s with heap := h', toks := tk' })
   : wpAny (model PySem.Challenge.rw_nu0163_01.row.prog w) A (execs (lawBody.drop 0) (lawEnv L fa cd)) Q (fun _ _ => False) s := by
  refine seg0 B X T0 hA R F N d1 d2 d3 d4 d5 d6 d7 d8 d9 hm hl0 hi0 hn fun h1 k1 T c vs cs K t0 cap o1 F1 N1 c1 Ta1 => ?_
  refine seg1 B X T0 hA R F1 N1 c1 Ta1 fun h2 k2 P ys qs K2 t2 F2 N2 Ta2 hP2 hprs hql hqb => ?_
  refine seg2 B X T0 hA R F2 N2 c1 d2 d3 Ta2 rfl hP2 hprs hql (hprs.1.trans hql) fun h3 k3 o2 o3 D1 D2 v1 v2 F3 N3 Ta3 c2 c3 i1 i2 => ?_
  refine seg3 B X T0 hA R F3 N3 c1 d4 Ta3 fun h4 k4 m4 S refs xss K4 o4 kk4 t4 capS F4 N4 Ta4 s4 hSm hS mS mo4 b4a b4b => ?_
  have e1 : (D1, lst v1) ∈ K4 := s4 _ (.tail _ (.head _))
  have e2 : (D2, lst v2) ∈ K4 := s4 _ (.head _)
  have z1 : (qs.map (·.1)).length = 12 := by rw [List.length_map]; exact hql
  have z2 : (qs.map (·.2)).length = 12 := by rw [List.length_map]; exact hql
  have w1 : ∀ i, 0 ≤ (qs.map (·.1)).getD i 0 := getD_nonneg fun x hx => by obtain ⟨q, hq, rfl⟩ := List.mem_map.mp hx; exact (hqb q hq).1
  have w2 : ∀ i, 0 ≤ (qs.map (·.2)).getD i 0 := getD_nonneg fun x hx => by obtain ⟨q, hq, rfl⟩ := List.mem_map.mp hx; exact (hqb q hq).2.2.1
  refine seg4 B X T0 hA R F4 N4 c1 Ta4 b4a b4b fun h5 k5 t5 kk5 flag tf num tn F5 N5 b5a b5b f0 f1 n0 n1 => ?_
  refine seg5 B X T0 hA R F5 N5 c2 Ta4 e1 i1 z1 fun h6 k6 X1 E1 K6 F6 N6 Ta6 s6 hX1 hM1 => ?_
  refine seg6 B X T0 hA R F6 N6 c3 Ta6 (s6 _ e2) i2 z2 fun h7 k7 X2 E2 K7 F7 N7 Ta7 s7 hX2 hM2 => ?_
  refine seg7 B X T0 hA R F7 N7 Ta7 (by walk_at "my_look") (by walk_at "my_look") (by walk_at "my_look") (hX1.mono s7) (hM1.mono s7) hX2 hM2 (s7 _ (s6 _ hSm)) ((hS.mono s6).mono s7) fun h8 k8 G K8 F8 N8 Ta8 s8 hG => ?_
  refine seg8 B X T0 hA R F8 N8 Ta8 (by walk_at "my_look") (by walk_at "my_look") fun h9 k9 l Tb1 K9 F9 N9 Ta9 s9 hk1 ht1 => ?_
  have up9 : ∀ p ∈ K4, p ∈ K9 := fun p hp => s9 _ (s8 _ (s7 _ (s6 _ hp)))
  have la9 : On K9 (fun h => h.IsList D1 v1.toArray) := fun h hK => ⟨_, hK _ (up9 _ e1), rfl, _, rfl⟩
  have lb9 : On K9 (fun h => h.IsList D2 v2.toArray) := fun h hK => ⟨_, hK _ (up9 _ e2), rfl, _, rfl⟩
  have ls9 : On K9 (fun h => IsLists h S xss) := (hS.mono up9).lists (up9 _ hSm)
  refine seg9 B X T0 hA R F9 N9 Ta9 c2 c3 (by walk_at "my_look") (by walk_at "my_look") (by walk_at "my_look") la9 lb9 i1 i2 z1 z2 ls9 n0 fun h10 k10 D vD K10 F10 N10 Ta10 s10 hD iD => ?_
  refine seg10 B X T0 hA R F10 N10 (by walk_at "my_look") (by walk_at "my_look") (by walk_at "my_look") ((hG.mono s9).mono s10) (hk1.mono s10) hD iD (fun g g0 g1 => law_plain w1 w2 f0 f1 n0 g0 g1) fun h11 k11 m11 F11 N11 mo11 => ?_
  refine seg11 B X T0 hA R F11 N11 c1 d5 Ta10 (by omega) (by omega) fun h12 k12 o5 Rw infs gs0 kk12 t12 F12 N12 c5 e12 hgl0 hat hok hes oR offR => ?_
  refine seg12 B X T0 hA R F12 N12 c1 c5 Ta10 (by omega) (by omega) hgl0 hat hok hes oR offR fun h13 k13 m13 gs kk13 t13 K13 F13 N13 Ta13 s13 e13 hrow hgl hgb mo13 => ?_
  have n13 : m13 (Str.ofString "number") = some (.int num tn) := (mo13 _ (by decide)).trans ((mo11 _ (by decide)).trans (by walk_at "my_look"))
  have f13 : m13 (Str.ofString "flag") = some (.int flag tf) := (mo13 _ (by decide)).trans ((mo11 _ (by decide)).trans (by walk_at "my_look"))
  have a13 : m13 (Str.ofString "known") = some (.ref X1) := (mo13 _ (by decide)).trans ((mo11 _ (by decide)).trans (by walk_at "my_look"))
  have b13 : m13 (Str.ofString "attach") = some (.ref X2) := (mo13 _ (by decide)).trans ((mo11 _ (by decide)).trans (by walk_at "my_look"))
  have g13 : m13 (Str.ofString "gdef") = some (.ref G) := (mo13 _ (by decide)).trans ((mo11 _ (by decide)).trans (by walk_at "my_look"))
  have l13 : m13 (Str.ofString "lookup") = some (.ref l) := (mo13 _ (by decide)).trans ((mo11 _ (by decide)).trans (by walk_at "my_look"))
  have u13 : m13 (Str.ofString "due") = some (.ref D) := (mo13 _ (by decide)).trans ((mo11 _ (by decide)).trans (by walk_at "my_look"))
  have y13 : m13 (Str.ofString "sets") = some (.ref S) := (mo13 _ (by decide)).trans ((mo11 _ (by decide)).trans (by walk_at "my_look"))
  have up8 : ∀ p ∈ K8, p ∈ K13 := fun p hp => s13 _ (s10 _ (s9 _ hp))
  have up7 : ∀ p ∈ K7, p ∈ K13 := fun p hp => up8 _ (s8 _ hp)
  have up913 : ∀ p ∈ K9, p ∈ K13 := fun p hp => s13 _ (s10 _ hp)
  replace hX1 := (hX1.mono s7).mono up7
  replace hM1 := (hM1.mono s7).mono up7
  replace hX2 := hX2.mono up7
  replace hM2 := hM2.mono up7
  replace hG := hG.mono up8
  replace hk1 := hk1.mono up913
  replace ht1 := ht1.mono up913
  replace la9 := la9.mono up913
  replace lb9 := lb9.mono up913
  replace ls9 := ls9.mono up913
  replace hD := hD.mono s13
  refine seg13 B X T0 hA R F13 N13 c1 d6 Ta13 (by omega) (by omega) a13 b13 n13 (fun h hK => ⟨E1, hX1 h hK, hM1 h hK, pairs_len _, pairs_sorted _⟩) (fun h hK => ⟨E2, hX2 h hK, hM2 h hK, pairs_len _, pairs_sorted _⟩) fun h14 k14 l2 Tb2 K14 f2 msk tm kk14 t14 o6 F14 N14 off14 c6 s14 hk2 ht2 g0 g1 mk0 mk1 => ?_
  refine seg14 B X T0 hA R F14 N14 c5 c6 off14 Ta13.hi (by walk_at "my_look") (by walk_at "my_look") (by walk_at "my_look") fun h15 k15 sc b lk ta tb td K15 F15 N15 off15 s15 hsc hb hlk => ?_
  have up13 : ∀ p ∈ K13, p ∈ K15 := fun p hp => s15 _ (s14 _ hp)
  replace hX1 := hX1.mono up13
  replace hM1 := hM1.mono up13
  replace hX2 := hX2.mono up13
  replace hM2 := hM2.mono up13
  replace hG := hG.mono up13
  replace hk1 := hk1.mono up13
  replace ht1 := ht1.mono up13
  replace la9 := la9.mono up13
  replace lb9 := lb9.mono up13
  replace ls9 := ls9.mono up13
  replace hD := hD.mono up13
  replace hrow := hrow.mono up13
  replace hk2 := hk2.mono s15
  replace ht2 := ht2.mono s15
  refine seg15 B X T0 hA R F15 N15 c5 c6 d7 off15 Ta13.hi (by walk_at "my_look") (by walk_at "my_look") hsc hb hrow hG hk1 hD iD hgl hgb mk0 mk1 (fun g g0 g1 => law_plain w1 w2 f0 f1 n0 g0 g1) fun h16 k16 m16 o7 F16 N16 c7 mo16 => ?_
  have sc16 : m16 (Str.ofString "scene") = some (.ref sc) := (mo16 _ (by decide)).trans (by walk_at "my_look")
  have ot16 : m16 (Str.ofString "other") = some (.ref l2) := (mo16 _ (by decide)).trans (by walk_at "my_look")
  have nu16 : m16 (Str.ofString "number") = some (.int num tn) := (mo16 _ (by decide)).trans (by walk_at "my_look")
  have se16 : m16 (Str.ofString "sets") = some (.ref S) := (mo16 _ (by decide)).trans (by walk_at "my_look")
  have lo16 : m16 (Str.ofString "lookup") = some (.ref l) := (mo16 _ (by decide)).trans (by walk_at "my_look")
  have fl16 : m16 (Str.ofString "flag") = some (.int flag tf) := (mo16 _ (by decide)).trans (by walk_at "my_look")
  have kn16 : m16 (Str.ofString "known") = some (.ref X1) := (mo16 _ (by decide)).trans (by walk_at "my_look")
  have at16 : m16 (Str.ofString "attach") = some (.ref X2) := (mo16 _ (by decide)).trans (by walk_at "my_look")
  refine seg16 B X T0 hA R F16 N16 d8 off15 Ta13.hi sc16 hsc hlk fun h17 k17 x t17 t18 o8 K17 F17 N17 c8 off17 s17 hx => ?_
  replace hX1 := hX1.mono s17
  replace hM1 := hM1.mono s17
  replace hX2 := hX2.mono s17
  replace hM2 := hM2.mono s17
  replace hG := hG.mono s17
  replace hk1 := hk1.mono s17
  replace ht1 := ht1.mono s17
  replace la9 := la9.mono s17
  replace lb9 := lb9.mono s17
  replace ls9 := ls9.mono s17
  replace hrow := hrow.mono s17
  replace hk2 := hk2.mono s17
  replace ht2 := ht2.mono s17
  replace hsc := hsc.mono s17
  replace hb := hb.mono s17
  replace hlk := hlk.mono s17
  replace hx : On K17 (fun h => HasInst h x 65 (sceneA b G lk l2 msk t17 3 t18)) := hx
  refine seg17 B X T0 hA R F17 N17 c6 c8 off17 Ta13.hi sc16 ot16 hsc hlk hx hk2 ht2 fun h18 k18 F18 N18 => ?_
  refine seg18 B X T0 hA R F18 N18 off17 Ta13.hi c2 c3 d9 ot16 nu16 se16 hk2 la9 lb9 i1 i2 z1 z2 ls9 n0 fun h19 k19 D9 vD9 K19 o9 F19 N19 off19 s19 c9 hD9 iD9 => ?_
  refine seg19 B X T0 hA R F19 N19 c5 c8 c9 off19 (hx.mono s19) (hb.mono s19) (hrow.mono s19) (hG.mono s19) (hk2.mono s19) hD9 iD9 hgl hgb (fun g u0 u1 => law_plain w1 w2 g0 (by omega) n0 u0 u1) fun h20 k20 F20 N20 => ?_
  refine seg20 B X T0 hA R F20 N20 c8 off19 sc16 (hsc.mono s19) (hlk.mono s19) (hx.mono s19) fun h21 k21 F21 N21 => ?_
  exact seg21 B X T0 hA R F21 N21 off19 lo16 fl16 nu16 ot16 kn16 at16 (hk1.mono s19) (ht1.mono s19) (hk2.mono s19) (ht2.mono s19) (hX1.mono s19) (hM1.mono s19) (hX2.mono s19) (hM2.mono s19) (pairs_len _) (pairs_sorted _) (pairs_len _) (pairs_sorted _) g0 g1 fun h22 k22 F22 => hQ _ _ _ F22
end


set_option maxHeartbeats 4000000
theorem kc_nine {cm : Str → Option Value} {n₁ n₂ n₃ n₄ n₅ n₆ n₇ n₈ n₉ : Str} {c₁ c₂ c₃ c₄ c₅ c₆ c₇ c₈ c₉ : Addr} {cells : List (Addr × Obj)} (x : CellsAre cm [(n₁, c₁), (n₂, c₂), (n₃, c₃), (n₄, c₄), (n₅, c₅), (n₆, c₆), (n₇, c₇), (n₈, c₈), (n₉, c₉)] cells) :
    ∃ o₁ o₂ o₃ o₄ o₅ o₆ o₇ o₈ o₉, cells = [(c₁, o₁), (c₂, o₂), (c₃, o₃), (c₄, o₄), (c₅, o₅), (c₆, o₆), (c₇, o₇), (c₈, o₈), (c₉, o₉)] ∧ o₁.data = .cell (cm n₁) ∧ o₂.data = .cell (cm n₂) ∧ o₃.data = .cell (cm n₃) ∧ o₄.data = .cell (cm n₄) ∧ o₅.data = .cell (cm n₅) ∧ o₆.data = .cell (cm n₆) ∧ o₇.data = .cell (cm n₇) ∧ o₈.data = .cell (cm n₈) ∧ o₉.data = .cell (cm n₉) := by
  cases x with | cons h r => obtain ⟨o₂, o₃, o₄, o₅, o₆, o₇, o₈, o₉, rfl, h₂, h₃, h₄, h₅, h₆, h₇, h₈, h₉⟩ := kc_eight r; exact ⟨_, o₂, o₃, o₄, o₅, o₆, o₇, o₈, o₉, rfl, h, h₂, h₃, h₄, h₅, h₆, h₇, h₈, h₉⟩
local macro_rules | `(tactic| cells_open $x:ident) => `(tactic| (obtain ⟨q1, q2, q3, q4, q5, q6, q7, q8, q9, he, g1, g2, g3, g4, g5, g6, g7, g8, g9⟩ := kc_nine $x; subst he))
theorem holds0 : PySem.Challenge.rw_nu0163_01.Holds := hd (by
  k_go0
  rename (Fr _ _ _ _) => kF
  rename (News _ _ _ _) => kN
  rename (Top _ _ _ _ _ _) => kT
  rename (Below _ _ _ _) => kB
  rename (Frag.In _ _) => kX
  rename (Heap.IsList _ _ _) => kL
  rename (IntsAre _ _) => kI
  rename (¬ _ < _) => kc
  refine wpAny_mono (chain kB kX kT rfl ⟨rfl, (by show callerA.depth + 1 + 10 < 1000; decide), (by show callerA.units + 3 + 10 * 10 + 200 < 9900; decide)⟩ kF kN (by assumption) (by assumption) (by assumption) (by assumption) (by assumption) (by assumption) (by assumption) (by assumption) (by assumption) rfl kL kI (by omega) ?_) (fun _ _ q => q) (fun _ _ x => x.elim)
  intro h' tk' m' kF2
  dsimp only
  first
    | (k_end; wrow_close)
    | k_steps
  )


end Mine
end Rest
set_option maxHeartbeats 4000000 in
theorem PySem.Challenge.cw_nu0163_01_holds : PySem.Challenge.rw_nu0163_01.Holds := by
  exact Mine.holds0
