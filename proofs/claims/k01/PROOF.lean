import PyProof.Rows.All
import Wide.All
import OpenK.AllK
import Wide.FinOn
import KE.KStateDown
import HandS.ForMost
import HandS.Wide
import HandS.IsInst
import HandS.Style
import HandS.Conv
import HandS.Walk
import HandS.Zip
import HandS.Defaults
import HandS.More
import HandS.WordsExc
import HandS.EndBits
import HandS.Head0
import HandS.Head1
import HandS.Head2
import HandS.HeadEnd
import HandS.HeadHook1
import HandS.HeadHook2
import HandS.HeadHook3
import HandS.HeadHook4
import PySem.Challenge.RW_rowlift_k01_rows_of_bytes
set_option Elab.async false
set_option linter.all false
set_option maxRecDepth 100000
set_option maxHeartbeats 4000000
namespace Rl
open PySem PySem.Spec PyProof.Rows L2

/-! ## rules that take one of several -/
section
variable {X : Cx}
theorem pe_or {e : Expr} {t t' : TE} (h : PE X e t) (h' : PE X e t') : PE X e (fun σ H Q => t σ H Q ∨ t' σ H Q) :=
  ⟨fun pins s σ H Q I q => q.elim (h.run pins s σ H Q I) (h'.run pins s σ H Q I)⟩
theorem pi_or {tg e : Expr} {w w' : TI} (h : PI X tg e w) (h' : PI X tg e w') : PI X tg e (fun σ H R => w σ H R ∨ w' σ H R) :=
  ⟨fun pins s σ H R I q => q.elim (h.run pins s σ H R I) (h'.run pins s σ H R I)⟩

def rAddS : R2 := fun x y H Q => ∃ i j, x = .str i ∧ y = .str j ∧ i.length + j.length ≤ sizeLine ∧ Q (.str (i ++ j)) H
def rAddA (K : PySem.W.Frag) : R2 := fun x y H Q => rI0 (fun i j => .int (i + j)) x y H Q ∨ rAddS x y H Q ∨ rCat x y H Q ∨ rCatT K x y H Q
theorem op_addA : OpR X (binaryOp .Add) (rAddA X.K) := op_add.or (op_add_str.or (op_cat.or op_catT))
def rSubA : R2 := rI0 fun i j => .int (i - j)
theorem op_subA : OpR X (binaryOp .Sub) rSubA := op_sub
def CMulA (i j : Int) : Prop := CMul i j ∨ CMulW i j
def rMulI : R2 := rI CMulA fun i j => .int (i * j)
theorem op_mulI : OpR X (binaryOp .Mult) rMulI := opI fun _ _ _ _ _ _ _ hc q => mul_int q (hc.elim CMul.ok CMulW.ok)
def rMulA : R2 := fun x y H Q => rMulI x y H Q ∨ rRep x y H Q
theorem op_mulA : OpR X (binaryOp .Mult) rMulA := op_mulI.or op_rep
def rModA : R2 := rI (fun _ j => 0 < j) fun i j => .int (i % j)
theorem op_modA : OpR X (binaryOp .Mod) rModA := op_mod
def rDivA : R2 := rI CDivW fun i j => .int (i / j)
theorem op_divA : OpR X (binaryOp .FloorDiv) rDivA := op_fdivW
def rPowA : R2 := rI CPow fun i j => .int (i ^ j.toNat)
theorem op_powA : OpR X (binaryOp .Pow) rPowA := op_pow
def rShlA : R2 := rI CPow fun i j => .int (i * 2 ^ j.toNat)
theorem op_shlA : OpR X (binaryOp .LShift) rShlA := op_shl
def rShrA : R2 := rI (fun _ j => 0 ≤ j) fun i j => .int (i / 2 ^ j.toNat)
theorem op_shrA : OpR X (binaryOp .RShift) rShrA := op_shr
def rAndA : R2 := rI0 fun i j => .int (Builtin.bitAnd i j)
theorem op_andA : OpR X (binaryOp .BitAnd) rAndA := op_and
def rOrA : R2 := rI0 fun i j => .int (Builtin.bitOr i j)
theorem op_orA : OpR X (binaryOp .BitOr) rOrA := op_or
def rXorA : R2 := rI0 fun i j => .int (Builtin.bitXor i j)
theorem op_xorA : OpR X (binaryOp .BitXor) rXorA := op_xor
def rLtA : R2 := rI0 fun i j => .bl (decide (i < j))
theorem op_ltA : OpR X (compareOp .Lt) rLtA := op_lt
def rLeA : R2 := rI0 fun i j => .bl (decide (i ≤ j))
theorem op_leA : OpR X (compareOp .LtE) rLeA := op_le
def rGtA : R2 := rI0 fun i j => .bl (decide (j < i))
theorem op_gtA : OpR X (compareOp .Gt) rGtA := op_gt
def rGeA : R2 := rI0 fun i j => .bl (decide (j ≤ i))
theorem op_geA : OpR X (compareOp .GtE) rGeA := op_ge
def rEqA (K : PySem.W.Frag) : R2 := fun x y H Q => rEq x y H Q ∨ rEqD K x y H Q
theorem op_eqA (hu : X.A.units + 64 < cLine) : OpR X (compareOp .Eq) (rEqA X.K) := op_eq.or (op_eqD hu)
def rNeA (K : PySem.W.Frag) : R2 := fun x y H Q => rNe x y H Q ∨ rNeD K x y H Q
theorem op_neA (hu : X.A.units + 64 < cLine) : OpR X (compareOp .NotEq) (rNeA X.K) := op_ne.or (op_neD hu)
def rIsN : R2 := fun x y H Q => y = .non ∧ Q (.bl (decide (x = .non))) H
theorem op_isN1 : OpR X (compareOp .Is) rIsN := op_isN
def rNotN : R2 := fun x y H Q => y = .non ∧ Q (.bl (!decide (x = .non))) H
theorem op_notN1 : OpR X (compareOp .IsNot) rNotN := op_notN
/-- one sign (or a text) in a text -/
def rInSA : R2 := fun x y H Q => ∃ i j, x = .str i ∧ y = .str j ∧ Q (.bl (!(Builtin.Str.occurrences j i 0 j.length 1).isEmpty)) H
theorem op_inSA : OpR X (compareOp .In) rInSA := op_in_str
def rNiSA : R2 := fun x y H Q => ∃ i j, x = .str i ∧ y = .str j ∧ Q (.bl (!(!(Builtin.Str.occurrences j i 0 j.length 1).isEmpty))) H
theorem op_niSA : OpR X (compareOp .NotIn) rNiSA := op_notIn_str
/-- slices of lists, texts, tuples -/
def rSlA (K : PySem.W.Frag) : V → Option Int → Option Int → Hp → VK → Prop := fun x lo hi H Q => rSlL K x lo hi H Q ∨ rSlT K x lo hi H Q
theorem sl_A : SlR X (rSlA X.K) := sl_list.or sl_tup
/-- calls of built-ins -/
def rLenA (K : PySem.W.Frag) : List V → Hp → VK → Prop := fun xs H Q => ∃ x n, xs = [x] ∧ LenV K x H n ∧ Q (.int n) H
theorem call_lenA : CallR X (.builtin "len") (rLenA X.K) := call_len
def rInt1 : List V → Hp → VK → Prop := fun xs H Q => (∃ i, xs = [.int i] ∧ Q (.int i) H) ∨ ∃ k, xs = [.bl k] ∧ Q (.int (if k then 1 else 0)) H
theorem call_intA : CallR X (.type "int") rInt1 := call_int1
def rAbs : List V → Hp → VK → Prop := fun xs H Q => ∃ i, xs = [.int i] ∧ Q (.int (if i < 0 then -i else i)) H
theorem call_absA : CallR X (.builtin "abs") rAbs := call_abs
def rMin2 : List V → Hp → VK → Prop := fun xs H Q => ∃ i j, xs = [.int i, .int j] ∧ Q (.int (if j < i then j else i)) H
theorem call_min2A (hc : X.calm = true) : CallR X (.builtin "min") rMin2 := call_min2 hc
def rMax2 : List V → Hp → VK → Prop := fun xs H Q => ∃ i j, xs = [.int i, .int j] ∧ Q (.int (if j > i then j else i)) H
theorem call_max2A (hc : X.calm = true) : CallR X (.builtin "max") rMax2 := call_max2 hc
def rListA (K : PySem.W.Frag) : List V → Hp → VK → Prop := fun xs H Q => ∃ p ys, xs = [.ref p] ∧ (SqL K H p ys ∨ SqT K H p ys) ∧ ∀ l, H l = none → Q (.ref l) (upd H l (.lst ys))
theorem call_listA : CallR X (.type "list") (rListA X.K) := call_list_of
def rTupA (K : PySem.W.Frag) : List V → Hp → VK → Prop := fun xs H Q => ∃ p ys, xs = [.ref p] ∧ ((SqL K H p ys ∧ ∀ l, H l = none → Q (.ref l) (upd H l (.tup ys))) ∨ (SqT K H p ys ∧ Q (.ref p) H))
theorem call_tupA : CallR X (.type "tuple") (rTupA X.K) := call_tuple_of
/-- a for over a list or a tuple -/
def iSeq (K : PySem.W.Frag) (tl : TE) : TI := fun σ H R => tl σ H fun x H1 => (∃ a, x = .ref a ∧ (∃ xs, SqL K H1 a xs) ∧ R (Itl K a) H1) ∨ (∃ a, x = .ref a ∧ (∃ xs, SqT K H1 a xs) ∧ R (Itt K a) H1)
theorem pi_seq {tg l : Expr} {tl : TE} (hl : PE X l tl) : PI X tg l (iSeq X.K tl) := by
  refine ⟨fun pins s σ H R I h => ?_⟩
  refine thn (hl.run pins s σ H _ I h) fun v s1 ⟨x, H1, I1, r1, q1⟩ => ?_
  rcases q1 with ⟨a, e, ⟨xs, hq⟩, q⟩ | ⟨a, e, ⟨xs, hq⟩, q⟩
  · subst e
    cases r1
    obtain ⟨its, rv, p, hz⟩ := I1.list hq
    refine wpAny_pyIter_list p.isList ?_
    refine ⟨s1.heap.objs.size, [s1.heap.objs.size], _, _, H1, rfl, I1.kept (t' := s1.toks) fun b o e => Heap.get?_push_of_some _ e, turn_list a _, ⟨_, Heap.get?_push_size _ rfl, rfl, rfl⟩, fun b hb => ?_, q⟩
    have e : b = s1.heap.objs.size := by simpa using hb
    subst e
    exact I1.fpOk (Nat.le_refl _) (I1.hok.fresh (Nat.le_refl _))
  · subst e
    cases r1
    obtain ⟨its, rv, p, hz⟩ := I1.tuple hq
    refine wpAny_pyIter_tuple (show s1.heap.IsTuple a its.toArray from p) ?_
    refine ⟨s1.heap.objs.size, [s1.heap.objs.size], _, _, H1, rfl, I1.kept (t' := s1.toks) fun b o e => Heap.get?_push_of_some _ e, turn_tuple a _, ⟨_, Heap.get?_push_size _ rfl, rfl, rfl⟩, fun b hb => ?_, q⟩
    have e : b = s1.heap.objs.size := by simpa using hb
    subst e
    exact I1.fpOk (Nat.le_refl _) (I1.hok.fresh (Nat.le_refl _))
/-- a module's constant -/
theorem pe_gcn {x : Str} {v : V} {f : Tok → Value} {pos : Pos} (hg : Gl X x) (h : ∃ t, X.mg x = some (f t)) (r : ∀ t, RelV v (f t) := by intro t; exact ⟨t, rfl⟩) (hd : (x == ("__debug__" : Str)) = false := by decide) : PE X (.Name x pos) (tC v) := by
  obtain ⟨t, hm⟩ := h
  exact pe_glob hg hm (r t) hd
def tTru (K : PySem.W.Frag) (ta : TE) : TT := fun σ H Q => ta σ H fun x H' => ∃ k, TruV K x H' k ∧ Q k H'
end

/-! ## dicts of the written part, keys ints or texts -/
/-- at a a dict of the written part: what it has, by its pairs -/
structure KD (K : PySem.W.Frag) (w : World) (a : Addr) (kvs : List (Key × V)) : Prop where
  lo : (a == sysModules) = false
  get : ∀ (P : Program) (h : Heap), K.In h → ∃ f : Key → Option Value, h.MapOf (mixKind P w) a f ∧ ∀ k, RelO (valV kvs k) (f k)
def rIxKD (K : PySem.W.Frag) (w : World) : R2 := fun x y H Q => ∃ a kvs k v, x = .ref a ∧ y = kV k ∧ KD K w a kvs ∧ valV kvs k = some v ∧ Q v H
def rInKD (K : PySem.W.Frag) (w : World) : R2 := fun x y H Q => ∃ a kvs k, y = .ref a ∧ x = kV k ∧ KD K w a kvs ∧ Q (.bl (valV kvs k).isSome) H
def rInNotKD (K : PySem.W.Frag) (w : World) : R2 := fun x y H Q => ∃ a kvs k, y = .ref a ∧ x = kV k ∧ KD K w a kvs ∧ Q (.bl (!(valV kvs k).isSome)) H
section
variable {X : Cx}
theorem ix_KD : IxR X (rIxKD X.K X.w) := by
  intro value slice pins s σ H x y v u Q I rx ry h hs
  obtain ⟨a, kvs, k, r, rfl, rfl, D, hv, q⟩ := h
  obtain rfl : v = Value.ref a := rx
  obtain ⟨f, hm, hf⟩ := D.get X.prog s.heap I.kIn
  have hk := hf k
  rw [hv] at hk
  obtain ⟨z, hz, rz⟩ := RelO.some_of hk
  exact tail_any hm.typeIs slot_dict_getitem.lookup (wpAny_getItem_of (kV_is ry) hm hz ⟨r, H, I.tok _, rz, q⟩) hs
theorem op_inKD : OpR X (compareOp .In) (rInKD X.K X.w) := by
  intro pins s σ H x y v u Q I rx ry h
  obtain ⟨a, kvs, k, rfl, rfl, D, q⟩ := h
  obtain rfl : u = Value.ref a := ry
  obtain ⟨f, hm, hf⟩ := D.get X.prog s.heap I.kIn
  exact wpAny_in_of (kV_is rx) D.lo hm ⟨.bl _, H, I.tok _, rfl, by rw [← (hf k).isSome_eq]; exact q⟩
theorem op_inNotKD : OpR X (compareOp .NotIn) (rInNotKD X.K X.w) := by
  intro pins s σ H x y v u Q I rx ry h
  obtain ⟨a, kvs, k, rfl, rfl, D, q⟩ := h
  obtain rfl : u = Value.ref a := ry
  obtain ⟨f, hm, hf⟩ := D.get X.prog s.heap I.kIn
  exact wpAny_notIn_of (kV_is rx) D.lo hm ⟨.bl _, H, I.tok _, rfl, by rw [← (hf k).isSome_eq]; exact q⟩
end
/-- a written dict with int keys: a look that the head can take -/
def kdI (K : PySem.W.Frag) (a : Addr) (kvs : List (Int × He.Dv)) : Bool := match K.lookup a with
  | some ⟨.type c, none, .dict es _, sl⟩ => decide (c = "dict") && (sl.isEmpty && (!(a == sysModules) && kdAll K es.toList kvs))
  | _ => false
where
  kdAll (K : PySem.W.Frag) : List DictEntry → List (Int × He.Dv) → Bool
    | [], [] => true
    | e :: es, (k, d) :: r => (match e.key with
      | .int j _ => decide (j = k)
      | _ => false) && (decide (e.hash = hashInt k) && (He.relB (d.v K) e.val && kdAll K es r))
    | _, _ => false
theorem kdI_find {K : PySem.W.Frag} {w : World} (P : Program) : ∀ {es : List DictEntry} {kvs : List (Int × He.Dv)}, kdI.kdAll K es kvs = true →
    (∀ e ∈ es, ∃ k, (mixKind P w).is k e.key = true ∧ e.hash = (mixKind P w).hash k) ∧
    ∀ k, RelO (valV (kvs.map fun p => ((Sum.inl p.1 : Key), p.2.v K)) k) ((es.find? fun e => (mixKind P w).is k e.key).map (·.val))
  | [], [], _ => ⟨fun e he => (by cases he), fun k => True.intro⟩
  | e :: es, (j, d) :: r, h => by
    obtain ⟨h1, h2⟩ := He.ba (show ((match e.key with
      | .int i _ => decide (i = j)
      | _ => false) && (decide (e.hash = hashInt j) && (He.relB (d.v K) e.val && kdI.kdAll K es r))) = true from h)
    obtain ⟨h3, h4⟩ := He.ba h2
    obtain ⟨h5, h6⟩ := He.ba h4
    obtain ⟨i1, i2⟩ := kdI_find (w := w) P h6
    obtain ⟨t, ek⟩ : ∃ t, e.key = .int j t := by
      cases q : e.key with
      | int i t =>
        rw [q] at h1
        exact ⟨t, by rw [of_decide_eq_true h1]⟩
      | _ =>
        rw [q] at h1
        cases h1
    have e1 : (mixKind P w).is (Sum.inl j : Key) e.key = true := by
      rw [ek]
      exact keyIs_int j t
    refine ⟨fun e' he => ?_, fun k => ?_⟩
    · rcases List.mem_cons.mp he with q | q
      · rw [q]
        exact ⟨Sum.inl j, e1, of_decide_eq_true h3⟩
      · exact i1 e' q
    · rw [List.map_cons]
      by_cases q : (Sum.inl j : Key) = k
      · have q2 : (mixKind P w).is k e.key = true := by rw [← q]; exact e1
        rw [List.find?_cons_of_pos (p := fun (e : DictEntry) => (mixKind P w).is k e.key) q2, valV_pos (p := ((Sum.inl j : Key), d.v K)) q]
        exact He.relB_ok h5
      · have q2 : ¬ (mixKind P w).is k e.key = true := fun z => q ((mixKind P w).inj _ _ _ e1 z)
        rw [List.find?_cons_of_neg (p := fun (e : DictEntry) => (mixKind P w).is k e.key) q2, valV_neg (p := ((Sum.inl j : Key), d.v K)) q]
        exact i2 k
  | [], _ :: _, h => by cases h
  | _ :: _, [], h => by cases h
theorem kdI_ok {K : PySem.W.Frag} {w : World} {a : Addr} {kvs : List (Int × He.Dv)} (h : kdI K a kvs = true) : KD K w a (kvs.map fun p => (Sum.inl p.1, p.2.v K)) := by
  unfold kdI at h
  cases q : K.lookup a with
  | none =>
    rw [q] at h
    cases h
  | some o =>
    obtain ⟨oc, od, dt, osl⟩ := o
    rw [q] at h
    cases oc with
    | type c =>
      cases od with
      | none =>
        cases dt with
        | dict es n =>
          obtain ⟨h1, h2⟩ := He.ba (show (decide (c = "dict") && (osl.isEmpty && (!(a == sysModules) && kdI.kdAll K es.toList kvs))) = true from h)
          obtain ⟨h3, h4⟩ := He.ba h2
          obtain ⟨h5, h6⟩ := He.ba h4
          have e1 : c = "dict" := of_decide_eq_true h1
          have e2 : osl = #[] := Array.isEmpty_iff.mp h3
          have e3 : (a == sysModules) = false := by
            cases y : a == sysModules with
            | false => rfl
            | true =>
              rw [y] at h5
              cases h5
          subst e1 e2
          refine ⟨e3, fun P hp X => ?_⟩
          obtain ⟨i1, i2⟩ := kdI_find (w := w) P h6
          refine ⟨fun k => findBy (mixKind P w).is es k, ⟨_, es, n, X _ _ q, ⟨rfl, rfl, rfl⟩, rfl, fun e he => i1 e (Array.mem_toList_iff.mpr he), fun k => rfl⟩, fun k => ?_⟩
          have z := i2 k
          obtain ⟨l⟩ := es
          show RelO _ ((Array.find? (fun e => (mixKind P w).is k e.key) l.toArray).map (·.val))
          rw [List.find?_toArray]
          exact z
        | _ => cases h
      | some b => cases dt <;> cases h
    | _ => cases od <;> cases dt <;> cases h

/-! ## defs that are called by their names -/
abbrev FnP (K : PySem.W.Frag) (x : Str) (st : Stmt) (f : Addr) (fd : FuncData) : Prop := FunD K x x (defArgs st) (defBody st) (defScope st) [] [] f fd
/-- a def that may be called by its name, every parameter given -/
structure Cl (P : Program) (w : World) (K : PySem.W.Frag) (mg : Str → Option Value) (base : Heap) (k : Nat) (x : Str) (sp : Sp) : Prop where
  ex : ∃ (f : Addr) (fd : FuncData) (ps : List Str), FnOk P w K mg base CX0 k f fd ps sp ∧ mg x = some (.ref f) ∧ PySem.W.keepIn K (.ref f) = true ∧ Binds K fd ps []
section
variable {P : Program} {w : World} {K : PySem.W.Frag} {mg : Str → Option Value} {base : Heap}
theorem fn_of1 {x : Str} {st : Stmt} {f : Addr} {fd : FuncData} {N ps : List Str} {k : Nat} {sp : Sp} (D : FnP K x st f fd) (S : FnScope N ps (defScope st)) (len : ∀ vs H Q E, sp vs H Q E → vs.length = ps.length)
    (hbody : ∀ (cdv : Value) (A : Around) (outer : List Env) (s : Shared) (H : Hp) (vs : List V) (Q : VK) (E : XK), Room k (A.deeper (envOfC x (defScope st) s.heap.objs.size f cdv)) → sp vs H Q E →
      ∃ t, PSs (cxOf CX0 P w K mg base N x (defScope st) f cdv A outer s H E) (defBody st) t ∧ t { nx := fun _ H' => Q .non H', rt := Q } (start N vs) H) : FnOk P w K mg base CX0 (k + 1) f fd ps sp :=
  FunD.ok D S len hbody
theorem cl_of {x : Str} {st : Stmt} {f : Addr} {fd : FuncData} {N ps : List Str} {k : Nat} {sp : Sp} (D : FnP K x st f fd) (hm : mg x = some (.ref f)) (hb : Binds K fd ps []) (S : FnScope N ps (defScope st)) (len : ∀ vs H Q E, sp vs H Q E → vs.length = ps.length)
    (hbody : ∀ (cdv : Value) (A : Around) (outer : List Env) (s : Shared) (H : Hp) (vs : List V) (Q : VK) (E : XK), Room k (A.deeper (envOfC x (defScope st) s.heap.objs.size f cdv)) → sp vs H Q E →
      ∃ t, PSs (cxOf CX0 P w K mg base N x (defScope st) f cdv A outer s H E) (defBody st) t ∧ t { nx := fun _ H' => Q .non H', rt := Q } (start N vs) H) : Cl P w K mg base (k + 1) x sp :=
  ⟨f, fd, ps, fn_of1 D S len hbody, hm, D.kp, hb⟩
end
section
variable {X : Cx} {k j : Nat} {x : Str} {sp : Sp} {p pos : Pos} {e : Expr} {es : List Expr} {t : TA}
theorem pe_cl (c : Cl X.prog X.w X.K X.mg X.base k x sp) (hr : Room j X.A) (hk : k ≤ j) (hg : Gl X x) (ha : PA X (e :: es) t)
    (hdb : (x == ("__debug__" : Str)) = false := by decide) (he : starEach (e :: es) X.env = (false, eval e X.env) :: starEach es X.env := by rfl) (hpl : (backTo pos (starEach es X.env)).any (·.1) = false := by rfl) :
    PE X (.Call (.Name x p) (e :: es) [] pos) (tCall sp [] E0 t) := by
  obtain ⟨f, fd, ps, F, hm, kp, b⟩ := c.ex
  exact pe_call F (hr.mono hk) hg hm kp b .nil pass0 ha hdb he hpl
theorem pe_cl0 (c : Cl X.prog X.w X.K X.mg X.base k x sp) (hr : Room j X.A) (hk : k ≤ j) (hg : Gl X x)
    (hdb : (x == ("__debug__" : Str)) = false := by decide) :
    PE X (.Call (.Name x p) [] [] pos) (tCall sp [] E0 tNil) := by
  obtain ⟨f, fd, ps, F, hm, kp, b⟩ := c.ex
  exact pe_call0 F (hr.mono hk) hg hm kp b .nil pass0 hdb
end

/-! ## heaps -/
theorem same_upd {H : Hp} {p : Addr} {o : HO} (h : H p = none) : Same H (upd H p o) := fun b x e => by
  rw [upd_ne (ne_of_none e h)]
  exact e
theorem upd_get {H : Hp} {p a : Addr} {o x : HO} (h : H p = none) (e : H a = some x) : upd H p o a = some x := same_upd h a x e
theorem upd_mut {H : Hp} {p a : Addr} {o x : HO} (h : a ≠ p) (e : H a = some x) : upd H p o a = some x := by
  rw [upd_ne h]
  exact e
/-- the heap without what stands at r -/
def but (r : Addr) (H : Hp) : Hp := fun a => if a = r then none else H a
theorem but_same {r : Addr} {H : Hp} : Same (but r H) H := fun b o e => by
  unfold but at e
  split at e
  · cases e
  · exact e
theorem but_none {r : Addr} {H : Hp} : but r H r = none := by
  unfold but
  rw [if_pos rfl]
theorem but_get {r a : Addr} {H : Hp} {o : HO} (h : a ≠ r) (e : H a = some o) : but r H a = some o := by
  unfold but
  rw [if_neg h]
  exact e
theorem but_upd {r : Addr} {H : Hp} {o : HO} : but r (upd H r o) = but r H := by
  funext a
  unfold but upd
  by_cases h : a = r
  · rw [if_pos h, if_pos h]
  · rw [if_neg h, if_neg h, if_neg h]
theorem Same.but {r : Addr} {H H' : Hp} (h : Same H H') : Same (but r H) (but r H') := fun b o e => by
  unfold Rl.but at e ⊢
  split at e
  · cases e
  · rename_i q
    rw [if_neg q]
    exact h b o e
theorem sm_new {A H : Hp} {p : Addr} {o : HO} (h : H p = none) (e : Same A H) : Same A (upd H p o) := e.trans (same_upd h)
theorem sm_bnew {A H : Hp} {p r : Addr} {o : HO} (h : H p = none) (e : Same A (Rl.but r H)) : Same A (Rl.but r (upd H p o)) := e.trans (Same.but (same_upd h))
theorem sm_bmut {A H : Hp} {r : Addr} {o : HO} (e : Same A (Rl.but r H)) : Same A (Rl.but r (upd H r o)) := by
  rw [but_upd]
  exact e
theorem sm_by {A H H' : Hp} (h : Same H H') (e : Same A H) : Same A H' := e.trans h
theorem sm_bby {A H H' : Hp} {r : Addr} (h : Same H H') (e : Same A (Rl.but r H)) : Same A (Rl.but r H') := e.trans (Same.but h)
theorem same_but {t : Addr} {H : Hp} (h : H t = none) : Same H (Rl.but t H) := fun a o e => but_get (ne_of_none e h) e
theorem Same.of_but {r : Addr} {H H' : Hp} (h : Same (Rl.but r H) (Rl.but r H')) {a : Addr} {o : HO} (n : a ≠ r) (e : H a = some o) : H' a = some o := but_same a o (h a o (but_get n e))
theorem Same.seqT {K : PySem.W.Frag} {H H' : Hp} {a : Addr} {xs : List V} (e : Same H H') (h : SqT K H a xs) : SqT K H' a xs := by
  rcases h with (h | ⟨o, h⟩) | h
  · exact .inl (.inl (e _ _ h))
  · exact .inl (.inr ⟨o, e _ _ h⟩)
  · exact .inr h
theorem SqL.mono {K : PySem.W.Frag} {H H' : Hp} {a : Addr} {xs : List V} (e : Same H H') (h : SqL K H a xs) : SqL K H' a xs := e.seq h
theorem SqT.mono {K : PySem.W.Frag} {H H' : Hp} {a : Addr} {xs : List V} (e : Same H H') (h : SqT K H a xs) : SqT K H' a xs := Same.seqT e h
mutual
theorem Dp.mono {K : PySem.W.Frag} {H H' : Hp} (e : Same H H') : ∀ {d : PyData} {v : V}, Dp K H v d → Dp K H' v d
  | _, _, .non => .non
  | _, _, .bl b => .bl b
  | _, _, .int i => .int i
  | _, _, .str x => .str x
  | _, _, .lst hs ha => .lst (e.seq hs) (DpAll.mono e ha)
  | _, _, .tup hs ha => .tup (Same.seqT e hs) (DpAll.mono e ha)
theorem DpAll.mono {K : PySem.W.Frag} {H H' : Hp} (e : Same H H') : ∀ {ds : List PyData} {vs : List V}, DpAll K H vs ds → DpAll K H' vs ds
  | _, _, .nil => .nil
  | _, _, .cons a b => .cons (Dp.mono e a) (DpAll.mono e b)
end
theorem dp_none {K : PySem.W.Frag} {H : Hp} {v : V} (h : Dp K H v .none) : v = .non := by
  cases h
  rfl
theorem dp_int {K : PySem.W.Frag} {H : Hp} {v : V} {i : Int} (h : Dp K H v (.int i)) : v = .int i := by
  cases h
  rfl
theorem dp_bool {K : PySem.W.Frag} {H : Hp} {v : V} {i : Bool} (h : Dp K H v (.bool i)) : v = .bl i := by
  cases h
  rfl
theorem dp_str {K : PySem.W.Frag} {H : Hp} {v : V} {i : Str} (h : Dp K H v (.str i)) : v = .str i := by
  cases h
  rfl
theorem dp_tup {K : PySem.W.Frag} {H : Hp} {v : V} {ds : List PyData} (h : Dp K H v (.tuple ds)) : ∃ p xs, v = .ref p ∧ SqT K H p xs ∧ DpAll K H xs ds := by
  cases h with
  | tup hs ha => exact ⟨_, _, rfl, hs, ha⟩
theorem dp_lst {K : PySem.W.Frag} {H : Hp} {v : V} {ds : List PyData} (h : Dp K H v (.list ds)) : ∃ p xs, v = .ref p ∧ SqL K H p xs ∧ DpAll K H xs ds := by
  cases h with
  | lst hs ha => exact ⟨_, _, rfl, hs, ha⟩
theorem DpAll.length {K : PySem.W.Frag} {H : Hp} : ∀ {vs : List V} {ds : List PyData}, DpAll K H vs ds → vs.length = ds.length
  | _, _, .nil => rfl
  | _, _, .cons _ t => by rw [List.length_cons, List.length_cons, DpAll.length t]
theorem DpAll.get {K : PySem.W.Frag} {H : Hp} : ∀ {vs : List V} {ds : List PyData}, DpAll K H vs ds → ∀ {i : Nat} {v : V}, vs[i]? = some v → ∃ d, ds[i]? = some d ∧ Dp K H v d
  | _, _, .nil, i, v, h => by cases h
  | _, _, .cons (d := d) a t, 0, v, h => ⟨d, rfl, by
    have e := Option.some.inj h
    rw [← e]
    exact a⟩
  | _, _, .cons _ t, i + 1, v, h => DpAll.get t (i := i) h
theorem DpAll.ints {K : PySem.W.Frag} {H : Hp} : ∀ ns : List Int, DpAll K H (ns.map V.int) (ns.map PyData.int)
  | [] => .nil
  | n :: ns => .cons (.int n) (DpAll.ints ns)
theorem DpAll.of_ints {K : PySem.W.Frag} {H : Hp} : ∀ {vs : List V} {ns : List Int}, DpAll K H vs (ns.map PyData.int) → vs = ns.map V.int
  | _, [], h => by
    cases h
    rfl
  | _, n :: ns, h => by
    cases h with
    | cons a t => rw [dp_int a, DpAll.of_ints t]; rfl
/-! ## slices, repeated lists -/
theorem drop_min {α : Type} (xs : List α) (k : Nat) : xs.drop (min k xs.length) = xs.drop k := by
  by_cases h : k ≤ xs.length
  · rw [Nat.min_eq_left h]
  · rw [Nat.min_eq_right (by omega), List.drop_length, List.drop_eq_nil_of_le (by omega)]
theorem take_min {α : Type} (xs : List α) (k : Nat) : xs.take (min k xs.length) = xs.take k := by
  by_cases h : k ≤ xs.length
  · rw [Nat.min_eq_left h]
  · rw [Nat.min_eq_right (by omega), List.take_length, List.take_of_length_le (by omega)]
/-- xs[k:] -/
theorem cut_from (xs : List V) (k : Nat) : cutV xs (some (k : Int)) none = xs.drop k := by
  unfold cutV
  rw [HT.sIx_nat, HT.sIx_none, drop_min]
  refine List.take_of_length_le ?_
  rw [List.length_drop]
  omega
/-- xs[:k] -/
theorem cut_to (xs : List V) (k : Nat) : cutV xs none (some (k : Int)) = xs.take k := by
  unfold cutV
  rw [HT.sIx_nat, HT.sIx_none, List.drop_zero, Nat.sub_zero, take_min]
theorem cut_fromI (xs : List V) {i : Int} (h : 0 ≤ i) : cutV xs (some i) none = xs.drop i.toNat := by
  have e : ((i.toNat : Nat) : Int) = i := Int.toNat_of_nonneg h
  rw [← cut_from, e]
theorem cut_toI (xs : List V) {i : Int} (h : 0 ≤ i) : cutV xs none (some i) = xs.take i.toNat := by
  have e : ((i.toNat : Nat) : Int) = i := Int.toNat_of_nonneg h
  rw [← cut_to, e]
theorem rep_if (x : V) (b : Bool) : (List.replicate (if b then (1 : Int) else 0).toNat [x]).flatten = if b then [x] else [] := by
  cases b <;> rfl
theorem rep_one (x : V) (n : Nat) : (List.replicate n [x]).flatten = List.replicate n x := by
  induction n with
  | zero => rfl
  | succ n ih => rw [List.replicate_succ, List.flatten_cons, ih]; rfl
/-! ## the type of data -/
def tyD : PyData → String
  | .none => "NoneType"
  | .bool _ => "bool"
  | .int _ => "int"
  | .str _ => "str"
  | .list _ => "list"
  | .tuple _ => "tuple"
  | .dict _ => "dict"
theorem sql_ty {K : PySem.W.Frag} {H : Hp} {a : Addr} {xs : List V} (h : SqL K H a xs) : TyX K H (.ref a) (.type "list") := by
  rcases h with (h | ⟨o, h⟩) | ⟨o, its, n, h1, h2, _⟩
  · exact .base (.lst h)
  · exact .base (.frz h)
  · exact .kList h1 h2
theorem sqt_ty {K : PySem.W.Frag} {H : Hp} {a : Addr} {xs : List V} (h : SqT K H a xs) : TyX K H (.ref a) (.type "tuple") := by
  rcases h with (h | ⟨o, h⟩) | ⟨o, its, n, h1, h2, _⟩
  · exact .base (.tup h)
  · exact .fTuple h
  · exact .kTuple h1 h2
theorem Dp.ty {K : PySem.W.Frag} {H : Hp} {v : V} {d : PyData} (h : Dp K H v d) : TyX K H v (.type (tyD d)) := by
  cases h with
  | non => exact .base .non
  | bl b => exact .base (.bl b)
  | int i => exact .base (.int i)
  | str x => exact .base (.str x)
  | lst hs _ => exact sql_ty hs
  | tup hs _ => exact sqt_ty hs
end Rl
namespace Rl.R
open PySem PySem.Spec PyProof.Rows L2 Rl
/-! ## one step of a reading -/
section
variable {K : PySem.W.Frag} {σ : L2.St} {H : Hp} {Q : VK} {QA : List V → Hp → Prop} {QB : Bool → Hp → Prop} {ta tb tc te : TE} {tr : TA} {x y z v : V} {i j : Int} {n : Nat}
theorem var (q : Q v H) (h : σ[n]? = some (some v) := by with_unfolding_all rfl) : tVar n σ H Q := ⟨v, h, q⟩
theorem c (q : Q v H) : tC v σ H Q := q
theorem op {r : R2} (q : ta σ H fun x H1 => tb σ H1 fun y H2 => r x y H2 Q) : tOp r ta tb σ H Q := q
theorem un {r : V → Hp → VK → Prop} (q : ta σ H fun x H1 => r x H1 Q) : tUn r ta σ H Q := q
theorem neg (q : Q (.int (-i)) H) : rU (fun i => .int (-i)) (.int i) H Q := ⟨i, rfl, q⟩
theorem test (q : te σ H fun x H' => ∃ k, x = .bl k ∧ QB k H') : tTest te σ H QB := q
theorem tB' (q : te σ H fun x H' => ∃ k, x = .bl k ∧ QB k H') : tB te σ H QB := q
theorem bl {b : Bool} {F : Bool → Prop} (q : F b) : ∃ k, V.bl b = .bl k ∧ F k := ⟨b, rfl, q⟩
theorem tru (q : te σ H fun x H' => ∃ k, TruV K x H' k ∧ QB k H') : tTru K te σ H QB := q
theorem and' {t u : TT} (q : t σ H fun c H1 => if c = true then u σ H1 QB else QB false H1) : tAnd t u σ H QB := q
theorem or' {t u : TT} (q : t σ H fun c H1 => if c = true then QB true H1 else u σ H1 QB) : tOr t u σ H QB := q
theorem not' {t : TT} (q : t σ H fun c H1 => QB (!c) H1) : tNot t σ H QB := q
theorem yes (q : QB true H) : tYes σ H QB := q
theorem andV (q : ta σ H fun x H1 => ∃ c, x = .bl c ∧ if c = true then tb σ H1 Q else Q (.bl false) H1) : tAndV ta tb σ H Q := q
theorem orV (q : ta σ H fun x H1 => ∃ c, x = .bl c ∧ if c = true then Q (.bl true) H1 else tb σ H1 Q) : tOrV ta tb σ H Q := q
theorem notV (q : ta σ H fun x H1 => ∃ c, x = .bl c ∧ Q (.bl (!c)) H1) : tNotV ta σ H Q := q
theorem ifE {t : TT} (q : t σ H fun c H1 => if c = true then ta σ H1 Q else tb σ H1 Q) : tIf t ta tb σ H Q := q
theorem cons (q : ta σ H fun x H1 => tr σ H1 fun xs H2 => QA (x :: xs) H2) : tCons ta tr σ H QA := q
theorem nil (q : QA [] H) : tNil σ H QA := q
theorem call {sp : Sp} {E : XK} (q : tr σ H fun vs H1 => sp (vs ++ []) H1 Q E) : tCall sp [] E tr σ H Q := q
theorem app {sp : Sp} {E : XK} {vs : List V} (q : sp vs H Q E) : sp (vs ++ []) H Q E := by
  rw [List.append_nil]
  exact q
theorem cb {r : List V → Hp → VK → Prop} (q : tr σ H fun vs H1 => r vs H1 Q) : tCB r tr σ H Q := q
theorem tup (q : tr σ H fun xs H1 => xs.length ≤ sizeLine ∧ ∀ p, H1 p = none → Q (.ref p) (upd H1 p (.tup xs))) : tTup tr σ H Q := q
theorem lst (q : tr σ H fun xs H1 => xs.length ≤ sizeLine ∧ ∀ p, H1 p = none → Q (.ref p) (upd H1 p (.lst xs))) : tLst tr σ H Q := q
theorem sl {r : V → Option Int → Option Int → Hp → VK → Prop} {tl th : TO} (q : te σ H fun x H1 => tl σ H1 fun l H2 => th σ H2 fun u H3 => r x l u H3 Q) : tSl r te tl th σ H Q := q
theorem noPart {QO : Option Int → Hp → Prop} (q : QO none H) : tNoPart σ H QO := q
theorem part {QO : Option Int → Hp → Prop} (q : te σ H fun x H1 => ∃ i, x = .int i ∧ QO (some i) H1) : tPart te σ H QO := q
theorem exI {F : Int → Prop} (q : F i) : ∃ k, V.int i = .int k ∧ F k := ⟨i, rfl, q⟩
theorem chain {r r' : R2} (q : ta σ H fun x H1 => tb σ H1 fun y H2 => r x y H2 fun z H3 => ∃ k, z = .bl k ∧ (if k = true then tc σ H3 fun w' H4 => r' y w' H4 Q else Q (.bl false) H3)) : tChain r r' ta tb tc σ H Q := q
/-! operators by values -/
theorem addI (q : Q (.int (i + j)) H) : rAddA K (.int i) (.int j) H Q := .inl ⟨i, j, rfl, rfl, q⟩
theorem addS {a b : Str} (h : a.length + b.length ≤ sizeLine) (q : Q (.str (a ++ b)) H) : rAddA K (.str a) (.str b) H Q := .inr (.inl ⟨a, b, rfl, rfl, h, q⟩)
theorem cat {p b : Addr} {xs ys : List V} (h : H p = some (.lst xs)) (h2 : H b = some (.lst ys)) (hl : xs.length + ys.length ≤ sizeLine) (q : ∀ l, H l = none → Q (.ref l) (upd H l (.lst (xs ++ ys)))) : rAddA K (.ref p) (.ref b) H Q :=
  .inr (.inr (.inl ⟨p, b, xs, ys, rfl, rfl, h, h2, hl, q⟩))
theorem catT {p b : Addr} {xs ys : List V} (h : SqT K H p xs) (h2 : SqT K H b ys) (h0 : xs ≠ []) (hl : xs.length + ys.length ≤ sizeLine) (q : ys = [] → Q (.ref p) H) (q2 : ys ≠ [] → ∀ l, H l = none → Q (.ref l) (upd H l (.tup (xs ++ ys)))) : rAddA K (.ref p) (.ref b) H Q :=
  .inr (.inr (.inr ⟨p, b, xs, ys, rfl, rfl, h, h2, h0, hl, q, q2⟩))
theorem subI (q : Q (.int (i - j)) H) : rSubA (.int i) (.int j) H Q := ⟨i, j, rfl, rfl, q⟩
theorem mulI (h : CMulA i j) (q : Q (.int (i * j)) H) : rMulA (.int i) (.int j) H Q := .inl ⟨i, j, rfl, rfl, h, q⟩
theorem rep {p : Addr} {xs : List V} (h : H p = some (.lst xs)) (h1 : -(2 ^ 63) ≤ i) (h2 : i < 2 ^ 63) (hl : xs.length * i.toNat ≤ sizeLine) (q : ∀ l, H l = none → Q (.ref l) (upd H l (.lst (List.replicate i.toNat xs).flatten))) : rMulA (.ref p) (.int i) H Q :=
  .inr ⟨p, i, xs, rfl, rfl, h, h1, h2, hl, q⟩
theorem modI (h : 0 < j) (q : Q (.int (i % j)) H) : rModA (.int i) (.int j) H Q := ⟨i, j, rfl, rfl, h, q⟩
theorem divI (h : CDivW i j) (q : Q (.int (i / j)) H) : rDivA (.int i) (.int j) H Q := ⟨i, j, rfl, rfl, h, q⟩
theorem powI (h : CPow i j) (q : Q (.int (i ^ j.toNat)) H) : rPowA (.int i) (.int j) H Q := ⟨i, j, rfl, rfl, h, q⟩
theorem shlI (h : CPow i j) (q : Q (.int (i * 2 ^ j.toNat)) H) : rShlA (.int i) (.int j) H Q := ⟨i, j, rfl, rfl, h, q⟩
theorem shrI (h : 0 ≤ j) (q : Q (.int (i / 2 ^ j.toNat)) H) : rShrA (.int i) (.int j) H Q := ⟨i, j, rfl, rfl, h, q⟩
theorem andI (q : Q (.int (Builtin.bitAnd i j)) H) : rAndA (.int i) (.int j) H Q := ⟨i, j, rfl, rfl, q⟩
theorem and3 (q : Q (.int (i % 4)) H) : rAndA (.int i) (.int 3) H Q := ⟨i, 3, rfl, rfl, by show Q (.int (Builtin.bitAnd i 3)) H; rw [bitAnd_m2]; exact q⟩
theorem and15 (h : 0 ≤ i) (q : Q (.int (i % 16)) H) : rAndA (.int i) (.int 15) H Q := ⟨i, 15, rfl, rfl, by show Q (.int (Builtin.bitAnd i 15)) H; rw [show Builtin.bitAnd i 15 = i % 16 from Bits.bitAnd_mask 4 h]; exact q⟩
theorem shr4 (q : Q (.int (i / 16)) H) : rShrA (.int i) (.int 4) H Q := ⟨i, 4, rfl, rfl, (by decide : (0 : Int) ≤ 4), q⟩
theorem shr2 (q : Q (.int (i / 4)) H) : rShrA (.int i) (.int 2) H Q := ⟨i, 2, rfl, rfl, (by decide : (0 : Int) ≤ 2), q⟩
theorem orI (q : Q (.int (Builtin.bitOr i j)) H) : rOrA (.int i) (.int j) H Q := ⟨i, j, rfl, rfl, q⟩
theorem xorI (q : Q (.int (Builtin.bitXor i j)) H) : rXorA (.int i) (.int j) H Q := ⟨i, j, rfl, rfl, q⟩
theorem ltI (q : Q (.bl (decide (i < j))) H) : rLtA (.int i) (.int j) H Q := ⟨i, j, rfl, rfl, q⟩
theorem leI (q : Q (.bl (decide (i ≤ j))) H) : rLeA (.int i) (.int j) H Q := ⟨i, j, rfl, rfl, q⟩
theorem gtI (q : Q (.bl (decide (j < i))) H) : rGtA (.int i) (.int j) H Q := ⟨i, j, rfl, rfl, q⟩
theorem geI (q : Q (.bl (decide (j ≤ i))) H) : rGeA (.int i) (.int j) H Q := ⟨i, j, rfl, rfl, q⟩
theorem dI : decide (V.int i = V.int j) = decide (i = j) := by
  rw [dec_int]
  exact (Bool.beq_eq_decide_eq i j)
theorem dS {a b : Str} : decide (V.str a = V.str b) = decide (a = b) := by
  by_cases h : a = b
  · rw [h, decide_eq_true rfl, decide_eq_true rfl]
  · rw [decide_eq_false h, decide_eq_false fun q => h (V.str.inj q)]
theorem dB {a b : Bool} : decide (V.bl a = V.bl b) = decide (a = b) := by
  by_cases h : a = b
  · rw [h, decide_eq_true rfl, decide_eq_true rfl]
  · rw [decide_eq_false h, decide_eq_false fun q => h (V.bl.inj q)]
theorem eqI (q : Q (.bl (decide (i = j))) H) : rEqA K (.int i) (.int j) H Q := .inl ⟨rfl, by rw [dI]; exact q⟩
theorem eqS {a b : Str} (q : Q (.bl (decide (a = b))) H) : rEqA K (.str a) (.str b) H Q := .inl ⟨rfl, by rw [dS]; exact q⟩
theorem eqB {a b : Bool} (q : Q (.bl (decide (a = b))) H) : rEqA K (.bl a) (.bl b) H Q := .inl ⟨rfl, by rw [dB]; exact q⟩
theorem neI (q : Q (.bl (!decide (i = j))) H) : rNeA K (.int i) (.int j) H Q := .inl ⟨rfl, by rw [dI]; exact q⟩
theorem neS {a b : Str} (q : Q (.bl (!decide (a = b))) H) : rNeA K (.str a) (.str b) H Q := .inl ⟨rfl, by rw [dS]; exact q⟩
theorem neB {a b : Bool} (q : Q (.bl (!decide (a = b))) H) : rNeA K (.bl a) (.bl b) H Q := .inl ⟨rfl, by rw [dB]; exact q⟩
theorem eqD {d e : PyData} (hx : Dp K H x d) (hy : Dp K H y e) (sd : SeqAt.shaped d = true) (se : SeqAt.shaped e = true) (q : Q (.bl (PyData.eqv d e)) H) : rEqA K x y H Q := .inr ⟨d, e, hx, hy, sd, se, q⟩
theorem neD {d e : PyData} (hx : Dp K H x d) (hy : Dp K H y e) (sd : SeqAt.shaped d = true) (se : SeqAt.shaped e = true) (q : Q (.bl (!PyData.eqv d e)) H) : rNeA K x y H Q := .inr ⟨d, e, hx, hy, sd, se, q⟩
theorem isN (q : Q (.bl (decide (x = .non))) H) : rIsN x .non H Q := ⟨rfl, q⟩
theorem notN (q : Q (.bl (!decide (x = .non))) H) : rNotN x .non H Q := ⟨rfl, q⟩
theorem isNn (q : Q (.bl true) H) : rIsN .non .non H Q := ⟨rfl, by rw [decide_eq_true rfl]; exact q⟩
theorem isNr {p : Addr} (q : Q (.bl false) H) : rIsN (.ref p) .non H Q := ⟨rfl, by rw [decide_eq_false fun z => nomatch z]; exact q⟩
theorem isNi (q : Q (.bl false) H) : rIsN (.int i) .non H Q := ⟨rfl, by rw [decide_eq_false fun z => nomatch z]; exact q⟩
theorem isNb {b : Bool} (q : Q (.bl false) H) : rIsN (.bl b) .non H Q := ⟨rfl, by rw [decide_eq_false fun z => nomatch z]; exact q⟩
theorem isNs {s : Str} (q : Q (.bl false) H) : rIsN (.str s) .non H Q := ⟨rfl, by rw [decide_eq_false fun z => nomatch z]; exact q⟩
theorem notNb {b : Bool} (q : Q (.bl true) H) : rNotN (.bl b) .non H Q := ⟨rfl, by rw [decide_eq_false fun z => nomatch z]; exact q⟩
theorem notNs {s : Str} (q : Q (.bl true) H) : rNotN (.str s) .non H Q := ⟨rfl, by rw [decide_eq_false fun z => nomatch z]; exact q⟩
theorem eqBx {b : Bool} (q : Q (.bl true) H) : rEqA K (.bl b) (.bl b) H Q := eqB (by rw [decide_eq_true rfl]; exact q)
theorem neBx {b : Bool} (q : Q (.bl false) H) : rNeA K (.bl b) (.bl b) H Q := neB (by rw [decide_eq_true rfl]; exact q)
theorem eqIx {i : Int} (q : Q (.bl true) H) : rEqA K (.int i) (.int i) H Q := eqI (by rw [decide_eq_true rfl]; exact q)
theorem neIx {i : Int} (q : Q (.bl false) H) : rNeA K (.int i) (.int i) H Q := neI (by rw [decide_eq_true rfl]; exact q)
theorem eqSx {b : Str} (q : Q (.bl true) H) : rEqA K (.str b) (.str b) H Q := eqS (by rw [decide_eq_true rfl]; exact q)
theorem neSx {b : Str} (q : Q (.bl false) H) : rNeA K (.str b) (.str b) H Q := neS (by rw [decide_eq_true rfl]; exact q)
theorem notNn (q : Q (.bl false) H) : rNotN .non .non H Q := ⟨rfl, by rw [decide_eq_true rfl]; exact q⟩
theorem notNr {p : Addr} (q : Q (.bl true) H) : rNotN (.ref p) .non H Q := ⟨rfl, by rw [decide_eq_false fun z => nomatch z]; exact q⟩
theorem notNi (q : Q (.bl true) H) : rNotN (.int i) .non H Q := ⟨rfl, by rw [decide_eq_false fun z => nomatch z]; exact q⟩
theorem inKDi {a : Addr} {w : World} {kvs : List (Key × V)} (D : KD K w a kvs) (q : Q (.bl (valV kvs (Sum.inl i)).isSome) H) : rInKD K w (.int i) (.ref a) H Q := ⟨a, kvs, Sum.inl i, rfl, rfl, D, q⟩
theorem inKDs {a : Addr} {w : World} {kvs : List (Key × V)} {s : Str} (D : KD K w a kvs) (q : Q (.bl (valV kvs (Sum.inr s)).isSome) H) : rInKD K w (.str s) (.ref a) H Q := ⟨a, kvs, Sum.inr s, rfl, rfl, D, q⟩
theorem ixKDi {a : Addr} {w : World} {kvs : List (Key × V)} (D : KD K w a kvs) (h : valV kvs (Sum.inl i) = some v) (q : Q v H) : rIxKD K w (.ref a) (.int i) H Q := ⟨a, kvs, Sum.inl i, v, rfl, rfl, D, h, q⟩
theorem ixKDs {a : Addr} {w : World} {kvs : List (Key × V)} {s : Str} (D : KD K w a kvs) (h : valV kvs (Sum.inr s) = some v) (q : Q v H) : rIxKD K w (.ref a) (.str s) H Q := ⟨a, kvs, Sum.inr s, v, rfl, rfl, D, h, q⟩
theorem valV_ints {α : Type} {f : α → V} (k : Int) : ∀ l : List (Int × α), valV (l.map fun p => ((Sum.inl p.1 : Key), f p.2)) (Sum.inl k) = (l.lookup k).map f
  | [] => rfl
  | (j, x) :: r => by
    rw [List.map_cons]
    by_cases h : j = k
    · rw [valV_pos (p := ((Sum.inl j : Key), f x)) (by rw [h]), h, List.lookup_cons_self]
      rfl
    · rw [valV_neg (p := ((Sum.inl j : Key), f x)) (fun q => h (Sum.inl.inj q)), valV_ints k r, List.lookup_cons]
      have e : (k == j) = false := beq_eq_false_iff_ne.mpr fun q => h q.symm
      rw [e]
/-! items -/
theorem ixL {p : Addr} {xs : List V} (h : SqL K H p xs) (hi : atI xs i = some v) (q : Q v H) : rIx K (.ref p) (.int i) H Q := .inl ⟨p, xs, i, v, rfl, rfl, h, hi, q⟩
theorem ixT {p : Addr} {xs : List V} (h : SqT K H p xs) (hi : atI xs i = some v) (q : Q v H) : rIx K (.ref p) (.int i) H Q := .inr (.inl ⟨p, xs, i, v, rfl, rfl, h, hi, q⟩)
theorem ixS {s : Str} {k : Nat} (hl : s.length ≤ sizeLine) (hi : atI s.cps.toList i = some k) (q : Q (.str ⟨#[k]⟩) H) : rIx K (.str s) (.int i) H Q := .inr (.inr ⟨s, i, k, rfl, rfl, hl, hi, q⟩)
theorem atI_pos {α : Type} {xs : List α} {v : α} (h0 : 0 ≤ i) (h : xs[i.toNat]? = some v) : atI xs i = some v := by
  have e : ((i.toNat : Nat) : Int) = i := Int.toNat_of_nonneg h0
  rw [← e]
  exact atI_nat h
/-- an item of a list of ints -/
theorem ixLI {p : Addr} {ns : List Int} (h : SqL K H p (ns.map V.int)) (h0 : 0 ≤ i) (h1 : i < ns.length) (q : ∀ m, ns[i.toNat]? = some m → m ∈ ns → Q (.int m) H) : rIx K (.ref p) (.int i) H Q := by
  have hl : i.toNat < ns.length := by omega
  have e : ns[i.toNat]? = some ns[i.toNat] := List.getElem?_eq_getElem hl
  exact ixL h (atI_pos h0 (by rw [List.getElem?_map, e]; rfl)) (q _ e (List.mem_of_getElem? e))
/-- any item of a list -/
theorem ixLV {p : Addr} {xs : List V} (h : SqL K H p xs) (h0 : 0 ≤ i) (h1 : i < xs.length) (q : ∀ m, xs[i.toNat]? = some m → m ∈ xs → Q m H) : rIx K (.ref p) (.int i) H Q := by
  have hl : i.toNat < xs.length := by omega
  have e : xs[i.toNat]? = some xs[i.toNat] := List.getElem?_eq_getElem hl
  exact ixL h (atI_pos h0 e) (q _ e (List.mem_of_getElem? e))
theorem ixTV {p : Addr} {xs : List V} (h : SqT K H p xs) (h0 : 0 ≤ i) (h1 : i < xs.length) (q : ∀ m, xs[i.toNat]? = some m → m ∈ xs → Q m H) : rIx K (.ref p) (.int i) H Q := by
  have hl : i.toNat < xs.length := by omega
  have e : xs[i.toNat]? = some xs[i.toNat] := List.getElem?_eq_getElem hl
  exact ixT h (atI_pos h0 e) (q _ e (List.mem_of_getElem? e))
theorem setL {p : Addr} {xs : List V} {QS : Hp → Prop} {k : Nat} (h : H p = some (.lst xs)) (hi : ixN xs.length i = some k) (q : QS (upd H p (.lst (xs.set k v)))) : rSetL (.ref p) (.int i) v H QS := ⟨p, xs, i, k, rfl, rfl, h, hi, q⟩
theorem ixN_pos {n : Nat} (h0 : 0 ≤ i) (h : i < n) : ixN n i = some i.toNat := by
  unfold ixN
  rw [if_pos h0, if_pos h]
theorem setLI {p : Addr} {ns : List Int} {n : Int} {QS : Hp → Prop} (h : H p = some (.lst (ns.map V.int))) (h0 : 0 ≤ i) (h1 : i < ns.length) (q : QS (upd H p (.lst ((ns.set i.toNat n).map V.int)))) : rSetL (.ref p) (.int i) (.int n) H QS :=
  setL (k := i.toNat) h (by rw [List.length_map]; exact ixN_pos h0 h1) (by rw [← List.map_set]; exact q)
theorem gName {QS : L2.St → Hp → Prop} (q : QS (σ.set n (some v)) H) : L2.gName n v σ H QS := q
theorem gSub {to ti : TE} {ts : TSet} {QS : L2.St → Hp → Prop} (q : to σ H fun o H1 => ti σ H1 fun i H2 => ts o i v H2 fun H3 => QS σ H3) : L2.gSub to ti ts v σ H QS := q
theorem gTup {k : Nat} {t : TGs} {p : Addr} {xs : List V} {QS : L2.St → Hp → Prop} (h : SqT K H p xs) (hl : xs.length = k) (q : t xs σ H QS) : L2.gTup K k t (.ref p) σ H QS := ⟨p, xs, rfl, h, hl, q⟩
theorem gCons {t : TG} {u : TGs} {vs : List V} {QS : L2.St → Hp → Prop} (q : t v σ H fun σ' H' => u vs σ' H' QS) : L2.gCons t u (v :: vs) σ H QS := ⟨v, vs, rfl, q⟩
theorem gNil {QS : L2.St → Hp → Prop} (q : QS σ H) : L2.gNil [] σ H QS := ⟨rfl, q⟩
theorem slL {p : Addr} {xs : List V} {lo hi : Option Int} (h : SqL K H p xs) (q : ∀ l, H l = none → Q (.ref l) (upd H l (.lst (cutV xs lo hi)))) : rSlA K (.ref p) lo hi H Q := .inl ⟨p, xs, rfl, h, q⟩
theorem slFrom {p : Addr} {xs : List V} (h : SqL K H p xs) (h0 : 0 ≤ i) (q : ∀ l, H l = none → Q (.ref l) (upd H l (.lst (xs.drop i.toNat)))) : rSlA K (.ref p) (some i) none H Q := slL h (by rw [cut_fromI _ h0]; exact q)
theorem slTo {p : Addr} {xs : List V} (h : SqL K H p xs) (h0 : 0 ≤ i) (q : ∀ l, H l = none → Q (.ref l) (upd H l (.lst (xs.take i.toNat)))) : rSlA K (.ref p) none (some i) H Q := slL h (by rw [cut_toI _ h0]; exact q)
theorem slFromI {p : Addr} {ns : List Int} (h : SqL K H p (ns.map V.int)) (h0 : 0 ≤ i) (q : ∀ l, H l = none → Q (.ref l) (upd H l (.lst ((ns.drop i.toNat).map V.int)))) : rSlA K (.ref p) (some i) none H Q := slFrom h h0 (by rw [← List.map_drop]; exact q)
theorem slToI {p : Addr} {ns : List Int} (h : SqL K H p (ns.map V.int)) (h0 : 0 ≤ i) (q : ∀ l, H l = none → Q (.ref l) (upd H l (.lst ((ns.take i.toNat).map V.int)))) : rSlA K (.ref p) none (some i) H Q := slTo h h0 (by rw [← List.map_take]; exact q)
theorem repIf {p : Addr} {b : Bool} (h : H p = some (.lst [x])) (q : ∀ l, H l = none → Q (.ref l) (upd H l (.lst (if b then [x] else [])))) : rMulA (.ref p) (.int (if b then 1 else 0)) H Q :=
  rep h (by split <;> decide) (by split <;> decide) (by cases b <;> exact (by decide : (1 : Nat) * 1 ≤ sizeLine ∧ 1 * 0 ≤ sizeLine).elim (fun a c => by first | exact a | exact c)) (by rw [rep_if]; exact q)
theorem repIfI {p : Addr} {b : Bool} (h : H p = some (.lst [.int j])) (q : ∀ l, H l = none → Q (.ref l) (upd H l (.lst ((if b then [j] else []).map V.int)))) : rMulA (.ref p) (.int (if b then 1 else 0)) H Q :=
  repIf h (by
    have e : (if b then [V.int j] else []) = (if b then [j] else []).map V.int := by cases b <;> rfl
    rw [e]
    exact q)
theorem catI {p b : Addr} {xs ys : List Int} (h : H p = some (.lst (xs.map V.int))) (h2 : H b = some (.lst (ys.map V.int))) (hl : xs.length + ys.length ≤ sizeLine) (q : ∀ l, H l = none → Q (.ref l) (upd H l (.lst ((xs ++ ys).map V.int)))) : rAddA K (.ref p) (.ref b) H Q :=
  cat h h2 (by rw [List.length_map, List.length_map]; exact hl) (by rw [← List.map_append]; exact q)
/-! built-ins -/
theorem lenL {p : Addr} {xs : List V} (h : SqL K H p xs) (q : Q (.int xs.length) H) : rLenA K [.ref p] H Q := ⟨.ref p, xs.length, rfl, .inl ⟨xs, h, rfl⟩, q⟩
theorem lenT {p : Addr} {xs : List V} (h : SqT K H p xs) (q : Q (.int xs.length) H) : rLenA K [.ref p] H Q := ⟨.ref p, xs.length, rfl, .inr ⟨xs, h, rfl⟩, q⟩
theorem lenLI {p : Addr} {ns : List Int} (h : SqL K H p (ns.map V.int)) (q : Q (.int ns.length) H) : rLenA K [.ref p] H Q := lenL h (by rw [List.length_map]; exact q)
theorem lenTI {p : Addr} {ns : List Int} (h : SqT K H p (ns.map V.int)) (q : Q (.int ns.length) H) : rLenA K [.ref p] H Q := lenT h (by rw [List.length_map]; exact q)
theorem lenS {s : Str} (h : s.length ≤ sizeLine) (q : Q (.int s.length) H) : rLenA K [.str s] H Q := ⟨.str s, s.length, rfl, ⟨h, rfl⟩, q⟩
theorem intI (q : Q (.int i) H) : rInt1 [.int i] H Q := .inl ⟨i, rfl, q⟩
theorem intB {b : Bool} (q : Q (.int (if b then 1 else 0)) H) : rInt1 [.bl b] H Q := .inr ⟨b, rfl, q⟩
theorem abs' (q : Q (.int (if i < 0 then -i else i)) H) : rAbs [.int i] H Q := ⟨i, rfl, q⟩
theorem min2 (q : Q (.int (if j < i then j else i)) H) : rMin2 [.int i, .int j] H Q := ⟨i, j, rfl, q⟩
theorem max2 (q : Q (.int (if j > i then j else i)) H) : rMax2 [.int i, .int j] H Q := ⟨i, j, rfl, q⟩
theorem listL {p : Addr} {xs : List V} (h : SqL K H p xs) (q : ∀ l, H l = none → Q (.ref l) (upd H l (.lst xs))) : rListA K [.ref p] H Q := ⟨p, xs, rfl, .inl h, q⟩
theorem listT {p : Addr} {xs : List V} (h : SqT K H p xs) (q : ∀ l, H l = none → Q (.ref l) (upd H l (.lst xs))) : rListA K [.ref p] H Q := ⟨p, xs, rfl, .inr h, q⟩
theorem tupL {p : Addr} {xs : List V} (h : SqL K H p xs) (q : ∀ l, H l = none → Q (.ref l) (upd H l (.tup xs))) : rTupA K [.ref p] H Q := ⟨p, xs, rfl, .inl ⟨h, q⟩⟩
theorem tupT {p : Addr} {xs : List V} (h : SqT K H p xs) (q : Q (.ref p) H) : rTupA K [.ref p] H Q := ⟨p, xs, rfl, .inr ⟨h, q⟩⟩
theorem all' {p : Addr} {bs : List Bool} (h : SqL K H p (bs.map V.bl)) (q : Q (.bl (bs.all id)) H) : rAll K [.ref p] H Q := ⟨p, bs, rfl, h, q⟩
theorem any' {p : Addr} {bs : List Bool} (h : SqL K H p (bs.map V.bl)) (q : Q (.bl (bs.any id)) H) : rAny K [.ref p] H Q := ⟨p, bs, rfl, h, q⟩
theorem isiD {d : PyData} {cT : String} {b : Bool} (h : Dp K H x d) (hk : kitB (tyD d) cT = some b) (q : Q (.bl b) H) : rIsi K [x, .ty cT] H Q := ⟨x, .ty cT, _, .type cT, b, rfl, .ty cT, Dp.ty h, kit_ty hk, q⟩
theorem isi {T cT : String} {b : Bool} (ht : TyX K H x (.type T)) (hk : kitB T cT = some b) (q : Q (.bl b) H) : rIsi K [x, .ty cT] H Q := ⟨x, .ty cT, _, .type cT, b, rfl, .ty cT, ht, kit_ty hk, q⟩
/-! tests that are known -/
theorem iT {A B : Prop} (h : A) : if true = true then A else B := iteT h
theorem iF {A B : Prop} (h : B) : if false = true then A else B := iteF h
theorem iFO {b : Bool} {A B : Prop} (h : if b = true then A else B) : if (false || b) = true then A else B := by rw [Bool.false_or]; exact h
theorem iTO {b : Bool} {A B : Prop} (h : A) : if (true || b) = true then A else B := by rw [Bool.true_or]; exact iteT h
theorem iFA {b : Bool} {A B : Prop} (h : B) : if (false && b) = true then A else B := by rw [Bool.false_and]; exact iteF h
theorem iTA {b : Bool} {A B : Prop} (h : if b = true then A else B) : if (true && b) = true then A else B := by rw [Bool.true_and]; exact h
theorem iDT {p A B : Prop} [Decidable p] (hp : p) (h : A) : if decide p = true then A else B := by rw [decide_eq_true hp]; exact iteT h
theorem iDF {p A B : Prop} [Decidable p] (hp : ¬ p) (h : B) : if decide p = true then A else B := by rw [decide_eq_false hp]; exact iteF h
theorem iD {p A B : Prop} [Decidable p] (h1 : p → A) (h2 : ¬ p → B) : if decide p = true then A else B := by
  by_cases h : p
  · rw [decide_eq_true h]
    exact iteT (h1 h)
  · rw [decide_eq_false h]
    exact iteF (h2 h)
theorem iN {p A B : Prop} [Decidable p] (h1 : ¬ p → A) (h2 : p → B) : if (!decide p) = true then A else B := by
  by_cases h : p
  · rw [decide_eq_true h]
    exact iteF (h2 h)
  · rw [decide_eq_false h]
    exact iteT (h1 h)
theorem iB {b : Bool} {A B : Prop} (h1 : b = true → A) (h2 : b = false → B) : if b = true then A else B := by
  cases b with
  | true => exact iteT (h1 rfl)
  | false => exact iteF (h2 rfl)
end
section
variable {σ : L2.St} {H : Hp} {t u : TT} {QB : Bool → Hp → Prop} {b b' : Bool}
theorem andB (ht : ∀ QB : Bool → Hp → Prop, QB b H → t σ H QB) (hu : b = true → ∀ QB : Bool → Hp → Prop, QB b' H → u σ H QB) (q : QB (b && b') H) : tAnd t u σ H QB := by
  refine ht _ ?_
  cases b with
  | true => exact iteT (hu rfl _ q)
  | false => exact iteF q
theorem orB (ht : ∀ QB : Bool → Hp → Prop, QB b H → t σ H QB) (hu : b = false → ∀ QB : Bool → Hp → Prop, QB b' H → u σ H QB) (q : QB (b || b') H) : tOr t u σ H QB := by
  refine ht _ ?_
  cases b with
  | true => exact iteT q
  | false => exact iteF (hu rfl _ q)
theorem chainB {ta tb tc : TE} {r r' : R2} {x y z : V} {Q : VK} (ha : ∀ Q : VK, Q x H → ta σ H Q) (hb : ∀ Q : VK, Q y H → tb σ H Q) (hr : ∀ Q : VK, Q (.bl b) H → r x y H Q) (hc : b = true → ∀ Q : VK, Q z H → tc σ H Q) (hr' : b = true → ∀ Q : VK, Q (.bl b') H → r' y z H Q)
    (q : Q (.bl (b && b')) H) : tChain r r' ta tb tc σ H Q := by
  refine ha _ (hb _ (hr _ ⟨b, rfl, ?_⟩))
  cases b with
  | true => exact iteT (hc rfl _ (hr' rfl _ q))
  | false => exact iteF q
theorem iNot {b : Bool} {A B : Prop} (h : if b = true then B else A) : if (!b) = true then A else B := by
  cases b with
  | true => exact iteF (by rw [if_pos rfl] at h; exact h)
  | false => exact iteT (by rw [if_neg Bool.false_ne_true] at h; exact h)
theorem iAnd {p r A B : Prop} [Decidable p] [Decidable r] (h1 : p → r → A) (h2 : ¬ (p ∧ r) → B) : if (decide p && decide r) = true then A else B := by
  by_cases a : p
  · by_cases c : r
    · rw [decide_eq_true a, decide_eq_true c]
      exact iteT (h1 a c)
    · rw [decide_eq_false c, Bool.and_false]
      exact iteF (h2 fun z => c z.2)
  · rw [decide_eq_false a, Bool.false_and]
    exact iteF (h2 fun z => a z.1)
theorem iOr {p r A B : Prop} [Decidable p] [Decidable r] (h1 : p ∨ r → A) (h2 : ¬ p → ¬ r → B) : if (decide p || decide r) = true then A else B := by
  by_cases a : p
  · rw [decide_eq_true a, Bool.true_or]
    exact iteT (h1 (.inl a))
  · by_cases c : r
    · rw [decide_eq_true c, Bool.or_true]
      exact iteT (h1 (.inr c))
    · rw [decide_eq_false a, decide_eq_false c]
      exact iteF (h2 a c)
end
theorem cdiv {i j : Int} (h0 : 0 < j) (h1 : j < 1073741824) : CDivW i j := wide_div (b := 30) h0 (by omega) (by decide) (by decide)
theorem cpow {i j : Int} (h : decide (0 ≤ j ∧ j ≤ 1000000 ∧ i.natAbs < 2 ^ 64) = true) : CPow i j := by
  unfold CPow
  exact of_decide_eq_true h
theorem cmul1 {i j : Int} (h1 : -(2 ^ 64) < i) (h2 : i < 2 ^ 64) : CMulA i j := .inl (.inl ⟨h1, h2⟩)
theorem cmul2 {i j : Int} (h1 : -(2 ^ 64) < j) (h2 : j < 2 ^ 64) : CMulA i j := .inl (.inr ⟨h1, h2⟩)
theorem cdivL {i j : Int} (h : decide (0 < j ∧ j.natAbs.log2 < 9000) = true) : CDivW i j := by
  unfold CDivW
  exact of_decide_eq_true h
/-! ## statements; what follows written out -/
section
variable {K : PySem.W.Frag} {σ : L2.St} {H : Hp} {te : TE} {t u : TS} {nx bk ct : L2.St → Hp → Prop} {rt : VK} {g : TG} {n : Nat}
theorem seq (q : t ⟨u ⟨nx, rt, bk, ct⟩, rt, bk, ct⟩ σ H) : tSeq t u ⟨nx, rt, bk, ct⟩ σ H := q
theorem next (q : nx σ H) : tNext ⟨nx, rt, bk, ct⟩ σ H := q
theorem asg (q : te σ H fun x H1 => g x σ H1 nx) : tAsg te g ⟨nx, rt, bk, ct⟩ σ H := q
theorem ret (q : te σ H rt) : tRet te ⟨nx, rt, bk, ct⟩ σ H := q
theorem retN (q : rt .non H) : tRetN ⟨nx, rt, bk, ct⟩ σ H := q
theorem drop (q : te σ H fun _ H1 => nx σ H1) : tDrop te ⟨nx, rt, bk, ct⟩ σ H := q
theorem ifS {c : TT} (q : c σ H fun b H1 => if b = true then t ⟨nx, rt, bk, ct⟩ σ H1 else u ⟨nx, rt, bk, ct⟩ σ H1) : tIfS c t u ⟨nx, rt, bk, ct⟩ σ H := q
theorem par {i j : Nat} {ta : TA} (q : ta σ H fun vs H1 => ∃ v w, vs = [v, w] ∧ nx ((σ.set i (some v)).set j (some w)) H1) : tPar i j ta ⟨nx, rt, bk, ct⟩ σ H := q
theorem par3 {i j l : Nat} {ta : TA} (q : ta σ H fun vs H1 => ∃ u v w, vs = [u, v, w] ∧ nx (((σ.set i (some u)).set j (some v)).set l (some w)) H1) : tPar3 i j l ta ⟨nx, rt, bk, ct⟩ σ H := q
theorem ex2 {a b : V} {F : V → V → Prop} (q : F a b) : ∃ v w, [a, b] = [v, w] ∧ F v w := ⟨a, b, rfl, q⟩
theorem ex3 {a b c : V} {F : V → V → V → Prop} (q : F a b c) : ∃ u v w, [a, b, c] = [u, v, w] ∧ F u v w := ⟨a, b, c, rfl, q⟩
theorem aug {ti : TIp} {v : V} (q : te σ H fun y H1 => ti v y H1 fun z H2 => nx (σ.set n (some z)) H2) (h : σ[n]? = some (some v) := by with_unfolding_all rfl) : tAug n te ti ⟨nx, rt, bk, ct⟩ σ H := ⟨v, h, q⟩
theorem ipA {f : Int → Int → Int} {i j : Int} {Q : VK} (q : Q (.int (f i j)) H) : ipI f (.int i) (.int j) H Q := ⟨i, j, rfl, rfl, q⟩
/-- the loop's own goal, behind what is walked -/
def Loop (J : It) (g : TG) (t : TS) (nx bk ct : L2.St → Hp → Prop) (rt : VK) (σ : L2.St) (H : Hp) : Prop :=
  ∃ W : Nat → Nat → L2.St → Hp → Prop, (∃ m, W 0 m σ H) ∧ ∀ i m σ H, W i m σ H →
    (J.stop i H ∧ nx σ H) ∨ (J.go i H ∧ ∃ N : L2.St → Hp → Prop, (∀ σ' H', N σ' H' → ∃ m', m' < m ∧ W (i + 1) m' σ' H') ∧ ∀ x H', J.yld i H x H' → g x σ H' fun σ2 H2 => t ⟨N, rt, nx, N⟩ σ2 H2)
theorem for' {wi : TI} (q : wi σ H fun J H1 => Loop J g t nx bk ct rt σ H1) : tFor wi g t ⟨nx, rt, bk, ct⟩ σ H := q
/-- a for over anything that is walked -/
theorem loop {J : It} {n : Nat} {G : Hp → Prop} {Y : Nat → Hp → V → Hp → Prop} (w : Walk J n G Y) (Pv : Nat → L2.St → Hp → Prop) (h0 : Pv 0 σ H) (hG : ∀ i σ H, i ≤ n → Pv i σ H → G H)
    (hs : ∀ i x σ H H', i < n → Pv i σ H → Y i H x H' → g x σ H' fun σ2 H2 => t ⟨Pv (i + 1), rt, nx, Pv (i + 1)⟩ σ2 H2) (hd : ∀ σ H, Pv n σ H → nx σ H) : Loop J g t nx bk ct rt σ H :=
  for_it (D := ⟨nx, rt, bk, ct⟩) w Pv h0 hG hs hd
theorem seqIter {tl : TE} {R : It → Hp → Prop} (q : tl σ H fun x H1 => (∃ a, x = .ref a ∧ (∃ xs, SqL K H1 a xs) ∧ R (Itl K a) H1) ∨ (∃ a, x = .ref a ∧ (∃ xs, SqT K H1 a xs) ∧ R (Itt K a) H1)) : iSeq K tl σ H R := q
theorem seqL {a : Addr} {xs : List V} {R : It → Hp → Prop} (h : SqL K H a xs) (q : R (Itl K a) H) : (∃ b, V.ref a = .ref b ∧ (∃ xs, SqL K H b xs) ∧ R (Itl K b) H) ∨ (∃ b, V.ref a = .ref b ∧ (∃ xs, SqT K H b xs) ∧ R (Itt K b) H) := .inl ⟨a, rfl, ⟨xs, h⟩, q⟩
theorem seqT {a : Addr} {xs : List V} {R : It → Hp → Prop} (h : SqT K H a xs) (q : R (Itt K a) H) : (∃ b, V.ref a = .ref b ∧ (∃ xs, SqL K H b xs) ∧ R (Itl K b) H) ∨ (∃ b, V.ref a = .ref b ∧ (∃ xs, SqT K H b xs) ∧ R (Itt K b) H) := .inr ⟨a, rfl, ⟨xs, h⟩, q⟩
/-- for x in a list that the body leaves as it is -/
theorem forL {a : Addr} {xs : List V} (Pv : Nat → L2.St → Hp → Prop) (h : SqL K H a xs) (h0 : Pv 0 σ H) (hG : ∀ i σ H, i ≤ xs.length → Pv i σ H → SqL K H a xs)
    (hs : ∀ i x σ H, xs[i]? = some x → i < xs.length → Pv i σ H → g x σ H fun σ2 H2 => t ⟨Pv (i + 1), rt, nx, Pv (i + 1)⟩ σ2 H2) (hd : ∀ σ H, Pv xs.length σ H → nx σ H) :
    (∃ b, V.ref a = .ref b ∧ (∃ xs, SqL K H b xs) ∧ Loop (Itl K b) g t nx bk ct rt σ H) ∨ (∃ b, V.ref a = .ref b ∧ (∃ xs, SqT K H b xs) ∧ Loop (Itt K b) g t nx bk ct rt σ H) :=
  seqL (R := fun J H1 => Loop J g t nx bk ct rt σ H1) h (loop walk_list Pv h0 hG (fun i x σ H H' hi p y => by
    obtain ⟨rfl, y⟩ := y
    exact hs i x σ _ y hi p) hd)
theorem forLI {a : Addr} {ns : List Int} (Pv : Nat → L2.St → Hp → Prop) (h : SqL K H a (ns.map V.int)) (h0 : Pv 0 σ H) (hG : ∀ i σ H, i ≤ ns.length → Pv i σ H → SqL K H a (ns.map V.int))
    (hs : ∀ i n σ H, ns[i]? = some n → n ∈ ns → i < ns.length → Pv i σ H → g (.int n) σ H fun σ2 H2 => t ⟨Pv (i + 1), rt, nx, Pv (i + 1)⟩ σ2 H2) (hd : ∀ σ H, Pv ns.length σ H → nx σ H) :
    (∃ b, V.ref a = .ref b ∧ (∃ xs, SqL K H b xs) ∧ Loop (Itl K b) g t nx bk ct rt σ H) ∨ (∃ b, V.ref a = .ref b ∧ (∃ xs, SqT K H b xs) ∧ Loop (Itt K b) g t nx bk ct rt σ H) :=
  forL (xs := ns.map V.int) Pv h h0 (fun i σ H hi => hG i σ H (by rw [List.length_map] at hi; exact hi)) (fun i x σ H hx hi => by
    rw [List.length_map] at hi
    rw [List.getElem?_map] at hx
    cases e : ns[i]? with
    | none =>
      rw [e] at hx
      cases hx
    | some n =>
      rw [e] at hx
      obtain rfl : V.int n = x := Option.some.inj hx
      exact hs i n σ H e (List.mem_of_getElem? e) hi) (by rw [List.length_map]; exact hd)
theorem forT {a : Addr} {xs : List V} (Pv : Nat → L2.St → Hp → Prop) (h : SqT K H a xs) (h0 : Pv 0 σ H) (hG : ∀ i σ H, i ≤ xs.length → Pv i σ H → SqT K H a xs)
    (hs : ∀ i x σ H, xs[i]? = some x → i < xs.length → Pv i σ H → g x σ H fun σ2 H2 => t ⟨Pv (i + 1), rt, nx, Pv (i + 1)⟩ σ2 H2) (hd : ∀ σ H, Pv xs.length σ H → nx σ H) :
    (∃ b, V.ref a = .ref b ∧ (∃ xs, SqL K H b xs) ∧ Loop (Itl K b) g t nx bk ct rt σ H) ∨ (∃ b, V.ref a = .ref b ∧ (∃ xs, SqT K H b xs) ∧ Loop (Itt K b) g t nx bk ct rt σ H) :=
  seqT (R := fun J H1 => Loop J g t nx bk ct rt σ H1) h (loop walk_tup Pv h0 hG (fun i x σ H H' hi p y => by
    obtain ⟨rfl, y⟩ := y
    exact hs i x σ _ y hi p) hd)
/-- for i, x in enumerate(a list) -/
theorem enum' {ta : TA} {R : It → Hp → Prop} (q : ta σ H fun vs H1 => ∃ a xs, vs = [.ref a] ∧ SqL K H1 a xs ∧ R (Ite K a) H1) : iEnum K ta σ H R := q
theorem forE {a : Addr} {xs : List V} (Pv : Nat → L2.St → Hp → Prop) (h : SqL K H a xs) (h0 : Pv 0 σ H) (hG : ∀ i σ H, i ≤ xs.length → Pv i σ H → SqL K H a xs)
    (hs : ∀ i x σ H, xs[i]? = some x → i < xs.length → Pv i σ H → ∀ T, H T = none → g (.ref T) σ (upd H T (.tup [.int (i : Nat), x])) fun σ2 H2 => t ⟨Pv (i + 1), rt, nx, Pv (i + 1)⟩ σ2 H2) (hd : ∀ σ H, Pv xs.length σ H → nx σ H) :
    ∃ b ys, [V.ref a] = [.ref b] ∧ SqL K H b ys ∧ Loop (Ite K b) g t nx bk ct rt σ H :=
  ⟨a, xs, rfl, h, loop walk_enum Pv h0 hG (fun i x σ H H' hi p y => by
    obtain ⟨T, x1, y1, rfl, hT, rfl, e1, e2⟩ := y
    obtain rfl := Option.some.inj e1
    exact hs i y1 σ H e2 hi p T hT) hd⟩
theorem gPair {i j : Nat} {p : Addr} {x y : V} {QS : L2.St → Hp → Prop} (h : H p = some (.tup [x, y])) (q : QS ((σ.set i (some x)).set j (some y)) H) : L2.gTup K 2 (L2.gCons (L2.gName i) (L2.gCons (L2.gName j) L2.gNil)) (.ref p) σ H QS :=
  ⟨p, [x, y], rfl, SqT.of h, rfl, x, [y], rfl, y, [], rfl, rfl, q⟩
theorem gPairT {i j : Nat} {p : Addr} {x y : V} {QS : L2.St → Hp → Prop} (h : SqT K H p [x, y]) (q : QS ((σ.set i (some x)).set j (some y)) H) : L2.gTup K 2 (L2.gCons (L2.gName i) (L2.gCons (L2.gName j) L2.gNil)) (.ref p) σ H QS :=
  ⟨p, [x, y], rfl, h, rfl, x, [y], rfl, y, [], rfl, rfl, q⟩
theorem rng1 {ta : TA} {R : It → Hp → Prop} (q : ta σ H fun vs H1 => ∃ j : Int, vs = [.int j] ∧ -(2 ^ 62) ≤ j ∧ j < 2 ^ 62 ∧ R (Itr 0 j.toNat) H1) : iRng1 ta σ H R := q
theorem rng1v {j : Int} {F : Int → Prop} (h : -(2 ^ 62) ≤ j) (h2 : j < 2 ^ 62) (q : F j) : ∃ k : Int, [V.int j] = [.int k] ∧ -(2 ^ 62) ≤ k ∧ k < 2 ^ 62 ∧ F k := ⟨j, rfl, h, h2, q⟩
theorem rng2v {i j : Int} {F : Int → Int → Prop} (h : -(2 ^ 62) ≤ i ∧ i < 2 ^ 62 ∧ -(2 ^ 62) ≤ j ∧ j < 2 ^ 62) (q : F i j) : ∃ a b : Int, [V.int i, .int j] = [.int a, .int b] ∧ (-(2 ^ 62) ≤ a ∧ a < 2 ^ 62 ∧ -(2 ^ 62) ≤ b ∧ b < 2 ^ 62) ∧ F a b := ⟨i, j, rfl, h, q⟩
theorem rng2 {ta : TA} {R : It → Hp → Prop} (q : ta σ H fun vs H1 => ∃ i j : Int, vs = [.int i, .int j] ∧ (-(2 ^ 62) ≤ i ∧ i < 2 ^ 62 ∧ -(2 ^ 62) ≤ j ∧ j < 2 ^ 62) ∧ R (Itr i (j - i).toNat) H1) : iRng2 ta σ H R := q
/-- for i in range(n) -/
theorem forR {lo : Int} {m : Nat} (Pv : Nat → L2.St → Hp → Prop) (h0 : Pv 0 σ H)
    (hs : ∀ i σ H, i < m → Pv i σ H → g (.int (lo + i)) σ H fun σ2 H2 => t ⟨Pv (i + 1), rt, nx, Pv (i + 1)⟩ σ2 H2) (hd : ∀ σ H, Pv m σ H → nx σ H) : Loop (Itr lo m) g t nx bk ct rt σ H :=
  loop walk_range Pv h0 (fun _ _ _ _ _ => True.intro) (fun i x σ H H' hi p y => by
    obtain ⟨rfl, rfl⟩ := y
    exact hs i σ _ hi p) hd
end
/-! ## list comprehensions -/
section
variable {K : PySem.W.Frag} {σ : L2.St} {H : Hp} {Q : VK} {g : TG} {tt : TT} {te : TE} {vs : List Nat}
def LcLoop (J : It) (g : TG) (tt : TT) (te : TE) (vs : List Nat) (σ : L2.St) (D : Addr) (H : Hp) (Q : VK) : Prop :=
  ∃ W : Nat → Nat → Hp → Prop, (∃ m, W 0 m (upd H D (.lst []))) ∧ ∀ i m H, W i m H →
    (J.stop i H ∧ Q (.ref D) H) ∨ (J.go i H ∧ ∃ Nx : Hp → Prop, (∀ H', Nx H' → ∃ m', m' < m ∧ W (i + 1) m' H') ∧ ∀ x H', J.yld i H x H' → g x (wipe σ vs) H' fun σ2 H2 => wipe σ2 vs = wipe σ vs ∧ tt σ2 H2 fun b H3 =>
      if b = true then te σ2 H3 fun y H4 => ∃ acc, H4 D = some (.lst acc) ∧ acc.length < sizeLine ∧ Nx (upd H4 D (.lst (acc ++ [y]))) else Nx H3)
theorem lc {wi : TI} (q : wi σ H fun J H1 => ∀ D, H1 D = none → LcLoop J g tt te vs σ D H1 Q) : tLc wi g tt te vs σ H Q := q
theorem lcI {J : It} {n : Nat} {G : Hp → Prop} {Y : Nat → Hp → V → Hp → Prop} {D : Addr} (w : Walk J n G Y) (Pv : Nat → Hp → Prop) (h0 : Pv 0 (upd H D (.lst []))) (hG : ∀ i H, i ≤ n → Pv i H → G H)
    (hs : ∀ i x H H', i < n → Pv i H → Y i H x H' → g x (wipe σ vs) H' fun σ2 H2 => wipe σ2 vs = wipe σ vs ∧ tt σ2 H2 fun b H3 =>
      if b = true then te σ2 H3 fun y H4 => ∃ acc, H4 D = some (.lst acc) ∧ acc.length < sizeLine ∧ Pv (i + 1) (upd H4 D (.lst (acc ++ [y]))) else Pv (i + 1) H3) (hd : ∀ H, Pv n H → Q (.ref D) H) : LcLoop J g tt te vs σ D H Q :=
  lc_it (Qd := Q (.ref D)) w Pv h0 hG hs hd
/-- over a list or tuple, flat values of a test and an element that make nothing: a new list (xs.filter p).map f -/
theorem lcFM {a : Addr} {xs : List V} {j : Nat} (p : V → Bool) (f : V → V) (h : SqL K H a xs) (hl : xs.length < sizeLine) (hw : ∀ x, wipe ((wipe σ [j]).set j (some x)) [j] = wipe σ [j])
    (ht : ∀ x H', x ∈ xs → Same H H' → ∀ QB : Bool → Hp → Prop, QB (p x) H' → tt ((wipe σ [j]).set j (some x)) H' QB)
    (he : ∀ x H', x ∈ xs → p x = true → Same H H' → ∀ Q : VK, Q (f x) H' → te ((wipe σ [j]).set j (some x)) H' Q)
    (q : ∀ D H', H D = none → Same H H' → H' D = some (.lst ((xs.filter p).map f)) → Q (.ref D) H') :
    (∃ b, V.ref a = .ref b ∧ (∃ xs, SqL K H b xs) ∧ ∀ D, H D = none → LcLoop (Itl K b) (L2.gName j) tt te [j] σ D H Q) ∨ (∃ b, V.ref a = .ref b ∧ (∃ xs, SqT K H b xs) ∧ ∀ D, H D = none → LcLoop (Itt K b) (L2.gName j) tt te [j] σ D H Q) := by
  refine .inl ⟨a, rfl, ⟨xs, h⟩, fun D hD => ?_⟩
  refine lcI walk_list (fun i H' => Same H H' ∧ H' D = some (.lst (((xs.take i).filter p).map f))) ⟨same_upd hD, upd_same⟩ (fun i H' _ z => SqL.mono z.1 h) ?_ (fun H' z => q D H' hD z.1 (by
    have e := z.2
    rw [List.take_of_length_le (Nat.le_refl _)] at e
    exact e))
  rintro i x H1 H' hi ⟨z1, z2⟩ ⟨rfl, hx⟩
  have hm : x ∈ xs := List.mem_of_getElem? hx
  refine ⟨hw x, ht x _ hm z1 _ ?_⟩
  have et : xs.take (i + 1) = xs.take i ++ [x] := by rw [List.take_add_one, hx]; rfl
  cases hp : p x with
  | true =>
    refine iteT (he x _ hm hp z1 _ ⟨_, z2, ?_, ?_, ?_⟩)
    · rw [List.length_map]
      refine Nat.lt_of_le_of_lt (List.length_filter_le _ _) (Nat.lt_of_le_of_lt (List.length_take_le _ _) ?_)
      exact Nat.lt_of_le_of_lt (Nat.le_of_lt hi) hl
    · intro b o e
      rw [upd_ne (ne_of_none e hD)]
      exact z1 _ _ e
    · rw [upd_same, et, List.filter_append, List.map_append]
      simp only [List.filter_cons, List.filter_nil, hp, if_true, List.map_cons, List.map_nil]
  | false =>
    refine iteF ⟨z1, ?_⟩
    rw [z2, et, List.filter_append, List.map_append]
    simp only [List.filter_cons, List.filter_nil, hp, Bool.false_eq_true, if_false, List.map_nil, List.append_nil]
def pI (p : Int → Bool) : V → Bool
  | .int n => p n
  | _ => false
def fI (f : Int → Int) : V → V
  | .int n => .int (f n)
  | v => v
theorem filt_ints (p : Int → Bool) (f : Int → Int) : ∀ ns : List Int, ((ns.map V.int).filter (pI p)).map (fI f) = ((ns.filter p).map f).map V.int
  | [] => rfl
  | n :: ns => by
    rw [List.map_cons, List.filter_cons, List.filter_cons]
    show (if p n = true then _ else _ : List V).map (fI f) = _
    cases h : p n with
    | true =>
      rw [if_pos rfl, if_pos rfl, List.map_cons, List.map_cons, List.map_cons, filt_ints p f ns]
      rfl
    | false =>
      rw [if_neg Bool.false_ne_true, if_neg Bool.false_ne_true, filt_ints p f ns]
/-- .. of ints -/
theorem lcFMI {a : Addr} {ns : List Int} {j : Nat} (p : Int → Bool) (f : Int → Int) (h : SqL K H a (ns.map V.int)) (hl : ns.length < sizeLine) (hw : ∀ x, wipe ((wipe σ [j]).set j (some x)) [j] = wipe σ [j])
    (ht : ∀ x H', x ∈ ns → Same H H' → ∀ QB : Bool → Hp → Prop, QB (p x) H' → tt ((wipe σ [j]).set j (some (.int x))) H' QB)
    (he : ∀ x H', x ∈ ns → p x = true → Same H H' → ∀ Q : VK, Q (.int (f x)) H' → te ((wipe σ [j]).set j (some (.int x))) H' Q)
    (q : ∀ D H', H D = none → Same H H' → H' D = some (.lst (((ns.filter p).map f).map V.int)) → Q (.ref D) H') :
    (∃ b, V.ref a = .ref b ∧ (∃ xs, SqL K H b xs) ∧ ∀ D, H D = none → LcLoop (Itl K b) (L2.gName j) tt te [j] σ D H Q) ∨ (∃ b, V.ref a = .ref b ∧ (∃ xs, SqT K H b xs) ∧ ∀ D, H D = none → LcLoop (Itt K b) (L2.gName j) tt te [j] σ D H Q) := by
  refine lcFM (pI p) (fI f) h (by rw [List.length_map]; exact hl) hw (fun x H' hx e QB qb => ?_) (fun x H' hx hp e Q' qq => ?_) (fun D H' hD e g => q D H' hD e (by rw [← filt_ints]; exact g))
  · obtain ⟨n, hn, rfl⟩ := List.mem_map.mp hx
    exact ht n H' hn e QB qb
  · obtain ⟨n, hn, rfl⟩ := List.mem_map.mp hx
    exact he n H' hn hp e Q' qq
theorem zip' {ta : TA} {R : It → Hp → Prop} (q : ta σ H fun vs H1 => ∃ a b xs ys, vs = [.ref a, .ref b] ∧ ((SqL K H1 a xs ∧ SqL K H1 b ys ∧ R (Itz K a b) H1) ∨ (SqT K H1 a xs ∧ SqT K H1 b ys ∧ R (RZ.ItzT K a b) H1))) : RZ.iZipA K ta σ H R := q
theorem walk_zipT {a b : Addr} {xs ys : List V} {n : Nat} (hn : n = min xs.length ys.length) : Walk (RZ.ItzT K a b) n (fun H => SqT K H a xs ∧ SqT K H b ys) (YPair (fun i => xs[i]?) (fun i => ys[i]?)) := by
  subst hn
  refine ⟨fun i _ hi q => ?_, fun _ q => ⟨xs, ys, q.1, q.2, by omega⟩, fun i H v H' _ q y => ?_⟩
  · have h1 : i < xs.length := by omega
    have h2 : i < ys.length := by omega
    exact ⟨xs, ys, xs[i], ys[i], q.1, q.2, by simp [h1], by simp [h2]⟩
  · obtain ⟨T, x, z, h1, h2, h3, h4, h5⟩ := y
    exact ⟨T, x, z, h1, h2, h3, h4 xs q.1, h5 ys q.2⟩
/-- over pairs, flat values: a new list of them -/
theorem lcPairs {J : It} {n : Nat} {G : Hp → Prop} {X Y : Nat → Option V} {j1 j2 : Nat} (w : Walk J n G (YPair X Y)) (f : Nat → V) (hn : n < sizeLine) (hG : ∀ H', Same H H' → G H')
    (hw : ∀ x y, wipe (((wipe σ [j1, j2]).set j1 (some x)).set j2 (some y)) [j1, j2] = wipe σ [j1, j2])
    (he : ∀ i x y H', i < n → Same H H' → X i = some x → Y i = some y → ∀ Q : VK, (∀ H'', Same H' H'' → Q (f i) H'') → te (((wipe σ [j1, j2]).set j1 (some x)).set j2 (some y)) H' Q)
    (q : ∀ D H', H D = none → Same H H' → H' D = some (.lst ((List.range n).map f)) → Q (.ref D) H') : ∀ D, H D = none → LcLoop J (L2.gTup K 2 (L2.gCons (L2.gName j1) (L2.gCons (L2.gName j2) L2.gNil))) tYes te [j1, j2] σ D H Q := by
  intro D hD
  refine lcI w (fun i H' => Same H H' ∧ H' D = some (.lst ((List.range i).map f))) ⟨same_upd hD, upd_same⟩ (fun i H' _ z => hG H' z.1) ?_ (fun H' z => q D H' hD z.1 z.2)
  rintro i v H1 H' hi ⟨z1, z2⟩ ⟨T, x, y, rfl, hT, rfl, hx, hy⟩
  refine ⟨T, [x, y], rfl, SqT.of upd_same, rfl, x, [y], rfl, y, [], rfl, rfl, hw x y, ?_⟩
  unfold tYes
  refine iteT ?_
  refine he i x y _ hi (z1.trans (same_upd hT)) hx hy _ fun H'' e2 => ?_
  have hD2 : H'' D = some (.lst ((List.range i).map f)) := e2 _ _ (upd_get hT z2)
  refine ⟨_, hD2, ?_, ?_, ?_⟩
  · rw [List.length_map, List.length_range]
    exact Nat.lt_trans hi hn
  · intro b o e
    rw [upd_ne (ne_of_none e hD)]
    exact e2 _ _ (upd_get hT (z1 _ _ e))
  · rw [upd_same, List.range_succ, List.map_append]
    rfl
theorem strIter {tl : TE} {R : It → Hp → Prop} (q : tl σ H fun v H1 => ∃ x, v = .str x ∧ R (Its x) H1) : iStr tl σ H R := q
/-- over a text, flat values: a new list of them -/
theorem lcS {z : Str} {j : Nat} (f : Nat → V) (hl : z.cps.size < sizeLine) (hw : ∀ x, wipe ((wipe σ [j]).set j (some x)) [j] = wipe σ [j])
    (he : ∀ c H', c ∈ z.cps.toList → Same H H' → ∀ Q : VK, Q (f c) H' → te ((wipe σ [j]).set j (some (.str ⟨#[c]⟩))) H' Q)
    (q : ∀ D H', H D = none → Same H H' → H' D = some (.lst (z.cps.toList.map f)) → Q (.ref D) H') :
    ∃ x, V.str z = .str x ∧ ∀ D, H D = none → LcLoop (Its x) (L2.gName j) tYes te [j] σ D H Q := by
  refine ⟨z, rfl, fun D hD => ?_⟩
  refine lcI walk_str (fun i H' => Same H H' ∧ H' D = some (.lst ((z.cps.toList.take i).map f))) ⟨same_upd hD, upd_same⟩ (fun i H' _ _ => True.intro) ?_ (fun H' z' => q D H' hD z'.1 (by
    have e := z'.2
    rw [List.take_of_length_le (Nat.le_of_eq Array.length_toList)] at e
    exact e))
  rintro i x H1 H' hi ⟨z1, z2⟩ ⟨rfl, c, hc, rfl⟩
  rw [← Array.getElem?_toList] at hc
  refine ⟨hw _, ?_⟩
  unfold tYes
  refine iteT (he c _ (List.mem_of_getElem? hc) z1 _ ⟨_, z2, ?_, ?_, ?_⟩)
  · rw [List.length_map]
    exact Nat.lt_of_le_of_lt (List.length_take_le _ _) (Nat.lt_trans hi hl)
  · intro b o e
    rw [upd_ne (ne_of_none e hD)]
    exact z1 _ _ e
  · rw [upd_same, List.take_add_one, hc, List.map_append]
    rfl
end
section
variable {σ : L2.St} {H : Hp} {Q : VK} {QP : List (V × V) → Hp → Prop} {tk tv : TE} {trs : List (TE × TE)}
theorem disp (q : ∀ p, H p = none → tPairs trs σ (upd H p (.dK [])) fun ps H2 => H2 p = some (.dK []) ∧ ∃ kvs : List (Key × V), ps = kvs.map (fun kv => (kV kv.1, kv.2)) ∧ kvs.length ≤ 15 ∧ Q (.ref p) (upd H2 p (.dK (mergeK [] kvs)))) : tDisp trs σ H Q := q
theorem pairsC (q : tk σ H fun x H1 => tv σ H1 fun y H2 => tPairs trs σ H2 fun ps H3 => QP ((x, y) :: ps) H3) : tPairs ((tk, tv) :: trs) σ H QP := q
theorem pairsN (q : QP [] H) : tPairs [] σ H QP := q
theorem dget (q : tk σ H fun x H1 => tv σ H1 fun y H2 => ∃ a v, x = .ref a ∧ DGet H2 a y (some v) ∧ Q v H2) : tDGet tk tv σ H Q := q
theorem dgetV {a : Addr} {kvs : List (Key × V)} {k : Key} {y v : V} (h : H a = some (.dK kvs)) (hy : y = kV k) (hv : valV kvs k = some v) (q : Q v H) : ∃ b v, V.ref a = .ref b ∧ DGet H b y (some v) ∧ Q v H :=
  ⟨a, v, rfl, .inl ⟨kvs, k, .inl h, hy, hv.symm⟩, q⟩
def rgI (a b : Int) : List Int := (List.range (b - a).toNat).map fun i => a + (i : Nat)
theorem rgI_V (a b : Int) : rgV a b = (rgI a b).map V.int := by
  unfold rgV rgI
  rw [List.map_map]
  rfl
theorem rgI_length (a b : Int) : (rgI a b).length = (b - a).toNat := by
  unfold rgI
  rw [List.length_map, List.length_range]
theorem lstRg {te : L2.St → Hp → (Int → Int → Hp → Prop) → Prop} (q : te σ H fun a b H1 => RgOk a b ∧ ∀ l, H1 l = none → Q (.ref l) (upd H1 l (.lst ((rgI a b).map V.int)))) : tLstRg te σ H Q := by
  have e : (fun (a b : Int) (H1 : Hp) => RgOk a b ∧ ∀ l, H1 l = none → Q (.ref l) (upd H1 l (.lst ((rgI a b).map V.int)))) = fun a b H1 => RgOk a b ∧ ∀ l, H1 l = none → Q (.ref l) (upd H1 l (.lst (rgV a b))) := by
    funext a b H1
    rw [rgI_V]
  rw [e] at q
  exact q
theorem rg1 {ta : TE} {QR : Int → Int → Hp → Prop} (q : ta σ H fun x H1 => ∃ n, x = .int n ∧ QR 0 n H1) : tRg1 ta σ H QR := q
theorem rg2 {ta tb : TE} {QR : Int → Int → Hp → Prop} (q : ta σ H fun x H1 => tb σ H1 fun y H2 => ∃ i j, x = .int i ∧ y = .int j ∧ QR i j H2) : tRg2 ta tb σ H QR := q
theorem exII {a b : Int} {F : Int → Int → Prop} (q : F a b) : ∃ i j, V.int a = .int i ∧ V.int b = .int j ∧ F i j := ⟨a, b, rfl, rfl, q⟩
theorem inS {a b : Str} (q : Q (.bl (!(Builtin.Str.occurrences b a 0 b.length 1).isEmpty)) H) : rInSA (.str a) (.str b) H Q := ⟨a, b, rfl, rfl, q⟩
end
end Rl.R
namespace Rl
open PySem PySem.Spec PyProof.Rows L2
/-! ## the old machine's rows, as they are decoded -/
inductive Sh where
  | e | rs | rn | n | r
  deriving DecidableEq
def box (i : Int) : Str := ⟨#[97 + i.toNat]⟩
def alone (i : Int) : Str := (["halt", "back", "rest"] : List Str).getD i.toNat "rest"
def single (i : Int) : Str := (["in", "out", "keep", "take"] : List Str).getD i.toNat "in"
def target (i : Int) : Str := (["go", "zero", "nonzero", "less", "notless", "call"] : List Str).getD i.toNat "go"
def pairT : List (Int × Str) := [(2, "copy"), (3, "add"), (4, "sub"), (5, "and"), (6, "or"), (7, "xor"), (8, "test"), (10, "load"), (11, "store")]
def numT : List (Int × Str) := [(1, "set"), (9, "testn"), (12, "loadn"), (13, "storen")]
/-- the word of a first byte, and what follows it -/
def dec (b : Int) : Option (Str × Sh) :=
  if b < 3 then some (alone b, .e)
  else if b / 16 = 15 then some (single (b % 4), .r)
  else match pairT.lookup (b / 16) with
    | some w => some (w, .rs)
    | none => if b / 16 = 14 ∧ b % 16 < 6 then some (target (b % 16), .n)
      else match numT.lookup (b / 16) with
        | some w => if b % 4 = 0 then some (w, .rn) else none
        | none => none
def boxR (b : Int) : Str := box (b / 4 % 4)
def boxS (b : Int) : Str := box (b % 4)
/-- what a row is, as data: by its first byte and the one behind -/
def rowD (b n : Int) : Option (List PyData) := (dec b).map fun p => .str p.1 :: match p.2 with
  | .e => []
  | .rs => [.str (boxR b), .str (boxS b)]
  | .rn => [.str (boxR b), .int n]
  | .n => [.int n]
  | .r => [.str (boxR b)]
def isLong (b : Int) : Bool := match dec b with
  | some (_, .rn) => true
  | some (_, .n) => true
  | _ => false
/-- the row at an address and how many bytes it has -/
def rowAt (ns : List Int) (a : Int) : Option (List PyData × Int) :=
  if 0 ≤ a ∧ a < ns.length then
    (if isLong (ns.getD a.toNat 0) = true then (if a + 1 < ns.length then (rowD (ns.getD a.toNat 0) (ns.getD (a.toNat + 1) 0)).map fun l => (l, 2) else none)
    else (rowD (ns.getD a.toNat 0) 0).map fun l => (l, 1))
  else none
def optD : Option (List PyData) → PyData
  | some l => .tuple l
  | none => .none
def atD : Option (List PyData × Int) → PyData
  | some (l, m) => .tuple [.tuple l, .int m]
  | none => .none
/-- bytes -/
def By (ns : List Int) : Prop := ∀ n ∈ ns, 0 ≤ n ∧ n < 256
/-- a list or a tuple of these ints -/
def Code (K : PySem.W.Frag) (H : Hp) (v : V) (ns : List Int) : Prop := ∃ a, v = .ref a ∧ (SqL K H a (ns.map V.int) ∨ SqT K H a (ns.map V.int))
theorem Code.mono {K : PySem.W.Frag} {H H' : Hp} {v : V} {ns : List Int} (e : Same H H') (h : Code K H v ns) : Code K H' v ns := by
  obtain ⟨a, q, h⟩ := h
  exact ⟨a, q, h.elim (fun h => .inl (SqL.mono e h)) fun h => .inr (SqT.mono e h)⟩
theorem R.lenC {K : PySem.W.Frag} {H : Hp} {c : V} {ns : List Int} {Q : VK} (h : Code K H c ns) (q : Q (.int ns.length) H) : rLenA K [c] H Q := by
  obtain ⟨p, rfl, h⟩ := h
  rcases h with h | h
  · refine R.lenL h ?_
    rw [List.length_map]
    exact q
  · refine R.lenT h ?_
    rw [List.length_map]
    exact q
theorem R.ixC {K : PySem.W.Frag} {H : Hp} {c : V} {ns : List Int} {Q : VK} {i : Int} (h : Code K H c ns) (h0 : 0 ≤ i) (h1 : i < ns.length) (q : ∀ m, ns[i.toNat]? = some m → m ∈ ns → Q (.int m) H) : rIx K c (.int i) H Q := by
  obtain ⟨p, rfl, h⟩ := h
  have hl : i.toNat < ns.length := by omega
  have e : ns[i.toNat]? = some ns[i.toNat] := List.getElem?_eq_getElem hl
  have g : atI (ns.map V.int) i = some (.int ns[i.toNat]) := R.atI_pos h0 (by rw [List.getElem?_map, e]; rfl)
  rcases h with h | h
  · exact R.ixL h g (q _ e (List.mem_of_getElem? e))
  · exact R.ixT h g (q _ e (List.mem_of_getElem? e))
theorem SqL.code {K : PySem.W.Frag} {H : Hp} {p : Addr} {ns : List Int} (h : SqL K H p (ns.map V.int)) : Code K H (.ref p) ns := ⟨p, rfl, .inl h⟩
theorem SqT.code {K : PySem.W.Frag} {H : Hp} {p : Addr} {ns : List Int} (h : SqT K H p (ns.map V.int)) : Code K H (.ref p) ns := ⟨p, rfl, .inr h⟩
/-- the module's constants -/
structure MachC (K : PySem.W.Frag) (w : World) : Prop where
  alone : ∀ H, SqT K H (He.ga K "ALONE") [.str "halt", .str "back", .str "rest"]
  single : ∀ H, SqT K H (He.ga K "SINGLE") [.str "in", .str "out", .str "keep", .str "take"]
  targets : ∀ H, SqT K H (He.ga K "TARGETS") [.str "go", .str "zero", .str "nonzero", .str "less", .str "notless", .str "call"]
  pairs : KD K w (He.ga K "WORDS_OF_PAIRS") (pairT.map fun p => (Sum.inl p.1, V.str p.2))
  nums : KD K w (He.ga K "WORDS_OF_NUMBERED") (numT.map fun p => (Sum.inl p.1, V.str p.2))
theorem atI_abcd {i : Int} (h0 : 0 ≤ i) (h4 : i < 4) : atI ("abcd" : Str).cps.toList i = some (97 + i.toNat) := by
  obtain rfl | rfl | rfl | rfl : i = 0 ∨ i = 1 ∨ i = 2 ∨ i = 3 := by omega
  all_goals decide
/-! ## promises -/
def sp_short_row (K : PySem.W.Frag) (_ : World) : Sp := fun vs H Q _ => ∃ b : Int, vs = [.int b] ∧ 0 ≤ b ∧ b < 256 ∧ ∀ v H', Same H H' → Dp K H' v (optD (if isLong b then none else rowD b 0)) → Q v H'
def sp_long_row (K : PySem.W.Frag) (_ : World) : Sp := fun vs H Q _ => ∃ b n : Int, vs = [.int b, .int n] ∧ 0 ≤ b ∧ b < 256 ∧ ∀ v H', Same H H' → Dp K H' v (optD (if isLong b then rowD b n else none)) → Q v H'
def sp_row_at (K : PySem.W.Frag) (_ : World) : Sp := fun vs H Q _ => ∃ (c : V) (ns : List Int) (a : Int), vs = [c, .int a] ∧ Code K H c ns ∧ By ns ∧ ∀ v H', Same H H' → Dp K H' v (atD (rowAt ns a)) → Q v H'
end Rl
namespace Rl
open PySem PySem.Spec PyProof.Rows L2
/-- short_row: slots 0 first, 1 kind, 2 box, 3 last -/
def t_short_row (K : PySem.W.Frag) (w : World) : TS :=
  (tSeq (tPar3 1 2 3 (tCons (tOp (rShrA) (tVar 0) (tC (.int 4))) (tCons (tOp (rIx K) (tC (.str "abcd")) (tOp (rAndA) (tOp (rShrA) (tVar 0) (tC (.int 2))) (tC (.int 3)))) (tCons (tOp (rAndA) (tVar 0) (tC (.int 3))) tNil)))) (tSeq (tIfS (tTest (tOp (rLtA) (tVar 0) (tCB (rLenA K) (tCons (tC (.ref (He.ga K "ALONE"))) tNil)))) (tRet (tTup (tCons (tOp (rIx K) (tC (.ref (He.ga K "ALONE"))) (tVar 0)) tNil))) tNext) (tSeq (tIfS (tTest (tOp (rEqA K) (tVar 1) (tC (.int 15)))) (tRet (tTup (tCons (tOp (rIx K) (tC (.ref (He.ga K "SINGLE"))) (tVar 3)) (tCons (tVar 2) tNil)))) tNext) (tSeq (tIfS (tTest (tOp (rInKD K w) (tVar 1) (tC (.ref (He.ga K "WORDS_OF_PAIRS"))))) (tRet (tTup (tCons (tOp (rIxKD K w) (tC (.ref (He.ga K "WORDS_OF_PAIRS"))) (tVar 1)) (tCons (tVar 2) (tCons (tOp (rIx K) (tC (.str "abcd")) (tVar 3)) tNil))))) tNext) (tRet (tC .non))))))
abbrev N_short_row : List Str := ["first", "kind", "box", "last"]

/-- long_row: slots 0 first, 1 n, 2 kind, 3 box, 4 last -/
def t_long_row (K : PySem.W.Frag) (w : World) : TS :=
  (tSeq (tPar3 2 3 4 (tCons (tOp (rShrA) (tVar 0) (tC (.int 4))) (tCons (tOp (rIx K) (tC (.str "abcd")) (tOp (rAndA) (tOp (rShrA) (tVar 0) (tC (.int 2))) (tC (.int 3)))) (tCons (tOp (rAndA) (tVar 0) (tC (.int 15))) tNil)))) (tSeq (tIfS (tAnd (tTest (tOp (rEqA K) (tVar 2) (tC (.int 14)))) (tTest (tOp (rLtA) (tVar 4) (tCB (rLenA K) (tCons (tC (.ref (He.ga K "TARGETS"))) tNil))))) (tRet (tTup (tCons (tOp (rIx K) (tC (.ref (He.ga K "TARGETS"))) (tVar 4)) (tCons (tVar 1) tNil)))) tNext) (tSeq (tIfS (tAnd (tTest (tOp (rInKD K w) (tVar 2) (tC (.ref (He.ga K "WORDS_OF_NUMBERED"))))) (tTest (tOp (rEqA K) (tOp (rAndA) (tVar 4) (tC (.int 3))) (tC (.int 0))))) (tRet (tTup (tCons (tOp (rIxKD K w) (tC (.ref (He.ga K "WORDS_OF_NUMBERED"))) (tVar 2)) (tCons (tVar 3) (tCons (tVar 1) tNil))))) tNext) (tRet (tC .non)))))
abbrev N_long_row : List Str := ["first", "n", "kind", "box", "last"]

/-- row_at: slots 0 code, 1 address, 2 row -/
def t_row_at (K : PySem.W.Frag) (w : World) : TS :=
  (tSeq (tIfS (tNot (tTest (tChain (rLeA) (rLtA) (tC (.int 0)) (tVar 1) (tCB (rLenA K) (tCons (tVar 0) tNil))))) (tRet (tC .non)) tNext) (tSeq (tAsg (tCall (sp_short_row K w) [] E0 (tCons (tOp (rIx K) (tVar 0) (tVar 1)) tNil)) (gName 2)) (tSeq (tIfS (tTest (tOp (rNotN) (tVar 2) (tC .non))) (tRet (tTup (tCons (tVar 2) (tCons (tC (.int 1)) tNil)))) tNext) (tSeq (tAsg (tIf (tTest (tOp (rLtA) (tOp (rAddA K) (tVar 1) (tC (.int 1))) (tCB (rLenA K) (tCons (tVar 0) tNil)))) (tCall (sp_long_row K w) [] E0 (tCons (tOp (rIx K) (tVar 0) (tVar 1)) (tCons (tOp (rIx K) (tVar 0) (tOp (rAddA K) (tVar 1) (tC (.int 1)))) tNil))) (tC .non)) (gName 2)) (tRet (tIf (tTest (tOp (rNotN) (tVar 2) (tC .non))) (tTup (tCons (tVar 2) (tCons (tC (.int 2)) tNil))) (tC .non)))))))
abbrev N_row_at : List Str := ["code", "address", "row"]

end Rl
namespace Rl
open PySem PySem.Spec PyProof.Rows L2
/-! ## the law's reel of draws -/
/-- all but what stands at r is as it was -/
abbrev Fx (r : Addr) (H H' : Hp) : Prop := Same (but r H) (but r H')
theorem Fx.refl (r : Addr) (H : Hp) : Fx r H H := Same.refl _
theorem Fx.at {r a : Addr} {H H' : Hp} {o : HO} (h : Fx r H H') (n : a ≠ r) (e : H a = some o) : H' a = some o := Same.of_but h n e
/-- a reel stands at r: great cells, told ones, how many draws, the number that is stirred; nothing of it in S -/
def Reel (H : Hp) (r : Addr) (S : Addr → Prop) : Prop := ∃ (g c : Addr) (k st : Int) (gs cs : List Int), H r = some (.lst [.ref g, .ref c, .int k, .int st]) ∧
  H g = some (.lst (gs.map V.int)) ∧ H c = some (.lst (cs.map V.int)) ∧ g ≠ r ∧ c ≠ r ∧ cs ≠ [] ∧ gs.length ≤ 1000 ∧ 0 ≤ st ∧ st < 2 ^ 127 ∧ ¬ S g ∧ ¬ S c ∧ ¬ S r ∧ ∀ a, S a → ∃ o, H a = some o
abbrev S0 : Addr → Prop := fun _ => False
abbrev S1 (l : Addr) (S : Addr → Prop) : Addr → Prop := fun a => a = l ∨ S a
section
variable {H H' : Hp} {r : Addr} {S S' : Addr → Prop}
theorem Reel.some (h : Reel H r S) : ∃ o, H r = some o := by
  obtain ⟨_, _, _, _, _, _, h, _⟩ := h
  exact ⟨_, h⟩
theorem Reel.isL (h : Reel H r S) : ∃ o, H r = Option.some (.lst o) := by
  obtain ⟨_, _, _, _, _, _, h, _⟩ := h
  exact ⟨_, h⟩
theorem Reel.ne {p : Addr} (h : Reel H r S) (n : H p = none) : p ≠ r := fun e => by
  obtain ⟨o, h⟩ := h.some
  rw [e, h] at n
  cases n
theorem Reel.neS {p : Addr} (h : Reel H r S) (n : S p) : p ≠ r := fun e => by
  obtain ⟨_, _, _, _, _, _, _, _, _, _, _, _, _, _, _, _, _, h, _⟩ := h
  exact h (e ▸ n)
/-- new things, changes elsewhere: the reel stays -/
theorem Reel.keep (h : Reel H r S) (e : Same H H') : Reel H' r S := by
  obtain ⟨g, c, k, st, gs, cs, h1, h2, h3, h4, h5, h6, h7, h8, h9, h10, h11, h12, h13⟩ := h
  exact ⟨g, c, k, st, gs, cs, e _ _ h1, e _ _ h2, e _ _ h3, h4, h5, h6, h7, h8, h9, h10, h11, h12, fun a ha => (h13 a ha).elim fun o z => ⟨o, e _ _ z⟩⟩
theorem Reel.sub (h : Reel H r S) (e : ∀ a, S' a → S a) : Reel H r S' := by
  obtain ⟨g, c, k, st, gs, cs, h1, h2, h3, h4, h5, h6, h7, h8, h9, h10, h11, h12, h13⟩ := h
  exact ⟨g, c, k, st, gs, cs, h1, h2, h3, h4, h5, h6, h7, h8, h9, fun z => h10 (e _ z), fun z => h11 (e _ z), fun z => h12 (e _ z), fun a ha => h13 a (e _ ha)⟩
theorem Reel.zero (h : Reel H r S) : Reel H r S0 := h.sub fun _ z => z.elim
theorem Reel.add {l : Addr} {o : HO} (h : Reel H r S) (n : H l = none) : Reel (upd H l o) r (S1 l S) := by
  obtain ⟨g, c, k, st, gs, cs, h1, h2, h3, h4, h5, h6, h7, h8, h9, h10, h11, h12, h13⟩ := h
  refine ⟨g, c, k, st, gs, cs, upd_get n h1, upd_get n h2, upd_get n h3, h4, h5, h6, h7, h8, h9, fun z => z.elim (ne_of_none h2 n) h10, fun z => z.elim (ne_of_none h3 n) h11, fun z => z.elim (ne_of_none h1 n) h12, fun a ha => ?_⟩
  rcases ha with rfl | ha
  · exact ⟨_, upd_same⟩
  · obtain ⟨o, z⟩ := h13 a ha
    exact ⟨o, upd_get n z⟩
theorem Reel.mut {l : Addr} {o : HO} (h : Reel H r S) (n : S l) : Reel (upd H l o) r S := by
  obtain ⟨g, c, k, st, gs, cs, h1, h2, h3, h4, h5, h6, h7, h8, h9, h10, h11, h12, h13⟩ := h
  refine ⟨g, c, k, st, gs, cs, upd_mut (fun z => h12 (z ▸ n)) h1, upd_mut (fun z => h10 (z ▸ n)) h2, upd_mut (fun z => h11 (z ▸ n)) h3, h4, h5, h6, h7, h8, h9, h10, h11, h12, fun a ha => ?_⟩
  by_cases e : a = l
  · rw [e]
    exact ⟨_, upd_same⟩
  · obtain ⟨o, z⟩ := h13 a ha
    exact ⟨o, upd_mut e z⟩
end
def sp_law_reel (K : PySem.W.Frag) (_ : World) : Sp := fun vs H Q _ => ∃ (a : Addr) (ns : List Int), vs = [.ref a] ∧ SqL K H a (ns.map V.int) ∧ ns.length ≤ 63 ∧ ∀ r H', Same H H' → H r = none → Reel H' r S0 → Q (.ref r) H'
def sp_law_draw (_ : PySem.W.Frag) (_ : World) : Sp := fun vs H Q _ => ∃ (r : Addr) (m : Int) (S : Addr → Prop), vs = [.ref r, .int m] ∧ Reel H r S ∧ 0 < m ∧ m < 1073741824 ∧ ∀ n H', Fx r H H' → Reel H' r S → 0 ≤ n → n < m → Q (.int n) H'
theorem len_law_reel {K : PySem.W.Frag} {w : World} {vs : List V} {H : Hp} {Q : VK} {E : XK} (h : sp_law_reel K w vs H Q E) : vs.length = 1 := by
  obtain ⟨a, ns, rfl, _⟩ := h
  rfl
theorem len_law_draw {K : PySem.W.Frag} {w : World} {vs : List V} {H : Hp} {Q : VK} {E : XK} (h : sp_law_draw K w vs H Q E) : vs.length = 2 := by
  obtain ⟨r, m, S, rfl, _⟩ := h
  rfl
theorem shaped_ints (ns : List Int) : SeqAt.shaped (.list (ns.map PyData.int)) = true := by
  have h1 : ∀ ns : List Int, PyData.canLayAll0 (ns.map PyData.int) = true := fun ns => by
    induction ns with
    | nil => simp only [List.map_nil, PyData.canLayAll0]
    | cons n r ih => simp only [List.map_cons, PyData.canLayAll0, PyData.canLay0, ih, Bool.and_self]
  have h2 : ∀ ns : List Int, PyData.depthAll (ns.map PyData.int) = 0 := fun ns => by
    induction ns with
    | nil => simp only [List.map_nil, PyData.depthAll]
    | cons n r ih => simp only [List.map_cons, PyData.depthAll, PyData.depth, ih]; rfl
  unfold SeqAt.shaped
  simp only [PyData.canLay0, PyData.depth, h1, h2]
  rfl
theorem eqv_ints_nil (ns : List Int) : PyData.eqv (.list (ns.map PyData.int)) (.list []) = ns.isEmpty := by
  cases ns with
  | nil => simp only [List.map_nil, PyData.eqv, PyData.eqvAll, List.isEmpty_nil]
  | cons n r => simp only [List.map_cons, PyData.eqv, PyData.eqvAll, List.isEmpty_cons]
theorem eqvAll_ints (ns : List Int) : PyData.eqvAll (ns.map PyData.int) (ns.map PyData.int) = true := by
  induction ns with
  | nil => simp only [List.map_nil, PyData.eqvAll]
  | cons n r ih => simp only [List.map_cons, PyData.eqvAll, PyData.eqv, ih]; simp
theorem eqv_ints (ns : List Int) : PyData.eqv (.list (ns.map PyData.int)) (.list (ns.map PyData.int)) = true := by
  simp only [PyData.eqv, eqvAll_ints]
theorem SqL.ints {K : PySem.W.Frag} {H : Hp} {p : Addr} {ns : List Int} (h : SqL K H p (ns.map V.int)) : Dp K H (.ref p) (.list (ns.map PyData.int)) := .lst h (DpAll.ints ns)
theorem Fx.trans {r : Addr} {H1 H2 H3 : Hp} (a : Fx r H1 H2) (b : Fx r H2 H3) : Fx r H1 H3 := Same.trans a b
theorem Fx.same {r : Addr} {B H H' : Hp} (h : Fx r H H') (hb : B r = none) (e : Same B H) : Same B H' := fun a o z => h.at (ne_of_none z hb) (e a o z)
theorem Same.mut {B H : Hp} {l : Addr} {o : HO} (hb : B l = none) (e : Same B H) : Same B (upd H l o) := fun a o z => upd_mut (ne_of_none z hb) (e a o z)
/-- [a draw of the reel for k in range(n)]: a new list of ints -/
theorem lcDraws {σ : L2.St} {H : Hp} {Q : VK} {te : TE} {j : Nat} {lo : Int} {m : Nat} {r : Addr} {S : Addr → Prop} (P : Int → Prop) (hR : Reel H r S) (hm : m < sizeLine) (hw : ∀ x, wipe ((wipe σ [j]).set j (some x)) [j] = wipe σ [j])
    (he : ∀ i D H', i < m → H D = none → Fx r H H' → Reel H' r (S1 D S) → ∀ Q : VK, (∀ v H'', Fx r H' H'' → Reel H'' r (S1 D S) → P v → Q (.int v) H'') → te ((wipe σ [j]).set j (some (.int (lo + (i : Nat))))) H' Q)
    (q : ∀ D H' (ns : List Int), H D = none → D ≠ r → Fx r H H' → Reel H' r (S1 D S) → H' D = some (.lst (ns.map V.int)) → ns.length = m → (∀ v ∈ ns, P v) → Q (.ref D) H') :
    ∀ D, H D = none → R.LcLoop (Itr lo m) (L2.gName j) tYes te [j] σ D H Q := by
  intro D hD
  have nD : D ≠ r := hR.ne hD
  refine R.lcI walk_range (fun i H' => Fx r H H' ∧ Reel H' r (S1 D S) ∧ ∃ ns : List Int, H' D = some (.lst (ns.map V.int)) ∧ ns.length = i ∧ ∀ v ∈ ns, P v) ⟨sm_bnew hD (Same.refl _), hR.add hD, [], upd_same, rfl, fun v hv => by cases hv⟩ (fun _ _ _ _ => True.intro) ?_ ?_
  · rintro i x H1 H' hi ⟨z1, z2, ns, z3, z4, z5⟩ ⟨rfl, rfl⟩
    refine ⟨hw _, ?_⟩
    unfold tYes
    refine iteT (he i D _ hi hD z1 z2 _ fun v H'' e2 r2 pv => ?_)
    have hD2 : H'' D = some (.lst (ns.map V.int)) := e2.at nD z3
    refine ⟨_, hD2, ?_, ?_, r2.mut (.inl rfl), ns ++ [v], ?_, ?_, ?_⟩
    · rw [List.length_map, z4]
      omega
    · intro b o e
      have nb : b ≠ r := fun z => by
        rw [z, but_none] at e
        cases e
      have e3 := e2 b o (z1 b o e)
      have hb : H b = some o := but_same b o e
      exact but_get nb (upd_mut (ne_of_none hb hD) (but_same b o e3))
    · rw [upd_same, List.map_append]
      rfl
    · rw [List.length_append, z4]
      rfl
    · intro u hu
      rcases List.mem_append.mp hu with hu | hu
      · exact z5 u hu
      · rw [List.mem_singleton.mp hu]
        exact pv
  · rintro H' ⟨z1, z2, ns, z3, z4, z5⟩
    exact q D H' ns hD nD z1 z2 z3 z4 z5
end Rl
namespace Rl
open PySem PySem.Spec PyProof.Rows L2
/-- _law_reel: slots 0 _law_script, 1 _law_stir, 2 _law_cell, 3 _law_great -/
def t_law_reel (K : PySem.W.Frag) (w : World) : TS :=
  (tSeq (tAsg (tOp (rPowA) (tC (.int 3)) (tC (.int 60))) (gName 1)) (tSeq (tFor (iSeq K (tSl (rSlA K) (tVar 0) tNoPart (tPart (tC (.int 63))))) (gName 2) (tAsg (tOp (rModA) (tOp (rAddA K) (tOp (rAddA K) (tOp (rMulA) (tVar 1) (tVar 1)) (tOp (rModA) (tVar 2) (tC (.int 1000000000000000003)))) (tC (.int 11))) (tOp (rSubA) (tOp (rMulA) (tOp (rPowA) (tC (.int 2)) (tC (.int 64))) (tOp (rPowA) (tC (.int 2)) (tC (.int 63)))) (tC (.int 1)))) (gName 1))) (tSeq (tAsg (tLc (iSeq K (tSl (rSlA K) (tVar 0) tNoPart (tPart (tC (.int 63))))) (gName 2) (tTest (tOp (rGeA) (tVar 2) (tOp (rPowA) (tC (.int 10)) (tC (.int 18))))) (tOp (rSubA) (tVar 2) (tOp (rPowA) (tC (.int 10)) (tC (.int 18)))) [2]) (gName 3)) (tRet (tLst (tCons (tVar 3) (tCons (tOp (rAddA K) (tLc (iSeq K (tSl (rSlA K) (tVar 0) tNoPart (tPart (tC (.int 63))))) (gName 2) tYes (tOp (rModA) (tVar 2) (tC (.int 1000003))) [2]) (tLst (tCons (tC (.int 41)) tNil))) (tCons (tC (.int 0)) (tCons (tVar 1) tNil)))))))))
abbrev N_law_reel : List Str := ["_law_script", "_law_stir", "_law_cell", "_law_great"]

/-- _law_draw: slots 0 _law_reel_here, 1 _law_many, 2 _law_rest, 3 _law_told, 4 _law_stir -/
def t_law_draw (K : PySem.W.Frag) (w : World) : TS :=
  (tSeq (tIfS (tTest (tOp (rNeA K) (tOp (rIx K) (tVar 0) (tC (.int 0))) (tLst tNil))) (tSeq (tAsg (tOp (rIx K) (tOp (rIx K) (tVar 0) (tC (.int 0))) (tC (.int 0))) (gName 2)) (tSeq (tAsg (tOp (rAddA K) (tOp (rMulA) (tLst (tCons (tOp (rDivA) (tVar 2) (tVar 1)) tNil)) (tCB (rInt1) (tCons (tOp (rGeA) (tVar 2) (tVar 1)) tNil))) (tSl (rSlA K) (tOp (rIx K) (tVar 0) (tC (.int 0))) (tPart (tC (.int 1))) tNoPart)) (gSub (tVar 0) (tC (.int 0)) rSetL)) (tRet (tOp (rModA) (tVar 2) (tVar 1))))) tNext) (tSeq (tAsg (tOp (rAddA K) (tOp (rIx K) (tVar 0) (tC (.int 2))) (tC (.int 1))) (gSub (tVar 0) (tC (.int 2)) rSetL)) (tSeq (tAsg (tOp (rIx K) (tOp (rIx K) (tVar 0) (tC (.int 1))) (tOp (rModA) (tOp (rIx K) (tVar 0) (tC (.int 2))) (tCB (rLenA K) (tCons (tOp (rIx K) (tVar 0) (tC (.int 1))) tNil)))) (gName 3)) (tSeq (tAsg (tOp (rAddA K) (tOp (rAddA K) (tOp (rMulA) (tOp (rIx K) (tVar 0) (tC (.int 3))) (tOp (rIx K) (tVar 0) (tC (.int 3)))) (tOp (rMulA) (tOp (rAddA K) (tVar 3) (tC (.int 7))) (tC (.int 69621)))) (tOp (rMulA) (tOp (rIx K) (tVar 0) (tC (.int 2))) (tC (.int 1000003)))) (gName 4)) (tSeq (tAsg (tOp (rModA) (tVar 4) (tOp (rSubA) (tOp (rMulA) (tOp (rPowA) (tC (.int 2)) (tC (.int 64))) (tOp (rPowA) (tC (.int 2)) (tC (.int 63)))) (tC (.int 1)))) (gSub (tVar 0) (tC (.int 3)) rSetL)) (tRet (tOp (rModA) (tOp (rDivA) (tOp (rIx K) (tVar 0) (tC (.int 3))) (tOp (rPowA) (tC (.int 2)) (tC (.int 40)))) (tVar 1))))))))
abbrev N_law_draw : List Str := ["_law_reel_here", "_law_many", "_law_rest", "_law_told", "_law_stir"]

end Rl
namespace Rl
open PySem PySem.Spec PyProof.Rows L2
/-! ## the law's table of first bytes -/
def shS : Sh → Str
  | .e => ""
  | .rs => "rs"
  | .rn => "rn"
  | .n => "n"
  | .r => "r"
abbrev TEnt := Option (Str × Str)
def Ent (H : Hp) (v : V) : TEnt → Prop
  | none => v = .non
  | some (a, b) => ∃ p, v = .ref p ∧ H p = some (.tup [.str a, .str b])
theorem Ent.mono {H H' : Hp} {v : V} {e : TEnt} (s : Same H H') (h : Ent H v e) : Ent H' v e := by
  cases e with
  | none => exact h
  | some e =>
    obtain ⟨p, h1, h2⟩ := h
    exact ⟨p, h1, s _ _ h2⟩
structure Tab (H : Hp) (t : Addr) (T : List TEnt) : Prop where
  len : T.length = 256
  ex : ∃ xs : List V, H t = some (.lst xs) ∧ xs.length = 256 ∧ ∀ (i : Nat) (v : V) (e : TEnt), xs[i]? = some v → T[i]? = some e → Ent H v e
theorem Tab.mono {H H' : Hp} {t : Addr} {T : List TEnt} (s : Same H H') (h : Tab H t T) : Tab H' t T := by
  obtain ⟨h0, xs, h1, h2, h3⟩ := h
  exact ⟨h0, xs, s _ _ h1, h2, fun i v e a b => (h3 i v e a b).mono s⟩
theorem Tab.ne {H : Hp} {t p : Addr} {T : List TEnt} (h : Tab H t T) (n : H p = none) : p ≠ t := by
  obtain ⟨_, xs, g, _⟩ := h
  exact fun z => by rw [z, g] at n; cases n
theorem Tab.but {H : Hp} {t r : Addr} {T : List TEnt} {rs : List V} (h : Tab H t T) (n : t ≠ r) (e : H r = some (.lst rs)) : Tab (but r H) t T := by
  obtain ⟨h0, xs, h1, h2, h3⟩ := h
  refine ⟨h0, xs, but_get n h1, h2, fun i v e' a b => ?_⟩
  have z := h3 i v e' a b
  cases e' with
  | none => exact z
  | some e' =>
    obtain ⟨p, z1, z2⟩ := z
    exact ⟨p, z1, but_get (fun y => by rw [y, e] at z2; cases z2) z2⟩
theorem Tab.get {K : PySem.W.Frag} {H : Hp} {t : Addr} {T : List TEnt} (h : Tab H t T) {i : Int} (h0 : 0 ≤ i) (h1 : i < 256) {e : TEnt} (he : T[i.toNat]? = some e) {Q : VK} (q : ∀ v, Ent H v e → Q v H) : rIx K (.ref t) (.int i) H Q := by
  obtain ⟨g0, xs, g1, g2, g3⟩ := h
  exact R.ixLV (SqL.of g1) h0 (by omega) fun m hm _ => q m (g3 _ _ _ hm he)
theorem R.setTab {H : Hp} {t p : Addr} {T : List TEnt} {a b : Str} {i : Int} {n : Nat} {QS : Hp → Prop} (h : Tab H t T) (hp : H p = some (.tup [.str a, .str b])) (hn : i = (n : Int)) (h1 : n < 256)
    (q : ∀ H', Tab H' t (T.set n (some (a, b))) → Fx t H H' → QS H') : rSetL (.ref t) (.int i) (.ref p) H QS := by
  obtain ⟨g0, xs, g1, g2, g3⟩ := h
  refine R.setL (k := n) g1 ?_ (q _ ⟨?_, xs.set n (.ref p), upd_same, ?_, ?_⟩ ?_)
  · rw [hn, g2]
    unfold ixN
    rw [if_pos (by omega), if_pos (by omega)]
    rfl
  · rw [List.length_set]; exact g0
  · rw [List.length_set]; exact g2
  · intro j v e h2 h3
    have np : p ≠ t := fun z => by
      rw [z, g1] at hp
      cases hp
    by_cases hj : n = j
    · subst hj
      rw [List.getElem?_set_self (by omega)] at h2 h3
      obtain rfl := Option.some.inj h2
      obtain rfl := Option.some.inj h3
      exact ⟨p, rfl, by rw [upd_ne np]; exact hp⟩
    · rw [List.getElem?_set_ne hj] at h2 h3
      have z := g3 j v e h2 h3
      cases e with
      | none => exact z
      | some e =>
        obtain ⟨p2, z1, z2⟩ := z
        refine ⟨p2, z1, ?_⟩
        rw [upd_ne]
        · exact z2
        · intro z3
          rw [z3, g1] at z2
          cases z2
  · exact sm_bmut (Same.refl _)
def w1 (k : Nat) : Str := (["halt", "back", "rest"] : List Str).getD k ""
def w2 (k : Nat) : Str := (["copy", "add", "sub", "and", "or", "xor", "test", "", "load", "store"] : List Str).getD k ""
def w3 (k : Nat) : Nat × Str := ([(1, "set"), (9, "testn"), (12, "loadn"), (13, "storen")] : List (Nat × Str)).getD k (0, "")
def w4 (k : Nat) : Str := (["go", "zero", "nonzero", "less", "notless", "call"] : List Str).getD k ""
def w5 (k : Nat) : Str := (["in", "out", "keep", "take"] : List Str).getD (k % 4) ""
abbrev TL := List TEnt
def tb0 : TL := List.replicate 256 none
def tb1 (i : Nat) : TL := (List.range i).foldl (fun T k => T.set k (some (w1 k, ""))) tb0
def in2 (k : Nat) (T : TL) (j : Nat) : TL := (List.range j).foldl (fun T j => T.set (32 + 16 * k + j) (some (w2 k, "rs"))) T
def n2 (k : Nat) : Nat := if w2 k = "" then 0 else 16
def tb2 (i : Nat) : TL := (List.range i).foldl (fun T k => in2 k T (n2 k)) (tb1 3)
def in3 (k : Nat) (T : TL) (j : Nat) : TL := (List.range j).foldl (fun T j => T.set (16 * (w3 k).1 + 4 * j) (some ((w3 k).2, "rn"))) T
def tb3 (i : Nat) : TL := (List.range i).foldl (fun T k => in3 k T 4) (tb2 10)
def tb4 (i : Nat) : TL := (List.range i).foldl (fun T k => T.set (224 + k) (some (w4 k, "n"))) (tb3 4)
def tb5 (i : Nat) : TL := (List.range i).foldl (fun T k => T.set (240 + k) (some (w5 k, "r"))) (tb4 6)
theorem fold_succ {α : Type} (f : α → Nat → α) (x : α) (i : Nat) : (List.range (i + 1)).foldl f x = f ((List.range i).foldl f x) i := by
  rw [List.range_succ, List.foldl_append]
  rfl
theorem tb2_0 : tb2 0 = tb1 3 := by unfold tb2; rw [List.range_zero, List.foldl_nil]
theorem tb3_0 : tb3 0 = tb2 10 := by unfold tb3; rw [List.range_zero, List.foldl_nil]
theorem tb4_0 : tb4 0 = tb3 4 := by unfold tb4; rw [List.range_zero, List.foldl_nil]
theorem tb5_0 : tb5 0 = tb4 6 := by unfold tb5; rw [List.range_zero, List.foldl_nil]
theorem in2_0 (k : Nat) (T : TL) : in2 k T 0 = T := by unfold in2; rw [List.range_zero, List.foldl_nil]
theorem in3_0 (k : Nat) (T : TL) : in3 k T 0 = T := by unfold in3; rw [List.range_zero, List.foldl_nil]
abbrev tabT : TL := tb5 16
theorem tab_dec : ∀ b : Fin 256, tabT[b.val]? = some ((dec (b.val : Int)).map fun p => (p.1, shS p.2)) := by decide +kernel
theorem tabT_at {i : Int} (h0 : 0 ≤ i) (h1 : i < 256) : tabT[i.toNat]? = some ((dec i).map fun p => (p.1, shS p.2)) := by
  have h := tab_dec ⟨i.toNat, by omega⟩
  have e : ((i.toNat : Nat) : Int) = i := Int.toNat_of_nonneg h0
  rw [← e]
  exact h
def sp_law_table (K : PySem.W.Frag) (_ : World) : Sp := fun vs H Q _ => vs = [] ∧ ∀ t H', Same H H' → H t = none → Tab H' t tabT → Q (.ref t) H'
theorem len_law_table {K : PySem.W.Frag} {w : World} {vs : List V} {H : Hp} {Q : VK} {E : XK} (h : sp_law_table K w vs H Q E) : vs.length = 0 := by
  obtain ⟨rfl, _⟩ := h
  rfl
end Rl
namespace Rl
open PySem PySem.Spec PyProof.Rows L2
/-- _law_table: slots 0 _law_found, 1 _law_k, 2 _law_word, 3 _law_low, 4 _law_kind, 5 _law_box -/
def t_law_table (K : PySem.W.Frag) (w : World) : TS :=
  (tSeq (tAsg (tOp (rMulA) (tLst (tCons (tC .non) tNil)) (tC (.int 256))) (gName 0)) (tSeq (tFor (iEnum K (tCons (tLst (tCons (tC (.str "halt")) (tCons (tC (.str "back")) (tCons (tC (.str "rest")) tNil)))) tNil)) (gTup K 2 (gCons (gName 1) (gCons (gName 2) gNil))) (tAsg (tTup (tCons (tVar 2) (tCons (tC (.str "")) tNil))) (gSub (tVar 0) (tVar 1) rSetL))) (tSeq (tFor (iEnum K (tCons (tLst (tCons (tC (.str "copy")) (tCons (tC (.str "add")) (tCons (tC (.str "sub")) (tCons (tC (.str "and")) (tCons (tC (.str "or")) (tCons (tC (.str "xor")) (tCons (tC (.str "test")) (tCons (tC (.str "")) (tCons (tC (.str "load")) (tCons (tC (.str "store")) tNil))))))))))) tNil)) (gTup K 2 (gCons (gName 1) (gCons (gName 2) gNil))) (tFor (iRng1 (tCons (tOp (rMulA) (tC (.int 16)) (tCB (rInt1) (tCons (tOp (rNeA K) (tVar 2) (tC (.str ""))) tNil))) tNil)) (gName 3) (tAsg (tTup (tCons (tVar 2) (tCons (tC (.str "rs")) tNil))) (gSub (tVar 0) (tOp (rAddA K) (tOp (rAddA K) (tC (.int 32)) (tOp (rMulA) (tC (.int 16)) (tVar 1))) (tVar 3)) rSetL)))) (tSeq (tFor (iSeq K (tLst (tCons (tTup (tCons (tC (.int 1)) (tCons (tC (.str "set")) tNil))) (tCons (tTup (tCons (tC (.int 9)) (tCons (tC (.str "testn")) tNil))) (tCons (tTup (tCons (tC (.int 12)) (tCons (tC (.str "loadn")) tNil))) (tCons (tTup (tCons (tC (.int 13)) (tCons (tC (.str "storen")) tNil))) tNil)))))) (gTup K 2 (gCons (gName 4) (gCons (gName 2) gNil))) (tFor (iRng1 (tCons (tC (.int 4)) tNil)) (gName 5) (tAsg (tTup (tCons (tVar 2) (tCons (tC (.str "rn")) tNil))) (gSub (tVar 0) (tOp (rAddA K) (tOp (rMulA) (tC (.int 16)) (tVar 4)) (tOp (rMulA) (tC (.int 4)) (tVar 5))) rSetL)))) (tSeq (tFor (iEnum K (tCons (tLst (tCons (tC (.str "go")) (tCons (tC (.str "zero")) (tCons (tC (.str "nonzero")) (tCons (tC (.str "less")) (tCons (tC (.str "notless")) (tCons (tC (.str "call")) tNil))))))) tNil)) (gTup K 2 (gCons (gName 1) (gCons (gName 2) gNil))) (tAsg (tTup (tCons (tVar 2) (tCons (tC (.str "n")) tNil))) (gSub (tVar 0) (tOp (rAddA K) (tC (.int 224)) (tVar 1)) rSetL))) (tSeq (tFor (iRng1 (tCons (tC (.int 16)) tNil)) (gName 3) (tAsg (tTup (tCons (tOp (rIx K) (tLst (tCons (tC (.str "in")) (tCons (tC (.str "out")) (tCons (tC (.str "keep")) (tCons (tC (.str "take")) tNil))))) (tOp (rModA) (tVar 3) (tC (.int 4)))) (tCons (tC (.str "r")) tNil))) (gSub (tVar 0) (tOp (rAddA K) (tC (.int 240)) (tVar 3)) rSetL))) (tRet (tVar 0))))))))
abbrev N_law_table : List Str := ["_law_found", "_law_k", "_law_word", "_law_low", "_law_kind", "_law_box"]

end Rl
namespace Rl
open PySem PySem.Spec PyProof.Rows L2
/-! ## the law's own likeness: two things that are the same data -/
/-- no deeper than n, no list too long -/
def Nrw : Nat → PyData → Prop
  | 0, .list _ => False
  | 0, .tuple _ => False
  | n + 1, .list ds => ds.length < sizeLine ∧ ∀ d ∈ ds, Nrw n d
  | n + 1, .tuple ds => ds.length < sizeLine ∧ ∀ d ∈ ds, Nrw n d
  | _, _ => True
def spA (K : PySem.W.Frag) (_ : World) : Nat → Sp
  | 0 => fun _ _ _ _ => False
  | n + 1 => fun vs H Q _ => ∃ f d data, vs = [f, d] ∧ Dp K H f data ∧ Dp K H d data ∧ Nrw n data ∧ ∀ H', Same H H' → Q (.bl true) H'
abbrev sp_law_alike (K : PySem.W.Frag) (w : World) : Sp := spA K w 4
theorem len_law_alike {K : PySem.W.Frag} {w : World} {n : Nat} {vs : List V} {H : Hp} {Q : VK} {E : XK} (h : spA K w n vs H Q E) : vs.length = 2 := by
  cases n with
  | zero => cases h
  | succ n =>
    obtain ⟨f, d, data, rfl, _⟩ := h
    rfl
theorem all_true (n : Nat) : ((List.range n).map fun _ => true).all id = true := by
  rw [List.all_map]
  exact List.all_eq_true.mpr fun _ _ => rfl
end Rl
namespace Rl
open PySem PySem.Spec PyProof.Rows L2
/-- _law_alike: slots 0 _law_found, 1 _law_due, 2 _law_mine, 3 _law_other -/
def t_law_alike (K : PySem.W.Frag) (w : World) (rec : Sp) : TS :=
  (tSeq (tIfS (tOr (tB (tCB (rIsi K) (tCons (tVar 1) (tCons (tC (.ty "tuple")) tNil)))) (tB (tCB (rIsi K) (tCons (tVar 1) (tCons (tC (.ty "list")) tNil))))) (tSeq (tIfS (tOr (tTest (tOp (rNeA K) (tCB (rIsi K) (tCons (tVar 0) (tCons (tC (.ty "tuple")) tNil))) (tCB (rIsi K) (tCons (tVar 1) (tCons (tC (.ty "tuple")) tNil))))) (tTest (tOp (rNeA K) (tCB (rIsi K) (tCons (tVar 0) (tCons (tC (.ty "list")) tNil))) (tCB (rIsi K) (tCons (tVar 1) (tCons (tC (.ty "list")) tNil)))))) (tRet (tC (.bl false))) tNext) (tSeq (tIfS (tTest (tOp (rNeA K) (tCB (rLenA K) (tCons (tVar 0) tNil)) (tCB (rLenA K) (tCons (tVar 1) tNil)))) (tRet (tC (.bl false))) tNext) (tRet (tCB (rAll K) (tCons (tLc (RZ.iZipA K (tCons (tVar 0) (tCons (tVar 1) tNil))) (gTup K 2 (gCons (gName 2) (gCons (gName 3) gNil))) tYes (tCall rec [] E0 (tCons (tVar 2) (tCons (tVar 3) tNil))) [2, 3]) tNil))))) tNext) (tSeq (tIfS (tTest (tOp (rIsN) (tVar 1) (tC .non))) (tRet (tOp (rIsN) (tVar 0) (tC .non))) tNext) (tSeq (tIfS (tOr (tB (tCB (rIsi K) (tCons (tVar 1) (tCons (tC (.ty "bool")) tNil)))) (tB (tCB (rIsi K) (tCons (tVar 1) (tCons (tC (.ty "str")) tNil))))) (tRet (tAndV (tOp (rEqA K) (tCB (rIsi K) (tCons (tVar 0) (tCons (tC (.ty "bool")) tNil))) (tCB (rIsi K) (tCons (tVar 1) (tCons (tC (.ty "bool")) tNil)))) (tOp (rEqA K) (tVar 0) (tVar 1)))) tNext) (tRet (tAndV (tCB (rIsi K) (tCons (tVar 0) (tCons (tC (.ty "int")) tNil))) (tAndV (tNotV (tCB (rIsi K) (tCons (tVar 0) (tCons (tC (.ty "bool")) tNil)))) (tOp (rEqA K) (tVar 0) (tVar 1))))))))
abbrev N_law_alike : List Str := ["_law_found", "_law_due", "_law_mine", "_law_other"]

end Rl
namespace Rl
open PySem PySem.Spec PyProof.Rows L2
/-! ## the law's own row -/
def isN : Sh → Bool
  | .rn => true
  | .n => true
  | _ => false
theorem isLong_dec {b : Int} {w : Str} {sh : Sh} (h : dec b = some (w, sh)) : isLong b = isN sh := by
  unfold isLong
  rw [h]
  cases sh <;> rfl
theorem n_in (sh : Sh) : (!(Builtin.Str.occurrences (shS sh) "n" 0 (shS sh).length 1).isEmpty) = isN sh := by
  cases sh <;> decide +kernel
theorem sh_cps (sh : Sh) : ∀ c ∈ (shS sh).cps.toList, c = 114 ∨ c = 115 ∨ c = 110 := by
  cases sh <;> decide +kernel
theorem sh_size (sh : Sh) : (shS sh).cps.size < sizeLine := by
  cases sh <;> decide
theorem sh_size1 (sh : Sh) : 1 + (shS sh).cps.toList.length ≤ sizeLine := by
  cases sh <;> decide
/-- what stands for a sign -/
def fS (b n : Int) (c : Nat) : V := if c = 114 then .str (boxR b) else if c = 115 then .str (boxS b) else .int n
def restD (b n : Int) : Sh → List PyData
  | .e => []
  | .rs => [.str (boxR b), .str (boxS b)]
  | .rn => [.str (boxR b), .int n]
  | .n => [.int n]
  | .r => [.str (boxR b)]
theorem rowD_dec {b n : Int} {w : Str} {sh : Sh} (h : dec b = some (w, sh)) : rowD b n = some (.str w :: restD b n sh) := by
  unfold rowD
  rw [h]
  cases sh <;> rfl
theorem restD_n {b n m : Int} {sh : Sh} (h : isN sh = false) : restD b n sh = restD b m sh := by
  cases sh <;> first | rfl | cases h
theorem fS_dp {K : PySem.W.Frag} {H : Hp} (b n : Int) (sh : Sh) : DpAll K H ((shS sh).cps.toList.map (fS b n)) (restD b n sh) := by
  cases sh with
  | e => exact .nil
  | rs => exact .cons (.str _) (.cons (.str _) .nil)
  | rn => exact .cons (.str _) (.cons (.int _) .nil)
  | n => exact .cons (.int _) .nil
  | r => exact .cons (.str _) .nil
def sp_law_row (K : PySem.W.Frag) (_ : World) : Sp := fun vs H Q _ => ∃ (t a : Addr) (ns : List Int) (i : Int), vs = [.ref t, .ref a, .int i] ∧ Tab H t tabT ∧ SqL K H a (ns.map V.int) ∧ By ns ∧ ns.length ≤ 100000 ∧
  ∀ v H', Same H H' → Dp K H' v (atD (rowAt ns i)) → Q v H'
theorem len_law_row {K : PySem.W.Frag} {w : World} {vs : List V} {H : Hp} {Q : VK} {E : XK} (h : sp_law_row K w vs H Q E) : vs.length = 3 := by
  obtain ⟨_, _, _, _, rfl, _⟩ := h
  rfl
theorem rowAt_out {ns : List Int} {a : Int} (h : ¬ (0 ≤ a ∧ a < ns.length)) : rowAt ns a = none := by
  unfold rowAt
  exact if_neg h
theorem rowAt_in {ns : List Int} {a b : Int} (h : 0 ≤ a ∧ a < ns.length) (hb : ns[a.toNat]? = some b) : rowAt ns a = (if isLong b = true then (if a + 1 < ns.length then (rowD b (ns.getD (a.toNat + 1) 0)).map fun l => (l, 2) else none) else (rowD b 0).map fun l => (l, 1)) := by
  unfold rowAt
  rw [if_pos h, List.getD_eq_getElem?_getD, hb]
  rfl
theorem nrw_rest (b n : Int) (sh : Sh) : (restD b n sh).length ≤ 2 ∧ ∀ d ∈ restD b n sh, Nrw 1 d := by
  cases sh <;> refine ⟨Nat.le_of_ble_eq_true rfl, fun d hd => ?_⟩ <;> unfold restD at hd <;> simp only [List.mem_cons, List.not_mem_nil, or_false] at hd
  · rcases hd with rfl | rfl <;> exact True.intro
  · rcases hd with rfl | rfl <;> exact True.intro
  · rw [hd]; exact True.intro
  · rw [hd]; exact True.intro
theorem nrw_rowD {b n : Int} {l : List PyData} (h : rowD b n = some l) : Nrw 2 (.tuple l) := by
  cases hd : dec b with
  | none =>
    unfold rowD at h
    rw [hd] at h
    cases h
  | some p =>
    obtain ⟨w, sh⟩ := p
    rw [rowD_dec hd] at h
    obtain rfl := Option.some.inj h
    obtain ⟨h1, h2⟩ := nrw_rest b n sh
    refine ⟨Nat.lt_of_le_of_lt (m := 3) (by rw [List.length_cons]; omega) (by decide), fun d hd => ?_⟩
    rcases List.mem_cons.mp hd with rfl | hd
    · exact True.intro
    · exact h2 d hd
theorem nrw_at (ns : List Int) (a : Int) : Nrw 3 (atD (rowAt ns a)) := by
  cases h : rowAt ns a with
  | none => exact True.intro
  | some p =>
    obtain ⟨l, m⟩ := p
    have hl : ∃ b n, rowD b n = some l := by
      unfold rowAt at h
      split at h
      · split at h
        · split at h
          · cases g : rowD (ns.getD a.toNat 0) (ns.getD (a.toNat + 1) 0) with
            | none => rw [g] at h; cases h
            | some l2 =>
              rw [g] at h
              cases h
              exact ⟨_, _, g⟩
          · cases h
        · cases g : rowD (ns.getD a.toNat 0) 0 with
          | none => rw [g] at h; cases h
          | some l2 =>
            rw [g] at h
            cases h
            exact ⟨_, _, g⟩
      · cases h
    obtain ⟨b, n, hl⟩ := hl
    refine ⟨(by decide : 2 < sizeLine), fun d hd => ?_⟩
    rcases List.mem_cons.mp hd with rfl | hd
    · exact nrw_rowD hl
    · rw [List.mem_singleton.mp hd]
      exact True.intro
end Rl
namespace Rl
open PySem PySem.Spec PyProof.Rows L2
/-- _law_row: slots 0 _law_table_here, 1 _law_code, 2 _law_at, 3 _law_word, 4 _law_shape, 5 _law_told, 6 _law_sign -/
def t_law_row (K : PySem.W.Frag) (w : World) : TS :=
  (tSeq (tIfS (tOr (tTest (tOp (rLtA) (tVar 2) (tC (.int 0)))) (tOr (tTest (tOp (rGeA) (tVar 2) (tCB (rLenA K) (tCons (tVar 1) tNil)))) (tTest (tOp (rIsN) (tOp (rIx K) (tVar 0) (tOp (rIx K) (tVar 1) (tVar 2))) (tC .non))))) (tRet (tC .non)) tNext) (tSeq (tAsg (tOp (rIx K) (tVar 0) (tOp (rIx K) (tVar 1) (tVar 2))) (gTup K 2 (gCons (gName 3) (gCons (gName 4) gNil)))) (tSeq (tIfS (tAnd (tTest (tOp (rInSA) (tC (.str "n")) (tVar 4))) (tTest (tOp (rEqA K) (tOp (rAddA K) (tVar 2) (tC (.int 1))) (tCB (rLenA K) (tCons (tVar 1) tNil))))) (tRet (tC .non)) tNext) (tSeq (tAsg (tDisp [((tC (.str "r")), (tOp (rIx K) (tC (.str "abcd")) (tOp (rModA) (tOp (rDivA) (tOp (rIx K) (tVar 1) (tVar 2)) (tC (.int 4))) (tC (.int 4))))), ((tC (.str "s")), (tOp (rIx K) (tC (.str "abcd")) (tOp (rModA) (tOp (rIx K) (tVar 1) (tVar 2)) (tC (.int 4))))), ((tC (.str "n")), (tOp (rIx K) (tOp (rAddA K) (tSl (rSlA K) (tVar 1) (tPart (tVar 2)) tNoPart) (tLst (tCons (tC (.int 0)) (tCons (tC (.int 0)) tNil)))) (tC (.int 1))))]) (gName 5)) (tRet (tTup (tCons (tOp (rAddA K) (tTup (tCons (tVar 3) tNil)) (tCB (rTupA K) (tCons (tLc (iStr (tVar 4)) (gName 6) tYes (tDGet (tVar 5) (tVar 6)) [6]) tNil))) (tCons (tOp (rAddA K) (tC (.int 1)) (tCB (rInt1) (tCons (tOp (rInSA) (tC (.str "n")) (tVar 4)) tNil))) tNil))))))))
abbrev N_law_row : List Str := ["_law_table_here", "_law_code", "_law_at", "_law_word", "_law_shape", "_law_told", "_law_sign"]

end Rl
namespace Rl
open PySem PySem.Spec PyProof.Rows L2
def sp_law_right (K : PySem.W.Frag) (_ : World) : Sp := fun vs H Q _ => ∃ (t a : Addr) (c : V) (ns : List Int), vs = [.ref t, .ref a, c] ∧ Tab H t tabT ∧ SqL K H a (ns.map V.int) ∧ Code K H c ns ∧ By ns ∧ ns.length ≤ 1000 ∧ ∀ H', Same H H' → Q (.bl true) H'
def sp_law (K : PySem.W.Frag) (_ : World) : Sp := fun vs H Q _ => ∃ (a : Addr) (ns : List Int), vs = [.ref a] ∧ SqL K H a (ns.map V.int) ∧ ns.length ≤ 63 ∧ ∀ H', Q (.bl true) H'
theorem len_law_right {K : PySem.W.Frag} {w : World} {vs : List V} {H : Hp} {Q : VK} {E : XK} (h : sp_law_right K w vs H Q E) : vs.length = 3 := by
  obtain ⟨_, _, _, _, rfl, _⟩ := h
  rfl
theorem len_law {K : PySem.W.Frag} {w : World} {vs : List V} {H : Hp} {Q : VK} {E : XK} (h : sp_law K w vs H Q E) : vs.length = 1 := by
  obtain ⟨_, _, rfl, _⟩ := h
  rfl
theorem law_in {K : PySem.W.Frag} {w : World} {H : Hp} {a : Addr} {ns : List Int} {E : XK} (hl : ns.length ≤ 63) (hS : SqL K H a (ns.map V.int)) : sp_law K w [.ref a] H (fun v _ => v = .bl true) E := ⟨a, ns, rfl, hS, hl, fun _ => rfl⟩
end Rl
namespace Rl
open PySem PySem.Spec PyProof.Rows L2
/-- _law_right: slots 0 _law_table_here, 1 _law_code, 2 _law_handed, 3 _law_at -/
def t_law_right (K : PySem.W.Frag) (w : World) : TS :=
  (tSeq (tFor (iSeq K (tOp (rAddA K) (tLstRg (tRg2 (tUn (rU fun i => .int (-i)) (tC (.int 2))) (tOp (rAddA K) (tCB (rLenA K) (tCons (tVar 1) tNil)) (tC (.int 3))))) (tLst (tCons (tOp (rSubA) (tOp (rPowA) (tC (.int 10)) (tC (.int 30))) (tC (.int 1))) (tCons (tOp (rSubA) (tC (.int 0)) (tOp (rPowA) (tC (.int 10)) (tC (.int 29)))) tNil))))) (gName 3) (tIfS (tNot (tB (tCall (sp_law_alike K w) [] E0 (tCons (tCall (sp_row_at K w) [] E0 (tCons (tVar 2) (tCons (tVar 3) tNil))) (tCons (tCall (sp_law_row K w) [] E0 (tCons (tVar 0) (tCons (tVar 1) (tCons (tVar 3) tNil)))) tNil))))) (tRet (tC (.bl false))) tNext)) (tRet (tOp (rEqA K) (tCB (rListA K) (tCons (tVar 2) tNil)) (tVar 1))))
abbrev N_law_right : List Str := ["_law_table_here", "_law_code", "_law_handed", "_law_at"]

/-- law: slots 0 _law_script, 1 _law_reel_here, 2 _law_table_here, 3 _law_first, 4 _law_code, 5 _law_k, 6 _law_at, 7 _law_some, 8 _law_j, 9 _law_held -/
def t_law (K : PySem.W.Frag) (w : World) : TS :=
  (tSeq (tAsg (tCall (sp_law_reel K w) [] E0 (tCons (tVar 0) tNil)) (gName 1)) (tSeq (tAsg (tCall (sp_law_table K w) [] E0 tNil) (gName 2)) (tSeq (tFor (iRng1 (tCons (tC (.int 256)) tNil)) (gName 3) (tSeq (tAsg (tLc (iRng1 (tCons (tOp (rAddA K) (tC (.int 1)) (tCall (sp_law_draw K w) [] E0 (tCons (tVar 1) (tCons (tC (.int 6)) tNil)))) tNil)) (gName 5) tYes (tCall (sp_law_draw K w) [] E0 (tCons (tVar 1) (tCons (tC (.int 256)) tNil))) [5]) (gName 4)) (tSeq (tAsg (tCall (sp_law_draw K w) [] E0 (tCons (tVar 1) (tCons (tCB (rLenA K) (tCons (tVar 4) tNil)) tNil))) (gName 6)) (tSeq (tAsg (tVar 3) (gSub (tVar 4) (tVar 6) rSetL)) (tFor (iSeq K (tLst (tCons (tVar 4) (tCons (tOp (rAddA K) (tSl (rSlA K) (tVar 4) tNoPart (tPart (tVar 6))) (tLst (tCons (tVar 3) tNil))) tNil)))) (gName 7) (tIfS (tNot (tB (tCall (sp_law_alike K w) [] E0 (tCons (tCall (sp_row_at K w) [] E0 (tCons (tVar 7) (tCons (tVar 6) tNil))) (tCons (tCall (sp_law_row K w) [] E0 (tCons (tVar 2) (tCons (tVar 7) (tCons (tVar 6) tNil)))) tNil))))) (tRet (tC (.bl false))) tNext)))))) (tSeq (tFor (iRng1 (tCons (tCB (rMin2) (tCons (tCB (rLenA K) (tCons (tVar 0) tNil)) (tCons (tC (.int 20)) tNil))) tNil)) (gName 5) (tSeq (tAsg (tLc (iRng1 (tCons (tOp (rAddA K) (tC (.int 1)) (tCall (sp_law_draw K w) [] E0 (tCons (tVar 1) (tCons (tOp (rIx K) (tLst (tCons (tC (.int 12)) (tCons (tC (.int 200)) tNil))) (tCall (sp_law_draw K w) [] E0 (tCons (tVar 1) (tCons (tC (.int 2)) tNil)))) tNil)))) tNil)) (gName 8) tYes (tCall (sp_law_draw K w) [] E0 (tCons (tVar 1) (tCons (tC (.int 256)) tNil))) [8]) (gName 4)) (tSeq (tIfS (tNot (tB (tCall (sp_law_right K w) [] E0 (tCons (tVar 2) (tCons (tVar 4) (tCons (tOp (rIx K) (tLst (tCons (tVar 4) (tCons (tCB (rTupA K) (tCons (tVar 4) tNil)) tNil))) (tCall (sp_law_draw K w) [] E0 (tCons (tVar 1) (tCons (tC (.int 2)) tNil)))) tNil)))))) (tRet (tC (.bl false))) tNext) (tSeq (tAsg (tCall (sp_law_draw K w) [] E0 (tCons (tVar 1) (tCons (tCB (rLenA K) (tCons (tVar 4) tNil)) tNil))) (gName 6)) (tSeq (tAsg (tCB (rListA K) (tCons (tVar 4) tNil)) (gName 9)) (tSeq (tIfS (tNot (tB (tCall (sp_law_right K w) [] E0 (tCons (tVar 2) (tCons (tVar 4) (tCons (tVar 9) tNil)))))) (tRet (tC (.bl false))) tNext) (tSeq (tAsg (tOp (rIx K) (tLst (tCons (tOp (rSubA) (tC (.int 255)) (tOp (rIx K) (tVar 9) (tVar 6))) (tCons (tCall (sp_law_draw K w) [] E0 (tCons (tVar 1) (tCons (tC (.int 256)) tNil))) tNil))) (tCall (sp_law_draw K w) [] E0 (tCons (tVar 1) (tCons (tC (.int 2)) tNil)))) (gSub (tVar 9) (tVar 6) rSetL)) (tIfS (tNot (tB (tCall (sp_law_right K w) [] E0 (tCons (tVar 2) (tCons (tCB (rListA K) (tCons (tVar 9) tNil)) (tCons (tVar 9) tNil)))))) (tRet (tC (.bl false))) tNext)))))))) (tRet (tC (.bl true)))))))
abbrev N_law : List Str := ["_law_script", "_law_reel_here", "_law_table_here", "_law_first", "_law_code", "_law_k", "_law_at", "_law_some", "_law_j", "_law_held"]

end Rl
/-! short words: rd goes through a reading as far as it can; hx, sq find what stands in a heap -/
local macro_rules | `(tactic| lcg_sub) => `(tactic| first
  | with_reducible assumption
  | with_reducible exact L2.upd_same
  | ((with_reducible apply Rl.upd_get); (focus (with_reducible assumption)); lcg_sub)
  | ((with_reducible apply Rl.upd_mut); (focus (with_reducible assumption)); lcg_sub)
  | ((with_reducible apply Rl.Fx.at); (focus (with_reducible assumption)); (focus (with_reducible assumption)); lcg_sub))
local macro_rules | `(tactic| lcg_off) => `(tactic| first
  | with_reducible assumption
  | with_reducible exact Rl.same_upd (by with_reducible assumption)
  | with_reducible exact Rl.Same.but (Rl.same_upd (by with_reducible assumption))
  | with_reducible exact Rl.Same.but (by with_reducible assumption))
local macro_rules | `(tactic| k_subL) => `(tactic| first
  | with_reducible assumption
  | with_reducible exact L2.Same.refl _
  | ((with_reducible apply Rl.sm_bmut); k_subL)
  | ((with_reducible apply Rl.sm_new); (focus (with_reducible assumption)); k_subL)
  | ((with_reducible apply Rl.sm_bnew); (focus (with_reducible assumption)); k_subL)
  | ((with_reducible apply Rl.sm_by); (focus (with_reducible assumption)); k_subL)
  | ((with_reducible apply Rl.sm_bby); (focus (with_reducible assumption)); k_subL)
  | ((with_reducible apply Rl.Same.mut); (focus (with_reducible assumption)); k_subL)
  | ((with_reducible apply Rl.Fx.same); (focus (with_reducible assumption)); (focus (with_reducible assumption)); k_subL))
local macro_rules | `(tactic| lcg_src) => `(tactic| first
  | with_reducible assumption
  | ((with_reducible apply L2.SqL.of); lcg_sub; done)
  | ((with_reducible apply L2.SqT.of); lcg_sub; done)
  | ((with_reducible apply Rl.SqL.mono); (focus (lcg_off)); lcg_src)
  | ((with_reducible apply Rl.SqT.mono); (focus (lcg_off)); lcg_src)
  | ((with_reducible apply Rl.Dp.mono); (focus (lcg_off)); lcg_src)
  | ((with_reducible apply Rl.Code.mono); (focus (lcg_off)); lcg_src))
local macro_rules | `(tactic| k_caughtN0) => `(tactic| first
  | assumption
  | (refine Nat.le_trans (m := 1000) (by simp only [List.length_cons, List.length_nil]; omega) (by decide))
  | omega)
local macro_rules | `(tactic| k_caughtB) => `(tactic| first
  | assumption
  | decide
  | omega)
local macro_rules | `(tactic| k_clsL) => `(tactic| first
  | exact Rl.R.cmul1 (by omega) (by omega)
  | exact Rl.R.cmul2 (by omega) (by omega)
  | exact Rl.R.cmul2 (by decide) (by decide)
  | exact Rl.R.cmul1 (by decide) (by decide))
local macro_rules | `(tactic| k_offL) => `(tactic| first
  | exact Rl.R.cdivL (by decide)
  | exact Rl.R.cdiv (by first | assumption | omega) (by first | assumption | omega))
local macro_rules | `(tactic| k_caught0) => `(tactic| repeat (first
  | with_reducible refine Rl.R.var ?_
  | with_reducible refine Rl.R.c ?_
  | with_reducible refine Rl.R.op ?_
  | with_reducible refine Rl.R.cons ?_
  | with_reducible refine Rl.R.nil ?_
  | with_reducible refine Rl.R.asg ?_
  | with_reducible refine Rl.R.gName ?_
  | with_reducible refine Rl.R.seq ?_
  | with_reducible refine Rl.R.cb ?_
  | with_reducible refine Rl.R.test ?_
  | with_reducible refine Rl.R.bl ?_
  | with_reducible refine Rl.R.eqIx ?_
  | with_reducible refine Rl.R.eqI ?_
  | with_reducible refine Rl.R.addI ?_
  | with_reducible refine Rl.R.ifS ?_
  | with_reducible refine Rl.R.next ?_
  | with_reducible refine Rl.R.tB' ?_
  | with_reducible refine Rl.R.ret ?_
  | with_reducible refine Rl.R.iT ?_
  | with_reducible refine Rl.R.iF ?_
  | with_reducible refine Rl.R.iFO ?_
  | with_reducible refine Rl.R.iTO ?_
  | with_reducible refine Rl.R.iTA ?_
  | with_reducible refine Rl.R.iFA ?_
  | ((with_reducible refine Rl.R.iDT ?_ ?_); (focus (exact rfl)))
  | with_reducible refine Rl.R.call ?_
  | with_reducible refine Rl.R.lstRg ?_
  | with_reducible refine Rl.R.rg1 ?_
  | with_reducible refine Rl.R.rg2 ?_
  | with_reducible refine Rl.R.exII ?_
  | with_reducible refine Rl.R.strIter ?_
  | with_reducible refine Rl.R.pairsC ?_
  | with_reducible refine Rl.R.pairsN ?_
  | with_reducible refine Rl.R.dget ?_
  | with_reducible refine Rl.R.inS ?_
  | with_reducible refine Rl.R.app ?_
  | with_reducible refine Rl.R.tup ?_
  | with_reducible refine Rl.R.lst ?_
  | with_reducible refine Rl.R.subI ?_
  | with_reducible refine Rl.R.ltI ?_
  | with_reducible refine Rl.R.leI ?_
  | with_reducible refine Rl.R.gtI ?_
  | with_reducible refine Rl.R.geI ?_
  | with_reducible refine Rl.R.eqSx ?_
  | with_reducible refine Rl.R.eqBx ?_
  | with_reducible refine Rl.R.neBx ?_
  | with_reducible refine Rl.R.neIx ?_
  | with_reducible refine Rl.R.neSx ?_
  | with_reducible refine Rl.R.isNb ?_
  | with_reducible refine Rl.R.isNs ?_
  | with_reducible refine Rl.R.notNb ?_
  | with_reducible refine Rl.R.notNs ?_
  | with_reducible refine Rl.R.eqS ?_
  | with_reducible refine Rl.R.notNr ?_
  | with_reducible refine Rl.R.notNn ?_
  | with_reducible refine Rl.R.notNi ?_
  | with_reducible refine Rl.R.isNr ?_
  | with_reducible refine Rl.R.isNn ?_
  | with_reducible refine Rl.R.isNi ?_
  | with_reducible refine Rl.R.intI ?_
  | with_reducible refine Rl.R.intB ?_
  | with_reducible refine Rl.R.neI ?_
  | with_reducible refine Rl.R.neS ?_
  | with_reducible refine Rl.R.eqB ?_
  | with_reducible refine Rl.R.neB ?_
  | with_reducible refine Rl.R.and3 ?_
  | with_reducible refine Rl.R.shr4 ?_
  | with_reducible refine Rl.R.shr2 ?_
  | with_reducible refine Rl.R.orI ?_
  | with_reducible refine Rl.R.xorI ?_
  | with_reducible refine Rl.R.ifE ?_
  | with_reducible refine Rl.R.par ?_
  | with_reducible refine Rl.R.par3 ?_
  | with_reducible refine Rl.R.ex2 ?_
  | with_reducible refine Rl.R.ex3 ?_
  | with_reducible refine Rl.R.not' ?_
  | with_reducible refine Rl.R.iNot ?_
  | with_reducible refine Rl.R.sl ?_
  | with_reducible refine Rl.R.noPart ?_
  | with_reducible refine Rl.R.part ?_
  | with_reducible refine Rl.R.exI ?_
  | with_reducible refine Rl.R.abs' ?_
  | with_reducible refine Rl.R.min2 ?_
  | with_reducible refine Rl.R.max2 ?_
  | with_reducible refine Rl.R.drop ?_
  | with_reducible refine Rl.R.retN ?_
  | with_reducible refine Rl.R.gSub ?_
  | with_reducible refine Rl.R.for' ?_
  | with_reducible refine Rl.R.seqIter ?_
  | with_reducible refine Rl.R.rng1 ?_
  | with_reducible refine Rl.R.rng2 ?_
  | with_reducible refine Rl.R.aug ?_
  | with_reducible refine Rl.R.ipA ?_
  | with_reducible refine Rl.R.un ?_
  | with_reducible refine Rl.R.neg ?_
  | with_reducible refine Rl.R.tru ?_
  | with_reducible refine Rl.R.yes ?_
  | with_reducible refine Rl.R.andV ?_
  | with_reducible refine Rl.R.orV ?_
  | with_reducible refine Rl.R.notV ?_
  | with_reducible refine Rl.R.isN ?_
  | with_reducible refine Rl.R.notN ?_
  | ((with_reducible refine Rl.R.and15 ?_ ?_); (focus (k_caughtB)))
  | with_reducible refine Rl.R.andI ?_
  | ((with_reducible refine Rl.R.modI ?_ ?_); (focus (k_caughtB)))
  | ((with_reducible refine Rl.R.shrI ?_ ?_); (focus (k_caughtB)))
  | ((with_reducible apply Rl.R.inKDi); (focus assumption))
  | ((with_reducible apply Rl.R.inKDs); (focus assumption))
  | ((with_reducible apply Rl.R.isiD); (focus (lcg_src; done)); (focus (first | exact (rfl : _ = some false) | exact (rfl : _ = some true))))
  | ((with_reducible apply Rl.R.lenLI); (focus (lcg_src; done)))
  | ((with_reducible apply Rl.R.lenTI); (focus (lcg_src; done)))
  | ((with_reducible apply Rl.R.lenL); (focus (lcg_src; done)))
  | ((with_reducible apply Rl.R.lenT); (focus (lcg_src; done)))
  | ((with_reducible apply Rl.R.lenC); (focus (lcg_src; done)))
  | ((with_reducible apply Rl.R.setL); (focus (lcg_sub; done)); (focus (exact rfl)))
  | ((with_reducible apply Rl.R.ixL); (focus (lcg_src; done)); (focus (exact rfl)))
  | ((with_reducible apply Rl.R.ixT); (focus (lcg_src; done)); (focus (exact rfl)))
  | ((with_reducible refine Rl.R.powI ?_ ?_); (focus (exact Rl.R.cpow (by decide))))
  | ((with_reducible refine Rl.R.mulI ?_ ?_); (focus (k_clsL; done)))
  | ((with_reducible refine Rl.R.divI ?_ ?_); (focus (k_offL; done)))
  | ((with_reducible apply Rl.R.andB); (focus (intro QB h; k_caught0; exact h)); (focus (intro hb QB h; k_caught0; exact h)))
  | ((with_reducible apply Rl.R.orB); (focus (intro QB h; k_caught0; exact h)); (focus (intro hb QB h; k_caught0; exact h)))
  | ((with_reducible apply Rl.R.chainB); (focus (intro Q h; k_caught0; exact h)); (focus (intro Q h; k_caught0; exact h)); (focus (intro Q h; k_caught0; exact h)); (focus (intro hb Q h; k_caught0; exact h)); (focus (intro hb Q h; k_caught0; exact h)))))
namespace Rl
open PySem PySem.Spec PyProof.Rows L2
section
variable {K : PySem.W.Frag} {w : World}
theorem len_short_row {vs : List V} {H : Hp} {Q : VK} {E : XK} (h : sp_short_row K w vs H Q E) : vs.length = 1 := by
  obtain ⟨b, rfl, _⟩ := h
  rfl
theorem atI_alone {i : Int} (h0 : 0 ≤ i) (h3 : i < 3) : atI ([.str "halt", .str "back", .str "rest"] : List V) i = some (.str (alone i)) := by
  obtain rfl | rfl | rfl : i = 0 ∨ i = 1 ∨ i = 2 := by omega
  all_goals rfl
theorem atI_single {i : Int} (h0 : 0 ≤ i) (h3 : i < 4) : atI ([.str "in", .str "out", .str "keep", .str "take"] : List V) i = some (.str (single i)) := by
  obtain rfl | rfl | rfl | rfl : i = 0 ∨ i = 1 ∨ i = 2 ∨ i = 3 := by omega
  all_goals rfl
theorem atI_target {i : Int} (h0 : 0 ≤ i) (h3 : i < 6) : atI ([.str "go", .str "zero", .str "nonzero", .str "less", .str "notless", .str "call"] : List V) i = some (.str (target i)) := by
  obtain rfl | rfl | rfl | rfl | rfl | rfl : i = 0 ∨ i = 1 ∨ i = 2 ∨ i = 3 ∨ i = 4 ∨ i = 5 := by omega
  all_goals rfl
theorem dec_alone {b : Int} (h : b < 3) : dec b = some (alone b, .e) := by
  unfold dec
  exact if_pos h
theorem dec_single {b : Int} (h : ¬ b < 3) (h2 : b / 16 = 15) : dec b = some (single (b % 4), .r) := by
  unfold dec
  rw [if_neg h, if_pos h2]
theorem dec_pair {b : Int} {z : Str} (h : ¬ b < 3) (h2 : ¬ b / 16 = 15) (h3 : pairT.lookup (b / 16) = some z) : dec b = some (z, .rs) := by
  unfold dec
  rw [if_neg h, if_neg h2, h3]
theorem dec_rest {b : Int} (h : ¬ b < 3) (h2 : ¬ b / 16 = 15) (h3 : pairT.lookup (b / 16) = none) : dec b = if b / 16 = 14 ∧ b % 16 < 6 then some (target (b % 16), .n) else match numT.lookup (b / 16) with
        | some w => if b % 4 = 0 then some (w, .rn) else none
        | none => none := by
  unfold dec
  rw [if_neg h, if_neg h2, h3]
  all_goals rfl
theorem pure_short_row (F : MachC K w) {vs : List V} {H : Hp} {Q : VK} {E : XK} (h : sp_short_row K w vs H Q E) : t_short_row K w { nx := fun _ H' => Q .non H', rt := Q } (start N_short_row vs) H := by
  obtain ⟨b, rfl, h0, h1, q⟩ := h
  unfold t_short_row
  k_caught0
  refine R.ixS (by decide) (atI_abcd (by omega) (by omega)) ?_
  have hA := F.alone H
  k_caught0
  refine R.iD (fun hb => ?_) (fun hb => ?_)
  · have hb3 : b < 3 := hb
    k_caught0
    refine R.ixT hA (atI_alone h0 hb3) ?_
    k_caught0
    refine ⟨by k_caughtN0, fun p hp => q _ _ (same_upd hp) ?_⟩
    have e : optD (if isLong b = true then none else rowD b 0) = .tuple [.str (alone b)] := by
      unfold isLong rowD
      rw [dec_alone hb3]
      rfl
    rw [e]
    exact .tup (SqT.of upd_same) (.cons (.str _) .nil)
  · have hb3 : ¬ b < 3 := hb
    k_caught0
    refine R.iD (fun hk => ?_) (fun hk => ?_)
    · k_caught0
      refine R.ixT (F.single H) (atI_single (by omega) (by omega)) ?_
      k_caught0
      refine ⟨by k_caughtN0, fun p hp => q _ _ (same_upd hp) ?_⟩
      have e : optD (if isLong b = true then none else rowD b 0) = .tuple [.str (single (b % 4)), .str (boxR b)] := by
        unfold isLong rowD
        rw [dec_single hb3 hk]
        rfl
      rw [e]
      exact .tup (SqT.of upd_same) (.cons (.str _) (.cons (.str _) .nil))
    · k_caught0
      have hP := F.pairs
      k_caught0
      rw [R.valV_ints (f := V.str)]
      cases hp : pairT.lookup (b / 16) with
      | some z =>
        k_caught0
        refine R.iT ?_
        k_caught0
        refine R.ixKDi F.pairs (by rw [R.valV_ints (f := V.str), hp]; rfl) ?_
        k_caught0
        refine R.ixS (by decide) (atI_abcd (by omega) (by omega)) ?_
        k_caught0
        refine ⟨by k_caughtN0, fun p hp' => q _ _ (same_upd hp') ?_⟩
        have e : optD (if isLong b = true then none else rowD b 0) = .tuple [.str z, .str (boxR b), .str (boxS b)] := by
          unfold isLong rowD
          rw [dec_pair hb3 hk hp]
          rfl
        rw [e]
        exact .tup (SqT.of upd_same) (.cons (.str _) (.cons (.str _) (.cons (.str _) .nil)))
      | none =>
        refine R.iF ?_
        k_caught0
        refine q _ _ (Same.refl _) ?_
        have hd := dec_rest hb3 hk hp
        have e : optD (if isLong b = true then none else rowD b 0) = .none := by
          by_cases h14 : b / 16 = 14 ∧ b % 16 < 6
          · rw [if_pos h14] at hd
            unfold isLong rowD
            rw [hd]
            rfl
          · rw [if_neg h14] at hd
            cases hn : numT.lookup (b / 16) with
            | none =>
              rw [hn] at hd
              unfold isLong rowD
              rw [hd]
              rfl
            | some z =>
              rw [hn] at hd
              by_cases h4 : b % 4 = 0
              · have hd2 : dec b = some (z, .rn) := by
                  rw [hd]
                  exact if_pos h4
                unfold isLong rowD
                rw [hd2]
                rfl
              · have hd2 : dec b = none := by
                  rw [hd]
                  exact if_neg h4
                unfold isLong rowD
                rw [hd2]
                rfl
        rw [e]
        exact .non
theorem len_long_row {vs : List V} {H : Hp} {Q : VK} {E : XK} (h : sp_long_row K w vs H Q E) : vs.length = 2 := by
  obtain ⟨b, n, rfl, _⟩ := h
  rfl
theorem dec_n {b : Int} (h0 : 0 ≤ b) (h : b / 16 = 14) (h2 : b % 16 < 6) : dec b = some (target (b % 16), .n) := by
  rw [dec_rest (by omega) (by omega) (by rw [h]; rfl), if_pos ⟨h, h2⟩]
theorem num_pair {k : Int} {z : Str} (h : numT.lookup k = some z) : pairT.lookup k = none ∧ k ≠ 15 ∧ k ≠ 14 ∧ 1 ≤ k := by
  unfold numT at h
  simp only [List.lookup_cons] at h
  split at h
  · rename_i q
    rw [beq_iff_eq.mp q]
    exact ⟨rfl, by decide, by decide, by decide⟩
  · split at h
    · rename_i q
      rw [beq_iff_eq.mp q]
      exact ⟨rfl, by decide, by decide, by decide⟩
    · split at h
      · rename_i q
        rw [beq_iff_eq.mp q]
        exact ⟨rfl, by decide, by decide, by decide⟩
      · split at h
        · rename_i q
          rw [beq_iff_eq.mp q]
          exact ⟨rfl, by decide, by decide, by decide⟩
        · cases h
theorem dec_rn {b : Int} {z : Str} (h : numT.lookup (b / 16) = some z) (h2 : b % 4 = 0) : dec b = some (z, .rn) := by
  obtain ⟨p1, p2, p3, p4⟩ := num_pair h
  rw [dec_rest (by omega) p2 p1, if_neg (fun q => p3 q.1), h]
  exact if_pos h2
/-- what is no long row -/
theorem not_long {b n : Int} (h1 : ¬ (b / 16 = 14 ∧ b % 16 < 6)) (h2 : ∀ z, numT.lookup (b / 16) = some z → ¬ b % 4 = 0) : optD (if isLong b = true then rowD b n else none) = .none := by
  have e : isLong b = false := by
    unfold isLong
    by_cases a : b < 3
    · rw [dec_alone a]
    · by_cases c : b / 16 = 15
      · rw [dec_single a c]
      · cases hp : pairT.lookup (b / 16) with
        | some z => rw [dec_pair a c hp]
        | none =>
          rw [dec_rest a c hp, if_neg h1]
          cases hn : numT.lookup (b / 16) with
          | none => rfl
          | some z =>
            dsimp only
            rw [if_neg (h2 z hn)]
  rw [e]
  rfl
theorem pure_long_row (F : MachC K w) {vs : List V} {H : Hp} {Q : VK} {E : XK} (h : sp_long_row K w vs H Q E) : t_long_row K w { nx := fun _ H' => Q .non H', rt := Q } (start N_long_row vs) H := by
  obtain ⟨b, n, rfl, h0, h1, q⟩ := h
  unfold t_long_row
  k_caught0
  refine R.ixS (by decide) (atI_abcd (by omega) (by omega)) ?_
  have hA := F.targets H
  k_caught0
  refine R.iAnd (fun h14 hl => ?_) (fun hno => ?_)
  · have hl6 : b % 16 < 6 := hl
    k_caught0
    refine R.ixT hA (atI_target (by omega) hl6) ?_
    k_caught0
    refine ⟨by k_caughtN0, fun p hp => q _ _ (same_upd hp) ?_⟩
    have e : optD (if isLong b = true then rowD b n else none) = .tuple [.str (target (b % 16)), .int n] := by
      unfold isLong rowD
      rw [dec_n h0 h14 hl6]
      rfl
    rw [e]
    exact .tup (SqT.of upd_same) (.cons (.str _) (.cons (.int _) .nil))
  · have hno' : ¬ (b / 16 = 14 ∧ b % 16 < 6) := hno
    have hN := F.nums
    k_caught0
    rw [R.valV_ints (f := V.str)]
    cases hn : numT.lookup (b / 16) with
    | some z =>
      refine R.iB (fun h4 => ?_) (fun h4 => ?_)
      · have h4' : b % 16 % 4 = 0 := of_decide_eq_true h4
        k_caught0
        refine R.ixKDi hN (by rw [R.valV_ints (f := V.str), hn]; rfl) ?_
        k_caught0
        refine ⟨by k_caughtN0, fun p hp => q _ _ (same_upd hp) ?_⟩
        have e : optD (if isLong b = true then rowD b n else none) = .tuple [.str z, .str (boxR b), .int n] := by
          unfold isLong rowD
          rw [dec_rn hn (by omega)]
          rfl
        rw [e]
        exact .tup (SqT.of upd_same) (.cons (.str _) (.cons (.str _) (.cons (.int _) .nil)))
      · have h4' : ¬ b % 16 % 4 = 0 := of_decide_eq_false h4
        k_caught0
        refine q _ _ (Same.refl _) ?_
        rw [not_long hno' fun _ _ => by omega]
        exact .non
    | none =>
      refine R.iF ?_
      k_caught0
      refine q _ _ (Same.refl _) ?_
      rw [not_long hno' fun z hz => by rw [hn] at hz; cases hz]
      exact .non
theorem len_row_at {vs : List V} {H : Hp} {Q : VK} {E : XK} (h : sp_row_at K w vs H Q E) : vs.length = 2 := by
  obtain ⟨c, ns, a, rfl, _⟩ := h
  rfl
theorem pure_row_at (F : MachC K w) {vs : List V} {H : Hp} {Q : VK} {E : XK} (h : sp_row_at K w vs H Q E) : t_row_at K w { nx := fun _ H' => Q .non H', rt := Q } (start N_row_at vs) H := by
  obtain ⟨c, ns, a, rfl, hc, hb, q⟩ := h
  unfold t_row_at
  k_caught0
  refine R.iAnd (fun h0 h1 => ?_) (fun hno => ?_)
  · have hat : rowAt ns a = (if isLong (ns.getD a.toNat 0) = true then (if a + 1 < ns.length then (rowD (ns.getD a.toNat 0) (ns.getD (a.toNat + 1) 0)).map fun l => (l, 2) else none)
      else (rowD (ns.getD a.toNat 0) 0).map fun l => (l, 1)) := by
      unfold rowAt
      exact if_pos ⟨h0, h1⟩
    k_caught0
    refine R.ixC hc h0 h1 ?_
    intro m hm hmem
    have hgd : ns.getD a.toNat 0 = m := by
      rw [List.getD_eq_getElem?_getD, hm]
      rfl
    rw [hgd] at hat
    k_caught0
    refine ⟨m, rfl, (hb m hmem).1, (hb m hmem).2, fun v H1 e1 hd1 => ?_⟩
    cases hs : (if isLong m = true then none else rowD m 0) with
    | some l =>
      rw [hs] at hd1
      have hL : isLong m = false := by
        cases q : isLong m with
        | false => rfl
        | true =>
          rw [q, if_pos rfl] at hs
          cases hs
      rw [hL, if_neg Bool.false_ne_true] at hs hat
      rw [hs] at hat
      obtain ⟨p1, xs, rfl, hx, ha⟩ := dp_tup hd1
      k_caught0
      refine ⟨by k_caughtN0, fun p hp => q _ _ (e1.trans (same_upd hp)) ?_⟩
      rw [hat]
      exact .tup (SqT.of upd_same) (.cons (Dp.mono (same_upd hp) hd1) (.cons (.int _) .nil))
    | none =>
      rw [hs] at hd1
      cases dp_none hd1
      k_caught0
      refine R.iD (fun h2 => ?_) (fun h2 => ?_)
      · k_caught0
        refine R.ixC (Code.mono e1 hc) h0 h1 ?_
        intro m' hm' _
        have em : m' = m := Option.some.inj (hm'.symm.trans hm)
        subst em
        k_caught0
        refine R.ixC (Code.mono e1 hc) (by omega) h2 ?_
        intro n hn hnm
        k_caught0
        refine ⟨m', n, rfl, (hb m' hmem).1, (hb m' hmem).2, fun v H2 e2 hd2 => ?_⟩
        have hgn : ns.getD (a.toNat + 1) 0 = n := by
          have ei : (a + 1).toNat = a.toNat + 1 := by omega
          rw [List.getD_eq_getElem?_getD, ← ei, hn]
          rfl
        rw [hgn, if_pos h2] at hat
        cases hl : isLong m' with
        | true =>
          rw [hl, if_pos rfl] at hd2 hat
          cases hr : rowD m' n with
          | none =>
            rw [hr] at hd2 hat
            cases dp_none hd2
            k_caught0
            refine q _ _ (e1.trans e2) ?_
            rw [hat]
            exact .non
          | some l =>
            rw [hr] at hd2 hat
            obtain ⟨p1, xs, rfl, hx, ha⟩ := dp_tup hd2
            k_caught0
            refine ⟨by k_caughtN0, fun p hp => q _ _ ((e1.trans e2).trans (same_upd hp)) ?_⟩
            rw [hat]
            exact .tup (SqT.of upd_same) (.cons (Dp.mono (same_upd hp) hd2) (.cons (.int _) .nil))
        | false =>
          rw [hl, if_neg Bool.false_ne_true] at hd2 hat hs
          cases dp_none hd2
          k_caught0
          refine q _ _ (e1.trans e2) ?_
          rw [hat, hs]
          exact .non
      · k_caught0
        refine q _ _ e1 ?_
        have e : rowAt ns a = none := by
          rw [hat]
          cases hl : isLong m with
          | true => rw [if_pos rfl, if_neg h2]
          | false =>
            rw [hl, if_neg Bool.false_ne_true] at hs
            rw [if_neg Bool.false_ne_true, hs]
            rfl
        rw [e]
        exact .non
  · k_caught0
    refine q _ _ (Same.refl _) ?_
    unfold rowAt
    rw [if_neg hno]
    exact .non
end
end Rl
namespace Rl
open PySem PySem.Spec PyProof.Rows L2
section
variable {K : PySem.W.Frag} {w : World}
theorem pure_law_draw {F : Prop} (_ : F) {vs : List V} {H : Hp} {Q : VK} {E : XK} (h : sp_law_draw K w vs H Q E) : t_law_draw K w { nx := fun _ H' => Q .non H', rt := Q } (start N_law_draw vs) H := by
  obtain ⟨r, m, S, rfl, hR, hm0, hm1, q⟩ := h
  obtain ⟨g, c, k, st, gs, cs, hr, hg, hc, ngr, ncr, hne, hgl, hs0, hs1, hSg, hSc, hSr, hS⟩ := id hR
  unfold t_law_draw
  k_caught0
  refine ⟨by k_caughtN0, fun p hp => ?_⟩
  have hg1 : SqL K (upd H p (.lst [])) g (gs.map V.int) := SqL.of (upd_get hp hg)
  refine R.neD (SqL.ints hg1) (.lst (SqL.of upd_same) .nil) (shaped_ints gs) (shaped_ints []) ?_
  k_caught0
  rw [eqv_ints_nil]
  have hr1 : (upd H p (.lst [])) r = some (.lst [.ref g, .ref c, .int k, .int st]) := upd_get hp hr
  refine R.iB (fun he => ?_) (fun he => ?_)
  · k_caught0
    have hc1 : SqL K (upd (upd H p (.lst [])) r (.lst ([.ref g, .ref c, .int k, .int st].set 2 (.int (k + 1))))) c (cs.map V.int) :=
      SqL.of (upd_mut ncr (upd_get hp hc))
    have hlen : 0 < (cs.length : Int) := by
      cases cs with
      | nil => exact absurd rfl hne
      | cons x xs => rw [List.length_cons]; omega
    k_caught0
    refine R.ixLI hc1 (Int.emod_nonneg _ (by omega)) (Int.emod_lt_of_pos _ hlen) ?_
    intro t ht htm
    k_caught0
    refine R.mulI (.inr (wide_mul (a := 127) (b := 127) (by omega) (by omega) (by decide) (by decide) (by decide))) ?_
    k_caught0
    refine q _ _ ?_ ?_ (Int.emod_nonneg _ (by omega)) (Int.emod_lt_of_pos _ hm0)
    · k_subL
    · refine ⟨g, c, _, _, gs, cs, upd_same, by lcg_sub, by lcg_sub, ngr, ncr, hne, hgl, Int.emod_nonneg _ (by decide), ?_, hSg, hSc, hSr, ?_⟩
      · exact Int.lt_of_lt_of_le (Int.emod_lt_of_pos _ (by decide)) (by decide)
      · intro a ha
        have na : a ≠ r := fun z => hSr (z ▸ ha)
        obtain ⟨o, ho⟩ := hS a ha
        exact ⟨o, by lcg_sub⟩
  · obtain ⟨g0, gr, rfl⟩ : ∃ g0 gr, gs = g0 :: gr := by
      cases gs with
      | nil => cases he
      | cons x xs => exact ⟨x, xs, rfl⟩
    k_caught0
    refine R.ixLI (ns := g0 :: gr) (i := 0) hg1 (by decide) (by rw [List.length_cons]; omega) ?_
    intro t ht htm
    k_caught0
    refine ⟨by k_caughtN0, fun l hl => ?_⟩
    k_caught0
    refine R.repIfI upd_same ?_
    intro l2 hl2
    k_caught0
    refine R.slFromI (SqL.mono (by k_subL) hg1) (by decide) ?_
    intro l3 hl3
    k_caught0
    refine R.catI (by lcg_sub) (by lcg_sub) ?_ ?_
    · refine Nat.le_trans (m := 1002) ?_ (by decide)
      rw [List.length_drop]
      have h1 : (if decide (m ≤ t) = true then [t / m] else []).length ≤ 1 := by
        split
        · exact Nat.le_refl _
        · exact Nat.zero_le _
      omega
    intro l4 hl4
    k_caught0
    have n4 : l4 ≠ r := (ne_of_none (by lcg_sub : _ = some (.lst [.ref g, .ref c, .int k, .int st])) hl4).symm
    refine q _ _ ?_ ?_ (Int.emod_nonneg _ (by omega)) (Int.emod_lt_of_pos _ hm0)
    · k_subL
    · refine ⟨l4, c, _, _, _, cs, upd_same, upd_mut n4 upd_same, by lcg_sub, n4, ncr, hne, ?_, hs0, hs1, ?_, hSc, hSr, ?_⟩
      · rw [List.length_append, List.length_drop]
        have h1 : (if decide (m ≤ t) = true then [t / m] else []).length ≤ 1 := by
          split
          · exact Nat.le_refl _
          · exact Nat.zero_le _
        have h2 : (g0 :: gr).length - Int.toNat 1 = gr.length := rfl
        rw [h2]
        rw [List.length_cons] at hgl
        omega
      · intro z
        obtain ⟨o, ho⟩ := hS _ z
        refine ne_of_none (o := o) ?_ hl4 rfl
        lcg_sub
      · intro a ha
        have na : a ≠ r := fun z => hSr (z ▸ ha)
        obtain ⟨o, ho⟩ := hS a ha
        exact ⟨o, by lcg_sub⟩
theorem pure_law_reel {F : Prop} (_ : F) {vs : List V} {H : Hp} {Q : VK} {E : XK} (h : sp_law_reel K w vs H Q E) : t_law_reel K w { nx := fun _ H' => Q .non H', rt := Q } (start N_law_reel vs) H := by
  obtain ⟨a, ns, rfl, hS, hl, q⟩ := h
  unfold t_law_reel
  k_caught0
  refine R.slToI hS (by decide) ?_
  intro l1 hl1
  k_caught0
  have hS1 : SqL K (upd H l1 (.lst ((ns.take 63).map V.int))) a (ns.map V.int) := SqL.mono (same_upd hl1) hS
  refine R.forL (xs := (ns.take 63).map V.int) (fun i σ H' => ∃ st v, σ = [some (.ref a), some (.int st), v, none] ∧ H' = upd H l1 (.lst ((ns.take 63).map V.int)) ∧ 0 ≤ st ∧ st < 2 ^ 127) (SqL.of upd_same) ⟨3 ^ 60, none, rfl, rfl, by decide, by decide⟩ (fun i σ H' hi hp => ?_) ?_ ?_
  · obtain ⟨st, v, rfl, rfl, _⟩ := hp
    exact SqL.of upd_same
  · rintro i x σ H' hx hi ⟨st, v, rfl, rfl, hs0, hs1⟩
    obtain ⟨n, rfl⟩ : ∃ n, x = .int n := by
      rw [List.getElem?_map] at hx
      cases e : (ns.take 63)[i]? with
      | none =>
        rw [e] at hx
        cases hx
      | some n =>
        rw [e] at hx
        exact ⟨n, (Option.some.inj hx).symm⟩
    k_caught0
    refine R.mulI (.inr (wide_mul (a := 127) (b := 127) (by omega) (by omega) (by decide) (by decide) (by decide))) ?_
    k_caught0
    refine ⟨_, _, rfl, rfl, Int.emod_nonneg _ (by decide), ?_⟩
    exact Int.lt_of_lt_of_le (Int.emod_lt_of_pos _ (by decide)) (by decide)
  · rintro σ H' ⟨st, v, rfl, rfl, hs0, hs1⟩
    k_caught0
    refine R.lc ?_
    k_caught0
    refine R.slToI (SqL.mono (by k_subL) hS) (by decide) ?_
    intro l2 hl2
    k_caught0
    refine R.lcFMI (ns := ns.take 63) (fun n => decide (10 ^ Int.toNat 18 ≤ n)) (fun n => n - 10 ^ Int.toNat 18) (SqL.of upd_same) ?_ (fun _ => rfl) ?_ ?_ ?_
    · exact Nat.lt_of_le_of_lt (List.length_take_le _ _) (by decide)
    · intro x H' _ _ QB qb
      k_caught0
      exact qb
    · intro x H' _ _ _ Q' q'
      k_caught0
      exact q'
    intro D H1 hD e1 hDl
    k_caught0
    refine R.lc ?_
    k_caught0
    refine R.slToI (SqL.mono (by k_subL) hS) (by decide) ?_
    intro l3 hl3
    k_caught0
    refine R.lcFMI (ns := ns.take 63) (fun n => true) (fun n => n % 1000003) (SqL.of upd_same) ?_ (fun _ => rfl) ?_ ?_ ?_
    · exact Nat.lt_of_le_of_lt (List.length_take_le _ _) (by decide)
    · intro x H' _ _ QB qb
      k_caught0
      exact qb
    · intro x H' _ _ _ Q' q'
      k_caught0
      exact q'
    intro D2 H2 hD2 e2 hD2l
    k_caught0
    refine ⟨by k_caughtN0, fun l4 hl4 => ?_⟩
    refine R.catI (xs := (((ns.take 63).filter fun n => true).map fun n => n % 1000003)) (ys := [41]) (upd_get hl4 hD2l) upd_same ?_ ?_
    · refine Nat.le_trans (m := 64) ?_ (by decide)
      rw [List.length_map]
      have := List.length_filter_le (fun n => true) (ns.take 63)
      have := List.length_take_le 63 ns
      show _ + 1 ≤ 64
      omega
    intro l5 hl5
    k_caught0
    refine ⟨by k_caughtN0, fun r hr => ?_⟩
    have hDr : upd (upd H2 l4 (.lst [.int 41])) l5 (.lst ((((ns.take 63).filter fun n => true).map fun n => n % 1000003) ++ [41] |>.map V.int)) D = some (.lst ((((ns.take 63).filter fun n => decide (10 ^ Int.toNat 18 ≤ n)).map fun n => n - 10 ^ Int.toNat 18).map V.int)) := by
      have e3 : Same H1 H2 := by k_subL
      exact upd_get hl5 (upd_get hl4 (e3 _ _ hDl))
    have nD : D ≠ r := ne_of_none hDr hr
    have n5 : l5 ≠ r := ne_of_none upd_same hr
    refine q _ _ (by k_subL) ?_ ⟨D, l5, 0, st, _, _, upd_same, upd_get hr hDr, upd_get hr upd_same, nD, n5, ?_, ?_, hs0, hs1, id, id, id, fun _ z => z.elim⟩
    · have e4 : Same H (upd (upd H2 l4 (.lst [.int 41])) l5 (.lst ((((ns.take 63).filter fun n => true).map fun n => n % 1000003) ++ [41] |>.map V.int))) := by k_subL
      exact e4.free hr
    · exact List.append_ne_nil_of_right_ne_nil _ (List.cons_ne_nil _ _)
    · rw [List.length_map]
      have := List.length_filter_le (fun n => decide (10 ^ Int.toNat 18 ≤ n)) (ns.take 63)
      have := List.length_take_le 63 ns
      omega
end
end Rl
namespace Rl
open PySem PySem.Spec PyProof.Rows L2
section
variable {K : PySem.W.Frag} {w : World}
theorem range_bl (n : Nat) : ((List.range n).map fun _ => V.bl true) = ((List.range n).map fun _ => true).map V.bl := by
  rw [List.map_map]
  rfl
theorem pure_law_alike {F : Prop} (_ : F) {n : Nat} {vs : List V} {H : Hp} {Q : VK} {E : XK} (h : spA K w (n + 1) vs H Q E) : t_law_alike K w (spA K w n) { nx := fun _ H' => Q .non H', rt := Q } (start N_law_alike vs) H := by
  obtain ⟨f, d, data, rfl, hf, hd, hn, q⟩ := h
  unfold t_law_alike
  cases data with
  | none =>
    obtain rfl := dp_none hf
    obtain rfl := dp_none hd
    k_caught0
    exact q _ (Same.refl _)
  | bool b =>
    obtain rfl := dp_bool hf
    obtain rfl := dp_bool hd
    k_caught0
    exact q _ (Same.refl _)
  | int b =>
    obtain rfl := dp_int hf
    obtain rfl := dp_int hd
    k_caught0
    exact q _ (Same.refl _)
  | str b =>
    obtain rfl := dp_str hf
    obtain rfl := dp_str hd
    k_caught0
    exact q _ (Same.refl _)
  | list ds =>
    obtain ⟨p, xs, rfl, hp, hx⟩ := dp_lst hf
    obtain ⟨p2, xs2, rfl, hp2, hx2⟩ := dp_lst hd
    k_caught0
    have hl1 := DpAll.length hx
    have hl2 := DpAll.length hx2
    have hl3 : (xs.length : Int) = xs2.length := by rw [hl1, hl2]
    refine R.iDT hl3 ?_
    k_caught0
    refine R.lc (R.zip' ?_)
    k_caught0
    refine ⟨p, p2, xs, xs2, rfl, .inl ⟨hp, hp2, ?_⟩⟩
    cases n with
    | zero => cases hn
    | succ n =>
    refine R.lcPairs (n := ds.length) (walk_zip (by omega)) (fun _ => .bl true) hn.1 (fun H' e => ⟨SqL.mono e hp, SqL.mono e hp2⟩) (fun _ _ => rfl) ?_ ?_
    · intro i x y H' hi e hx' hy' Q' q'
      k_caught0
      obtain ⟨d1, g1, g2⟩ := DpAll.get hx hx'
      obtain ⟨d2, g3, g4⟩ := DpAll.get hx2 hy'
      obtain rfl : d1 = d2 := by rw [g1] at g3; exact Option.some.inj g3
      exact ⟨x, y, d1, rfl, Dp.mono e g2, Dp.mono e g4, hn.2 _ (List.mem_of_getElem? g1), fun H'' e2 => q' _ e2⟩
    · intro D H' hD e hl
      k_caught0
      rw [range_bl] at hl
      refine R.all' (SqL.of hl) ?_
      rw [all_true]
      exact q _ e
  | tuple ds =>
    obtain ⟨p, xs, rfl, hp, hx⟩ := dp_tup hf
    obtain ⟨p2, xs2, rfl, hp2, hx2⟩ := dp_tup hd
    k_caught0
    have hl1 := DpAll.length hx
    have hl2 := DpAll.length hx2
    have hl3 : (xs.length : Int) = xs2.length := by rw [hl1, hl2]
    refine R.iDT hl3 ?_
    k_caught0
    refine R.lc (R.zip' ?_)
    k_caught0
    refine ⟨p, p2, xs, xs2, rfl, .inr ⟨hp, hp2, ?_⟩⟩
    cases n with
    | zero => cases hn
    | succ n =>
    refine R.lcPairs (n := ds.length) (R.walk_zipT (by omega)) (fun _ => .bl true) hn.1 (fun H' e => ⟨SqT.mono e hp, SqT.mono e hp2⟩) (fun _ _ => rfl) ?_ ?_
    · intro i x y H' hi e hx' hy' Q' q'
      k_caught0
      obtain ⟨d1, g1, g2⟩ := DpAll.get hx hx'
      obtain ⟨d2, g3, g4⟩ := DpAll.get hx2 hy'
      obtain rfl : d1 = d2 := by rw [g1] at g3; exact Option.some.inj g3
      exact ⟨x, y, d1, rfl, Dp.mono e g2, Dp.mono e g4, hn.2 _ (List.mem_of_getElem? g1), fun H'' e2 => q' _ e2⟩
    · intro D H' hD e hl
      k_caught0
      rw [range_bl] at hl
      refine R.all' (SqL.of hl) ?_
      rw [all_true]
      exact q _ e
  | dict ds => cases hf
end
end Rl
namespace Rl
open PySem PySem.Spec PyProof.Rows L2
section
variable {K : PySem.W.Frag} {w : World}
theorem at_map {f : Nat → V} {n i : Nat} {x : V} (h : ((List.range n).map f)[i]? = some x) : x = f i ∧ i < n := by
  rw [List.getElem?_map] at h
  by_cases hi : i < n
  · rw [List.getElem?_range hi] at h
    exact ⟨(Option.some.inj h).symm, hi⟩
  · rw [List.getElem?_eq_none (by rw [List.length_range]; omega)] at h
    cases h
theorem len_map (f : Nat → V) (n : Nat) : ((List.range n).map f).length = n := by rw [List.length_map, List.length_range]
theorem w5_at : ∀ i : Fin 16, atI ([.str "in", .str "out", .str "keep", .str "take"] : List V) ((0 + (i.val : Int)) % 4) = some (.str (w5 i.val)) := by decide +kernel
theorem pure_law_table {F : Prop} (_ : F) {vs : List V} {H : Hp} {Q : VK} {E : XK} (h : sp_law_table K w vs H Q E) : t_law_table K w { nx := fun _ H' => Q .non H', rt := Q } (start N_law_table vs) H := by
  obtain ⟨rfl, q⟩ := h
  unfold t_law_table
  k_caught0
  refine ⟨by k_caughtN0, fun l hl => ?_⟩
  refine R.rep upd_same (by decide) (by decide) (by decide) ?_
  intro t ht
  have e0 : Same H (but t (upd (upd H l (.lst [.non])) t (.lst (List.replicate (Int.toNat 256) [.non]).flatten))) := sm_bmut ((same_upd hl).trans (same_but ht))
  have n0 : H t = none := (same_upd hl).free ht
  have T0 : Tab (upd (upd H l (.lst [.non])) t (.lst (List.replicate (Int.toNat 256) [.non]).flatten)) t (tb1 0) := by
    refine ⟨rfl, _, upd_same, rfl, fun i v e a b => ?_⟩
    have hv : v = .non := by
      rw [rep_one] at a
      exact (List.mem_replicate.mp (List.mem_of_getElem? a)).2
    have he : e = none := (List.mem_replicate.mp (List.mem_of_getElem? b)).2
    rw [he]
    exact hv
  generalize (upd (upd H l (.lst [.non])) t (.lst (List.replicate (Int.toNat 256) [.non]).flatten)) = H0 at e0 T0 ⊢
  clear ht hl
  k_caught0
  refine R.enum' ?_
  k_caught0
  refine ⟨by k_caughtN0, fun l2 hl2 => ?_⟩
  have nl2 : l2 ≠ t := by
    obtain ⟨_, xs, g, _⟩ := T0
    exact fun z => by rw [z, g] at hl2; cases hl2
  refine R.forE (xs := (List.range 3).map fun k => V.str (w1 k)) (fun i σ H' => (∃ a b, σ = [some (.ref t), a, b, none, none, none]) ∧ Fx t (upd H0 l2 (.lst ((List.range 3).map fun k => V.str (w1 k)))) H' ∧ Tab H' t (tb1 i)) (SqL.of upd_same) ⟨⟨_, _, rfl⟩, Fx.refl _ _, Tab.mono (same_upd hl2) T0⟩ (fun i σ H' _ z => SqL.of (z.2.1.at nl2 upd_same)) ?_ ?_
  · rintro i x σ H1 hx hi ⟨⟨a, b, rfl⟩, e1, T1⟩ T hT
    obtain ⟨rfl, hi3⟩ := at_map hx
    refine R.gPair upd_same ?_
    k_caught0
    refine ⟨by k_caughtN0, fun p hp => ?_⟩
    k_caught0
    refine R.setTab (n := i) (Tab.mono (by k_subL) T1) upd_same rfl (by omega) fun H' hT' e' => ⟨⟨_, _, rfl⟩, by k_subL, ?_⟩
    unfold tb1
    rw [fold_succ]
    exact hT'
  rw [len_map]
  rintro σ H1 ⟨⟨a, b, rfl⟩, e1, T1⟩
  have e1' : Same H (but t H1) := by k_subL
  clear e1 T0 e0
  k_caught0
  refine R.enum' ?_
  k_caught0
  refine ⟨by k_caughtN0, fun l3 hl3 => ?_⟩
  have nl3 : l3 ≠ t := by
    obtain ⟨_, xs, g, _⟩ := T1
    exact fun z => by rw [z, g] at hl3; cases hl3
  refine R.forE (xs := (List.range 10).map fun k => V.str (w2 k)) (fun i σ H' => (∃ a b c, σ = [some (.ref t), a, b, c, none, none]) ∧ Fx t (upd H1 l3 (.lst ((List.range 10).map fun k => V.str (w2 k)))) H' ∧ Tab H' t (tb2 i)) (SqL.of upd_same) ⟨⟨_, _, _, rfl⟩, Fx.refl _ _, by rw [tb2_0]; exact Tab.mono (same_upd hl3) T1⟩ (fun i σ H' _ z => SqL.of (z.2.1.at nl3 upd_same)) ?_ ?_
  · rintro i x σ H2 hx hi ⟨⟨a, b, c, rfl⟩, e1, T1⟩ T hT
    obtain ⟨rfl, hi3⟩ := at_map hx
    refine R.gPair upd_same ?_
    k_caught0
    have hm : (16 * (if (!decide (w2 i = "")) = true then (1 : Int) else 0)) = (n2 i : Nat) := by
      unfold n2
      by_cases h : w2 i = ""
      · rw [if_pos h, decide_eq_true h]; rfl
      · rw [if_neg h, decide_eq_false h]; rfl
    have hn2 : n2 i ≤ 16 := by
      unfold n2
      split <;> omega
    show ∃ j, [V.int (16 * if (!decide (w2 i = "")) = true then 1 else 0)] = [V.int j] ∧ _
    rw [hm]
    refine R.rng1v (by omega) (by omega) ?_
    refine R.forR (fun j σ H' => (∃ c, σ = [some (.ref t), some (.int (i : Nat)), some (.str (w2 i)), c, none, none]) ∧ Fx t (upd H1 l3 (HO.lst (List.map (fun k => V.str (w2 k)) (List.range 10)))) H' ∧ Tab H' t (in2 i (tb2 i) j)) ⟨⟨_, rfl⟩, by k_subL, by rw [in2_0]; exact Tab.mono (by k_subL) T1⟩ ?_ ?_
    · rintro j σ H3 hj ⟨⟨c, rfl⟩, e2, T2⟩
      k_caught0
      refine ⟨by k_caughtN0, fun p hp => ?_⟩
      k_caught0
      refine R.setTab (n := 32 + 16 * i + j) (Tab.mono (by k_subL) T2) upd_same (by omega) (by omega) fun H' hT' e' => ⟨⟨_, rfl⟩, by k_subL, ?_⟩
      unfold in2
      rw [fold_succ]
      exact hT'
    · rintro σ H3 ⟨⟨c, rfl⟩, e2, T2⟩
      refine ⟨⟨_, _, _, rfl⟩, e2, ?_⟩
      unfold tb2
      rw [fold_succ]
      exact T2
  rw [len_map]
  rintro σ H2 ⟨⟨a, b, c, rfl⟩, e2, T2⟩
  have e2' : Same H (but t H2) := by k_subL
  clear e2 T1 e1' nl2 hl2 hl3 nl3 l3
  k_caught0
  refine ⟨by k_caughtN0, fun p1 hp1 => ?_⟩
  k_caught0
  refine ⟨by k_caughtN0, fun p2 hp2 => ?_⟩
  k_caught0
  refine ⟨by k_caughtN0, fun p3 hp3 => ?_⟩
  k_caught0
  refine ⟨by k_caughtN0, fun p4 hp4 => ?_⟩
  k_caught0
  refine ⟨by k_caughtN0, fun l4 hl4 => ?_⟩
  have nl4 : l4 ≠ t := Tab.ne (Tab.mono (by k_subL) T2) hl4
  have np1 : p1 ≠ t := Tab.ne (Tab.mono (by k_subL) T2) hp1
  have np2 : p2 ≠ t := Tab.ne (Tab.mono (by k_subL) T2) hp2
  have np3 : p3 ≠ t := Tab.ne (Tab.mono (by k_subL) T2) hp3
  have np4 : p4 ≠ t := Tab.ne (Tab.mono (by k_subL) T2) hp4
  refine R.forL (xs := [.ref p1, .ref p2, .ref p3, .ref p4]) (fun i σ H' => (∃ a b c d e, σ = [some (.ref t), a, b, c, d, e]) ∧ Fx t (upd (upd (upd (upd (upd H2 p1 (.tup [.int 1, .str "set"])) p2 (.tup [.int 9, .str "testn"])) p3 (.tup [.int 12, .str "loadn"])) p4 (.tup [.int 13, .str "storen"])) l4 (.lst [.ref p1, .ref p2, .ref p3, .ref p4])) H' ∧ Tab H' t (tb3 i)) (SqL.of upd_same) ⟨⟨_, _, _, _, _, rfl⟩, Fx.refl _ _, by rw [tb3_0]; exact Tab.mono (by k_subL) T2⟩ (fun i σ H' _ z => SqL.of (z.2.1.at nl4 upd_same)) ?_ ?_
  · rintro i x σ H3 hx hi ⟨⟨a, b, c, d, e, rfl⟩, e1, T1⟩
    obtain ⟨p, rfl, hp⟩ : ∃ p, x = .ref p ∧ H3 p = some (.tup [.int (w3 i).1, .str (w3 i).2]) := by
      have g1 : H3 p1 = some (.tup [.int 1, .str "set"]) := e1.at np1 (by lcg_sub)
      have g2 : H3 p2 = some (.tup [.int 9, .str "testn"]) := e1.at np2 (by lcg_sub)
      have g3 : H3 p3 = some (.tup [.int 12, .str "loadn"]) := e1.at np3 (by lcg_sub)
      have g4 : H3 p4 = some (.tup [.int 13, .str "storen"]) := e1.at np4 (by lcg_sub)
      match i, hi, hx with
      | 0, _, hx => exact ⟨p1, (Option.some.inj hx).symm, g1⟩
      | 1, _, hx => exact ⟨p2, (Option.some.inj hx).symm, g2⟩
      | 2, _, hx => exact ⟨p3, (Option.some.inj hx).symm, g3⟩
      | 3, _, hx => exact ⟨p4, (Option.some.inj hx).symm, g4⟩
    have hi4 : i < 4 := hi
    have hw : (w3 i).1 ≤ 13 := by
      match i, hi4 with
      | 0, _ => decide
      | 1, _ => decide
      | 2, _ => decide
      | 3, _ => decide
    refine R.gPairT (SqT.of hp) ?_
    k_caught0
    refine R.rng1v (by decide) (by decide) ?_
    refine R.forR (fun j σ H' => (∃ c e, σ = [some (.ref t), a, some (.str (w3 i).2), c, some (.int (w3 i).1), e]) ∧ Fx t H3 H' ∧ Tab H' t (in3 i (tb3 i) j)) ⟨⟨_, _, rfl⟩, by k_subL, by rw [in3_0]; exact Tab.mono (by k_subL) T1⟩ ?_ ?_
    · rintro j σ H4 hj ⟨⟨c, e, rfl⟩, e2, T2⟩
      have hj4 : j < 4 := hj
      k_caught0
      refine ⟨by k_caughtN0, fun p hp => ?_⟩
      k_caught0
      refine R.setTab (n := 16 * (w3 i).1 + 4 * j) (Tab.mono (by k_subL) T2) upd_same (by omega) (by omega) fun H' hT' e' => ⟨⟨_, _, rfl⟩, by k_subL, ?_⟩
      unfold in3
      rw [fold_succ]
      exact hT'
    · rintro σ H4 ⟨⟨c, e, rfl⟩, e2, T2⟩
      refine ⟨⟨_, _, _, _, _, rfl⟩, by k_subL, ?_⟩
      unfold tb3
      rw [fold_succ]
      exact T2
  rintro σ H3 ⟨⟨a, b, c, d, e, rfl⟩, e3, T3⟩
  have e3' : Same H (but t H3) := by k_subL
  replace T3 : Tab H3 t (tb3 4) := T3
  clear e3 T2 e2' np1 np2 np3 np4 hp1 hp2 hp3 hp4 hl4 nl4
  k_caught0
  refine R.enum' ?_
  k_caught0
  refine ⟨by k_caughtN0, fun l5 hl5 => ?_⟩
  have nl5 : l5 ≠ t := Tab.ne T3 hl5
  refine R.forE (xs := (List.range 6).map fun k => V.str (w4 k)) (fun i σ H' => (∃ a b c d e, σ = [some (.ref t), a, b, c, d, e]) ∧ Fx t (upd H3 l5 (.lst ((List.range 6).map fun k => V.str (w4 k)))) H' ∧ Tab H' t (tb4 i)) (SqL.of upd_same) ⟨⟨_, _, _, _, _, rfl⟩, Fx.refl _ _, by rw [tb4_0]; exact Tab.mono (same_upd hl5) T3⟩ (fun i σ H' _ z => SqL.of (z.2.1.at nl5 upd_same)) ?_ ?_
  · rintro i x σ H4 hx hi ⟨⟨a, b, c, d, e, rfl⟩, e1, T1⟩ T hT
    obtain ⟨rfl, hi3⟩ := at_map hx
    refine R.gPair upd_same ?_
    k_caught0
    refine ⟨by k_caughtN0, fun p hp => ?_⟩
    k_caught0
    refine R.setTab (n := 224 + i) (Tab.mono (by k_subL) T1) upd_same (by omega) (by omega) fun H' hT' e' => ⟨⟨_, _, _, _, _, rfl⟩, by k_subL, ?_⟩
    unfold tb4
    rw [fold_succ]
    exact hT'
  rw [len_map]
  rintro σ H4 ⟨⟨a, b, c, d, e, rfl⟩, e4, T4⟩
  have e4' : Same H (but t H4) := by k_subL
  clear e4 T3 e3' nl5 hl5
  k_caught0
  refine R.rng1v (by decide) (by decide) ?_
  refine R.forR (fun i σ H' => (∃ a b c d e, σ = [some (.ref t), a, b, c, d, e]) ∧ Fx t H4 H' ∧ Tab H' t (tb5 i)) ⟨⟨_, _, _, _, _, rfl⟩, by k_subL, by rw [tb5_0]; exact Tab.mono (by k_subL) T4⟩ ?_ ?_
  · rintro i σ H5 hi ⟨⟨a, b, c, d, e, rfl⟩, e2, T2⟩
    have hi4 : i < 16 := hi
    k_caught0
    refine ⟨by k_caughtN0, fun p hp => ?_⟩
    k_caught0
    refine R.ixL (SqL.of upd_same) (w5_at ⟨i, hi4⟩) ?_
    k_caught0
    refine ⟨by k_caughtN0, fun p2 hp2 => ?_⟩
    k_caught0
    refine R.setTab (n := 240 + i) (Tab.mono (by k_subL) T2) upd_same (by omega) (by omega) fun H' hT' e' => ⟨⟨_, _, _, _, _, rfl⟩, by k_subL, ?_⟩
    unfold tb5
    rw [fold_succ]
    exact hT'
  rintro σ H5 ⟨⟨a, b, c, d, e, rfl⟩, e2, T2⟩
  k_caught0
  exact q t H5 (Same.trans (by k_subL : Same H (but t H5)) but_same) n0 T2
end
end Rl
namespace Rl
open PySem PySem.Spec PyProof.Rows L2
section
variable {K : PySem.W.Frag} {w : World}
theorem dpAll_nil {H : Hp} {xs : List V} {ds : List PyData} (e : xs = []) (h : DpAll K H xs ds) : DpAll K H [] ds := by
  subst e
  exact h
theorem pure_law_row {F : Prop} (_ : F) {vs : List V} {H : Hp} {Q : VK} {E : XK} (h : sp_law_row K w vs H Q E) : t_law_row K w { nx := fun _ H' => Q .non H', rt := Q } (start N_law_row vs) H := by
  obtain ⟨t, c, ns, a, rfl, hT, hc, hb, hl, q⟩ := h
  unfold t_law_row
  refine R.seq (R.ifS (R.or' ?_))
  k_caught0
  refine R.iD (fun h1 => ?_) (fun h1 => ?_)
  · k_caught0
    exact q _ _ (Same.refl _) (by rw [rowAt_out (by omega)]; exact .non)
  refine R.or' ?_
  k_caught0
  refine R.iD (fun h2 => ?_) (fun h2 => ?_)
  · k_caught0
    exact q _ _ (Same.refl _) (by rw [rowAt_out (by omega)]; exact .non)
  have hin : 0 ≤ a ∧ a < ns.length := by omega
  k_caught0
  refine R.ixLI hc hin.1 hin.2 ?_
  intro b hb1 hb2
  have hb3 := hb b hb2
  have eT := tabT_at hb3.1 hb3.2
  cases hd : dec b with
  | none =>
    rw [hd] at eT
    refine hT.get hb3.1 hb3.2 eT ?_
    rintro v rfl
    k_caught0
    refine q _ _ (Same.refl _) ?_
    have e : rowAt ns a = none := by
      rw [rowAt_in hin hb1]
      unfold rowD
      rw [hd]
      cases isLong b <;> simp
    rw [e]
    exact .non
  | some p =>
    obtain ⟨wd, sh⟩ := p
    rw [hd] at eT
    refine hT.get hb3.1 hb3.2 eT ?_
    rintro v ⟨p, rfl, hp⟩
    k_caught0
    refine R.ixLI hc hin.1 hin.2 ?_
    intro b' hb1' _
    obtain rfl : b = b' := by
      rw [hb1] at hb1'
      exact Option.some.inj hb1'
    refine hT.get hb3.1 hb3.2 eT ?_
    rintro v ⟨p2, rfl, hp2⟩
    replace hp2 : H p2 = some (.tup [.str wd, .str (shS sh)]) := hp2
    clear hp p
    refine R.gPair hp2 ?_
    k_caught0
    show (if ((!(Builtin.Str.occurrences (shS sh) "n" 0 (shS sh).length 1).isEmpty) && decide (a + 1 = ns.length)) = true then _ else _)
    rw [n_in]
    by_cases hN : isN sh = true ∧ a + 1 = ns.length
    · rw [hN.1, decide_eq_true hN.2]
      k_caught0
      refine q _ _ (Same.refl _) ?_
      rw [rowAt_in hin hb1, isLong_dec hd, if_pos hN.1, if_neg (by omega)]
      exact .non
    have e1 : (isN sh && decide (a + 1 = ns.length)) = false := by
      cases h : isN sh with
      | false => rfl
      | true => rw [decide_eq_false fun z => hN ⟨h, z⟩]; rfl
    rw [e1]
    k_caught0
    refine R.disp fun d hd0 => ?_
    have hc1 : SqL K (upd H d (.dK [])) c (ns.map V.int) := SqL.mono (same_upd hd0) hc
    k_caught0
    refine R.ixLI hc1 hin.1 hin.2 ?_
    intro b' hb1' _
    obtain rfl : b = b' := by
      rw [hb1] at hb1'
      exact Option.some.inj hb1'
    k_caught0
    refine R.ixS (by decide) (atI_abcd (by omega) (by omega)) ?_
    k_caught0
    refine R.ixLI hc1 hin.1 hin.2 ?_
    intro b' hb1' _
    obtain rfl : b = b' := by
      rw [hb1] at hb1'
      exact Option.some.inj hb1'
    k_caught0
    refine R.ixS (by decide) (atI_abcd (by omega) (by omega)) ?_
    k_caught0
    refine R.slFromI hc1 hin.1 ?_
    intro l1 hl1
    k_caught0
    refine ⟨by k_caughtN0, fun l2 hl2 => ?_⟩
    refine R.catI (xs := ns.drop a.toNat) (ys := [0, 0]) (by lcg_sub) upd_same ?_ ?_
    · refine Nat.le_trans (m := 100002) ?_ (by decide)
      rw [List.length_drop]
      show _ + 2 ≤ _
      omega
    intro l3 hl3
    k_caught0
    refine R.ixLI (ns := ns.drop a.toNat ++ [0, 0]) (SqL.of upd_same) (by decide) ?_ ?_
    · rw [List.length_append]
      show (1 : Int) < ((_ + 2 : Nat) : Int)
      omega
    intro nx hnx _
    k_caught0
    refine ⟨by lcg_sub, [(Sum.inr "r", .str (boxR b)), (Sum.inr "s", .str (boxS b)), (Sum.inr "n", .int nx)], rfl, Nat.le_of_ble_eq_true rfl, ?_⟩
    have nl3 : l3 ≠ d := (ne_of_none (by lcg_sub : _ = some (.dK [])) hl3).symm
    generalize hHd : upd (upd (upd (upd (upd H d (.dK [])) l1 (.lst ((ns.drop a.toNat).map V.int))) l2 (.lst [.int 0, .int 0])) l3 (.lst ((ns.drop a.toNat ++ [0, 0]).map V.int))) d (.dK (mergeK [] [(Sum.inr "r", .str (boxR b)), (Sum.inr "s", .str (boxS b)), (Sum.inr "n", .int nx)])) = Hd
    have eb := same_but hd0
    have eH : Same H Hd := by
      rw [← hHd]
      exact Same.trans (by k_subL) but_same
    have gd : Hd d = some (.dK (mergeK [] [(Sum.inr "r", .str (boxR b)), (Sum.inr "s", .str (boxS b)), (Sum.inr "n", .int nx)])) := by
      rw [← hHd]
      exact upd_same
    clear hHd hl1 hl2 hl3 nl3 hc1
    k_caught0
    refine ⟨by k_caughtN0, fun p3 hp3 => ?_⟩
    k_caught0
    refine R.lc ?_
    k_caught0
    refine R.lcS (fS b nx) (sh_size sh) (fun _ => rfl) ?_ ?_
    · intro cc H' hcc e2 Q' q'
      k_caught0
      have gd' : H' d = some (.dK (mergeK [] [(Sum.inr "r", .str (boxR b)), (Sum.inr "s", .str (boxS b)), (Sum.inr "n", .int nx)])) := e2 _ _ (upd_get hp3 gd)
      rcases sh_cps sh cc hcc with rfl | rfl | rfl
      · exact R.dgetV (k := Sum.inr "r") gd' rfl rfl q'
      · exact R.dgetV (k := Sum.inr "s") gd' rfl rfl q'
      · exact R.dgetV (k := Sum.inr "n") gd' rfl rfl q'
    intro D H' hD e2 hDl
    k_caught0
    have hp3' : H' p3 = some (.tup [.str wd]) := e2 _ _ upd_same
    have eH' : Same H H' := by k_subL
    refine R.tupL (SqL.of hDl) ?_
    intro p4 hp4
    have hDp := fS_dp (K := K) (H := upd H' p4 (.tup ((shS sh).cps.toList.map (fS b nx)))) b nx sh
    have eD : atD (rowAt ns a) = .tuple [.tuple (.str wd :: restD b nx sh), .int (1 + if isN sh = true then 1 else 0)] := by
      rw [rowAt_in hin hb1, isLong_dec hd]
      cases hn : isN sh with
      | true =>
        have h3 : a + 1 < ns.length := by
          have : ¬ a + 1 = ns.length := fun z => hN ⟨hn, z⟩
          omega
        have h4 : ns.getD (a.toNat + 1) 0 = nx := by
          rw [List.getElem?_append_left (by rw [List.length_drop]; show 1 < _; omega), List.getElem?_drop] at hnx
          rw [List.getD_eq_getElem?_getD, show a.toNat + 1 = a.toNat + Int.toNat 1 from rfl, hnx]
          rfl
        rw [if_pos rfl, if_pos h3, h4, rowD_dec hd]
        rfl
      | false =>
        rw [if_neg Bool.false_ne_true, rowD_dec hd, restD_n (m := nx) hn]
        rfl
    have q2 := q
    rw [eD] at q2
    refine R.catT (xs := [.str wd]) (ys := (shS sh).cps.toList.map (fS b nx)) (SqT.of (upd_get hp4 hp3')) (SqT.of upd_same) (List.cons_ne_nil _ _) ?_ ?_ ?_
    · rw [List.length_map]
      exact sh_size1 sh
    · intro hys
      k_caught0
      show ([_, V.int (1 + if (!(Builtin.Str.occurrences (shS sh) "n" 0 (shS sh).length 1).isEmpty) = true then 1 else 0)] : List V).length ≤ sizeLine ∧ _
      rw [n_in]
      refine ⟨by k_caughtN0, fun p5 hp5 => q2 _ _ (by k_subL) (.tup (SqT.of upd_same) (.cons (.tup (xs := [.str wd]) (SqT.of ?_) (.cons (.str _) ?_)) (.cons (.int _) .nil)))⟩
      · exact upd_get hp5 (upd_get hp4 hp3')
      · refine DpAll.mono ?_ (dpAll_nil hys hDp)
        k_subL
    · intro hys p5 hp5
      k_caught0
      show ([_, V.int (1 + if (!(Builtin.Str.occurrences (shS sh) "n" 0 (shS sh).length 1).isEmpty) = true then 1 else 0)] : List V).length ≤ sizeLine ∧ _
      rw [n_in]
      refine ⟨by k_caughtN0, fun p6 hp6 => q2 _ _ (by k_subL) (.tup (SqT.of upd_same) (.cons (.tup (xs := .str wd :: (shS sh).cps.toList.map (fS b nx)) (SqT.of ?_) (.cons (.str _) ?_)) (.cons (.int _) .nil)))⟩
      · exact upd_get hp6 upd_same
      · refine DpAll.mono ?_ hDp
        k_subL
end
end Rl
namespace Rl
open PySem PySem.Spec PyProof.Rows L2
section
variable {K : PySem.W.Frag} {w : World}
theorem pure_law_right {F : Prop} (_ : F) {vs : List V} {H : Hp} {Q : VK} {E : XK} (h : sp_law_right K w vs H Q E) : t_law_right K w { nx := fun _ H' => Q .non H', rt := Q } (start N_law_right vs) H := by
  obtain ⟨t, a, c, ns, rfl, hT, ha, hc, hb, hl, q⟩ := h
  unfold t_law_right
  k_caught0
  refine ⟨⟨by omega, by omega, by omega, by omega, by omega⟩, fun l hl0 => ?_⟩
  k_caught0
  refine ⟨by k_caughtN0, fun l2 hl2 => ?_⟩
  refine R.catI (xs := R.rgI (-2) ((ns.length : Int) + 3)) (ys := [_, _]) (upd_get hl2 upd_same) upd_same ?_ ?_
  · refine Nat.le_trans (m := 2000) ?_ (by decide)
    rw [R.rgI_length]
    show _ + 2 ≤ 2000
    omega
  intro l3 hl3
  k_caught0
  have e0 : Same H (upd (upd (upd H l (.lst ((R.rgI (-2) ((ns.length : Int) + 3)).map V.int))) l2 (.lst [.int (10 ^ Int.toNat 30 - 1), .int (0 - 10 ^ Int.toNat 29)])) l3 (.lst ((R.rgI (-2) ((ns.length : Int) + 3) ++ [10 ^ Int.toNat 30 - 1, 0 - 10 ^ Int.toNat 29]).map V.int))) := by k_subL
  refine R.forLI (ns := R.rgI (-2) ((ns.length : Int) + 3) ++ [10 ^ Int.toNat 30 - 1, 0 - 10 ^ Int.toNat 29]) (fun i σ H' => (∃ v, σ = [some (.ref t), some (.ref a), some c, v]) ∧ Same (upd (upd (upd H l (.lst ((R.rgI (-2) ((ns.length : Int) + 3)).map V.int))) l2 (.lst [.int (10 ^ Int.toNat 30 - 1), .int (0 - 10 ^ Int.toNat 29)])) l3 (.lst ((R.rgI (-2) ((ns.length : Int) + 3) ++ [10 ^ Int.toNat 30 - 1, 0 - 10 ^ Int.toNat 29]).map V.int))) H') (SqL.of upd_same) ⟨⟨_, rfl⟩, Same.refl _⟩ (fun i σ H' _ z => SqL.of (z.2 _ _ upd_same)) ?_ ?_
  · rintro i n σ H1 hn hm hi ⟨⟨v, rfl⟩, e1⟩
    have e2 : Same H H1 := by k_subL
    k_caught0
    refine ⟨c, ns, n, rfl, hc.mono e2, hb, fun v1 H2 e3 hv1 => ?_⟩
    k_caught0
    refine ⟨t, a, ns, n, rfl, hT.mono (by k_subL), SqL.mono (by k_subL) ha, hb, by omega, fun v2 H3 e4 hv2 => ?_⟩
    k_caught0
    refine ⟨v1, v2, _, rfl, Dp.mono e4 hv1, hv2, nrw_at _ _, fun H4 e5 => ?_⟩
    k_caught0
    exact ⟨⟨_, rfl⟩, by k_subL⟩
  · rintro σ H1 ⟨⟨v, rfl⟩, e1⟩
    have e2 : Same H H1 := by k_subL
    k_caught0
    have fin : ∀ l4, H1 l4 = none → rEqA K (.ref l4) (.ref a) (upd H1 l4 (.lst (ns.map V.int))) Q := by
      intro l4 hl4
      refine R.eqD (SqL.ints (SqL.of upd_same)) (SqL.ints (SqL.mono (by k_subL) ha)) (shaped_ints ns) (shaped_ints ns) ?_
      rw [eqv_ints]
      exact q _ (by k_subL)
    obtain ⟨p, rfl, hc | hc⟩ := hc
    · exact R.listL (SqL.mono e2 hc) fun l4 hl4 => R.var (fin l4 hl4)
    · exact R.listT (SqT.mono e2 hc) fun l4 hl4 => R.var (fin l4 hl4)
theorem By.set {ds : List Int} {k : Nat} {v : Int} (h : By ds) (h0 : 0 ≤ v) (h1 : v < 256) : By (ds.set k v) := fun n hn => by
  rcases List.mem_or_eq_of_mem_set hn with z | z
  · exact h n z
  · rw [z]
    exact ⟨h0, h1⟩
theorem By.take_add {ds : List Int} {k : Nat} {v : Int} (h : By ds) (h0 : 0 ≤ v) (h1 : v < 256) : By (ds.take k ++ [v]) := fun n hn => by
  rcases List.mem_append.mp hn with z | z
  · exact h n (List.mem_of_mem_take z)
  · rw [List.mem_singleton.mp z]
    exact ⟨h0, h1⟩
theorem pure_law {F : Prop} (_ : F) {vs : List V} {H : Hp} {Q : VK} {E : XK} (h : sp_law K w vs H Q E) : t_law K w { nx := fun _ H' => Q .non H', rt := Q } (start N_law vs) H := by
  obtain ⟨s, ns, rfl, hs, hl, q⟩ := h
  unfold t_law
  k_caught0
  refine ⟨s, ns, rfl, hs, hl, fun r H1 e1 nr hR => ?_⟩
  k_caught0
  refine ⟨rfl, fun t H2 e2 nt hT => ?_⟩
  obtain ⟨B, hBr, hB, hTB, hsB⟩ : ∃ B, B r = none ∧ Same B H2 ∧ Tab B t tabT ∧ SqL K B s (ns.map V.int) := by
    obtain ⟨o, ho⟩ := hR.isL
    exact ⟨but r H2, but_none, but_same, hT.but (hR.ne nt) (e2 _ _ ho), SqL.mono (Same.trans (same_but nr) (Same.but (Same.trans e1 e2))) hs⟩
  replace hR := hR.keep e2
  clear e1 e2 hT nt nr hs H1
  k_caught0
  refine R.rng1v (by decide) (by decide) ?_
  refine R.forR (fun i σ H' => (∃ v3 v4 v5 v6 v7 v8 v9, σ = [some (.ref s), some (.ref r), some (.ref t), v3, v4, v5, v6, v7, v8, v9]) ∧ Same B H' ∧ Reel H' r S0) ⟨⟨_, _, _, _, _, _, _, rfl⟩, hB, hR⟩ ?_ ?_
  · clear hB hR
    rintro i σ H1 hi ⟨⟨v3, v4, v5, v6, v7, v8, v9, rfl⟩, hB, hR⟩
    have hi256 : i < 256 := hi
    k_caught0
    refine R.lc ?_
    k_caught0
    refine ⟨r, 6, S0, rfl, hR, by decide, by decide, fun n H2 f1 hR1 n0 n6 => ?_⟩
    k_caught0
    refine R.rng1v (by omega) (by omega) ?_
    refine lcDraws (fun v => 0 ≤ v ∧ v < 256) hR1 (Nat.lt_of_le_of_lt (m := 10) (by omega) (by decide)) (fun _ => rfl) ?_ ?_
    · intro i D H' hi hD f r' Q' q'
      k_caught0
      exact ⟨r, 256, _, rfl, r', by decide, by decide, fun v H'' f2 r2 h0 h1 => q' v H'' f2 r2 ⟨h0, h1⟩⟩
    intro D H3 ds hD nD f2 hR2 hDl hlen hP
    have hB2 : Same B H2 := by k_subL
    have nBD : B D = none := hB2.free hD
    k_caught0
    refine ⟨r, _, _, rfl, hR2, by omega, by omega, fun at' H4 f3 hR3 a0 a1 => ?_⟩
    k_caught0
    refine R.setLI (by lcg_sub : H4 D = some (.lst (ds.map V.int))) a0 a1 ?_
    have hB4 : Same B H4 := by k_subL
    have hR4 := hR3.mut (o := .lst ((ds.set at'.toNat (0 + (i : Int))).map V.int)) (.inl rfl)
    have hBy : By ds := hP
    have hlen2 : (ds.set at'.toNat (0 + (i : Int))).length = ds.length := List.length_set
    k_caught0
    refine R.slToI (SqL.of upd_same) a0 ?_
    intro l1 hl1
    k_caught0
    refine ⟨by k_caughtN0, fun l2 hl2 => ?_⟩
    refine R.catI (xs := (ds.set at'.toNat (0 + (i : Int))).take at'.toNat) (ys := [0 + (i : Int)]) (by lcg_sub) upd_same ?_ ?_
    · refine Nat.le_trans (m := 2000) ?_ (by decide)
      rw [List.length_take]
      show _ + 1 ≤ 2000
      omega
    intro l3 hl3
    k_caught0
    refine ⟨by k_caughtN0, fun l4 hl4 => ?_⟩
    generalize hH5 : upd (upd _ l3 _) l4 _ = H5
    have g4 : H5 l4 = some (.lst [.ref D, .ref l3]) := by
      rw [← hH5]
      exact upd_same
    have g3 : H5 l3 = some (.lst (((ds.set at'.toNat (0 + (i : Int))).take at'.toNat ++ [0 + (i : Int)]).map V.int)) := by
      rw [← hH5]
      exact upd_get hl4 upd_same
    have gD : H5 D = some (.lst ((ds.set at'.toNat (0 + (i : Int))).map V.int)) := by
      rw [← hH5]
      lcg_sub
    have hB5 : Same B H5 := by
      rw [← hH5]
      k_subL
    have hR5 : Reel H5 r (S1 D S0) := by
      rw [← hH5]
      refine hR4.keep ?_
      k_subL
    have hi0 : 0 ≤ 0 + (i : Int) := by omega
    have hi1 : 0 + (i : Int) < 256 := by omega
    clear hH5 hl4 hl3 hl2 hl1 hR4 hR3 hR2 hDl f3 f2 f1 hR1 hR hB hB4 hB2
    refine R.forL (xs := [.ref D, .ref l3]) (fun j σ H' => (∃ v3 v4 v5 v7 v8 v9, σ = [some (.ref s), some (.ref r), some (.ref t), v3, v4, v5, some (.int at'), v7, v8, v9]) ∧ Same H5 H') (SqL.of g4) ⟨⟨_, _, _, _, _, _, rfl⟩, Same.refl _⟩ (fun i σ H' _ z => SqL.of (z.2 _ _ g4)) ?_ ?_
    · rintro j x σ H6 hx hj ⟨⟨v3, v4, v5, v7, v8, v9, rfl⟩, e5⟩
      obtain ⟨p, ms, rfl, gp, hms, hml⟩ : ∃ p ms, x = .ref p ∧ SqL K H5 p (ms.map V.int) ∧ By ms ∧ ms.length ≤ 1000 := by
        match j, hj, hx with
        | 0, _, hx => exact ⟨D, _, (Option.some.inj hx).symm, SqL.of gD, hBy.set hi0 hi1, by omega⟩
        | 1, _, hx =>
          refine ⟨l3, _, (Option.some.inj hx).symm, SqL.of g3, (hBy.set hi0 hi1).take_add hi0 hi1, ?_⟩
          rw [List.length_append, List.length_take]
          show _ + 1 ≤ 1000
          omega
      k_caught0
      refine ⟨.ref p, ms, at', rfl, SqL.code (SqL.mono e5 gp), hms, fun v1 H7 e6 hv1 => ?_⟩
      k_caught0
      refine ⟨t, p, ms, at', rfl, hTB.mono (by k_subL), SqL.mono (by k_subL) gp, hms, by omega, fun v2 H8 e7 hv2 => ?_⟩
      k_caught0
      refine ⟨v1, v2, _, rfl, Dp.mono e7 hv1, hv2, nrw_at _ _, fun H9 e8 => ?_⟩
      k_caught0
      exact ⟨⟨_, _, _, _, _, _, rfl⟩, by k_subL⟩
    · rintro σ H6 ⟨⟨v3, v4, v5, v7, v8, v9, rfl⟩, e5⟩
      exact ⟨⟨_, _, _, _, _, _, _, rfl⟩, by k_subL, (hR5.keep e5).zero⟩
  clear hB hR
  rintro σ H1 ⟨⟨v3, v4, v5, v6, v7, v8, v9, rfl⟩, hB, hR⟩
  have hs1 : SqL K H1 s (ns.map V.int) := SqL.mono hB hsB
  k_caught0
  refine R.rng1v (by split <;> omega) (by split <;> omega) ?_
  refine R.forR (fun i σ H' => (∃ v3 v4 v5 v6 v7 v8 v9, σ = [some (.ref s), some (.ref r), some (.ref t), v3, v4, v5, v6, v7, v8, v9]) ∧ Same B H' ∧ Reel H' r S0) ⟨⟨_, _, _, _, _, _, _, rfl⟩, hB, hR⟩ ?_ ?_
  · clear hB hR hs1
    rintro i σ H1 hi ⟨⟨v3, v4, v5, v6, v7, v8, v9, rfl⟩, hB, hR⟩
    k_caught0
    refine R.lc ?_
    k_caught0
    refine ⟨by k_caughtN0, fun l1 hl1 => ?_⟩
    k_caught0
    refine ⟨r, 2, S0, rfl, hR.keep (same_upd hl1), by decide, by decide, fun n H2 f1 hR1 n0 n6 => ?_⟩
    have nl1 : l1 ≠ r := hR.ne hl1
    refine R.ixLI (ns := [12, 200]) (SqL.of (f1.at nl1 upd_same)) n0 n6 ?_
    intro m hm hmm
    have hm2 : 12 ≤ m ∧ m ≤ 200 := by
      rcases List.mem_cons.mp hmm with z | z
      · omega
      · have := List.mem_singleton.mp z
        omega
    k_caught0
    refine ⟨r, m, S0, rfl, hR1, by omega, by omega, fun n2 H3 f2 hR2 p0 p1 => ?_⟩
    k_caught0
    refine R.rng1v (by omega) (by omega) ?_
    refine lcDraws (fun v => 0 ≤ v ∧ v < 256) hR2 (Nat.lt_of_le_of_lt (m := 300) (by omega) (by decide)) (fun _ => rfl) ?_ ?_
    · intro i D H' hi hD f r' Q' q'
      k_caught0
      exact ⟨r, 256, _, rfl, r', by decide, by decide, fun v H'' f2 r2 h0 h1 => q' v H'' f2 r2 ⟨h0, h1⟩⟩
    intro D H4 ds hD nD f3 hR3 hDl hlen hP
    have hBy : By ds := hP
    have hB4 : Same B H4 := by k_subL
    replace hR3 := hR3.zero
    clear hR2 f2 f3 f1 hR1 hl1 hR hB hD
    k_caught0
    refine R.tupL (SqL.of hDl) ?_
    intro l2 hl2
    k_caught0
    refine ⟨by k_caughtN0, fun l3 hl3 => ?_⟩
    k_caught0
    refine ⟨r, 2, S0, rfl, hR3.keep (by k_subL), by decide, by decide, fun n3 H5 f4 hR4 p2 p3 => ?_⟩
    have nl2 : l2 ≠ r := hR3.ne hl2
    have nl3 : l3 ≠ r := (hR3.keep (same_upd hl2)).ne hl3
    have hB5 : Same B H5 := by k_subL
    have gD : H5 D = some (.lst (ds.map V.int)) := by lcg_sub
    have g2 : H5 l2 = some (.tup (ds.map V.int)) := by lcg_sub
    refine R.ixLV (xs := [.ref D, .ref l2]) (SqL.of (f4.at nl3 upd_same)) p2 p3 ?_
    intro c _ hc
    have hC : Code K H5 c ds := by
      rcases List.mem_cons.mp hc with z | z
      · rw [z]
        exact SqL.code (SqL.of gD)
      · rw [List.mem_singleton.mp z]
        exact SqT.code (SqT.of g2)
    clear f4 hl3 hl2 hR3 hB4 hDl nl3 nl2
    k_caught0
    refine ⟨t, D, c, ds, rfl, hTB.mono hB5, SqL.of gD, hC, hBy, by omega, fun H6 e6 => ?_⟩
    have gD6 := e6 _ _ gD
    k_caught0
    refine ⟨r, _, S0, rfl, hR4.keep e6, by omega, by omega, fun at' H7 f7 hR7 a0 a1 => ?_⟩
    have gD7 : H7 D = some (.lst (ds.map V.int)) := by lcg_sub
    have hB7 : Same B H7 := by k_subL
    clear f7 hR4 gD6 e6 hC g2 gD hB5
    k_caught0
    refine R.listL (SqL.of gD7) ?_
    intro h hh
    have nh : h ≠ r := hR7.ne hh
    have nBh : B h = none := hB7.free hh
    have hR8 := hR7.add (o := .lst (ds.map V.int)) hh
    k_caught0
    refine ⟨t, D, .ref h, ds, rfl, hTB.mono (by k_subL), SqL.of (upd_get hh gD7), SqL.code (SqL.of upd_same), hBy, by omega, fun H8 e8 => ?_⟩
    have gh8 : H8 h = some (.lst (ds.map V.int)) := e8 _ _ upd_same
    have hB8 : Same B H8 := by k_subL
    replace hR8 := hR8.keep e8
    clear e8 gD7 hB7 hR7 hh
    k_caught0
    refine R.ixLI (SqL.of gh8) a0 a1 ?_
    intro b _ hb
    have hb2 := hBy b hb
    k_caught0
    refine ⟨r, 256, _, rfl, hR8, by decide, by decide, fun n4 H9 f9 hR9 b0 b1 => ?_⟩
    k_caught0
    refine ⟨by k_caughtN0, fun l5 hl5 => ?_⟩
    have nl5 : l5 ≠ r := hR9.ne hl5
    k_caught0
    refine ⟨r, 2, _, rfl, hR9.keep (same_upd hl5), by decide, by decide, fun n5 H10 f10 hR10 c0 c1 => ?_⟩
    refine R.ixLI (ns := [255 - b, n4]) (SqL.of (f10.at nl5 upd_same)) c0 c1 ?_
    intro v _ hv
    have hv2 : 0 ≤ v ∧ v < 256 := by
      rcases List.mem_cons.mp hv with z | z
      · omega
      · have := List.mem_singleton.mp z
        omega
    have gh10 : H10 h = some (.lst (ds.map V.int)) := by lcg_sub
    have hB10 : Same B H10 := by k_subL
    clear f10 hl5 f9 hR9 hB8 gh8 hR8
    k_caught0
    refine R.setLI gh10 a0 a1 ?_
    have hR11 := hR10.mut (o := .lst ((ds.set at'.toNat v).map V.int)) (.inl rfl)
    have hlen2 : (ds.set at'.toNat v).length = ds.length := List.length_set
    k_caught0
    refine R.listL (SqL.of upd_same) ?_
    intro l6 hl6
    k_caught0
    refine ⟨t, l6, .ref h, ds.set at'.toNat v, rfl, hTB.mono (by k_subL), SqL.of upd_same, SqL.code (SqL.of (upd_get hl6 upd_same)), hBy.set hv2.1 hv2.2, by omega, fun H12 e12 => ?_⟩
    k_caught0
    exact ⟨⟨_, _, _, _, _, _, _, rfl⟩, by k_subL, ((hR11.keep (same_upd hl6)).keep e12).zero⟩
  · rintro σ H1 ⟨⟨v3, v4, v5, v6, v7, v8, v9, rfl⟩, hB, hR⟩
    k_caught0
    exact q _
end
end Rl
namespace Rl
open PySem PySem.Spec PyProof.Rows L2
/-! ## the walk of each def -/
def top (i : Nat) : Stmt := PySem.Challenge.pw_rowlift_k01_rows_of_bytes.main.body.getD i (.Pass ⟨0, 0, 0, 0⟩)
abbrev s_short_row : Stmt := top 9
abbrev s_long_row : Stmt := top 10
abbrev s_row_at : Stmt := top 11
abbrev s_law_reel : Stmt := top 13
abbrev s_law_draw : Stmt := top 14
abbrev s_law_alike : Stmt := top 15
abbrev s_law_table : Stmt := top 16
abbrev s_law_row : Stmt := top 17
abbrev s_law_right : Stmt := top 18
abbrev s_law : Stmt := top 19

structure Bl (mg : Str → Option Value) : Prop where
  b_all : mg "all" = none
  b_bool : mg "bool" = none
  b_enumerate : mg "enumerate" = none
  b_int : mg "int" = none
  b_isinstance : mg "isinstance" = none
  b_len : mg "len" = none
  b_list : mg "list" = none
  b_min : mg "min" = none
  b_range : mg "range" = none
  b_str : mg "str" = none
  b_tuple : mg "tuple" = none
  b_zip : mg "zip" = none
structure Cn (K : PySem.W.Frag) (mg : Str → Option Value) : Prop where
  c_ALONE : mg "ALONE" = some (.ref (He.ga K "ALONE"))
  c_BOXES : ∃ t, mg "BOXES" = some (.str "abcd" t)
  c_JUMPS : ∃ t, mg "JUMPS" = some (.int 14 t)
  c_SINGLE : mg "SINGLE" = some (.ref (He.ga K "SINGLE"))
  c_SINGLES : ∃ t, mg "SINGLES" = some (.int 15 t)
  c_TARGETS : mg "TARGETS" = some (.ref (He.ga K "TARGETS"))
  c_WORDS_OF_NUMBERED : mg "WORDS_OF_NUMBERED" = some (.ref (He.ga K "WORDS_OF_NUMBERED"))
  c_WORDS_OF_PAIRS : mg "WORDS_OF_PAIRS" = some (.ref (He.ga K "WORDS_OF_PAIRS"))

section
variable {P : Program} {w : World} {K : PySem.W.Frag} {mg : Str → Option Value} {base : Heap}
theorem sc_short_row : FnScope N_short_row ["first"] (defScope s_short_row) := ⟨rfl, rfl, rfl, by decide +kernel, rfl, by decide +kernel, by decide +kernel⟩
theorem cl_short_row (B : Bl mg) (C : Cn K mg) (F : MachC K w) {f : Addr} {fd : FuncData} (D : FnP K "short_row" s_short_row f fd) (hm : mg "short_row" = some (.ref f)) (hb : Binds K fd ["first"] []) : Cl P w K mg base 1 "short_row" (sp_short_row K w) :=
  cl_of D hm hb sc_short_row (fun vs H Q E h => len_short_row h) fun cdv A outer s H vs Q E hr h => ⟨t_short_row K w, PSs.nox (pss_cons (ps_par3 (i := 1) (j := 2) (l := 3) (by rfl) sc_short_row.nd rfl rfl rfl (by decide) (by decide) (by decide) rfl rfl rfl (pa_cons (pe_op op_shrA (pv 0) pe_int) (pa_cons (pe_ix ix_seq (pe_gcn rfl C.c_BOXES) (pe_op op_andA (pe_op op_shrA (pv 0) pe_int) pe_int) (fun _ _ => rfl)) (pa_cons (pe_op op_andA (pv 0) pe_int) pa_nil))) (by rfl))
      (pss_cons (ps_if (pt_cmpR op_ltA (pv 0) (pe_callB call_lenA (by rfl) B.b_len (by decide +kernel) (pa_cons (pe_glob rfl C.c_ALONE rfl) pa_nil)) (nomark _))
      (pss_one (ps_ret (pe_tup (pa_cons (pe_ix ix_seq (pe_glob rfl C.c_ALONE rfl) (pv 0) (fun _ _ => rfl)) pa_nil))))
      pss_nil)
      (pss_cons (ps_if (pt_cmpR (op_eqA hr.units) (pv 1) (pe_gcn rfl C.c_SINGLES) (nomark _))
      (pss_one (ps_ret (pe_tup (pa_cons (pe_ix ix_seq (pe_glob rfl C.c_SINGLE rfl) (pv 3) (fun _ _ => rfl)) (pa_cons (pv 2) pa_nil)))))
      pss_nil)
      (pss_cons (ps_if (pt_cmpR op_inKD (pv 1) (pe_glob rfl C.c_WORDS_OF_PAIRS rfl) rfl)
      (pss_one (ps_ret (pe_tup (pa_cons (pe_ix ix_KD (pe_glob rfl C.c_WORDS_OF_PAIRS rfl) (pv 1) (fun _ _ => rfl)) (pa_cons (pv 2) (pa_cons (pe_ix ix_seq (pe_gcn rfl C.c_BOXES) (pv 3) (fun _ _ => rfl)) pa_nil))))))
      pss_nil)
      (pss_one (ps_ret pe_non)))))), pure_short_row F h⟩

theorem sc_long_row : FnScope N_long_row ["first", "n"] (defScope s_long_row) := ⟨rfl, rfl, rfl, by decide +kernel, rfl, by decide +kernel, by decide +kernel⟩
theorem cl_long_row (B : Bl mg) (C : Cn K mg) (F : MachC K w) {f : Addr} {fd : FuncData} (D : FnP K "long_row" s_long_row f fd) (hm : mg "long_row" = some (.ref f)) (hb : Binds K fd ["first", "n"] []) : Cl P w K mg base 1 "long_row" (sp_long_row K w) :=
  cl_of D hm hb sc_long_row (fun vs H Q E h => len_long_row h) fun cdv A outer s H vs Q E hr h => ⟨t_long_row K w, PSs.nox (pss_cons (ps_par3 (i := 2) (j := 3) (l := 4) (by rfl) sc_long_row.nd rfl rfl rfl (by decide) (by decide) (by decide) rfl rfl rfl (pa_cons (pe_op op_shrA (pv 0) pe_int) (pa_cons (pe_ix ix_seq (pe_gcn rfl C.c_BOXES) (pe_op op_andA (pe_op op_shrA (pv 0) pe_int) pe_int) (fun _ _ => rfl)) (pa_cons (pe_op op_andA (pv 0) pe_int) pa_nil))) (by rfl))
      (pss_cons (ps_if (PW.pt (pw_and (pt_cmpR (op_eqA hr.units) (pv 2) (pe_gcn rfl C.c_JUMPS) (nomark _)) (pw_and1 (pt_cmpR op_ltA (pv 4) (pe_callB call_lenA (by rfl) B.b_len (by decide +kernel) (pa_cons (pe_glob rfl C.c_TARGETS rfl) pa_nil)) (nomark _)))))
      (pss_one (ps_ret (pe_tup (pa_cons (pe_ix ix_seq (pe_glob rfl C.c_TARGETS rfl) (pv 4) (fun _ _ => rfl)) (pa_cons (pv 1) pa_nil)))))
      pss_nil)
      (pss_cons (ps_if (PW.pt (pw_and (pt_cmpR op_inKD (pv 2) (pe_glob rfl C.c_WORDS_OF_NUMBERED rfl) rfl) (pw_and1 (pt_cmpR (op_eqA hr.units) (pe_op op_andA (pv 4) pe_int) pe_int (nomark _)))))
      (pss_one (ps_ret (pe_tup (pa_cons (pe_ix ix_KD (pe_glob rfl C.c_WORDS_OF_NUMBERED rfl) (pv 2) (fun _ _ => rfl)) (pa_cons (pv 3) (pa_cons (pv 1) pa_nil))))))
      pss_nil)
      (pss_one (ps_ret pe_non))))), pure_long_row F h⟩

theorem sc_row_at : FnScope N_row_at ["code", "address"] (defScope s_row_at) := ⟨rfl, rfl, rfl, by decide +kernel, rfl, by decide +kernel, by decide +kernel⟩
theorem cl_row_at (B : Bl mg) (C : Cn K mg) (F : MachC K w) (c_short_row : Cl P w K mg base 1 "short_row" (sp_short_row K w)) (c_long_row : Cl P w K mg base 1 "long_row" (sp_long_row K w)) {f : Addr} {fd : FuncData} (D : FnP K "row_at" s_row_at f fd) (hm : mg "row_at" = some (.ref f)) (hb : Binds K fd ["code", "address"] []) : Cl P w K mg base 2 "row_at" (sp_row_at K w) :=
  cl_of D hm hb sc_row_at (fun vs H Q E h => len_row_at h) fun cdv A outer s H vs Q E hr h => ⟨t_row_at K w, PSs.nox (pss_cons (ps_if (pt_not (pt_chain op_leA op_ltA pe_int (pv 1) (pe_callB call_lenA (by rfl) B.b_len (by decide +kernel) (pa_cons (pv 0) pa_nil))))
      (pss_one (ps_ret pe_non))
      pss_nil)
      (pss_cons (ps_set (i := 2) sc_row_at.nd rfl (.inl rfl) (pe_cl c_short_row hr (by decide) rfl (pa_cons (pe_ix ix_seq (pv 0) (pv 1) (fun _ _ => rfl)) pa_nil)))
      (pss_cons (ps_if (pt_cmpR op_notN1 (pv 2) pe_non (nomark _))
      (pss_one (ps_ret (pe_tup (pa_cons (pv 2) (pa_cons pe_int pa_nil)))))
      pss_nil)
      (pss_cons (ps_set (i := 2) sc_row_at.nd rfl (.inl rfl) (pe_ifExp (pt_cmpR op_ltA (pe_op op_addA (pv 1) pe_int) (pe_callB call_lenA (by rfl) B.b_len (by decide +kernel) (pa_cons (pv 0) pa_nil)) (nomark _)) (pe_cl c_long_row hr (by decide) rfl (pa_cons (pe_ix ix_seq (pv 0) (pv 1) (fun _ _ => rfl)) (pa_cons (pe_ix ix_seq (pv 0) (pe_op op_addA (pv 1) pe_int) (fun _ _ => rfl)) pa_nil))) pe_non))
      (pss_one (ps_ret (pe_ifExp (pt_cmpR op_notN1 (pv 2) pe_non (nomark _)) (pe_tup (pa_cons (pv 2) (pa_cons pe_int pa_nil))) pe_non))))))), pure_row_at F h⟩

theorem sc_law_reel : FnScope N_law_reel ["_law_script"] (defScope s_law_reel) := ⟨rfl, rfl, rfl, by decide +kernel, rfl, by decide +kernel, by decide +kernel⟩
theorem cl_law_reel (B : Bl mg) (C : Cn K mg) (F : MachC K w) {f : Addr} {fd : FuncData} (D : FnP K "_law_reel" s_law_reel f fd) (hm : mg "_law_reel" = some (.ref f)) (hb : Binds K fd ["_law_script"] []) : Cl P w K mg base 1 "_law_reel" (sp_law_reel K w) :=
  cl_of D hm hb sc_law_reel (fun vs H Q E h => len_law_reel h) fun cdv A outer s H vs Q E hr h => ⟨t_law_reel K w, PSs.nox (pss_cons (ps_set (i := 1) sc_law_reel.nd rfl (.inl rfl) (pe_op op_powA pe_int pe_int))
      (pss_cons (ps_for PassesOwn.never rfl (pi_seq (pe_slice sl_A (pv 0) po_none (po_some pe_int))) (pg_name (i := 2) sc_law_reel.nd rfl (.inl rfl))
      (pss_one (ps_set (i := 1) sc_law_reel.nd rfl (.inl rfl) (pe_op op_modA (pe_op op_addA (pe_op op_addA (pe_op op_mulA (pv 1) (pv 1)) (pe_op op_modA (pv 2) pe_int)) pe_int) (pe_op op_subA (pe_op op_mulA (pe_op op_powA pe_int pe_int) (pe_op op_powA pe_int pe_int)) pe_int)))))
      (pss_cons (ps_setLc (i := 3) (own := [("_law_cell", 2)]) (g := (gName 2)) rfl sc_law_reel.nd rfl rfl (sw_true rfl rfl rfl (by decide +kernel)) (pi_seq (pe_slice sl_A (pv 0) po_none (po_some pe_int))) (blkOk_by (by kernel_rfl)) (fun _ _ _ _ _ => (pg_name (i := 2) sc_law_reel.nd rfl (.inl rfl))) (fun _ _ _ _ _ => (pts_one (pt_cmpR op_geA (pv 2) (pe_op op_powA pe_int pe_int) (nomark _)))) (fun _ _ _ _ _ => (pe_op op_subA (pv 2) (pe_op op_powA pe_int pe_int))))
      (pss_one (ps_ret (pe_lst (pa_cons (pv 3) (pa_cons (pe_op op_addA (pe_lc (own := [("_law_cell", 2)]) (g := (gName 2)) rfl sc_law_reel.nd (pi_seq (pe_slice sl_A (pv 0) po_none (po_some pe_int))) (blkOk_by (by kernel_rfl)) (fun _ _ _ _ _ => (pg_name (i := 2) sc_law_reel.nd rfl (.inl rfl))) (fun _ _ _ _ _ => pts_nil) (fun _ _ _ _ _ => (pe_op op_modA (pv 2) pe_int))) (pe_lst (pa_cons pe_int pa_nil))) (pa_cons pe_int (pa_cons (pv 1) pa_nil)))))))))), pure_law_reel F h⟩

theorem sc_law_draw : FnScope N_law_draw ["_law_reel_here", "_law_many"] (defScope s_law_draw) := ⟨rfl, rfl, rfl, by decide +kernel, rfl, by decide +kernel, by decide +kernel⟩
theorem cl_law_draw (B : Bl mg) (C : Cn K mg) (F : MachC K w) {f : Addr} {fd : FuncData} (D : FnP K "_law_draw" s_law_draw f fd) (hm : mg "_law_draw" = some (.ref f)) (hb : Binds K fd ["_law_reel_here", "_law_many"] []) : Cl P w K mg base 1 "_law_draw" (sp_law_draw K w) :=
  cl_of D hm hb sc_law_draw (fun vs H Q E h => len_law_draw h) fun cdv A outer s H vs Q E hr h => ⟨t_law_draw K w, PSs.nox (pss_cons (ps_if (pt_cmpR (op_neA hr.units) (pe_ix ix_seq (pv 0) pe_int (fun _ _ => rfl)) (pe_lst pa_nil) (nomark _))
      (pss_cons (ps_set (i := 2) sc_law_draw.nd rfl (.inl rfl) (pe_ix ix_seq (pe_ix ix_seq (pv 0) pe_int (fun _ _ => rfl)) pe_int (fun _ _ => rfl)))
      (pss_cons (ps_asg (pe_op op_addA (pe_op op_mulA (pe_lst (pa_cons (pe_op op_divA (pv 2) (pv 1)) pa_nil)) (pe_callTy call_intA (by rfl) B.b_int (by decide +kernel) (pa_cons (pe_cmpR op_geA (pv 2) (pv 1) (nomark _)) pa_nil))) (pe_slice sl_A (pe_ix ix_seq (pv 0) pe_int (fun _ _ => rfl)) (po_some pe_int) po_none)) (pg_sub (pv 0) pe_int set_list))
      (pss_one (ps_ret (pe_op op_modA (pv 2) (pv 1))))))
      pss_nil)
      (pss_cons (ps_asg (pe_op op_addA (pe_ix ix_seq (pv 0) pe_int (fun _ _ => rfl)) pe_int) (pg_sub (pv 0) pe_int set_list))
      (pss_cons (ps_set (i := 3) sc_law_draw.nd rfl (.inl rfl) (pe_ix ix_seq (pe_ix ix_seq (pv 0) pe_int (fun _ _ => rfl)) (pe_op op_modA (pe_ix ix_seq (pv 0) pe_int (fun _ _ => rfl)) (pe_callB call_lenA (by rfl) B.b_len (by decide +kernel) (pa_cons (pe_ix ix_seq (pv 0) pe_int (fun _ _ => rfl)) pa_nil))) (fun _ _ => rfl)))
      (pss_cons (ps_set (i := 4) sc_law_draw.nd rfl (.inl rfl) (pe_op op_addA (pe_op op_addA (pe_op op_mulA (pe_ix ix_seq (pv 0) pe_int (fun _ _ => rfl)) (pe_ix ix_seq (pv 0) pe_int (fun _ _ => rfl))) (pe_op op_mulA (pe_op op_addA (pv 3) pe_int) pe_int)) (pe_op op_mulA (pe_ix ix_seq (pv 0) pe_int (fun _ _ => rfl)) pe_int)))
      (pss_cons (ps_asg (pe_op op_modA (pv 4) (pe_op op_subA (pe_op op_mulA (pe_op op_powA pe_int pe_int) (pe_op op_powA pe_int pe_int)) pe_int)) (pg_sub (pv 0) pe_int set_list))
      (pss_one (ps_ret (pe_op op_modA (pe_op op_divA (pe_ix ix_seq (pv 0) pe_int (fun _ _ => rfl)) (pe_op op_powA pe_int pe_int)) (pv 1))))))))), pure_law_draw F h⟩

theorem sc_law_alike : FnScope N_law_alike ["_law_found", "_law_due"] (defScope s_law_alike) := ⟨rfl, rfl, rfl, by decide +kernel, rfl, by decide +kernel, by decide +kernel⟩
theorem clr_law_alike (B : Bl mg) (C : Cn K mg) (F : MachC K w) {f : Addr} {fd : FuncData} (D : FnP K "_law_alike" s_law_alike f fd) (hm : mg "_law_alike" = some (.ref f)) (hb : Binds K fd ["_law_found", "_law_due"] []) : ∀ n, Cl P w K mg base (0 + n) "_law_alike" (spA K w n)
  | 0 => ⟨f, fd, _, ⟨fun vs H Q E h => h.elim, fun A outer s H args us vs Q E hr he hb hv h => h.elim⟩, hm, D.kp, hb⟩
  | n + 1 =>
    have c_rec := clr_law_alike B C F D hm hb n
    cl_of (k := 0 + n) D hm hb sc_law_alike (fun vs H Q E h => len_law_alike h) fun cdv A outer s H vs Q E hr h => ⟨t_law_alike K w (spA K w n), PSs.nox (pss_cons (ps_if (PW.pt (pw_or (pt_val (pe_callB call_isi (by rfl) B.b_isinstance (by decide +kernel) (pa_cons (pv 1) (pa_cons (pe_bltn (v := .ty "tuple") rfl B.b_tuple rfl rfl) pa_nil))) (by intro _; rfl)) (pw_or1 (pt_val (pe_callB call_isi (by rfl) B.b_isinstance (by decide +kernel) (pa_cons (pv 1) (pa_cons (pe_bltn (v := .ty "list") rfl B.b_list rfl rfl) pa_nil))) (by intro _; rfl)))))
      (pss_cons (ps_if (PW.pt (pw_or (pt_cmpR (op_neA hr.units) (pe_callB call_isi (by rfl) B.b_isinstance (by decide +kernel) (pa_cons (pv 0) (pa_cons (pe_bltn (v := .ty "tuple") rfl B.b_tuple rfl rfl) pa_nil))) (pe_callB call_isi (by rfl) B.b_isinstance (by decide +kernel) (pa_cons (pv 1) (pa_cons (pe_bltn (v := .ty "tuple") rfl B.b_tuple rfl rfl) pa_nil))) (nomark _)) (pw_or1 (pt_cmpR (op_neA hr.units) (pe_callB call_isi (by rfl) B.b_isinstance (by decide +kernel) (pa_cons (pv 0) (pa_cons (pe_bltn (v := .ty "list") rfl B.b_list rfl rfl) pa_nil))) (pe_callB call_isi (by rfl) B.b_isinstance (by decide +kernel) (pa_cons (pv 1) (pa_cons (pe_bltn (v := .ty "list") rfl B.b_list rfl rfl) pa_nil))) (nomark _)))))
      (pss_one (ps_ret pe_bl))
      pss_nil)
      (pss_cons (ps_if (pt_cmpR (op_neA hr.units) (pe_callB call_lenA (by rfl) B.b_len (by decide +kernel) (pa_cons (pv 0) pa_nil)) (pe_callB call_lenA (by rfl) B.b_len (by decide +kernel) (pa_cons (pv 1) pa_nil)) (nomark _))
      (pss_one (ps_ret pe_bl))
      pss_nil)
      (pss_one (ps_ret (pe_callB (cr_all rfl) (by rfl) B.b_all (by decide +kernel) (pa_cons (pe_lc (own := [("_law_mine", 2), ("_law_other", 3)]) (g := (gTup K 2 (gCons (gName 2) (gCons (gName 3) gNil)))) rfl sc_law_alike.nd (RZ.pi_zipA rfl B.b_zip (pa_cons (pv 0) (pa_cons (pv 1) pa_nil))) (blkOk_by (by kernel_rfl)) (fun _ _ _ _ _ => (pg_tup rfl (pgs_cons (pg_name (i := 2) sc_law_alike.nd rfl (.inl rfl)) (pgs_cons (pg_name (i := 3) sc_law_alike.nd rfl (.inl rfl)) pgs_nil)))) (fun _ _ _ _ _ => pts_nil) (fun _ _ _ _ _ => (pe_cl c_rec hr (Nat.le_refl _) rfl (pa_cons (pv 2) (pa_cons (pv 3) pa_nil))))) pa_nil))))))
      pss_nil)
      (pss_cons (ps_if (pt_cmpR op_isN1 (pv 1) pe_non (nomark _))
      (pss_one (ps_ret (pe_cmpR op_isN1 (pv 0) pe_non (nomark _))))
      pss_nil)
      (pss_cons (ps_if (PW.pt (pw_or (pt_val (pe_callB call_isi (by rfl) B.b_isinstance (by decide +kernel) (pa_cons (pv 1) (pa_cons (pe_bltn (v := .ty "bool") rfl B.b_bool rfl rfl) pa_nil))) (by intro _; rfl)) (pw_or1 (pt_val (pe_callB call_isi (by rfl) B.b_isinstance (by decide +kernel) (pa_cons (pv 1) (pa_cons (pe_bltn (v := .ty "str") rfl B.b_str rfl rfl) pa_nil))) (by intro _; rfl)))))
      (pss_one (ps_ret (pe_and (pe_cmpR (op_eqA hr.units) (pe_callB call_isi (by rfl) B.b_isinstance (by decide +kernel) (pa_cons (pv 0) (pa_cons (pe_bltn (v := .ty "bool") rfl B.b_bool rfl rfl) pa_nil))) (pe_callB call_isi (by rfl) B.b_isinstance (by decide +kernel) (pa_cons (pv 1) (pa_cons (pe_bltn (v := .ty "bool") rfl B.b_bool rfl rfl) pa_nil))) (nomark _)) (pe_one (pe_cmpR (op_eqA hr.units) (pv 0) (pv 1) (nomark _))))))
      pss_nil)
      (pss_one (ps_ret (pe_and (pe_callB call_isi (by rfl) B.b_isinstance (by decide +kernel) (pa_cons (pv 0) (pa_cons (pe_bltn (v := .ty "int") rfl B.b_int rfl rfl) pa_nil))) (pe_and (pe_not (pe_callB call_isi (by rfl) B.b_isinstance (by decide +kernel) (pa_cons (pv 0) (pa_cons (pe_bltn (v := .ty "bool") rfl B.b_bool rfl rfl) pa_nil)))) (pe_one (pe_cmpR (op_eqA hr.units) (pv 0) (pv 1) (nomark _)))))))))), pure_law_alike F h⟩
theorem cl_law_alike (B : Bl mg) (C : Cn K mg) (F : MachC K w) {f : Addr} {fd : FuncData} (D : FnP K "_law_alike" s_law_alike f fd) (hm : mg "_law_alike" = some (.ref f)) (hb : Binds K fd ["_law_found", "_law_due"] []) : Cl P w K mg base 4 "_law_alike" (sp_law_alike K w) :=
  clr_law_alike B C F D hm hb 4

theorem sc_law_table : FnScope N_law_table [] (defScope s_law_table) := ⟨rfl, rfl, rfl, by decide +kernel, rfl, by decide +kernel, by decide +kernel⟩
theorem cl_law_table (B : Bl mg) (C : Cn K mg) (F : MachC K w) {f : Addr} {fd : FuncData} (D : FnP K "_law_table" s_law_table f fd) (hm : mg "_law_table" = some (.ref f)) (hb : Binds K fd [] []) : Cl P w K mg base 1 "_law_table" (sp_law_table K w) :=
  cl_of D hm hb sc_law_table (fun vs H Q E h => len_law_table h) fun cdv A outer s H vs Q E hr h => ⟨t_law_table K w, PSs.nox (pss_cons (ps_set (i := 0) sc_law_table.nd rfl (.inl rfl) (pe_op op_mulA (pe_lst (pa_cons pe_non pa_nil)) pe_int))
      (pss_cons (ps_for PassesOwn.never rfl (pi_enum rfl B.b_enumerate (pa_cons (pe_lst (pa_cons pe_str (pa_cons pe_str (pa_cons pe_str pa_nil)))) pa_nil)) (pg_tup rfl (pgs_cons (pg_name (i := 1) sc_law_table.nd rfl (.inl rfl)) (pgs_cons (pg_name (i := 2) sc_law_table.nd rfl (.inl rfl)) pgs_nil)))
      (pss_one (ps_asg (pe_tup (pa_cons (pv 2) (pa_cons pe_str pa_nil))) (pg_sub (pv 0) (pv 1) set_list))))
      (pss_cons (ps_for PassesOwn.never rfl (pi_enum rfl B.b_enumerate (pa_cons (pe_lst (pa_cons pe_str (pa_cons pe_str (pa_cons pe_str (pa_cons pe_str (pa_cons pe_str (pa_cons pe_str (pa_cons pe_str (pa_cons pe_str (pa_cons pe_str (pa_cons pe_str pa_nil))))))))))) pa_nil)) (pg_tup rfl (pgs_cons (pg_name (i := 1) sc_law_table.nd rfl (.inl rfl)) (pgs_cons (pg_name (i := 2) sc_law_table.nd rfl (.inl rfl)) pgs_nil)))
      (pss_one (ps_for PassesOwn.never rfl (pi_range1 rfl B.b_range (pa_cons (pe_op op_mulA pe_int (pe_callTy call_intA (by rfl) B.b_int (by decide +kernel) (pa_cons (pe_cmpR (op_neA hr.units) (pv 2) pe_str (nomark _)) pa_nil))) pa_nil)) (pg_name (i := 3) sc_law_table.nd rfl (.inl rfl))
      (pss_one (ps_asg (pe_tup (pa_cons (pv 2) (pa_cons pe_str pa_nil))) (pg_sub (pv 0) (pe_op op_addA (pe_op op_addA pe_int (pe_op op_mulA pe_int (pv 1))) (pv 3)) set_list))))))
      (pss_cons (ps_for PassesOwn.never rfl (pi_seq (pe_lst (pa_cons (pe_tup (pa_cons pe_int (pa_cons pe_str pa_nil))) (pa_cons (pe_tup (pa_cons pe_int (pa_cons pe_str pa_nil))) (pa_cons (pe_tup (pa_cons pe_int (pa_cons pe_str pa_nil))) (pa_cons (pe_tup (pa_cons pe_int (pa_cons pe_str pa_nil))) pa_nil)))))) (pg_tup rfl (pgs_cons (pg_name (i := 4) sc_law_table.nd rfl (.inl rfl)) (pgs_cons (pg_name (i := 2) sc_law_table.nd rfl (.inl rfl)) pgs_nil)))
      (pss_one (ps_for PassesOwn.never rfl (pi_range1 rfl B.b_range (pa_cons pe_int pa_nil)) (pg_name (i := 5) sc_law_table.nd rfl (.inl rfl))
      (pss_one (ps_asg (pe_tup (pa_cons (pv 2) (pa_cons pe_str pa_nil))) (pg_sub (pv 0) (pe_op op_addA (pe_op op_mulA pe_int (pv 4)) (pe_op op_mulA pe_int (pv 5))) set_list))))))
      (pss_cons (ps_for PassesOwn.never rfl (pi_enum rfl B.b_enumerate (pa_cons (pe_lst (pa_cons pe_str (pa_cons pe_str (pa_cons pe_str (pa_cons pe_str (pa_cons pe_str (pa_cons pe_str pa_nil))))))) pa_nil)) (pg_tup rfl (pgs_cons (pg_name (i := 1) sc_law_table.nd rfl (.inl rfl)) (pgs_cons (pg_name (i := 2) sc_law_table.nd rfl (.inl rfl)) pgs_nil)))
      (pss_one (ps_asg (pe_tup (pa_cons (pv 2) (pa_cons pe_str pa_nil))) (pg_sub (pv 0) (pe_op op_addA pe_int (pv 1)) set_list))))
      (pss_cons (ps_for PassesOwn.never rfl (pi_range1 rfl B.b_range (pa_cons pe_int pa_nil)) (pg_name (i := 3) sc_law_table.nd rfl (.inl rfl))
      (pss_one (ps_asg (pe_tup (pa_cons (pe_ix ix_seq (pe_lst (pa_cons pe_str (pa_cons pe_str (pa_cons pe_str (pa_cons pe_str pa_nil))))) (pe_op op_modA (pv 3) pe_int) (fun _ _ => rfl)) (pa_cons pe_str pa_nil))) (pg_sub (pv 0) (pe_op op_addA pe_int (pv 3)) set_list))))
      (pss_one (ps_ret (pv 0))))))))), pure_law_table F h⟩

theorem sc_law_row : FnScope N_law_row ["_law_table_here", "_law_code", "_law_at"] (defScope s_law_row) := ⟨rfl, rfl, rfl, by decide +kernel, rfl, by decide +kernel, by decide +kernel⟩
theorem cl_law_row (B : Bl mg) (C : Cn K mg) (F : MachC K w) {f : Addr} {fd : FuncData} (D : FnP K "_law_row" s_law_row f fd) (hm : mg "_law_row" = some (.ref f)) (hb : Binds K fd ["_law_table_here", "_law_code", "_law_at"] []) : Cl P w K mg base 1 "_law_row" (sp_law_row K w) :=
  cl_of D hm hb sc_law_row (fun vs H Q E h => len_law_row h) fun cdv A outer s H vs Q E hr h => ⟨t_law_row K w, PSs.nox (pss_cons (ps_if (PW.pt (pw_or (pt_cmpR op_ltA (pv 2) pe_int (nomark _)) (pw_or (pt_cmpR op_geA (pv 2) (pe_callB call_lenA (by rfl) B.b_len (by decide +kernel) (pa_cons (pv 1) pa_nil)) (nomark _)) (pw_or1 (pt_cmpR op_isN1 (pe_ix ix_seq (pv 0) (pe_ix ix_seq (pv 1) (pv 2) (fun _ _ => rfl)) (fun _ _ => rfl)) pe_non (nomark _))))))
      (pss_one (ps_ret pe_non))
      pss_nil)
      (pss_cons (ps_asg (pe_ix ix_seq (pv 0) (pe_ix ix_seq (pv 1) (pv 2) (fun _ _ => rfl)) (fun _ _ => rfl)) (pg_tup rfl (pgs_cons (pg_name (i := 3) sc_law_row.nd rfl (.inl rfl)) (pgs_cons (pg_name (i := 4) sc_law_row.nd rfl (.inl rfl)) pgs_nil))))
      (pss_cons (ps_if (PW.pt (pw_and (pt_cmpR op_inSA pe_str (pv 4) rfl) (pw_and1 (pt_cmpR (op_eqA hr.units) (pe_op op_addA (pv 2) pe_int) (pe_callB call_lenA (by rfl) B.b_len (by decide +kernel) (pa_cons (pv 1) pa_nil)) (nomark _)))))
      (pss_one (ps_ret pe_non))
      pss_nil)
      (pss_cons (ps_set (i := 5) sc_law_row.nd rfl (.inr rfl) (pe_disp (pps_cons pe_str (pe_ix ix_seq pe_str (pe_op op_modA (pe_op op_divA (pe_ix ix_seq (pv 1) (pv 2) (fun _ _ => rfl)) pe_int) pe_int) (fun _ _ => rfl)) (pps_cons pe_str (pe_ix ix_seq pe_str (pe_op op_modA (pe_ix ix_seq (pv 1) (pv 2) (fun _ _ => rfl)) pe_int) (fun _ _ => rfl)) (pps_cons pe_str (pe_ix ix_seq (pe_op op_addA (pe_slice sl_A (pv 1) (po_some (pv 2)) po_none) (pe_lst (pa_cons pe_int (pa_cons pe_int pa_nil)))) pe_int (fun _ _ => rfl)) pps_nil))) (by rfl) (by rfl) (fun z => by cases z) (by decide)))
      (pss_one (ps_ret (pe_tup (pa_cons (pe_op op_addA (pe_tup (pa_cons (pv 3) pa_nil)) (pe_callTy call_tupA (by rfl) B.b_tuple (by decide +kernel) (pa_cons (pe_lc (own := [("_law_sign", 6)]) (g := (gName 6)) rfl sc_law_row.nd (pi_str (pv 4)) (blkOk_by (by kernel_rfl)) (fun _ _ _ _ _ => (pg_name (i := 6) sc_law_row.nd rfl (.inl rfl))) (fun _ _ _ _ _ => pts_nil) (fun _ _ _ _ _ => (pe_dget (hu_of hr) (pv 5) (pv 6) (fun _ _ => rfl)))) pa_nil))) (pa_cons (pe_op op_addA pe_int (pe_callTy call_intA (by rfl) B.b_int (by decide +kernel) (pa_cons (pe_cmpR op_inSA pe_str (pv 4) rfl) pa_nil))) pa_nil))))))))), pure_law_row F h⟩

theorem sc_law_right : FnScope N_law_right ["_law_table_here", "_law_code", "_law_handed"] (defScope s_law_right) := ⟨rfl, rfl, rfl, by decide +kernel, rfl, by decide +kernel, by decide +kernel⟩
theorem cl_law_right (B : Bl mg) (C : Cn K mg) (F : MachC K w) (c_law_alike : Cl P w K mg base 4 "_law_alike" (sp_law_alike K w)) (c_law_row : Cl P w K mg base 1 "_law_row" (sp_law_row K w)) (c_row_at : Cl P w K mg base 2 "row_at" (sp_row_at K w)) {f : Addr} {fd : FuncData} (D : FnP K "_law_right" s_law_right f fd) (hm : mg "_law_right" = some (.ref f)) (hb : Binds K fd ["_law_table_here", "_law_code", "_law_handed"] []) : Cl P w K mg base 5 "_law_right" (sp_law_right K w) :=
  cl_of D hm hb sc_law_right (fun vs H Q E h => len_law_right h) fun cdv A outer s H vs Q E hr h => ⟨t_law_right K w, PSs.nox (pss_cons (ps_for PassesOwn.never rfl (pi_seq (pe_op op_addA (pe_listRg rfl rfl B.b_list (prg_2 rfl B.b_range (pe_un un_neg pe_int) (pe_op op_addA (pe_callB call_lenA (by rfl) B.b_len (by decide +kernel) (pa_cons (pv 1) pa_nil)) pe_int))) (pe_lst (pa_cons (pe_op op_subA (pe_op op_powA pe_int pe_int) pe_int) (pa_cons (pe_op op_subA pe_int (pe_op op_powA pe_int pe_int)) pa_nil))))) (pg_name (i := 3) sc_law_right.nd rfl (.inl rfl))
      (pss_one (ps_if (pt_not (pt_val (pe_cl c_law_alike hr (by decide) rfl (pa_cons (pe_cl c_row_at hr (by decide) rfl (pa_cons (pv 2) (pa_cons (pv 3) pa_nil))) (pa_cons (pe_cl c_law_row hr (by decide) rfl (pa_cons (pv 0) (pa_cons (pv 1) (pa_cons (pv 3) pa_nil)))) pa_nil))) (by intro _; rfl)))
      (pss_one (ps_ret pe_bl))
      pss_nil)))
      (pss_one (ps_ret (pe_cmpR (op_eqA hr.units) (pe_callTy call_listA (by rfl) B.b_list (by decide +kernel) (pa_cons (pv 2) pa_nil)) (pv 1) (nomark _))))), pure_law_right F h⟩

theorem sc_law : FnScope N_law ["_law_script"] (defScope s_law) := ⟨rfl, rfl, rfl, by decide +kernel, rfl, by decide +kernel, by decide +kernel⟩
theorem fnok_law (B : Bl mg) (C : Cn K mg) (F : MachC K w) (c_law_reel : Cl P w K mg base 1 "_law_reel" (sp_law_reel K w)) (c_law_table : Cl P w K mg base 1 "_law_table" (sp_law_table K w)) (c_law_draw : Cl P w K mg base 1 "_law_draw" (sp_law_draw K w)) (c_law_alike : Cl P w K mg base 4 "_law_alike" (sp_law_alike K w)) (c_law_row : Cl P w K mg base 1 "_law_row" (sp_law_row K w)) (c_row_at : Cl P w K mg base 2 "row_at" (sp_row_at K w)) (c_law_right : Cl P w K mg base 5 "_law_right" (sp_law_right K w)) {f : Addr} {fd : FuncData} (D : FnP K "law" s_law f fd) : FnOk P w K mg base CX0 6 f fd ["_law_script"] (sp_law K w) :=
  fn_of1 D sc_law (fun vs H Q E h => len_law h) fun cdv A outer s H vs Q E hr h => ⟨t_law K w, PSs.nox (pss_cons (ps_set (i := 1) sc_law.nd rfl (.inr rfl) (pe_cl c_law_reel hr (by decide) rfl (pa_cons (pv 0) pa_nil)))
      (pss_cons (ps_set (i := 2) sc_law.nd rfl (.inl rfl) (pe_cl0 c_law_table hr (by decide) rfl))
      (pss_cons (ps_for PassesOwn.never rfl (pi_range1 rfl B.b_range (pa_cons pe_int pa_nil)) (pg_name (i := 3) sc_law.nd rfl (.inl rfl))
      (pss_cons (ps_setLc (i := 4) (own := [("_law_k", 5)]) (g := (gName 5)) rfl sc_law.nd rfl rfl (sw_true rfl rfl rfl (by decide +kernel)) (pi_range1 rfl B.b_range (pa_cons (pe_op op_addA pe_int (pe_cl c_law_draw hr (by decide) rfl (pa_cons (pv 1) (pa_cons pe_int pa_nil)))) pa_nil)) (blkOk_by (by kernel_rfl)) (fun _ _ _ _ _ => (pg_name (i := 5) sc_law.nd rfl (.inl rfl))) (fun _ _ _ _ _ => pts_nil) (fun _ _ _ _ _ => (pe_cl c_law_draw hr (by decide) rfl (pa_cons (pv 1) (pa_cons pe_int pa_nil)))))
      (pss_cons (ps_set (i := 6) sc_law.nd rfl (.inl rfl) (pe_cl c_law_draw hr (by decide) rfl (pa_cons (pv 1) (pa_cons (pe_callB call_lenA (by rfl) B.b_len (by decide +kernel) (pa_cons (pv 4) pa_nil)) pa_nil))))
      (pss_cons (ps_asg (pv 3) (pg_sub (pv 4) (pv 6) set_list))
      (pss_one (ps_for PassesOwn.never rfl (pi_seq (pe_lst (pa_cons (pv 4) (pa_cons (pe_op op_addA (pe_slice sl_A (pv 4) po_none (po_some (pv 6))) (pe_lst (pa_cons (pv 3) pa_nil))) pa_nil)))) (pg_name (i := 7) sc_law.nd rfl (.inl rfl))
      (pss_one (ps_if (pt_not (pt_val (pe_cl c_law_alike hr (by decide) rfl (pa_cons (pe_cl c_row_at hr (by decide) rfl (pa_cons (pv 7) (pa_cons (pv 6) pa_nil))) (pa_cons (pe_cl c_law_row hr (by decide) rfl (pa_cons (pv 2) (pa_cons (pv 7) (pa_cons (pv 6) pa_nil)))) pa_nil))) (by intro _; rfl)))
      (pss_one (ps_ret pe_bl))
      pss_nil))))))))
      (pss_cons (ps_for PassesOwn.never rfl (pi_range1 rfl B.b_range (pa_cons (pe_callB (call_min2A rfl) (by rfl) B.b_min (by decide +kernel) (pa_cons (pe_callB call_lenA (by rfl) B.b_len (by decide +kernel) (pa_cons (pv 0) pa_nil)) (pa_cons pe_int pa_nil))) pa_nil)) (pg_name (i := 5) sc_law.nd rfl (.inl rfl))
      (pss_cons (ps_setLc (i := 4) (own := [("_law_j", 8)]) (g := (gName 8)) rfl sc_law.nd rfl rfl (sw_true rfl rfl rfl (by decide +kernel)) (pi_range1 rfl B.b_range (pa_cons (pe_op op_addA pe_int (pe_cl c_law_draw hr (by decide) rfl (pa_cons (pv 1) (pa_cons (pe_ix ix_seq (pe_lst (pa_cons pe_int (pa_cons pe_int pa_nil))) (pe_cl c_law_draw hr (by decide) rfl (pa_cons (pv 1) (pa_cons pe_int pa_nil))) (fun _ _ => rfl)) pa_nil)))) pa_nil)) (blkOk_by (by kernel_rfl)) (fun _ _ _ _ _ => (pg_name (i := 8) sc_law.nd rfl (.inl rfl))) (fun _ _ _ _ _ => pts_nil) (fun _ _ _ _ _ => (pe_cl c_law_draw hr (by decide) rfl (pa_cons (pv 1) (pa_cons pe_int pa_nil)))))
      (pss_cons (ps_if (pt_not (pt_val (pe_cl c_law_right hr (by decide) rfl (pa_cons (pv 2) (pa_cons (pv 4) (pa_cons (pe_ix ix_seq (pe_lst (pa_cons (pv 4) (pa_cons (pe_callTy call_tupA (by rfl) B.b_tuple (by decide +kernel) (pa_cons (pv 4) pa_nil)) pa_nil))) (pe_cl c_law_draw hr (by decide) rfl (pa_cons (pv 1) (pa_cons pe_int pa_nil))) (fun _ _ => rfl)) pa_nil)))) (by intro _; rfl)))
      (pss_one (ps_ret pe_bl))
      pss_nil)
      (pss_cons (ps_set (i := 6) sc_law.nd rfl (.inl rfl) (pe_cl c_law_draw hr (by decide) rfl (pa_cons (pv 1) (pa_cons (pe_callB call_lenA (by rfl) B.b_len (by decide +kernel) (pa_cons (pv 4) pa_nil)) pa_nil))))
      (pss_cons (ps_set (i := 9) sc_law.nd rfl (.inl rfl) (pe_callTy call_listA (by rfl) B.b_list (by decide +kernel) (pa_cons (pv 4) pa_nil)))
      (pss_cons (ps_if (pt_not (pt_val (pe_cl c_law_right hr (by decide) rfl (pa_cons (pv 2) (pa_cons (pv 4) (pa_cons (pv 9) pa_nil)))) (by intro _; rfl)))
      (pss_one (ps_ret pe_bl))
      pss_nil)
      (pss_cons (ps_asg (pe_ix ix_seq (pe_lst (pa_cons (pe_op op_subA pe_int (pe_ix ix_seq (pv 9) (pv 6) (fun _ _ => rfl))) (pa_cons (pe_cl c_law_draw hr (by decide) rfl (pa_cons (pv 1) (pa_cons pe_int pa_nil))) pa_nil))) (pe_cl c_law_draw hr (by decide) rfl (pa_cons (pv 1) (pa_cons pe_int pa_nil))) (fun _ _ => rfl)) (pg_sub (pv 9) (pv 6) set_list))
      (pss_one (ps_if (pt_not (pt_val (pe_cl c_law_right hr (by decide) rfl (pa_cons (pv 2) (pa_cons (pe_callTy call_listA (by rfl) B.b_list (by decide +kernel) (pa_cons (pv 9) pa_nil)) (pa_cons (pv 9) pa_nil)))) (by intro _; rfl)))
      (pss_one (ps_ret pe_bl))
      pss_nil)))))))))
      (pss_one (ps_ret pe_bl)))))), pure_law F h⟩

end
end Rl
namespace Rl
open PySem PySem.Spec PyProof.Rows L2
/-! ## the head: facts by names, the run -/
def d_short_row : He.DefD := ⟨("short_row", none), "short_row", "short_row", defArgs s_short_row, defBody s_short_row, defScope s_short_row, [], []⟩
def d_long_row : He.DefD := ⟨("long_row", none), "long_row", "long_row", defArgs s_long_row, defBody s_long_row, defScope s_long_row, [], []⟩
def d_row_at : He.DefD := ⟨("row_at", none), "row_at", "row_at", defArgs s_row_at, defBody s_row_at, defScope s_row_at, [], []⟩
def d_law_reel : He.DefD := ⟨("_law_reel", none), "_law_reel", "_law_reel", defArgs s_law_reel, defBody s_law_reel, defScope s_law_reel, [], []⟩
def d_law_draw : He.DefD := ⟨("_law_draw", none), "_law_draw", "_law_draw", defArgs s_law_draw, defBody s_law_draw, defScope s_law_draw, [], []⟩
def d_law_alike : He.DefD := ⟨("_law_alike", none), "_law_alike", "_law_alike", defArgs s_law_alike, defBody s_law_alike, defScope s_law_alike, [], []⟩
def d_law_table : He.DefD := ⟨("_law_table", none), "_law_table", "_law_table", defArgs s_law_table, defBody s_law_table, defScope s_law_table, [], []⟩
def d_law_row : He.DefD := ⟨("_law_row", none), "_law_row", "_law_row", defArgs s_law_row, defBody s_law_row, defScope s_law_row, [], []⟩
def d_law_right : He.DefD := ⟨("_law_right", none), "_law_right", "_law_right", defArgs s_law_right, defBody s_law_right, defScope s_law_right, [], []⟩
def d_law : He.DefD := ⟨("law", none), "law", "law", defArgs s_law, defBody s_law, defScope s_law, [], []⟩
def fn : List He.DefD := [d_short_row, d_long_row, d_row_at, d_law_reel, d_law_draw, d_law_alike, d_law_table, d_law_row, d_law_right, d_law]
def fa : List He.Fa := [.glo "short_row", .glo "long_row", .glo "row_at", .glo "_law_reel", .glo "_law_draw", .glo "_law_alike", .glo "_law_table", .glo "_law_row", .glo "_law_right", .glo "law", .glo "ALONE", .str "BOXES" "abcd", .int "JUMPS" (14), .glo "SINGLE", .int "SINGLES" (15), .glo "TARGETS", .glo "WORDS_OF_NUMBERED", .glo "WORDS_OF_PAIRS", .free "all", .free "bool", .free "enumerate", .free "int", .free "isinstance", .free "len", .free "list", .free "min", .free "range", .free "str", .free "tuple", .free "zip"]
def ex (K : PySem.W.Frag) : Bool := He.tupB K "ALONE" [(.str "halt"), (.str "back"), (.str "rest")] && (He.tupB K "SINGLE" [(.str "in"), (.str "out"), (.str "keep"), (.str "take")] && (He.tupB K "TARGETS" [(.str "go"), (.str "zero"), (.str "nonzero"), (.str "less"), (.str "notless"), (.str "call")] && (kdI K (He.ga K "WORDS_OF_PAIRS") [(2, (.str "copy")), (3, (.str "add")), (4, (.str "sub")), (5, (.str "and")), (6, (.str "or")), (7, (.str "xor")), (8, (.str "test")), (10, (.str "load")), (11, (.str "store"))] && (kdI K (He.ga K "WORDS_OF_NUMBERED") [(1, (.str "set")), (9, (.str "testn")), (12, (.str "loadn")), (13, (.str "storen"))]))))
abbrev Rw : PySem.W.OpenRow := PySem.W.OpenLaw.row PySem.Challenge.rw_rowlift_k01_rows_of_bytes
abbrev hk : PySem.W.Hook := He.hookX 4 fa fn [] [] ex
def ob (s : PySem.W.SharedT) : He.AlX := He.obsX 4 fa fn [] [] ex (HandSHeadRun.getT s)
theorem ob_eq (s : PySem.W.SharedT) : ob s = hk.obs s.abs := He.obsX_eq (HandSHeadRun.getT_eq s)
theorem run (w : World) : HandSHeadRun.RunEq Rw (PySem.W.view Rw.prog [19]) hk ob 900 ["BOXES", "ALONE", "WORDS_OF_PAIRS", "WORDS_OF_NUMBERED", "TARGETS", "SINGLE", "JUMPS", "SINGLES", "short_row", "long_row", "row_at", "_law_reel", "_law_draw", "_law_alike", "_law_table", "_law_row", "_law_right"] w := PySem.W.byRow2 "special-get-raises" (P := fun w => HandSHeadRun.RunEq Rw (PySem.W.view Rw.prog [19]) hk ob 900 ["BOXES", "ALONE", "WORDS_OF_PAIRS", "WORDS_OF_NUMBERED", "TARGETS", "SINGLE", "JUMPS", "SINGLES", "short_row", "long_row", "row_at", "_law_reel", "_law_draw", "_law_alike", "_law_table", "_law_row", "_law_right"] w)
  (fun w => by
    intro os
    kernel_rfl) (fun w => by
    intro os
    kernel_rfl) w
theorem facts {P : Program} {w : World} {K : PySem.W.Frag} {h : Heap} {mg : Str → Option Value} {f : Addr} (X : K.In h) (G : h.Ns mainGlobals mg) (hfa : mg ("law" : Str) = some (.ref f)) (c : He.SaysX fa fn [] [] ex w h K) :
    ∃ fd : FuncData, (∀ (s : Shared) (v : Value), BindsTo s fd ⟨[v], []⟩ [("_law_script", v)]) ∧ ∀ base : Heap, K.In base → base.Ns mainGlobals mg → FnOk P w K mg base CX0 6 f fd ["_law_script"] (sp_law K w) := by
  have more := c.more
  unfold ex at more
  obtain ⟨x0, r0⟩ := He.ba more
  obtain ⟨x1, r1⟩ := He.ba r0
  obtain ⟨x2, r2⟩ := He.ba r1
  obtain ⟨x3, r3⟩ := He.ba r2
  have x4 := r3
  have F : MachC K w := ⟨fun H => He.tupB_ok x0 H, fun H => He.tupB_ok x1 H, fun H => He.tupB_ok x2 H, kdI_ok x3, kdI_ok x4⟩
  have B : Bl mg := ⟨He.free_ok X G (c.t.d.fact 18 (f := .free "all") rfl), He.free_ok X G (c.t.d.fact 19 (f := .free "bool") rfl), He.free_ok X G (c.t.d.fact 20 (f := .free "enumerate") rfl), He.free_ok X G (c.t.d.fact 21 (f := .free "int") rfl), He.free_ok X G (c.t.d.fact 22 (f := .free "isinstance") rfl), He.free_ok X G (c.t.d.fact 23 (f := .free "len") rfl), He.free_ok X G (c.t.d.fact 24 (f := .free "list") rfl), He.free_ok X G (c.t.d.fact 25 (f := .free "min") rfl), He.free_ok X G (c.t.d.fact 26 (f := .free "range") rfl), He.free_ok X G (c.t.d.fact 27 (f := .free "str") rfl), He.free_ok X G (c.t.d.fact 28 (f := .free "tuple") rfl), He.free_ok X G (c.t.d.fact 29 (f := .free "zip") rfl)⟩
  have C : Cn K mg := ⟨He.glo_ok X G (c.t.d.fact 10 (f := .glo "ALONE") rfl), He.str_ok X G (c.t.d.fact 11 (f := .str "BOXES" "abcd") rfl), He.int_ok X G (c.t.d.fact 12 (f := .int "JUMPS" (14)) rfl), He.glo_ok X G (c.t.d.fact 13 (f := .glo "SINGLE") rfl), He.int_ok X G (c.t.d.fact 14 (f := .int "SINGLES" (15)) rfl), He.glo_ok X G (c.t.d.fact 15 (f := .glo "TARGETS") rfl), He.glo_ok X G (c.t.d.fact 16 (f := .glo "WORDS_OF_NUMBERED") rfl), He.glo_ok X G (c.t.d.fact 17 (f := .glo "WORDS_OF_PAIRS") rfl)⟩
  obtain ⟨fd_short_row, D_short_row⟩ := c.t.d.def_ 0 (d := d_short_row) rfl
  have c_short_row : ∀ base : Heap, Cl P w K mg base 1 "short_row" (sp_short_row K w) := fun base => cl_short_row B C F D_short_row (He.glo_ok X G (c.t.d.fact 0 (f := .glo "short_row") rfl)) (D_short_row.bindsN fun _ _ _ _ _ _ us hl => match us, hl with | [_], _ => rfl)
  obtain ⟨fd_long_row, D_long_row⟩ := c.t.d.def_ 1 (d := d_long_row) rfl
  have c_long_row : ∀ base : Heap, Cl P w K mg base 1 "long_row" (sp_long_row K w) := fun base => cl_long_row B C F D_long_row (He.glo_ok X G (c.t.d.fact 1 (f := .glo "long_row") rfl)) (D_long_row.bindsN fun _ _ _ _ _ _ us hl => match us, hl with | [_, _], _ => rfl)
  obtain ⟨fd_row_at, D_row_at⟩ := c.t.d.def_ 2 (d := d_row_at) rfl
  have c_row_at : ∀ base : Heap, Cl P w K mg base 2 "row_at" (sp_row_at K w) := fun base => cl_row_at B C F (c_short_row base) (c_long_row base) D_row_at (He.glo_ok X G (c.t.d.fact 2 (f := .glo "row_at") rfl)) (D_row_at.bindsN fun _ _ _ _ _ _ us hl => match us, hl with | [_, _], _ => rfl)
  obtain ⟨fd_law_reel, D_law_reel⟩ := c.t.d.def_ 3 (d := d_law_reel) rfl
  have c_law_reel : ∀ base : Heap, Cl P w K mg base 1 "_law_reel" (sp_law_reel K w) := fun base => cl_law_reel B C F D_law_reel (He.glo_ok X G (c.t.d.fact 3 (f := .glo "_law_reel") rfl)) (D_law_reel.bindsN fun _ _ _ _ _ _ us hl => match us, hl with | [_], _ => rfl)
  obtain ⟨fd_law_draw, D_law_draw⟩ := c.t.d.def_ 4 (d := d_law_draw) rfl
  have c_law_draw : ∀ base : Heap, Cl P w K mg base 1 "_law_draw" (sp_law_draw K w) := fun base => cl_law_draw B C F D_law_draw (He.glo_ok X G (c.t.d.fact 4 (f := .glo "_law_draw") rfl)) (D_law_draw.bindsN fun _ _ _ _ _ _ us hl => match us, hl with | [_, _], _ => rfl)
  obtain ⟨fd_law_alike, D_law_alike⟩ := c.t.d.def_ 5 (d := d_law_alike) rfl
  have c_law_alike : ∀ base : Heap, Cl P w K mg base 4 "_law_alike" (sp_law_alike K w) := fun base => cl_law_alike B C F D_law_alike (He.glo_ok X G (c.t.d.fact 5 (f := .glo "_law_alike") rfl)) (D_law_alike.bindsN fun _ _ _ _ _ _ us hl => match us, hl with | [_, _], _ => rfl)
  obtain ⟨fd_law_table, D_law_table⟩ := c.t.d.def_ 6 (d := d_law_table) rfl
  have c_law_table : ∀ base : Heap, Cl P w K mg base 1 "_law_table" (sp_law_table K w) := fun base => cl_law_table B C F D_law_table (He.glo_ok X G (c.t.d.fact 6 (f := .glo "_law_table") rfl)) (D_law_table.bindsN fun _ _ _ _ _ _ us hl => match us, hl with | [], _ => rfl)
  obtain ⟨fd_law_row, D_law_row⟩ := c.t.d.def_ 7 (d := d_law_row) rfl
  have c_law_row : ∀ base : Heap, Cl P w K mg base 1 "_law_row" (sp_law_row K w) := fun base => cl_law_row B C F D_law_row (He.glo_ok X G (c.t.d.fact 7 (f := .glo "_law_row") rfl)) (D_law_row.bindsN fun _ _ _ _ _ _ us hl => match us, hl with | [_, _, _], _ => rfl)
  obtain ⟨fd_law_right, D_law_right⟩ := c.t.d.def_ 8 (d := d_law_right) rfl
  have c_law_right : ∀ base : Heap, Cl P w K mg base 5 "_law_right" (sp_law_right K w) := fun base => cl_law_right B C F (c_law_alike base) (c_law_row base) (c_row_at base) D_law_right (He.glo_ok X G (c.t.d.fact 8 (f := .glo "_law_right") rfl)) (D_law_right.bindsN fun _ _ _ _ _ _ us hl => match us, hl with | [_, _, _], _ => rfl)
  obtain ⟨fd_law, D_law⟩ := c.t.d.def_ 9 (d := d_law) rfl
  have e := hfa.symm.trans (He.glo_ok X G (c.t.d.fact 9 (f := .glo "law") rfl))
  cases e
  have b := FunD.bindsA (ps := ["_law_script"]) D_law fun _ _ _ _ _ _ us hl => match us, hl with | [_], _ => rfl
  exact ⟨fd_law, fun s v => b s [v] rfl, fun base _ _ => fnok_law B C F (c_law_reel base) (c_law_table base) (c_law_draw base) (c_law_alike base) (c_law_row base) (c_row_at base) (c_law_right base) D_law⟩
end Rl
open PySem PySem.W PySem.Calls PyProof.Rows
theorem PySem.Challenge.cw_rowlift_k01_rows_of_bytes_holds : PySem.Challenge.rw_rowlift_k01_rows_of_bytes.Holds := by
  w_on; o_law
  refine HandSHeadRun.head_any (r := OpenLaw.row PySem.Challenge.rw_rowlift_k01_rows_of_bytes) (q := view (OpenLaw.row PySem.Challenge.rw_rowlift_k01_rows_of_bytes).prog [19]) (H := Rl.hk) (ob := Rl.ob) (M := 900) (loose := ["BOXES", "ALONE", "WORDS_OF_PAIRS", "WORDS_OF_NUMBERED", "TARGETS", "SINGLE", "JUMPS", "SINGLES", "short_row", "long_row", "row_at", "_law_reel", "_law_draw", "_law_alike", "_law_table", "_law_row", "_law_right"]) (d := HandSHeadRun.topDef (OpenLaw.row PySem.Challenge.rw_rowlift_k01_rows_of_bytes).prog 19) (kwd := []) Rl.ob_eq
    (by kernel_rfl) (fun s => by kernel_rfl) Rl.run (by kernel_rfl) (by kernel_rfl) (by kernel_rfl) (by rfl) (by first | assumption | decide +kernel) (by decide +kernel) ⟨rfl, rfl, rfl, rfl, rfl, by decide +kernel⟩ ?hw ?hc
  case hw => w_witness2
  case hc =>
    refine L2.walk_ofE (l := PySem.Challenge.rw_rowlift_k01_rows_of_bytes) (n := 63) (k := 6) (x := "_law_script") (CX := L2.CX0) rfl (by decide) (by kernel_rfl) ⟨rfl, by decide, by decide⟩ ?F (fun _ _ _ _ z => z)
    intro w mg fa h Y G hmg0
    obtain ⟨K, KX, c⟩ := Y
    have hmg : mg ("law" : PySem.Str) = some (.ref fa) := by
      have e : (HandSHeadRun.topDef (OpenLaw.row PySem.Challenge.rw_rowlift_k01_rows_of_bytes).prog 19).name = ("law" : PySem.Str) := by kernel_rfl
      rw [← e]
      exact hmg0
    obtain ⟨fd, hb, hF⟩ := Rl.facts (P := (PySem.Challenge.rw_rowlift_k01_rows_of_bytes).prog) (w := w) KX G hmg c
    exact ⟨K, fd, Rl.sp_law K w, KX, hb, fun H a ns hl _ hS => Rl.law_in hl hS, hF⟩
