import PyProof.Rows.All
import Wide.All
import OpenK.AllK
import Wide.FinOn
import KE.KStateDown
import HandS.ForMost
import HandS.Wide
import HandS.IsInst
import HandS.Style
import HandS.Conv
import HandS.Walk
import HandS.Zip
import HandS.Defaults
import HandS.More
import HandS.WordsExc
import HandS.EndBits
import HandS.Head0
import HandS.Head1
import HandS.Head2
import HandS.HeadEnd
import HandS.HeadHook1
import HandS.HeadHook2
import HandS.HeadHook3
import HandS.HeadHook4
import HandS.Strs
import HandS.SetBool
import HandS.SortInts
import HandS.DictComp
import HandS.CallLocal
import HandS.Defaults
import HandS.Replace
import KE.KUnpackStar
import PySem.Challenge.RW_rowlift_k26_rows_lifted
set_option Elab.async false
set_option linter.all false
set_option maxRecDepth 100000
set_option maxHeartbeats 4000000
namespace Rl
open PySem PySem.Spec PyProof.Rows L2

/-! ## rules that take one of several -/
section
variable {X : Cx}
theorem pe_or {e : Expr} {t t' : TE} (h : PE X e t) (h' : PE X e t') : PE X e (fun σ H Q => t σ H Q ∨ t' σ H Q) :=
  ⟨fun pins s σ H Q I q => q.elim (h.run pins s σ H Q I) (h'.run pins s σ H Q I)⟩
theorem pi_or {tg e : Expr} {w w' : TI} (h : PI X tg e w) (h' : PI X tg e w') : PI X tg e (fun σ H R => w σ H R ∨ w' σ H R) :=
  ⟨fun pins s σ H R I q => q.elim (h.run pins s σ H R I) (h'.run pins s σ H R I)⟩

def rAddS : R2 := fun x y H Q => ∃ i j, x = .str i ∧ y = .str j ∧ i.length + j.length ≤ sizeLine ∧ Q (.str (i ++ j)) H
def rAddA (K : PySem.W.Frag) : R2 := fun x y H Q => rI0 (fun i j => .int (i + j)) x y H Q ∨ rAddS x y H Q ∨ rCat x y H Q ∨ rCatT K x y H Q
theorem op_addA : OpR X (binaryOp .Add) (rAddA X.K) := op_add.or (op_add_str.or (op_cat.or op_catT))
def rSubA : R2 := rI0 fun i j => .int (i - j)
theorem op_subA : OpR X (binaryOp .Sub) rSubA := op_sub
def CMulA (i j : Int) : Prop := CMul i j ∨ CMulW i j
def rMulI : R2 := rI CMulA fun i j => .int (i * j)
theorem op_mulI : OpR X (binaryOp .Mult) rMulI := opI fun _ _ _ _ _ _ _ hc q => mul_int q (hc.elim CMul.ok CMulW.ok)
def rMulA : R2 := fun x y H Q => rMulI x y H Q ∨ rRep x y H Q
theorem op_mulA : OpR X (binaryOp .Mult) rMulA := op_mulI.or op_rep
def rModA : R2 := rI (fun _ j => 0 < j) fun i j => .int (i % j)
theorem op_modA : OpR X (binaryOp .Mod) rModA := op_mod
def rDivA : R2 := rI CDivW fun i j => .int (i / j)
theorem op_divA : OpR X (binaryOp .FloorDiv) rDivA := op_fdivW
def rPowA : R2 := rI CPow fun i j => .int (i ^ j.toNat)
theorem op_powA : OpR X (binaryOp .Pow) rPowA := op_pow
def rShlA : R2 := rI CPow fun i j => .int (i * 2 ^ j.toNat)
theorem op_shlA : OpR X (binaryOp .LShift) rShlA := op_shl
def rShrA : R2 := rI (fun _ j => 0 ≤ j) fun i j => .int (i / 2 ^ j.toNat)
theorem op_shrA : OpR X (binaryOp .RShift) rShrA := op_shr
def rAndA : R2 := rI0 fun i j => .int (Builtin.bitAnd i j)
theorem op_andA : OpR X (binaryOp .BitAnd) rAndA := op_and
def rOrA : R2 := rI0 fun i j => .int (Builtin.bitOr i j)
theorem op_orA : OpR X (binaryOp .BitOr) rOrA := op_or
def rXorA : R2 := rI0 fun i j => .int (Builtin.bitXor i j)
theorem op_xorA : OpR X (binaryOp .BitXor) rXorA := op_xor
def rLtA : R2 := rI0 fun i j => .bl (decide (i < j))
theorem op_ltA : OpR X (compareOp .Lt) rLtA := op_lt
def rLeA : R2 := rI0 fun i j => .bl (decide (i ≤ j))
theorem op_leA : OpR X (compareOp .LtE) rLeA := op_le
def rGtA : R2 := rI0 fun i j => .bl (decide (j < i))
theorem op_gtA : OpR X (compareOp .Gt) rGtA := op_gt
def rGeA : R2 := rI0 fun i j => .bl (decide (j ≤ i))
theorem op_geA : OpR X (compareOp .GtE) rGeA := op_ge
def rEqA (K : PySem.W.Frag) : R2 := fun x y H Q => rEq x y H Q ∨ rEqD K x y H Q
theorem op_eqA (hu : X.A.units + 64 < cLine) : OpR X (compareOp .Eq) (rEqA X.K) := op_eq.or (op_eqD hu)
def rNeA (K : PySem.W.Frag) : R2 := fun x y H Q => rNe x y H Q ∨ rNeD K x y H Q
theorem op_neA (hu : X.A.units + 64 < cLine) : OpR X (compareOp .NotEq) (rNeA X.K) := op_ne.or (op_neD hu)
def rIsN : R2 := fun u v H Q => v = .non ∧ Q (.bl (decide (u = .non))) H
theorem op_isN1 : OpR X (compareOp .Is) rIsN := op_isN
def rNotN : R2 := fun u v H Q => v = .non ∧ Q (.bl (!decide (u = .non))) H
theorem op_notN1 : OpR X (compareOp .IsNot) rNotN := op_notN
/-- one sign (or a text) in a text -/
def rInSA : R2 := fun x y H Q => ∃ i j, x = .str i ∧ y = .str j ∧ Q (.bl (!(Builtin.Str.occurrences j i 0 j.length 1).isEmpty)) H
theorem op_inSA : OpR X (compareOp .In) rInSA := op_in_str
def rNiSA : R2 := fun x y H Q => ∃ i j, x = .str i ∧ y = .str j ∧ Q (.bl (!(!(Builtin.Str.occurrences j i 0 j.length 1).isEmpty))) H
theorem op_niSA : OpR X (compareOp .NotIn) rNiSA := op_notIn_str
/-- slices of lists, texts, tuples -/
def rSlA (K : PySem.W.Frag) : V → Option Int → Option Int → Hp → VK → Prop := fun x lo hi H Q => rSlL K x lo hi H Q ∨ rSlT K x lo hi H Q
theorem sl_A : SlR X (rSlA X.K) := sl_list.or sl_tup
/-- calls of built-ins -/
def rLenA (K : PySem.W.Frag) : List V → Hp → VK → Prop := fun xs H Q => ∃ x n, xs = [x] ∧ LenV K x H n ∧ Q (.int n) H
theorem call_lenA : CallR X (.builtin "len") (rLenA X.K) := call_len
def rInt1 : List V → Hp → VK → Prop := fun xs H Q => (∃ i, xs = [.int i] ∧ Q (.int i) H) ∨ ∃ k, xs = [.bl k] ∧ Q (.int (if k then 1 else 0)) H
theorem call_intA : CallR X (.type "int") rInt1 := call_int1
def rAbs : List V → Hp → VK → Prop := fun xs H Q => ∃ i, xs = [.int i] ∧ Q (.int (if i < 0 then -i else i)) H
theorem call_absA : CallR X (.builtin "abs") rAbs := call_abs
def rMin2 : List V → Hp → VK → Prop := fun xs H Q => ∃ i j, xs = [.int i, .int j] ∧ Q (.int (if j < i then j else i)) H
theorem call_min2A (hc : X.calm = true) : CallR X (.builtin "min") rMin2 := call_min2 hc
def rMax2 : List V → Hp → VK → Prop := fun vs H Q => ∃ m n, vs = [.int m, .int n] ∧ Q (.int (if n > m then n else m)) H
theorem call_max2A (hc : X.calm = true) : CallR X (.builtin "max") rMax2 := call_max2 hc
def rListA (K : PySem.W.Frag) : List V → Hp → VK → Prop := fun xs H Q => ∃ p ys, xs = [.ref p] ∧ (SqL K H p ys ∨ SqT K H p ys) ∧ ∀ l, H l = none → Q (.ref l) (upd H l (.lst ys))
theorem call_listA : CallR X (.type "list") (rListA X.K) := call_list_of
def rTupA (K : PySem.W.Frag) : List V → Hp → VK → Prop := fun xs H Q => ∃ p ys, xs = [.ref p] ∧ ((SqL K H p ys ∧ ∀ l, H l = none → Q (.ref l) (upd H l (.tup ys))) ∨ (SqT K H p ys ∧ Q (.ref p) H))
theorem call_tupA : CallR X (.type "tuple") (rTupA X.K) := call_tuple_of
/-- a for over a list or a tuple -/
def iSeq (K : PySem.W.Frag) (tl : TE) : TI := fun σ H R => tl σ H fun x H1 => (∃ a, x = .ref a ∧ (∃ xs, SqL K H1 a xs) ∧ R (Itl K a) H1) ∨ (∃ a, x = .ref a ∧ (∃ xs, SqT K H1 a xs) ∧ R (Itt K a) H1)
theorem pi_seq {tg l : Expr} {tl : TE} (hl : PE X l tl) : PI X tg l (iSeq X.K tl) := by
  refine ⟨fun pins s σ H R I go => thn (hl.run pins s σ H _ I go) fun v t ⟨x, Ht, It, rv, ways⟩ => ?_⟩
  -- the new iterator stands apart
  have apart : ∀ b ∈ [t.heap.objs.size], FpOk X pins Ht b := fun b hb => by
    rw [List.mem_singleton.mp hb]
    exact It.fpOk (Nat.le_refl _) (It.hok.fresh (Nat.le_refl _))
  rcases ways with ⟨a, rfl, ⟨xs, seq⟩, go2⟩ | ⟨a, rfl, ⟨xs, seq⟩, go2⟩
  · cases rv
    obtain ⟨items, _, isL, _⟩ := It.list seq
    exact wpAny_pyIter_list isL.isList ⟨_, _, _, _, Ht, rfl, It.kept (t' := t.toks) fun _ _ e => Heap.get?_push_of_some _ e, turn_list a _, ⟨_, Heap.get?_push_size _ rfl, rfl, rfl⟩, apart, go2⟩
  · cases rv
    obtain ⟨items, _, isT, _⟩ := It.tuple seq
    exact wpAny_pyIter_tuple (show t.heap.IsTuple a items.toArray from isT) ⟨_, _, _, _, Ht, rfl, It.kept (t' := t.toks) fun _ _ e => Heap.get?_push_of_some _ e, turn_tuple a _, ⟨_, Heap.get?_push_size _ rfl, rfl, rfl⟩, apart, go2⟩
/-- a module's constant -/
theorem pe_gcn {x : Str} {v : V} {f : Tok → Value} {pos : Pos} (hg : Gl X x) (h : ∃ t, X.mg x = some (f t)) (r : ∀ t, RelV v (f t) := by intro t; exact ⟨t, rfl⟩) (hd : (x == ("__debug__" : Str)) = false := by decide) : PE X (.Name x pos) (tC v) := by
  obtain ⟨t, hm⟩ := h
  exact pe_glob hg hm (r t) hd
def tTru (K : PySem.W.Frag) (te : TE) : TT := fun σ H Q => te σ H fun v H' => ∃ b, TruV K v H' b ∧ Q b H'
end

/-! ## dicts of the written part, keys ints or texts -/
/-- at a a dict of the written part: what it has, by its pairs -/
structure KD (K : PySem.W.Frag) (w : World) (a : Addr) (kvs : List (Key × V)) : Prop where
  lo : (a == sysModules) = false
  get : ∀ (P : Program) (h : Heap), K.In h → ∃ f : Key → Option Value, h.MapOf (mixKind P w) a f ∧ ∀ k, RelO (valV kvs k) (f k)
def rIxKD (K : PySem.W.Frag) (w : World) : R2 := fun x y H Q => ∃ a kvs k v, x = .ref a ∧ y = kV k ∧ KD K w a kvs ∧ valV kvs k = some v ∧ Q v H
def rInKD (K : PySem.W.Frag) (w : World) : R2 := fun x y H Q => ∃ a kvs k, y = .ref a ∧ x = kV k ∧ KD K w a kvs ∧ Q (.bl (valV kvs k).isSome) H
def rInNotKD (K : PySem.W.Frag) (w : World) : R2 := fun x y H Q => ∃ a kvs k, y = .ref a ∧ x = kV k ∧ KD K w a kvs ∧ Q (.bl (!(valV kvs k).isSome)) H
section
variable {X : Cx}
theorem ix_KD : IxR X (rIxKD X.K X.w) := by
  intro base part pins s σ H x y v u Q I rx ry go hs
  obtain ⟨a, kvs, k, r, rfl, rfl, D, hv, q⟩ := go
  cases (show v = Value.ref a from rx)
  obtain ⟨f, isD, same⟩ := D.get X.prog s.heap I.kIn
  have hk := same k
  rw [hv] at hk
  obtain ⟨z, hz, rz⟩ := RelO.some_of hk
  exact tail_any isD.typeIs slot_dict_getitem.lookup (wpAny_getItem_of (kV_is ry) isD hz ⟨r, H, I.tok _, rz, q⟩) hs
theorem op_inKD : OpR X (compareOp .In) (rInKD X.K X.w) := by
  intro pins s σ H x y v u Q I rx ry go
  obtain ⟨a, kvs, k, rfl, rfl, D, q⟩ := go
  cases (show u = Value.ref a from ry)
  obtain ⟨f, isD, same⟩ := D.get X.prog s.heap I.kIn
  exact wpAny_in_of (kV_is rx) D.lo isD ⟨.bl _, H, I.tok _, rfl, by rw [← (same k).isSome_eq]; exact q⟩
theorem op_inNotKD : OpR X (compareOp .NotIn) (rInNotKD X.K X.w) := by
  intro pins s σ H x y v u Q I rx ry go
  obtain ⟨a, kvs, k, rfl, rfl, D, q⟩ := go
  cases (show u = Value.ref a from ry)
  obtain ⟨f, isD, same⟩ := D.get X.prog s.heap I.kIn
  exact wpAny_notIn_of (kV_is rx) D.lo isD ⟨.bl _, H, I.tok _, rfl, by rw [← (same k).isSome_eq]; exact q⟩
end
/-- a written dict with int keys: a look that the head can take -/
def kdI (K : PySem.W.Frag) (a : Addr) (kvs : List (Int × He.Dv)) : Bool := match K.lookup a with
  | some ⟨.type c, none, .dict es _, sl⟩ => decide (c = "dict") && (sl.isEmpty && (!(a == sysModules) && kdAll K es.toList kvs))
  | _ => false
where
  kdAll (K : PySem.W.Frag) : List DictEntry → List (Int × He.Dv) → Bool
    | [], [] => true
    | e :: es, (k, d) :: r => (match e.key with
      | .int j _ => decide (j = k)
      | _ => false) && (decide (e.hash = hashInt k) && (He.relB (d.v K) e.val && kdAll K es r))
    | _, _ => false
theorem kdI_find {K : PySem.W.Frag} {w : World} (P : Program) : ∀ {es : List DictEntry} {kvs : List (Int × He.Dv)}, kdI.kdAll K es kvs = true →
    (∀ e ∈ es, ∃ k, (mixKind P w).is k e.key = true ∧ e.hash = (mixKind P w).hash k) ∧
    ∀ k, RelO (valV (kvs.map fun p => ((Sum.inl p.1 : Key), p.2.v K)) k) ((es.find? fun e => (mixKind P w).is k e.key).map (·.val))
  | [], [], _ => ⟨fun e he => (by cases he), fun k => True.intro⟩
  | e :: es, (j, d) :: r, h => by
    obtain ⟨h1, h2⟩ := He.ba (show ((match e.key with
      | .int i _ => decide (i = j)
      | _ => false) && (decide (e.hash = hashInt j) && (He.relB (d.v K) e.val && kdI.kdAll K es r))) = true from h)
    obtain ⟨h3, h4⟩ := He.ba h2
    obtain ⟨h5, h6⟩ := He.ba h4
    obtain ⟨i1, i2⟩ := kdI_find (w := w) P h6
    obtain ⟨t, ek⟩ : ∃ t, e.key = .int j t := by
      cases q : e.key with
      | int i t =>
        rw [q] at h1
        exact ⟨t, by rw [of_decide_eq_true h1]⟩
      | _ =>
        rw [q] at h1
        cases h1
    have e1 : (mixKind P w).is (Sum.inl j : Key) e.key = true := by
      rw [ek]
      exact keyIs_int j t
    refine ⟨fun e' he => ?_, fun k => ?_⟩
    · rcases List.mem_cons.mp he with q | q
      · rw [q]
        exact ⟨Sum.inl j, e1, of_decide_eq_true h3⟩
      · exact i1 e' q
    · rw [List.map_cons]
      by_cases q : (Sum.inl j : Key) = k
      · have q2 : (mixKind P w).is k e.key = true := by rw [← q]; exact e1
        rw [List.find?_cons_of_pos (p := fun (e : DictEntry) => (mixKind P w).is k e.key) q2, valV_pos (p := ((Sum.inl j : Key), d.v K)) q]
        exact He.relB_ok h5
      · have q2 : ¬ (mixKind P w).is k e.key = true := fun z => q ((mixKind P w).inj _ _ _ e1 z)
        rw [List.find?_cons_of_neg (p := fun (e : DictEntry) => (mixKind P w).is k e.key) q2, valV_neg (p := ((Sum.inl j : Key), d.v K)) q]
        exact i2 k
  | [], _ :: _, h => by cases h
  | _ :: _, [], h => by cases h
theorem kdI_ok {K : PySem.W.Frag} {w : World} {a : Addr} {kvs : List (Int × He.Dv)} (h : kdI K a kvs = true) : KD K w a (kvs.map fun p => (Sum.inl p.1, p.2.v K)) := by
  unfold kdI at h
  cases q : K.lookup a with
  | none =>
    rw [q] at h
    cases h
  | some o =>
    obtain ⟨oc, od, dt, osl⟩ := o
    rw [q] at h
    cases oc with
    | type c =>
      cases od with
      | none =>
        cases dt with
        | dict es n =>
          obtain ⟨h1, h2⟩ := He.ba (show (decide (c = "dict") && (osl.isEmpty && (!(a == sysModules) && kdI.kdAll K es.toList kvs))) = true from h)
          obtain ⟨h3, h4⟩ := He.ba h2
          obtain ⟨h5, h6⟩ := He.ba h4
          have e1 : c = "dict" := of_decide_eq_true h1
          have e2 : osl = #[] := Array.isEmpty_iff.mp h3
          have notSys : (a == sysModules) = false := by
            cases y : (a == sysModules) with
            | false => rfl
            | true =>
              rw [y] at h5
              cases h5
          subst e1 e2
          refine ⟨notSys, fun P hp X => ?_⟩
          obtain ⟨i1, i2⟩ := kdI_find (w := w) P h6
          refine ⟨fun k => findBy (mixKind P w).is es k, ⟨_, es, n, X _ _ q, ⟨rfl, rfl, rfl⟩, rfl, fun e he => i1 e (Array.mem_toList_iff.mpr he), fun k => rfl⟩, fun k => ?_⟩
          have z := i2 k
          obtain ⟨l⟩ := es
          show RelO _ ((Array.find? (fun e => (mixKind P w).is k e.key) l.toArray).map (·.val))
          rw [List.find?_toArray]
          exact z
        | _ => cases h
      | some _ => cases dt <;> (cases h)
    | _ => cases od <;> cases dt <;> (cases h)

/-! ## defs that are called by their names -/
abbrev FnP (K : PySem.W.Frag) (x : Str) (st : Stmt) (f : Addr) (fd : FuncData) : Prop := FunD K x x (defArgs st) (defBody st) (defScope st) [] [] f fd
/-- a def that may be called by its name, every parameter given -/
structure Cl (P : Program) (w : World) (K : PySem.W.Frag) (mg : Str → Option Value) (base : Heap) (k : Nat) (x : Str) (sp : Sp) : Prop where
  ex : ∃ (f : Addr) (fd : FuncData) (ps : List Str), FnOk P w K mg base CX0 k f fd ps sp ∧ mg x = some (.ref f) ∧ PySem.W.keepIn K (.ref f) = true ∧ Binds K fd ps []
section
variable {K : PySem.W.Frag} {P : Program} {w : World} {base : Heap} {mg : Str → Option Value}
theorem fn_of1 {x : Str} {st : Stmt} {f : Addr} {fd : FuncData} {N ps : List Str} {k : Nat} {sp : Sp} (D : FnP K x st f fd) (S : FnScope N ps (defScope st)) (len : ∀ vs H Q E, sp vs H Q E → vs.length = ps.length)
    (hbody : ∀ (cdv : Value) (A : Around) (outer : List Env) (s : Shared) (H : Hp) (vs : List V) (Q : VK) (E : XK), Room k (A.deeper (envOfC x (defScope st) s.heap.objs.size f cdv)) → sp vs H Q E →
      ∃ t, PSs (cxOf CX0 P w K mg base N x (defScope st) f cdv A outer s H E) (defBody st) t ∧ t { nx := fun _ H' => Q .non H', rt := Q } (start N vs) H) : FnOk P w K mg base CX0 (k + 1) f fd ps sp :=
  FunD.ok D S len hbody
theorem cl_of {x : Str} {st : Stmt} {f : Addr} {fd : FuncData} {N ps : List Str} {k : Nat} {sp : Sp} (D : FnP K x st f fd) (hm : mg x = some (.ref f)) (hb : Binds K fd ps []) (S : FnScope N ps (defScope st)) (len : ∀ vs H Q E, sp vs H Q E → vs.length = ps.length)
    (hbody : ∀ (cdv : Value) (A : Around) (outer : List Env) (s : Shared) (H : Hp) (vs : List V) (Q : VK) (E : XK), Room k (A.deeper (envOfC x (defScope st) s.heap.objs.size f cdv)) → sp vs H Q E →
      ∃ t, PSs (cxOf CX0 P w K mg base N x (defScope st) f cdv A outer s H E) (defBody st) t ∧ t { nx := fun _ H' => Q .non H', rt := Q } (start N vs) H) : Cl P w K mg base (k + 1) x sp :=
  ⟨f, fd, ps, fn_of1 D S len hbody, hm, D.kp, hb⟩
end
section
variable {X : Cx} {k j : Nat} {x : Str} {sp : Sp} {p pos : Pos} {e : Expr} {es : List Expr} {t : TA}
theorem pe_cl (c : Cl X.prog X.w X.K X.mg X.base k x sp) (hr : Room j X.A) (hk : k ≤ j) (hg : Gl X x) (ha : PA X (e :: es) t)
    (hdb : (x == ("__debug__" : Str)) = false := by decide) (he : starEach (e :: es) X.env = (false, eval e X.env) :: starEach es X.env := by rfl) (hpl : (backTo pos (starEach es X.env)).any (·.1) = false := by rfl) :
    PE X (.Call (.Name x p) (e :: es) [] pos) (tCall sp [] E0 t) := by
  obtain ⟨f, fd, ps, F, hm, kp, b⟩ := c.ex
  exact pe_call F (hr.mono hk) hg hm kp b .nil pass0 ha hdb he hpl
theorem pe_cl0 (c : Cl X.prog X.w X.K X.mg X.base k x sp) (hr : Room j X.A) (hk : k ≤ j) (hg : Gl X x)
    (hdb : (x == ("__debug__" : Str)) = false := by decide) :
    PE X (.Call (.Name x p) [] [] pos) (tCall sp [] E0 tNil) := by
  obtain ⟨f, fd, ps, F, hm, kp, b⟩ := c.ex
  exact pe_call0 F (hr.mono hk) hg hm kp b .nil pass0 hdb
end

/-! ## heaps -/
theorem same_upd {H : Hp} {p : Addr} {o : HO} (h : H p = none) : Same H (upd H p o) := fun b x e => by
  rw [upd_ne (ne_of_none e h)]
  exact e
theorem upd_get {H : Hp} {p a : Addr} {o x : HO} (h : H p = none) (e : H a = some x) : upd H p o a = some x := same_upd h a x e
theorem upd_mut {H : Hp} {p a : Addr} {o x : HO} (h : a ≠ p) (e : H a = some x) : upd H p o a = some x := by
  rw [upd_ne h]
  exact e
/-- the heap without what stands at r -/
def but (r : Addr) (H : Hp) : Hp := fun a => if a = r then none else H a
theorem but_same {r : Addr} {H : Hp} : Same (but r H) H := fun b o e => by
  unfold but at e
  split at e
  · cases e
  · exact e
theorem but_none {r : Addr} {H : Hp} : but r H r = none := by
  unfold but
  rw [if_pos rfl]
theorem but_get {r a : Addr} {H : Hp} {o : HO} (h : a ≠ r) (e : H a = some o) : but r H a = some o := by
  unfold but
  rw [if_neg h]
  exact e
theorem but_upd {r : Addr} {H : Hp} {o : HO} : but r (upd H r o) = but r H := by
  funext a
  unfold but upd
  by_cases h : a = r
  · rw [if_pos h, if_pos h]
  · rw [if_neg h, if_neg h, if_neg h]
theorem Same.but {r : Addr} {H H' : Hp} (h : Same H H') : Same (but r H) (but r H') := fun b o e => by
  unfold Rl.but at e ⊢
  split at e
  · cases e
  · rename_i q
    rw [if_neg q]
    exact h b o e
theorem sm_new {A H : Hp} {p : Addr} {o : HO} (h : H p = none) (e : Same A H) : Same A (upd H p o) := e.trans (same_upd h)
theorem sm_bnew {A H : Hp} {p r : Addr} {o : HO} (h : H p = none) (e : Same A (Rl.but r H)) : Same A (Rl.but r (upd H p o)) := e.trans (Same.but (same_upd h))
theorem sm_bmut {A H : Hp} {r : Addr} {o : HO} (e : Same A (Rl.but r H)) : Same A (Rl.but r (upd H r o)) := by
  rw [but_upd]
  exact e
theorem sm_by {A H H' : Hp} (h : Same H H') (e : Same A H) : Same A H' := e.trans h
theorem sm_bby {A H H' : Hp} {r : Addr} (h : Same H H') (e : Same A (Rl.but r H)) : Same A (Rl.but r H') := e.trans (Same.but h)
theorem same_but {t : Addr} {H : Hp} (h : H t = none) : Same H (Rl.but t H) := fun a o e => but_get (ne_of_none e h) e
theorem Same.of_but {r : Addr} {H H' : Hp} (h : Same (Rl.but r H) (Rl.but r H')) {a : Addr} {o : HO} (n : a ≠ r) (e : H a = some o) : H' a = some o := but_same a o (h a o (but_get n e))
theorem Same.seqT {K : PySem.W.Frag} {H H' : Hp} {a : Addr} {xs : List V} (e : Same H H') (h : SqT K H a xs) : SqT K H' a xs := by
  rcases h with (g | ⟨o, g⟩) | g
  · exact .inl (.inl (e _ _ g))
  · exact .inl (.inr ⟨o, e _ _ g⟩)
  · exact .inr g
theorem SqL.mono {K : PySem.W.Frag} {H H' : Hp} {a : Addr} {xs : List V} (e : Same H H') (h : SqL K H a xs) : SqL K H' a xs := e.seq h
theorem SqT.mono {K : PySem.W.Frag} {H H' : Hp} {a : Addr} {xs : List V} (e : Same H H') (h : SqT K H a xs) : SqT K H' a xs := Same.seqT e h
mutual
theorem Dp.mono {K : PySem.W.Frag} {H H' : Hp} (e : Same H H') : ∀ {d : PyData} {v : V}, Dp K H v d → Dp K H' v d
  | _, _, .non => .non
  | _, _, .bl b => .bl b
  | _, _, .int i => .int i
  | _, _, .str x => .str x
  | _, _, .lst hs ha => .lst (e.seq hs) (DpAll.mono e ha)
  | _, _, .tup hs ha => .tup (Same.seqT e hs) (DpAll.mono e ha)
theorem DpAll.mono {K : PySem.W.Frag} {H H' : Hp} (e : Same H H') : ∀ {ds : List PyData} {vs : List V}, DpAll K H vs ds → DpAll K H' vs ds
  | _, _, .nil => .nil
  | _, _, .cons a b => .cons (Dp.mono e a) (DpAll.mono e b)
end
theorem dp_none {K : PySem.W.Frag} {H : Hp} {v : V} (h : Dp K H v .none) : v = .non := by
  cases h
  rfl
theorem dp_int {K : PySem.W.Frag} {H : Hp} {v : V} {i : Int} (h : Dp K H v (.int i)) : v = .int i := by
  cases h
  rfl
theorem dp_bool {K : PySem.W.Frag} {H : Hp} {v : V} {i : Bool} (h : Dp K H v (.bool i)) : v = .bl i := by
  cases h
  rfl
theorem dp_str {K : PySem.W.Frag} {H : Hp} {v : V} {i : Str} (h : Dp K H v (.str i)) : v = .str i := by
  cases h
  rfl
theorem dp_tup {K : PySem.W.Frag} {H : Hp} {v : V} {ds : List PyData} (h : Dp K H v (.tuple ds)) : ∃ p xs, v = .ref p ∧ SqT K H p xs ∧ DpAll K H xs ds := by
  cases h with
  | tup hs ha => exact ⟨_, _, rfl, hs, ha⟩
theorem dp_lst {K : PySem.W.Frag} {H : Hp} {v : V} {ds : List PyData} (h : Dp K H v (.list ds)) : ∃ p xs, v = .ref p ∧ SqL K H p xs ∧ DpAll K H xs ds := by
  cases h with
  | lst hs ha => exact ⟨_, _, rfl, hs, ha⟩
theorem DpAll.length {K : PySem.W.Frag} {H : Hp} : ∀ {vs : List V} {ds : List PyData}, DpAll K H vs ds → vs.length = ds.length
  | _, _, .nil => rfl
  | _, _, .cons _ t => by rw [List.length_cons, List.length_cons, DpAll.length t]
theorem DpAll.get {K : PySem.W.Frag} {H : Hp} : ∀ {vs : List V} {ds : List PyData}, DpAll K H vs ds → ∀ {i : Nat} {v : V}, vs[i]? = some v → ∃ d, ds[i]? = some d ∧ Dp K H v d
  | _, _, .nil, i, v, h => by cases h
  | _, _, .cons (d := d) a t, 0, v, h => ⟨d, rfl, by
    have e := Option.some.inj h
    rw [← e]
    exact a⟩
  | _, _, .cons _ t, i + 1, v, h => DpAll.get t (i := i) h
theorem DpAll.ints {K : PySem.W.Frag} {H : Hp} : ∀ ns : List Int, DpAll K H (ns.map V.int) (ns.map PyData.int)
  | [] => .nil
  | n :: ns => .cons (.int n) (DpAll.ints ns)
theorem DpAll.of_ints {K : PySem.W.Frag} {H : Hp} : ∀ {vs : List V} {ns : List Int}, DpAll K H vs (ns.map PyData.int) → vs = ns.map V.int
  | _, [], h => by
    cases h
    rfl
  | _, n :: ns, h => by
    cases h with
    | cons a t => rw [dp_int a, DpAll.of_ints t]; rfl
/-! ## slices, repeated lists -/
theorem drop_min {α : Type} (xs : List α) (k : Nat) : xs.drop (min k xs.length) = xs.drop k := by
  by_cases h : k ≤ xs.length
  · rw [Nat.min_eq_left h]
  · rw [Nat.min_eq_right (by omega), List.drop_length, List.drop_eq_nil_of_le (by omega)]
theorem take_min {α : Type} (xs : List α) (k : Nat) : xs.take (min k xs.length) = xs.take k := by
  by_cases h : k ≤ xs.length
  · rw [Nat.min_eq_left h]
  · rw [Nat.min_eq_right (by omega), List.take_length, List.take_of_length_le (by omega)]
/-- xs[k:] -/
theorem cut_from (xs : List V) (k : Nat) : cutV xs (some (k : Int)) none = xs.drop k := by
  unfold cutV
  rw [HT.sIx_nat, HT.sIx_none, drop_min]
  refine List.take_of_length_le ?_
  rw [List.length_drop]
  omega
/-- xs[:k] -/
theorem cut_to (xs : List V) (k : Nat) : cutV xs none (some (k : Int)) = xs.take k := by
  unfold cutV
  rw [HT.sIx_nat, HT.sIx_none, List.drop_zero, Nat.sub_zero, take_min]
theorem cut_fromI (xs : List V) {i : Int} (h : 0 ≤ i) : cutV xs (some i) none = xs.drop i.toNat := by
  have e : ((i.toNat : Nat) : Int) = i := Int.toNat_of_nonneg h
  rw [← cut_from, e]
theorem cut_toI (xs : List V) {i : Int} (h : 0 ≤ i) : cutV xs none (some i) = xs.take i.toNat := by
  have e : ((i.toNat : Nat) : Int) = i := Int.toNat_of_nonneg h
  rw [← cut_to, e]
theorem rep_if (x : V) (b : Bool) : (List.replicate (if b then (1 : Int) else 0).toNat [x]).flatten = if b then [x] else [] := by
  cases b <;> rfl
theorem rep_one (x : V) (n : Nat) : (List.replicate n [x]).flatten = List.replicate n x := by
  induction n with
  | zero => rfl
  | succ n ih => rw [List.replicate_succ, List.flatten_cons, ih]; rfl
/-! ## the type of data -/
def tyD : PyData → String
  | .none => "NoneType"
  | .bool _ => "bool"
  | .int _ => "int"
  | .str _ => "str"
  | .list _ => "list"
  | .tuple _ => "tuple"
  | .dict _ => "dict"
theorem sql_ty {K : PySem.W.Frag} {H : Hp} {a : Addr} {xs : List V} (h : SqL K H a xs) : TyX K H (.ref a) (.type "list") := by
  rcases h with (h | ⟨o, h⟩) | ⟨o, its, n, h1, h2, _⟩
  · exact .base (.lst h)
  · exact .base (.frz h)
  · exact .kList h1 h2
theorem sqt_ty {K : PySem.W.Frag} {H : Hp} {a : Addr} {xs : List V} (h : SqT K H a xs) : TyX K H (.ref a) (.type "tuple") := by
  rcases h with (h | ⟨o, h⟩) | ⟨o, its, n, h1, h2, _⟩
  · exact .base (.tup h)
  · exact .fTuple h
  · exact .kTuple h1 h2
theorem Dp.ty {K : PySem.W.Frag} {H : Hp} {v : V} {d : PyData} (h : Dp K H v d) : TyX K H v (.type (tyD d)) := by
  cases h with
  | non => exact .base .non
  | bl b => exact .base (.bl b)
  | int i => exact .base (.int i)
  | str x => exact .base (.str x)
  | lst hs _ => exact sql_ty hs
  | tup hs _ => exact sqt_ty hs
end Rl
namespace Rl.R
open PySem PySem.Spec PyProof.Rows L2 Rl
/-! ## one step of a reading -/
section
variable {K : PySem.W.Frag} {σ : L2.St} {H : Hp} {Q : VK} {QA : List V → Hp → Prop} {QB : Bool → Hp → Prop} {ta tb tc te : TE} {tr : TA} {x y z v : V} {i j : Int} {n : Nat}
theorem var (q : Q v H) (h : σ[n]? = some (some v) := by with_unfolding_all rfl) : tVar n σ H Q := ⟨v, h, q⟩
theorem c (q : Q v H) : tC v σ H Q := q
theorem op {r : R2} (q : ta σ H fun x H1 => tb σ H1 fun y H2 => r x y H2 Q) : tOp r ta tb σ H Q := q
theorem un {r : V → Hp → VK → Prop} (q : ta σ H fun x H1 => r x H1 Q) : tUn r ta σ H Q := q
theorem neg (q : Q (.int (-i)) H) : rU (fun i => .int (-i)) (.int i) H Q := ⟨i, rfl, q⟩
theorem test (q : te σ H fun x H' => ∃ k, x = .bl k ∧ QB k H') : tTest te σ H QB := q
theorem tB' (q : te σ H fun x H' => ∃ k, x = .bl k ∧ QB k H') : tB te σ H QB := q
theorem bl {b : Bool} {F : Bool → Prop} (q : F b) : ∃ k, V.bl b = .bl k ∧ F k := ⟨b, rfl, q⟩
theorem tru (q : te σ H fun x H' => ∃ k, TruV K x H' k ∧ QB k H') : tTru K te σ H QB := q
theorem and' {t u : TT} (q : t σ H fun c H1 => if c = true then u σ H1 QB else QB false H1) : tAnd t u σ H QB := q
theorem or' {t u : TT} (q : t σ H fun c H1 => if c = true then QB true H1 else u σ H1 QB) : tOr t u σ H QB := q
theorem not' {t : TT} (q : t σ H fun c H1 => QB (!c) H1) : tNot t σ H QB := q
theorem yes (q : QB true H) : tYes σ H QB := q
theorem andV (q : ta σ H fun x H1 => ∃ c, x = .bl c ∧ if c = true then tb σ H1 Q else Q (.bl false) H1) : tAndV ta tb σ H Q := q
theorem orV (q : ta σ H fun x H1 => ∃ c, x = .bl c ∧ if c = true then Q (.bl true) H1 else tb σ H1 Q) : tOrV ta tb σ H Q := q
theorem notV (q : ta σ H fun x H1 => ∃ c, x = .bl c ∧ Q (.bl (!c)) H1) : tNotV ta σ H Q := q
theorem ifE {t : TT} (q : t σ H fun c H1 => if c = true then ta σ H1 Q else tb σ H1 Q) : tIf t ta tb σ H Q := q
theorem cons (q : ta σ H fun x H1 => tr σ H1 fun xs H2 => QA (x :: xs) H2) : tCons ta tr σ H QA := q
theorem nil (q : QA [] H) : tNil σ H QA := q
theorem call {sp : Sp} {E : XK} (q : tr σ H fun vs H1 => sp (vs ++ []) H1 Q E) : tCall sp [] E tr σ H Q := q
theorem app {sp : Sp} {E : XK} {vs : List V} (q : sp vs H Q E) : sp (vs ++ []) H Q E := by
  rw [List.append_nil]
  exact q
theorem cb {r : List V → Hp → VK → Prop} (q : tr σ H fun vs H1 => r vs H1 Q) : tCB r tr σ H Q := q
theorem tup (q : tr σ H fun xs H1 => xs.length ≤ sizeLine ∧ ∀ p, H1 p = none → Q (.ref p) (upd H1 p (.tup xs))) : tTup tr σ H Q := q
theorem lst (q : tr σ H fun xs H1 => xs.length ≤ sizeLine ∧ ∀ p, H1 p = none → Q (.ref p) (upd H1 p (.lst xs))) : tLst tr σ H Q := q
theorem sl {r : V → Option Int → Option Int → Hp → VK → Prop} {tl th : TO} (q : te σ H fun x H1 => tl σ H1 fun l H2 => th σ H2 fun u H3 => r x l u H3 Q) : tSl r te tl th σ H Q := q
theorem noPart {QO : Option Int → Hp → Prop} (q : QO none H) : tNoPart σ H QO := q
theorem part {QO : Option Int → Hp → Prop} (q : te σ H fun x H1 => ∃ i, x = .int i ∧ QO (some i) H1) : tPart te σ H QO := q
theorem exI {F : Int → Prop} (q : F i) : ∃ k, V.int i = .int k ∧ F k := ⟨i, rfl, q⟩
theorem chain {r r' : R2} (q : ta σ H fun x H1 => tb σ H1 fun y H2 => r x y H2 fun z H3 => ∃ k, z = .bl k ∧ (if k = true then tc σ H3 fun w' H4 => r' y w' H4 Q else Q (.bl false) H3)) : tChain r r' ta tb tc σ H Q := q
/-! operators by values -/
theorem addI (q : Q (.int (i + j)) H) : rAddA K (.int i) (.int j) H Q := .inl ⟨i, j, rfl, rfl, q⟩
theorem addS {a b : Str} (h : a.length + b.length ≤ sizeLine) (q : Q (.str (a ++ b)) H) : rAddA K (.str a) (.str b) H Q := .inr (.inl ⟨a, b, rfl, rfl, h, q⟩)
theorem cat {p b : Addr} {xs ys : List V} (h : H p = some (.lst xs)) (h2 : H b = some (.lst ys)) (hl : xs.length + ys.length ≤ sizeLine) (q : ∀ l, H l = none → Q (.ref l) (upd H l (.lst (xs ++ ys)))) : rAddA K (.ref p) (.ref b) H Q :=
  .inr (.inr (.inl ⟨p, b, xs, ys, rfl, rfl, h, h2, hl, q⟩))
theorem catT {p b : Addr} {xs ys : List V} (h : SqT K H p xs) (h2 : SqT K H b ys) (h0 : xs ≠ []) (hl : xs.length + ys.length ≤ sizeLine) (q : ys = [] → Q (.ref p) H) (q2 : ys ≠ [] → ∀ l, H l = none → Q (.ref l) (upd H l (.tup (xs ++ ys)))) : rAddA K (.ref p) (.ref b) H Q :=
  .inr (.inr (.inr ⟨p, b, xs, ys, rfl, rfl, h, h2, h0, hl, q, q2⟩))
theorem subI (q : Q (.int (i - j)) H) : rSubA (.int i) (.int j) H Q := ⟨i, j, rfl, rfl, q⟩
theorem mulI (h : CMulA i j) (q : Q (.int (i * j)) H) : rMulA (.int i) (.int j) H Q := .inl ⟨i, j, rfl, rfl, h, q⟩
theorem rep {p : Addr} {xs : List V} (h : H p = some (.lst xs)) (h1 : -(2 ^ 63) ≤ i) (h2 : i < 2 ^ 63) (hl : xs.length * i.toNat ≤ sizeLine) (q : ∀ l, H l = none → Q (.ref l) (upd H l (.lst (List.replicate i.toNat xs).flatten))) : rMulA (.ref p) (.int i) H Q :=
  .inr ⟨p, i, xs, rfl, rfl, h, h1, h2, hl, q⟩
theorem modI (h : 0 < j) (q : Q (.int (i % j)) H) : rModA (.int i) (.int j) H Q := ⟨i, j, rfl, rfl, h, q⟩
theorem divI (h : CDivW i j) (q : Q (.int (i / j)) H) : rDivA (.int i) (.int j) H Q := ⟨i, j, rfl, rfl, h, q⟩
theorem powI (h : CPow i j) (q : Q (.int (i ^ j.toNat)) H) : rPowA (.int i) (.int j) H Q := ⟨i, j, rfl, rfl, h, q⟩
theorem shlI (h : CPow i j) (q : Q (.int (i * 2 ^ j.toNat)) H) : rShlA (.int i) (.int j) H Q := ⟨i, j, rfl, rfl, h, q⟩
theorem shrI (h : 0 ≤ j) (q : Q (.int (i / 2 ^ j.toNat)) H) : rShrA (.int i) (.int j) H Q := ⟨i, j, rfl, rfl, h, q⟩
theorem andI (q : Q (.int (Builtin.bitAnd i j)) H) : rAndA (.int i) (.int j) H Q := ⟨i, j, rfl, rfl, q⟩
theorem and3 (q : Q (.int (i % 4)) H) : rAndA (.int i) (.int 3) H Q := ⟨i, 3, rfl, rfl, by show Q (.int (Builtin.bitAnd i 3)) H; rw [bitAnd_m2]; exact q⟩
theorem and15 (h : 0 ≤ i) (q : Q (.int (i % 16)) H) : rAndA (.int i) (.int 15) H Q := ⟨i, 15, rfl, rfl, by show Q (.int (Builtin.bitAnd i 15)) H; rw [show Builtin.bitAnd i 15 = i % 16 from Bits.bitAnd_mask 4 h]; exact q⟩
theorem shr4 (q : Q (.int (i / 16)) H) : rShrA (.int i) (.int 4) H Q := ⟨i, 4, rfl, rfl, (by decide : (0 : Int) ≤ 4), q⟩
theorem shr2 (q : Q (.int (i / 4)) H) : rShrA (.int i) (.int 2) H Q := ⟨i, 2, rfl, rfl, (by decide : (0 : Int) ≤ 2), q⟩
theorem orI (q : Q (.int (Builtin.bitOr i j)) H) : rOrA (.int i) (.int j) H Q := ⟨i, j, rfl, rfl, q⟩
theorem xorI (q : Q (.int (Builtin.bitXor i j)) H) : rXorA (.int i) (.int j) H Q := ⟨i, j, rfl, rfl, q⟩
theorem ltI (q : Q (.bl (decide (i < j))) H) : rLtA (.int i) (.int j) H Q := ⟨i, j, rfl, rfl, q⟩
theorem leI (q : Q (.bl (decide (i ≤ j))) H) : rLeA (.int i) (.int j) H Q := ⟨i, j, rfl, rfl, q⟩
theorem gtI (q : Q (.bl (decide (j < i))) H) : rGtA (.int i) (.int j) H Q := ⟨i, j, rfl, rfl, q⟩
theorem geI (q : Q (.bl (decide (j ≤ i))) H) : rGeA (.int i) (.int j) H Q := ⟨i, j, rfl, rfl, q⟩
theorem dI : decide (V.int i = V.int j) = decide (i = j) := by
  rw [dec_int]
  exact (Bool.beq_eq_decide_eq i j)
theorem dS {a b : Str} : decide (V.str a = V.str b) = decide (a = b) := by
  by_cases h : a = b
  · rw [h, decide_eq_true rfl, decide_eq_true rfl]
  · rw [decide_eq_false h, decide_eq_false fun q => h (V.str.inj q)]
theorem dB {a b : Bool} : decide (V.bl a = V.bl b) = decide (a = b) := by
  by_cases h : a = b
  · rw [h, decide_eq_true rfl, decide_eq_true rfl]
  · rw [decide_eq_false h, decide_eq_false fun q => h (V.bl.inj q)]
theorem eqI (q : Q (.bl (decide (i = j))) H) : rEqA K (.int i) (.int j) H Q := .inl ⟨rfl, by rw [dI]; exact q⟩
theorem eqS {a b : Str} (q : Q (.bl (decide (a = b))) H) : rEqA K (.str a) (.str b) H Q := .inl ⟨rfl, by rw [dS]; exact q⟩
theorem eqB {a b : Bool} (q : Q (.bl (decide (a = b))) H) : rEqA K (.bl a) (.bl b) H Q := .inl ⟨rfl, by rw [dB]; exact q⟩
theorem neI (q : Q (.bl (!decide (i = j))) H) : rNeA K (.int i) (.int j) H Q := .inl ⟨rfl, by rw [dI]; exact q⟩
theorem neS {a b : Str} (q : Q (.bl (!decide (a = b))) H) : rNeA K (.str a) (.str b) H Q := .inl ⟨rfl, by rw [dS]; exact q⟩
theorem neB {a b : Bool} (q : Q (.bl (!decide (a = b))) H) : rNeA K (.bl a) (.bl b) H Q := .inl ⟨rfl, by rw [dB]; exact q⟩
theorem eqD {d e : PyData} (hx : Dp K H x d) (hy : Dp K H y e) (sd : SeqAt.shaped d = true) (se : SeqAt.shaped e = true) (q : Q (.bl (PyData.eqv d e)) H) : rEqA K x y H Q := .inr ⟨d, e, hx, hy, sd, se, q⟩
theorem neD {d e : PyData} (hx : Dp K H x d) (hy : Dp K H y e) (sd : SeqAt.shaped d = true) (se : SeqAt.shaped e = true) (q : Q (.bl (!PyData.eqv d e)) H) : rNeA K x y H Q := .inr ⟨d, e, hx, hy, sd, se, q⟩
theorem isN (q : Q (.bl (decide (x = .non))) H) : rIsN x .non H Q := ⟨rfl, q⟩
theorem notN (q : Q (.bl (!decide (x = .non))) H) : rNotN x .non H Q := ⟨rfl, q⟩
theorem isNn (q : Q (.bl true) H) : rIsN .non .non H Q := ⟨rfl, by rw [decide_eq_true rfl]; exact q⟩
theorem isNr {p : Addr} (q : Q (.bl false) H) : rIsN (.ref p) .non H Q := ⟨rfl, by rw [decide_eq_false fun z => nomatch z]; exact q⟩
theorem isNi (q : Q (.bl false) H) : rIsN (.int i) .non H Q := ⟨rfl, by rw [decide_eq_false fun z => nomatch z]; exact q⟩
theorem isNb {b : Bool} (q : Q (.bl false) H) : rIsN (.bl b) .non H Q := ⟨rfl, by rw [decide_eq_false fun z => nomatch z]; exact q⟩
theorem isNs {s : Str} (q : Q (.bl false) H) : rIsN (.str s) .non H Q := ⟨rfl, by rw [decide_eq_false fun z => nomatch z]; exact q⟩
theorem notNb {b : Bool} (q : Q (.bl true) H) : rNotN (.bl b) .non H Q := ⟨rfl, by rw [decide_eq_false fun z => nomatch z]; exact q⟩
theorem notNs {s : Str} (q : Q (.bl true) H) : rNotN (.str s) .non H Q := ⟨rfl, by rw [decide_eq_false fun z => nomatch z]; exact q⟩
theorem eqBx {b : Bool} (q : Q (.bl true) H) : rEqA K (.bl b) (.bl b) H Q := eqB (by rw [decide_eq_true rfl]; exact q)
theorem neBx {b : Bool} (q : Q (.bl false) H) : rNeA K (.bl b) (.bl b) H Q := neB (by rw [decide_eq_true rfl]; exact q)
theorem eqIx {i : Int} (q : Q (.bl true) H) : rEqA K (.int i) (.int i) H Q := eqI (by rw [decide_eq_true rfl]; exact q)
theorem neIx {i : Int} (q : Q (.bl false) H) : rNeA K (.int i) (.int i) H Q := neI (by rw [decide_eq_true rfl]; exact q)
theorem eqSx {b : Str} (q : Q (.bl true) H) : rEqA K (.str b) (.str b) H Q := eqS (by rw [decide_eq_true rfl]; exact q)
theorem neSx {b : Str} (q : Q (.bl false) H) : rNeA K (.str b) (.str b) H Q := neS (by rw [decide_eq_true rfl]; exact q)
theorem notNn (q : Q (.bl false) H) : rNotN .non .non H Q := ⟨rfl, by rw [decide_eq_true rfl]; exact q⟩
theorem notNr {p : Addr} (q : Q (.bl true) H) : rNotN (.ref p) .non H Q := ⟨rfl, by rw [decide_eq_false fun z => nomatch z]; exact q⟩
theorem notNi (q : Q (.bl true) H) : rNotN (.int i) .non H Q := ⟨rfl, by rw [decide_eq_false fun z => nomatch z]; exact q⟩
theorem inKDi {a : Addr} {w : World} {kvs : List (Key × V)} (D : KD K w a kvs) (q : Q (.bl (valV kvs (Sum.inl i)).isSome) H) : rInKD K w (.int i) (.ref a) H Q := ⟨a, kvs, Sum.inl i, rfl, rfl, D, q⟩
theorem inKDs {a : Addr} {w : World} {kvs : List (Key × V)} {s : Str} (D : KD K w a kvs) (q : Q (.bl (valV kvs (Sum.inr s)).isSome) H) : rInKD K w (.str s) (.ref a) H Q := ⟨a, kvs, Sum.inr s, rfl, rfl, D, q⟩
theorem ixKDi {a : Addr} {w : World} {kvs : List (Key × V)} (D : KD K w a kvs) (h : valV kvs (Sum.inl i) = some v) (q : Q v H) : rIxKD K w (.ref a) (.int i) H Q := ⟨a, kvs, Sum.inl i, v, rfl, rfl, D, h, q⟩
theorem ixKDs {a : Addr} {w : World} {kvs : List (Key × V)} {s : Str} (D : KD K w a kvs) (h : valV kvs (Sum.inr s) = some v) (q : Q v H) : rIxKD K w (.ref a) (.str s) H Q := ⟨a, kvs, Sum.inr s, v, rfl, rfl, D, h, q⟩
theorem valV_ints {α : Type} {f : α → V} (k : Int) : ∀ l : List (Int × α), valV (l.map fun p => ((Sum.inl p.1 : Key), f p.2)) (Sum.inl k) = (l.lookup k).map f
  | [] => rfl
  | (j, x) :: r => by
    rw [List.map_cons]
    by_cases h : j = k
    · rw [valV_pos (p := ((Sum.inl j : Key), f x)) (by rw [h]), h, List.lookup_cons_self]
      rfl
    · rw [valV_neg (p := ((Sum.inl j : Key), f x)) (fun q => h (Sum.inl.inj q)), valV_ints k r, List.lookup_cons]
      have e : (k == j) = false := beq_eq_false_iff_ne.mpr fun q => h q.symm
      rw [e]
/-! items -/
theorem ixL {p : Addr} {xs : List V} (h : SqL K H p xs) (hi : atI xs i = some v) (q : Q v H) : rIx K (.ref p) (.int i) H Q := .inl ⟨p, xs, i, v, rfl, rfl, h, hi, q⟩
theorem ixT {p : Addr} {xs : List V} (h : SqT K H p xs) (hi : atI xs i = some v) (q : Q v H) : rIx K (.ref p) (.int i) H Q := .inr (.inl ⟨p, xs, i, v, rfl, rfl, h, hi, q⟩)
theorem ixS {s : Str} {k : Nat} (hl : s.length ≤ sizeLine) (hi : atI s.cps.toList i = some k) (q : Q (.str ⟨#[k]⟩) H) : rIx K (.str s) (.int i) H Q := .inr (.inr ⟨s, i, k, rfl, rfl, hl, hi, q⟩)
theorem atI_pos {α : Type} {xs : List α} {v : α} (h0 : 0 ≤ i) (h : xs[i.toNat]? = some v) : atI xs i = some v := by
  have e : ((i.toNat : Nat) : Int) = i := Int.toNat_of_nonneg h0
  rw [← e]
  exact atI_nat h
theorem ixT0 {p : Addr} {xs : List V} (h : SqT K H p (x :: xs)) (q : Q x H) : rIx K (.ref p) (.int 0) H Q := ixT h (atI_pos (Int.le_refl 0) rfl) q
theorem ixT1 {p : Addr} {xs : List V} (h : SqT K H p (x :: y :: xs)) (q : Q y H) : rIx K (.ref p) (.int 1) H Q := ixT h (atI_pos (by decide) rfl) q
theorem ixL0 {p : Addr} {xs : List V} (h : SqL K H p (x :: xs)) (q : Q x H) : rIx K (.ref p) (.int 0) H Q := ixL h (atI_pos (Int.le_refl 0) rfl) q
theorem ixL1 {p : Addr} {xs : List V} (h : SqL K H p (x :: y :: xs)) (q : Q y H) : rIx K (.ref p) (.int 1) H Q := ixL h (atI_pos (by decide) rfl) q
/-- an item of a list of ints -/
theorem ixLI {p : Addr} {ns : List Int} (h : SqL K H p (ns.map V.int)) (h0 : 0 ≤ i) (h1 : i < ns.length) (q : ∀ m, ns[i.toNat]? = some m → m ∈ ns → Q (.int m) H) : rIx K (.ref p) (.int i) H Q := by
  have hl : i.toNat < ns.length := by omega
  have e : ns[i.toNat]? = some ns[i.toNat] := List.getElem?_eq_getElem hl
  exact ixL h (atI_pos h0 (by rw [List.getElem?_map, e]; rfl)) (q _ e (List.mem_of_getElem? e))
/-- any item of a list -/
theorem ixLV {p : Addr} {xs : List V} (h : SqL K H p xs) (h0 : 0 ≤ i) (h1 : i < xs.length) (q : ∀ m, xs[i.toNat]? = some m → m ∈ xs → Q m H) : rIx K (.ref p) (.int i) H Q := by
  have hl : i.toNat < xs.length := by omega
  have e : xs[i.toNat]? = some xs[i.toNat] := List.getElem?_eq_getElem hl
  exact ixL h (atI_pos h0 e) (q _ e (List.mem_of_getElem? e))
theorem ixTV {p : Addr} {xs : List V} (h : SqT K H p xs) (h0 : 0 ≤ i) (h1 : i < xs.length) (q : ∀ m, xs[i.toNat]? = some m → m ∈ xs → Q m H) : rIx K (.ref p) (.int i) H Q := by
  have hl : i.toNat < xs.length := by omega
  have e : xs[i.toNat]? = some xs[i.toNat] := List.getElem?_eq_getElem hl
  exact ixT h (atI_pos h0 e) (q _ e (List.mem_of_getElem? e))
theorem setL {p : Addr} {xs : List V} {QS : Hp → Prop} {k : Nat} (h : H p = some (.lst xs)) (hi : ixN xs.length i = some k) (q : QS (upd H p (.lst (xs.set k v)))) : rSetL (.ref p) (.int i) v H QS := ⟨p, xs, i, k, rfl, rfl, h, hi, q⟩
theorem ixN_pos {n : Nat} (h0 : 0 ≤ i) (h : i < n) : ixN n i = some i.toNat := by
  unfold ixN
  rw [if_pos h0, if_pos h]
theorem setLI {p : Addr} {ns : List Int} {n : Int} {QS : Hp → Prop} (h : H p = some (.lst (ns.map V.int))) (h0 : 0 ≤ i) (h1 : i < ns.length) (q : QS (upd H p (.lst ((ns.set i.toNat n).map V.int)))) : rSetL (.ref p) (.int i) (.int n) H QS :=
  setL (k := i.toNat) h (by rw [List.length_map]; exact ixN_pos h0 h1) (by rw [← List.map_set]; exact q)
theorem gName {QS : L2.St → Hp → Prop} (q : QS (σ.set n (some v)) H) : L2.gName n v σ H QS := q
theorem gSub {to ti : TE} {ts : TSet} {QS : L2.St → Hp → Prop} (q : to σ H fun o H1 => ti σ H1 fun i H2 => ts o i v H2 fun H3 => QS σ H3) : L2.gSub to ti ts v σ H QS := q
theorem gTup {k : Nat} {t : TGs} {p : Addr} {xs : List V} {QS : L2.St → Hp → Prop} (h : SqT K H p xs) (hl : xs.length = k) (q : t xs σ H QS) : L2.gTup K k t (.ref p) σ H QS := ⟨p, xs, rfl, h, hl, q⟩
theorem gCons {t : TG} {u : TGs} {vs : List V} {QS : L2.St → Hp → Prop} (q : t v σ H fun σ' H' => u vs σ' H' QS) : L2.gCons t u (v :: vs) σ H QS := ⟨v, vs, rfl, q⟩
theorem gNil {QS : L2.St → Hp → Prop} (q : QS σ H) : L2.gNil [] σ H QS := ⟨rfl, q⟩
theorem slL {p : Addr} {xs : List V} {lo hi : Option Int} (h : SqL K H p xs) (q : ∀ l, H l = none → Q (.ref l) (upd H l (.lst (cutV xs lo hi)))) : rSlA K (.ref p) lo hi H Q := .inl ⟨p, xs, rfl, h, q⟩
theorem slFrom {p : Addr} {xs : List V} (h : SqL K H p xs) (h0 : 0 ≤ i) (q : ∀ l, H l = none → Q (.ref l) (upd H l (.lst (xs.drop i.toNat)))) : rSlA K (.ref p) (some i) none H Q := slL h (by rw [cut_fromI _ h0]; exact q)
theorem slTo {p : Addr} {xs : List V} (h : SqL K H p xs) (h0 : 0 ≤ i) (q : ∀ l, H l = none → Q (.ref l) (upd H l (.lst (xs.take i.toNat)))) : rSlA K (.ref p) none (some i) H Q := slL h (by rw [cut_toI _ h0]; exact q)
theorem slFromI {p : Addr} {ns : List Int} (h : SqL K H p (ns.map V.int)) (h0 : 0 ≤ i) (q : ∀ l, H l = none → Q (.ref l) (upd H l (.lst ((ns.drop i.toNat).map V.int)))) : rSlA K (.ref p) (some i) none H Q := slFrom h h0 (by rw [← List.map_drop]; exact q)
theorem slToI {p : Addr} {ns : List Int} (h : SqL K H p (ns.map V.int)) (h0 : 0 ≤ i) (q : ∀ l, H l = none → Q (.ref l) (upd H l (.lst ((ns.take i.toNat).map V.int)))) : rSlA K (.ref p) none (some i) H Q := slTo h h0 (by rw [← List.map_take]; exact q)
theorem repIf {p : Addr} {b : Bool} (h : H p = some (.lst [x])) (q : ∀ l, H l = none → Q (.ref l) (upd H l (.lst (if b then [x] else [])))) : rMulA (.ref p) (.int (if b then 1 else 0)) H Q :=
  rep h (by split <;> decide) (by split <;> decide) (by cases b <;> exact (by decide : (1 : Nat) * 1 ≤ sizeLine ∧ 1 * 0 ≤ sizeLine).elim (fun a c => by first | exact a | exact c)) (by rw [rep_if]; exact q)
theorem repIfI {p : Addr} {b : Bool} (h : H p = some (.lst [.int j])) (q : ∀ l, H l = none → Q (.ref l) (upd H l (.lst ((if b then [j] else []).map V.int)))) : rMulA (.ref p) (.int (if b then 1 else 0)) H Q :=
  repIf h (by
    have e : (if b then [V.int j] else []) = (if b then [j] else []).map V.int := by cases b <;> rfl
    rw [e]
    exact q)
theorem catI {p b : Addr} {xs ys : List Int} (h : H p = some (.lst (xs.map V.int))) (h2 : H b = some (.lst (ys.map V.int))) (hl : xs.length + ys.length ≤ sizeLine) (q : ∀ l, H l = none → Q (.ref l) (upd H l (.lst ((xs ++ ys).map V.int)))) : rAddA K (.ref p) (.ref b) H Q :=
  cat h h2 (by rw [List.length_map, List.length_map]; exact hl) (by rw [← List.map_append]; exact q)
/-! built-ins -/
theorem lenL {p : Addr} {xs : List V} (h : SqL K H p xs) (q : Q (.int xs.length) H) : rLenA K [.ref p] H Q := ⟨.ref p, xs.length, rfl, .inl ⟨xs, h, rfl⟩, q⟩
theorem lenT {p : Addr} {xs : List V} (h : SqT K H p xs) (q : Q (.int xs.length) H) : rLenA K [.ref p] H Q := ⟨.ref p, xs.length, rfl, .inr ⟨xs, h, rfl⟩, q⟩
theorem lenLI {p : Addr} {ns : List Int} (h : SqL K H p (ns.map V.int)) (q : Q (.int ns.length) H) : rLenA K [.ref p] H Q := lenL h (by rw [List.length_map]; exact q)
theorem lenTI {p : Addr} {ns : List Int} (h : SqT K H p (ns.map V.int)) (q : Q (.int ns.length) H) : rLenA K [.ref p] H Q := lenT h (by rw [List.length_map]; exact q)
theorem lenS {s : Str} (h : s.length ≤ sizeLine) (q : Q (.int s.length) H) : rLenA K [.str s] H Q := ⟨.str s, s.length, rfl, ⟨h, rfl⟩, q⟩
theorem intI (q : Q (.int i) H) : rInt1 [.int i] H Q := .inl ⟨i, rfl, q⟩
theorem intB {b : Bool} (q : Q (.int (if b then 1 else 0)) H) : rInt1 [.bl b] H Q := .inr ⟨b, rfl, q⟩
theorem abs' (q : Q (.int (if i < 0 then -i else i)) H) : rAbs [.int i] H Q := ⟨i, rfl, q⟩
theorem min2 (q : Q (.int (if j < i then j else i)) H) : rMin2 [.int i, .int j] H Q := ⟨i, j, rfl, q⟩
theorem max2 (q : Q (.int (if j > i then j else i)) H) : rMax2 [.int i, .int j] H Q := ⟨i, j, rfl, q⟩
theorem listL {p : Addr} {xs : List V} (h : SqL K H p xs) (q : ∀ l, H l = none → Q (.ref l) (upd H l (.lst xs))) : rListA K [.ref p] H Q := ⟨p, xs, rfl, .inl h, q⟩
theorem listT {p : Addr} {xs : List V} (h : SqT K H p xs) (q : ∀ l, H l = none → Q (.ref l) (upd H l (.lst xs))) : rListA K [.ref p] H Q := ⟨p, xs, rfl, .inr h, q⟩
theorem tupL {p : Addr} {xs : List V} (h : SqL K H p xs) (q : ∀ l, H l = none → Q (.ref l) (upd H l (.tup xs))) : rTupA K [.ref p] H Q := ⟨p, xs, rfl, .inl ⟨h, q⟩⟩
theorem tupT {p : Addr} {xs : List V} (h : SqT K H p xs) (q : Q (.ref p) H) : rTupA K [.ref p] H Q := ⟨p, xs, rfl, .inr ⟨h, q⟩⟩
theorem all' {p : Addr} {bs : List Bool} (h : SqL K H p (bs.map V.bl)) (q : Q (.bl (bs.all id)) H) : rAll K [.ref p] H Q := ⟨p, bs, rfl, h, q⟩
theorem any' {p : Addr} {bs : List Bool} (h : SqL K H p (bs.map V.bl)) (q : Q (.bl (bs.any id)) H) : rAny K [.ref p] H Q := ⟨p, bs, rfl, h, q⟩
theorem isiD {d : PyData} {cT : String} {b : Bool} (h : Dp K H x d) (hk : kitB (tyD d) cT = some b) (q : Q (.bl b) H) : rIsi K [x, .ty cT] H Q := ⟨x, .ty cT, _, .type cT, b, rfl, .ty cT, Dp.ty h, kit_ty hk, q⟩
theorem isi {T cT : String} {b : Bool} (ht : TyX K H x (.type T)) (hk : kitB T cT = some b) (q : Q (.bl b) H) : rIsi K [x, .ty cT] H Q := ⟨x, .ty cT, _, .type cT, b, rfl, .ty cT, ht, kit_ty hk, q⟩
/-! tests that are known -/
theorem iT {A B : Prop} (h : A) : if true = true then A else B := iteT h
theorem iF {A B : Prop} (h : B) : if false = true then A else B := iteF h
theorem iFO {b : Bool} {A B : Prop} (h : if b = true then A else B) : if (false || b) = true then A else B := by rw [Bool.false_or]; exact h
theorem iTO {b : Bool} {A B : Prop} (h : A) : if (true || b) = true then A else B := by rw [Bool.true_or]; exact iteT h
theorem iFA {b : Bool} {A B : Prop} (h : B) : if (false && b) = true then A else B := by rw [Bool.false_and]; exact iteF h
theorem iTA {b : Bool} {A B : Prop} (h : if b = true then A else B) : if (true && b) = true then A else B := by rw [Bool.true_and]; exact h
theorem iDT {p A B : Prop} [Decidable p] (hp : p) (h : A) : if decide p = true then A else B := by rw [decide_eq_true hp]; exact iteT h
theorem iDF {p A B : Prop} [Decidable p] (hp : ¬ p) (h : B) : if decide p = true then A else B := by rw [decide_eq_false hp]; exact iteF h
theorem iD {p A B : Prop} [Decidable p] (h1 : p → A) (h2 : ¬ p → B) : if decide p = true then A else B := by
  by_cases h : p
  · rw [decide_eq_true h]
    exact iteT (h1 h)
  · rw [decide_eq_false h]
    exact iteF (h2 h)
theorem iN {p A B : Prop} [Decidable p] (h1 : ¬ p → A) (h2 : p → B) : if (!decide p) = true then A else B := by
  by_cases h : p
  · rw [decide_eq_true h]
    exact iteF (h2 h)
  · rw [decide_eq_false h]
    exact iteT (h1 h)
theorem iB {b : Bool} {A B : Prop} (h1 : b = true → A) (h2 : b = false → B) : if b = true then A else B := by
  cases b with
  | true => exact iteT (h1 rfl)
  | false => exact iteF (h2 rfl)
end
section
variable {σ : L2.St} {H : Hp} {t u : TT} {QB : Bool → Hp → Prop} {b b' : Bool}
theorem andB (ht : ∀ QB : Bool → Hp → Prop, QB b H → t σ H QB) (hu : b = true → ∀ QB : Bool → Hp → Prop, QB b' H → u σ H QB) (q : QB (b && b') H) : tAnd t u σ H QB := by
  refine ht _ ?_
  cases b with
  | true => exact iteT (hu rfl _ q)
  | false => exact iteF q
theorem orB (ht : ∀ QB : Bool → Hp → Prop, QB b H → t σ H QB) (hu : b = false → ∀ QB : Bool → Hp → Prop, QB b' H → u σ H QB) (q : QB (b || b') H) : tOr t u σ H QB := by
  refine ht _ ?_
  cases b with
  | true => exact iteT q
  | false => exact iteF (hu rfl _ q)
theorem chainB {ta tb tc : TE} {r r' : R2} {x y z : V} {Q : VK} (ha : ∀ Q : VK, Q x H → ta σ H Q) (hb : ∀ Q : VK, Q y H → tb σ H Q) (hr : ∀ Q : VK, Q (.bl b) H → r x y H Q) (hc : b = true → ∀ Q : VK, Q z H → tc σ H Q) (hr' : b = true → ∀ Q : VK, Q (.bl b') H → r' y z H Q)
    (q : Q (.bl (b && b')) H) : tChain r r' ta tb tc σ H Q := by
  refine ha _ (hb _ (hr _ ⟨b, rfl, ?_⟩))
  cases b with
  | true => exact iteT (hc rfl _ (hr' rfl _ q))
  | false => exact iteF q
theorem iNot {b : Bool} {A B : Prop} (h : if b = true then B else A) : if (!b) = true then A else B := by
  cases b with
  | true => exact iteF (by rw [if_pos rfl] at h; exact h)
  | false => exact iteT (by rw [if_neg Bool.false_ne_true] at h; exact h)
theorem iAnd {p r A B : Prop} [Decidable p] [Decidable r] (h1 : p → r → A) (h2 : ¬ (p ∧ r) → B) : if (decide p && decide r) = true then A else B := by
  by_cases a : p
  · by_cases c : r
    · rw [decide_eq_true a, decide_eq_true c]
      exact iteT (h1 a c)
    · rw [decide_eq_false c, Bool.and_false]
      exact iteF (h2 fun z => c z.2)
  · rw [decide_eq_false a, Bool.false_and]
    exact iteF (h2 fun z => a z.1)
theorem iOr {p r A B : Prop} [Decidable p] [Decidable r] (h1 : p ∨ r → A) (h2 : ¬ p → ¬ r → B) : if (decide p || decide r) = true then A else B := by
  by_cases a : p
  · rw [decide_eq_true a, Bool.true_or]
    exact iteT (h1 (.inl a))
  · by_cases c : r
    · rw [decide_eq_true c, Bool.or_true]
      exact iteT (h1 (.inr c))
    · rw [decide_eq_false a, decide_eq_false c]
      exact iteF (h2 a c)
end
theorem cdiv {i j : Int} (h0 : 0 < j) (h1 : j < 1073741824) : CDivW i j := wide_div (b := 30) h0 (by omega) (by decide) (by decide)
theorem cpow {i j : Int} (h : decide (0 ≤ j ∧ j ≤ 1000000 ∧ i.natAbs < 2 ^ 64) = true) : CPow i j := by
  unfold CPow
  exact of_decide_eq_true h
theorem cmul1 {i j : Int} (h1 : -(2 ^ 64) < i) (h2 : i < 2 ^ 64) : CMulA i j := .inl (.inl ⟨h1, h2⟩)
theorem cmul2 {i j : Int} (h1 : -(2 ^ 64) < j) (h2 : j < 2 ^ 64) : CMulA i j := .inl (.inr ⟨h1, h2⟩)
theorem cdivL {i j : Int} (h : decide (0 < j ∧ j.natAbs.log2 < 9000) = true) : CDivW i j := by
  unfold CDivW
  exact of_decide_eq_true h
/-! ## statements; what follows written out -/
section
variable {K : PySem.W.Frag} {σ : L2.St} {H : Hp} {te : TE} {t u : TS} {nx bk ct : L2.St → Hp → Prop} {rt : VK} {g : TG} {n : Nat}
theorem seq (q : t ⟨u ⟨nx, rt, bk, ct⟩, rt, bk, ct⟩ σ H) : tSeq t u ⟨nx, rt, bk, ct⟩ σ H := q
/-- what follows, proved once for all ways -/
theorem joinS (P : L2.St → Hp → Prop) (key : ∀ σ H, P σ H → nx σ H) (q : ∀ N : L2.St → Hp → Prop, (∀ σ H, P σ H → N σ H) → t ⟨N, rt, bk, ct⟩ σ H) : t ⟨nx, rt, bk, ct⟩ σ H := q nx key
theorem next (q : nx σ H) : tNext ⟨nx, rt, bk, ct⟩ σ H := q
theorem asg (q : te σ H fun x H1 => g x σ H1 nx) : tAsg te g ⟨nx, rt, bk, ct⟩ σ H := q
theorem ret (q : te σ H rt) : tRet te ⟨nx, rt, bk, ct⟩ σ H := q
theorem retN (q : rt .non H) : tRetN ⟨nx, rt, bk, ct⟩ σ H := q
theorem drop (q : te σ H fun _ H1 => nx σ H1) : tDrop te ⟨nx, rt, bk, ct⟩ σ H := q
theorem ifS {c : TT} (q : c σ H fun b H1 => if b = true then t ⟨nx, rt, bk, ct⟩ σ H1 else u ⟨nx, rt, bk, ct⟩ σ H1) : tIfS c t u ⟨nx, rt, bk, ct⟩ σ H := q
theorem par {i j : Nat} {ta : TA} (q : ta σ H fun vs H1 => ∃ v w, vs = [v, w] ∧ nx ((σ.set i (some v)).set j (some w)) H1) : tPar i j ta ⟨nx, rt, bk, ct⟩ σ H := q
theorem par3 {i j l : Nat} {ta : TA} (q : ta σ H fun vs H1 => ∃ u v w, vs = [u, v, w] ∧ nx (((σ.set i (some u)).set j (some v)).set l (some w)) H1) : tPar3 i j l ta ⟨nx, rt, bk, ct⟩ σ H := q
theorem ex2 {a b : V} {F : V → V → Prop} (q : F a b) : ∃ v w, [a, b] = [v, w] ∧ F v w := ⟨a, b, rfl, q⟩
theorem ex3 {a b c : V} {F : V → V → V → Prop} (q : F a b c) : ∃ u v w, [a, b, c] = [u, v, w] ∧ F u v w := ⟨a, b, c, rfl, q⟩
theorem aug {ti : TIp} {v : V} (q : te σ H fun y H1 => ti v y H1 fun z H2 => nx (σ.set n (some z)) H2) (h : σ[n]? = some (some v) := by with_unfolding_all rfl) : tAug n te ti ⟨nx, rt, bk, ct⟩ σ H := ⟨v, h, q⟩
theorem ipA {f : Int → Int → Int} {i j : Int} {Q : VK} (q : Q (.int (f i j)) H) : ipI f (.int i) (.int j) H Q := ⟨i, j, rfl, rfl, q⟩
/-- the loop's own goal, behind what is walked -/
def Loop (J : It) (g : TG) (t : TS) (nx bk ct : L2.St → Hp → Prop) (rt : VK) (σ : L2.St) (H : Hp) : Prop :=
  ∃ At : Nat → Nat → L2.St → Hp → Prop, (∃ m, At 0 m σ H) ∧ ∀ i m σ H, At i m σ H →
    (J.stop i H ∧ nx σ H) ∨ (J.go i H ∧ ∃ N : L2.St → Hp → Prop, (∀ σ' H', N σ' H' → ∃ m', m' < m ∧ At (i + 1) m' σ' H') ∧ ∀ x H', J.yld i H x H' → g x σ H' fun σ2 H2 => t ⟨N, rt, nx, N⟩ σ2 H2)
theorem for' {wi : TI} (q : wi σ H fun J H1 => Loop J g t nx bk ct rt σ H1) : tFor wi g t ⟨nx, rt, bk, ct⟩ σ H := q
/-- a for over anything that is walked -/
theorem loop {J : It} {n : Nat} {G : Hp → Prop} {Y : Nat → Hp → V → Hp → Prop} (w : Walk J n G Y) (Pv : Nat → L2.St → Hp → Prop) (h0 : Pv 0 σ H) (hG : ∀ i σ H, i ≤ n → Pv i σ H → G H)
    (hs : ∀ i x σ H H', i < n → Pv i σ H → Y i H x H' → g x σ H' fun σ2 H2 => t ⟨Pv (i + 1), rt, nx, Pv (i + 1)⟩ σ2 H2) (hd : ∀ σ H, Pv n σ H → nx σ H) : Loop J g t nx bk ct rt σ H :=
  for_it (D := ⟨nx, rt, bk, ct⟩) w Pv h0 hG hs hd
theorem seqIter {tl : TE} {R : It → Hp → Prop} (q : tl σ H fun x H1 => (∃ a, x = .ref a ∧ (∃ xs, SqL K H1 a xs) ∧ R (Itl K a) H1) ∨ (∃ a, x = .ref a ∧ (∃ xs, SqT K H1 a xs) ∧ R (Itt K a) H1)) : iSeq K tl σ H R := q
theorem seqL {a : Addr} {xs : List V} {R : It → Hp → Prop} (h : SqL K H a xs) (q : R (Itl K a) H) : (∃ b, V.ref a = .ref b ∧ (∃ xs, SqL K H b xs) ∧ R (Itl K b) H) ∨ (∃ b, V.ref a = .ref b ∧ (∃ xs, SqT K H b xs) ∧ R (Itt K b) H) := .inl ⟨a, rfl, ⟨xs, h⟩, q⟩
theorem seqT {a : Addr} {xs : List V} {R : It → Hp → Prop} (h : SqT K H a xs) (q : R (Itt K a) H) : (∃ b, V.ref a = .ref b ∧ (∃ xs, SqL K H b xs) ∧ R (Itl K b) H) ∨ (∃ b, V.ref a = .ref b ∧ (∃ xs, SqT K H b xs) ∧ R (Itt K b) H) := .inr ⟨a, rfl, ⟨xs, h⟩, q⟩
/-- for x in a list that the body leaves as it is -/
theorem forL {a : Addr} {xs : List V} (Pv : Nat → L2.St → Hp → Prop) (h : SqL K H a xs) (h0 : Pv 0 σ H) (hG : ∀ i σ H, i ≤ xs.length → Pv i σ H → SqL K H a xs)
    (hs : ∀ i x σ H, xs[i]? = some x → i < xs.length → Pv i σ H → g x σ H fun σ2 H2 => t ⟨Pv (i + 1), rt, nx, Pv (i + 1)⟩ σ2 H2) (hd : ∀ σ H, Pv xs.length σ H → nx σ H) :
    (∃ b, V.ref a = .ref b ∧ (∃ xs, SqL K H b xs) ∧ Loop (Itl K b) g t nx bk ct rt σ H) ∨ (∃ b, V.ref a = .ref b ∧ (∃ xs, SqT K H b xs) ∧ Loop (Itt K b) g t nx bk ct rt σ H) :=
  seqL (R := fun J H1 => Loop J g t nx bk ct rt σ H1) h (loop walk_list Pv h0 hG (fun i x σ H H' hi p y => by
    obtain ⟨rfl, y⟩ := y
    exact hs i x σ _ y hi p) hd)
theorem forLI {a : Addr} {ns : List Int} (Pv : Nat → L2.St → Hp → Prop) (h : SqL K H a (ns.map V.int)) (h0 : Pv 0 σ H) (hG : ∀ i σ H, i ≤ ns.length → Pv i σ H → SqL K H a (ns.map V.int))
    (hs : ∀ i n σ H, ns[i]? = some n → n ∈ ns → i < ns.length → Pv i σ H → g (.int n) σ H fun σ2 H2 => t ⟨Pv (i + 1), rt, nx, Pv (i + 1)⟩ σ2 H2) (hd : ∀ σ H, Pv ns.length σ H → nx σ H) :
    (∃ b, V.ref a = .ref b ∧ (∃ xs, SqL K H b xs) ∧ Loop (Itl K b) g t nx bk ct rt σ H) ∨ (∃ b, V.ref a = .ref b ∧ (∃ xs, SqT K H b xs) ∧ Loop (Itt K b) g t nx bk ct rt σ H) :=
  forL (xs := ns.map V.int) Pv h h0 (fun i σ H hi => hG i σ H (by rw [List.length_map] at hi; exact hi)) (fun i x σ H hx hi => by
    rw [List.length_map] at hi
    rw [List.getElem?_map] at hx
    cases e : ns[i]? with
    | none =>
      rw [e] at hx
      cases hx
    | some n =>
      rw [e] at hx
      obtain rfl : V.int n = x := Option.some.inj hx
      exact hs i n σ H e (List.mem_of_getElem? e) hi) (by rw [List.length_map]; exact hd)
theorem forT {a : Addr} {xs : List V} (Pv : Nat → L2.St → Hp → Prop) (h : SqT K H a xs) (h0 : Pv 0 σ H) (hG : ∀ i σ H, i ≤ xs.length → Pv i σ H → SqT K H a xs)
    (hs : ∀ i x σ H, xs[i]? = some x → i < xs.length → Pv i σ H → g x σ H fun σ2 H2 => t ⟨Pv (i + 1), rt, nx, Pv (i + 1)⟩ σ2 H2) (hd : ∀ σ H, Pv xs.length σ H → nx σ H) :
    (∃ b, V.ref a = .ref b ∧ (∃ xs, SqL K H b xs) ∧ Loop (Itl K b) g t nx bk ct rt σ H) ∨ (∃ b, V.ref a = .ref b ∧ (∃ xs, SqT K H b xs) ∧ Loop (Itt K b) g t nx bk ct rt σ H) :=
  seqT (R := fun J H1 => Loop J g t nx bk ct rt σ H1) h (loop walk_tup Pv h0 hG (fun i x σ H H' hi p y => by
    obtain ⟨rfl, y⟩ := y
    exact hs i x σ _ y hi p) hd)
/-- for i, x in enumerate(a list) -/
theorem enum' {ta : TA} {R : It → Hp → Prop} (q : ta σ H fun vs H1 => ∃ a xs, vs = [.ref a] ∧ SqL K H1 a xs ∧ R (Ite K a) H1) : iEnum K ta σ H R := q
theorem forE {a : Addr} {xs : List V} (Pv : Nat → L2.St → Hp → Prop) (h : SqL K H a xs) (h0 : Pv 0 σ H) (hG : ∀ i σ H, i ≤ xs.length → Pv i σ H → SqL K H a xs)
    (hs : ∀ i x σ H, xs[i]? = some x → i < xs.length → Pv i σ H → ∀ T, H T = none → g (.ref T) σ (upd H T (.tup [.int (i : Nat), x])) fun σ2 H2 => t ⟨Pv (i + 1), rt, nx, Pv (i + 1)⟩ σ2 H2) (hd : ∀ σ H, Pv xs.length σ H → nx σ H) :
    ∃ b ys, [V.ref a] = [.ref b] ∧ SqL K H b ys ∧ Loop (Ite K b) g t nx bk ct rt σ H :=
  ⟨a, xs, rfl, h, loop walk_enum Pv h0 hG (fun i x σ H H' hi p y => by
    obtain ⟨T, x1, y1, rfl, hT, rfl, e1, e2⟩ := y
    obtain rfl := Option.some.inj e1
    exact hs i y1 σ H e2 hi p T hT) hd⟩
theorem gPair {i j : Nat} {p : Addr} {x y : V} {QS : L2.St → Hp → Prop} (h : H p = some (.tup [x, y])) (q : QS ((σ.set i (some x)).set j (some y)) H) : L2.gTup K 2 (L2.gCons (L2.gName i) (L2.gCons (L2.gName j) L2.gNil)) (.ref p) σ H QS :=
  ⟨p, [x, y], rfl, SqT.of h, rfl, x, [y], rfl, y, [], rfl, rfl, q⟩
theorem gPairT {i j : Nat} {p : Addr} {x y : V} {QS : L2.St → Hp → Prop} (h : SqT K H p [x, y]) (q : QS ((σ.set i (some x)).set j (some y)) H) : L2.gTup K 2 (L2.gCons (L2.gName i) (L2.gCons (L2.gName j) L2.gNil)) (.ref p) σ H QS :=
  ⟨p, [x, y], rfl, h, rfl, x, [y], rfl, y, [], rfl, rfl, q⟩
theorem rng1 {ta : TA} {R : It → Hp → Prop} (q : ta σ H fun vs H1 => ∃ j : Int, vs = [.int j] ∧ -(2 ^ 62) ≤ j ∧ j < 2 ^ 62 ∧ R (Itr 0 j.toNat) H1) : iRng1 ta σ H R := q
theorem rng1v {j : Int} {F : Int → Prop} (h : -(2 ^ 62) ≤ j) (h2 : j < 2 ^ 62) (q : F j) : ∃ k : Int, [V.int j] = [.int k] ∧ -(2 ^ 62) ≤ k ∧ k < 2 ^ 62 ∧ F k := ⟨j, rfl, h, h2, q⟩
theorem rng2v {i j : Int} {F : Int → Int → Prop} (h : -(2 ^ 62) ≤ i ∧ i < 2 ^ 62 ∧ -(2 ^ 62) ≤ j ∧ j < 2 ^ 62) (q : F i j) : ∃ a b : Int, [V.int i, .int j] = [.int a, .int b] ∧ (-(2 ^ 62) ≤ a ∧ a < 2 ^ 62 ∧ -(2 ^ 62) ≤ b ∧ b < 2 ^ 62) ∧ F a b := ⟨i, j, rfl, h, q⟩
theorem rng2 {ta : TA} {R : It → Hp → Prop} (q : ta σ H fun vs H1 => ∃ i j : Int, vs = [.int i, .int j] ∧ (-(2 ^ 62) ≤ i ∧ i < 2 ^ 62 ∧ -(2 ^ 62) ≤ j ∧ j < 2 ^ 62) ∧ R (Itr i (j - i).toNat) H1) : iRng2 ta σ H R := q
/-- for i in range(n) -/
theorem forR {lo : Int} {m : Nat} (Pv : Nat → L2.St → Hp → Prop) (h0 : Pv 0 σ H)
    (hs : ∀ i σ H, i < m → Pv i σ H → g (.int (lo + i)) σ H fun σ2 H2 => t ⟨Pv (i + 1), rt, nx, Pv (i + 1)⟩ σ2 H2) (hd : ∀ σ H, Pv m σ H → nx σ H) : Loop (Itr lo m) g t nx bk ct rt σ H :=
  loop walk_range Pv h0 (fun _ _ _ _ _ => True.intro) (fun i x σ H H' hi p y => by
    obtain ⟨rfl, rfl⟩ := y
    exact hs i σ _ hi p) hd
end
/-! ## list comprehensions -/
section
variable {K : PySem.W.Frag} {σ : L2.St} {H : Hp} {Q : VK} {g : TG} {tt : TT} {te : TE} {vs : List Nat}
def LcLoop (J : It) (g : TG) (tt : TT) (te : TE) (vs : List Nat) (σ : L2.St) (D : Addr) (H : Hp) (Q : VK) : Prop :=
  ∃ At : Nat → Nat → Hp → Prop, (∃ m, At 0 m (upd H D (.lst []))) ∧ ∀ i m H, At i m H →
    (J.stop i H ∧ Q (.ref D) H) ∨ (J.go i H ∧ ∃ On : Hp → Prop, (∀ H', On H' → ∃ m', m' < m ∧ At (i + 1) m' H') ∧ ∀ x H', J.yld i H x H' → g x (wipe σ vs) H' fun σ2 H2 => wipe σ2 vs = wipe σ vs ∧ tt σ2 H2 fun b H3 =>
      if b = true then te σ2 H3 fun y H4 => ∃ got, H4 D = some (.lst got) ∧ got.length < sizeLine ∧ On (upd H4 D (.lst (got ++ [y]))) else On H3)
theorem lc {wi : TI} (q : wi σ H fun J H1 => ∀ D, H1 D = none → LcLoop J g tt te vs σ D H1 Q) : tLc wi g tt te vs σ H Q := q
theorem lcI {J : It} {n : Nat} {G : Hp → Prop} {Y : Nat → Hp → V → Hp → Prop} {D : Addr} (w : Walk J n G Y) (Pv : Nat → Hp → Prop) (h0 : Pv 0 (upd H D (.lst []))) (hG : ∀ i H, i ≤ n → Pv i H → G H)
    (each : ∀ i x H H', i < n → Pv i H → Y i H x H' → g x (wipe σ vs) H' fun σ2 H2 => wipe σ2 vs = wipe σ vs ∧ tt σ2 H2 fun b H3 =>
      if b = true then te σ2 H3 fun y H4 => ∃ got, H4 D = some (.lst got) ∧ got.length < sizeLine ∧ Pv (i + 1) (upd H4 D (.lst (got ++ [y]))) else Pv (i + 1) H3) (hd : ∀ H, Pv n H → Q (.ref D) H) : LcLoop J g tt te vs σ D H Q :=
  lc_it (Qd := Q (.ref D)) w Pv h0 hG each hd
/-- over a list or tuple, flat values of a test and an element that make nothing: a new list (xs.filter p).map f -/
theorem lcFM {a : Addr} {xs : List V} {j : Nat} (p : V → Bool) (f : V → V) (h : SqL K H a xs) (hl : xs.length < sizeLine) (hw : ∀ x, wipe ((wipe σ [j]).set j (some x)) [j] = wipe σ [j])
    (ht : ∀ x H', x ∈ xs → Same H H' → ∀ QB : Bool → Hp → Prop, QB (p x) H' → tt ((wipe σ [j]).set j (some x)) H' QB)
    (he : ∀ x H', x ∈ xs → p x = true → Same H H' → ∀ Q : VK, Q (f x) H' → te ((wipe σ [j]).set j (some x)) H' Q)
    (q : ∀ D H', H D = none → Same H H' → H' D = some (.lst ((xs.filter p).map f)) → Q (.ref D) H') :
    (∃ b, V.ref a = .ref b ∧ (∃ xs, SqL K H b xs) ∧ ∀ D, H D = none → LcLoop (Itl K b) (L2.gName j) tt te [j] σ D H Q) ∨ (∃ b, V.ref a = .ref b ∧ (∃ xs, SqT K H b xs) ∧ ∀ D, H D = none → LcLoop (Itt K b) (L2.gName j) tt te [j] σ D H Q) := by
  refine .inl ⟨a, rfl, ⟨xs, h⟩, fun D hD => ?_⟩
  refine lcI walk_list (fun i H' => Same H H' ∧ H' D = some (.lst (((xs.take i).filter p).map f))) ⟨same_upd hD, upd_same⟩ (fun i H' _ z => SqL.mono z.1 h) ?_ (fun H' z => q D H' hD z.1 (by
    have e := z.2
    rw [List.take_of_length_le (Nat.le_refl _)] at e
    exact e))
  rintro i x H1 H' hi ⟨z1, z2⟩ ⟨rfl, hx⟩
  have hm : x ∈ xs := List.mem_of_getElem? hx
  refine ⟨hw x, ht x _ hm z1 _ ?_⟩
  have et : xs.take (i + 1) = xs.take i ++ [x] := by rw [List.take_add_one, hx]; rfl
  cases hp : p x with
  | true =>
    refine iteT (he x _ hm hp z1 _ ⟨_, z2, ?_, ?_, ?_⟩)
    · rw [List.length_map]
      refine Nat.lt_of_le_of_lt (List.length_filter_le _ _) (Nat.lt_of_le_of_lt (List.length_take_le _ _) ?_)
      exact Nat.lt_of_le_of_lt (Nat.le_of_lt hi) hl
    · intro b o e
      rw [upd_ne (ne_of_none e hD)]
      exact z1 _ _ e
    · rw [upd_same, et, List.filter_append, List.map_append]
      simp only [List.filter_cons, List.filter_nil, hp, if_true, List.map_cons, List.map_nil]
  | false =>
    refine iteF ⟨z1, ?_⟩
    rw [z2, et, List.filter_append, List.map_append]
    simp only [List.filter_cons, List.filter_nil, hp, Bool.false_eq_true, if_false, List.map_nil, List.append_nil]
def pI (p : Int → Bool) : V → Bool
  | .int n => p n
  | _ => false
def fI (f : Int → Int) : V → V
  | .int n => .int (f n)
  | v => v
theorem filt_ints (p : Int → Bool) (f : Int → Int) : ∀ ns : List Int, ((ns.map V.int).filter (pI p)).map (fI f) = ((ns.filter p).map f).map V.int
  | [] => rfl
  | n :: ns => by
    rw [List.map_cons, List.filter_cons, List.filter_cons]
    show (if p n = true then _ else _ : List V).map (fI f) = _
    cases h : p n with
    | true =>
      rw [if_pos rfl, if_pos rfl, List.map_cons, List.map_cons, List.map_cons, filt_ints p f ns]
      rfl
    | false =>
      rw [if_neg Bool.false_ne_true, if_neg Bool.false_ne_true, filt_ints p f ns]
/-- .. of ints -/
theorem lcFMI {a : Addr} {ns : List Int} {j : Nat} (p : Int → Bool) (f : Int → Int) (h : SqL K H a (ns.map V.int)) (hl : ns.length < sizeLine) (hw : ∀ x, wipe ((wipe σ [j]).set j (some x)) [j] = wipe σ [j])
    (ht : ∀ x H', x ∈ ns → Same H H' → ∀ QB : Bool → Hp → Prop, QB (p x) H' → tt ((wipe σ [j]).set j (some (.int x))) H' QB)
    (he : ∀ x H', x ∈ ns → p x = true → Same H H' → ∀ Q : VK, Q (.int (f x)) H' → te ((wipe σ [j]).set j (some (.int x))) H' Q)
    (q : ∀ D H', H D = none → Same H H' → H' D = some (.lst (((ns.filter p).map f).map V.int)) → Q (.ref D) H') :
    (∃ b, V.ref a = .ref b ∧ (∃ xs, SqL K H b xs) ∧ ∀ D, H D = none → LcLoop (Itl K b) (L2.gName j) tt te [j] σ D H Q) ∨ (∃ b, V.ref a = .ref b ∧ (∃ xs, SqT K H b xs) ∧ ∀ D, H D = none → LcLoop (Itt K b) (L2.gName j) tt te [j] σ D H Q) := by
  refine lcFM (pI p) (fI f) h (by rw [List.length_map]; exact hl) hw (fun x H' hx e QB qb => ?_) (fun x H' hx hp e Q' qq => ?_) (fun D H' hD e g => q D H' hD e (by rw [← filt_ints]; exact g))
  · obtain ⟨n, hn, rfl⟩ := List.mem_map.mp hx
    exact ht n H' hn e QB qb
  · obtain ⟨n, hn, rfl⟩ := List.mem_map.mp hx
    exact he n H' hn hp e Q' qq
theorem zip' {ta : TA} {R : It → Hp → Prop} (q : ta σ H fun vs H1 => ∃ a b xs ys, vs = [.ref a, .ref b] ∧ ((SqL K H1 a xs ∧ SqL K H1 b ys ∧ R (Itz K a b) H1) ∨ (SqT K H1 a xs ∧ SqT K H1 b ys ∧ R (RZ.ItzT K a b) H1))) : RZ.iZipA K ta σ H R := q
theorem walk_zipT {a b : Addr} {xs ys : List V} {n : Nat} (hn : n = min xs.length ys.length) : Walk (RZ.ItzT K a b) n (fun H => SqT K H a xs ∧ SqT K H b ys) (YPair (fun i => xs[i]?) (fun i => ys[i]?)) where
  goes i _ hi both := by
    have left : i < xs.length := by omega
    have right : i < ys.length := by omega
    exact ⟨_, _, xs[i], ys[i], both.1, both.2, List.getElem?_eq_getElem left, List.getElem?_eq_getElem right⟩
  stops _ both := ⟨_, _, both.1, both.2, by omega⟩
  yields i _ _ _ _ both y := by
    obtain ⟨T, x, z, e1, e2, e3, at1, at2⟩ := y
    exact ⟨T, x, z, e1, e2, e3, at1 _ both.1, at2 _ both.2⟩
/-- over pairs, flat values: a new list of them -/
theorem lcPairs {J : It} {n : Nat} {G : Hp → Prop} {X Y : Nat → Option V} {j1 j2 : Nat} (w : Walk J n G (YPair X Y)) (f : Nat → V) (hn : n < sizeLine) (hG : ∀ H', Same H H' → G H')
    (hw : ∀ x y, wipe (((wipe σ [j1, j2]).set j1 (some x)).set j2 (some y)) [j1, j2] = wipe σ [j1, j2])
    (he : ∀ i x y H', i < n → Same H H' → X i = some x → Y i = some y → ∀ Q : VK, (∀ H'', Same H' H'' → Q (f i) H'') → te (((wipe σ [j1, j2]).set j1 (some x)).set j2 (some y)) H' Q)
    (q : ∀ D H', H D = none → Same H H' → H' D = some (.lst ((List.range n).map f)) → Q (.ref D) H') : ∀ D, H D = none → LcLoop J (L2.gTup K 2 (L2.gCons (L2.gName j1) (L2.gCons (L2.gName j2) L2.gNil))) tYes te [j1, j2] σ D H Q := by
  intro D hD
  refine lcI w (fun i H' => Same H H' ∧ H' D = some (.lst ((List.range i).map f))) ⟨same_upd hD, upd_same⟩ (fun i H' _ z => hG H' z.1) ?_ (fun H' z => q D H' hD z.1 z.2)
  rintro i v H1 H' hi ⟨z1, z2⟩ ⟨T, x, y, rfl, hT, rfl, hx, hy⟩
  refine ⟨T, [x, y], rfl, SqT.of upd_same, rfl, x, [y], rfl, y, [], rfl, rfl, hw x y, ?_⟩
  unfold tYes
  refine iteT ?_
  refine he i x y _ hi (z1.trans (same_upd hT)) hx hy _ fun H'' e2 => ?_
  have hD2 : H'' D = some (.lst ((List.range i).map f)) := e2 _ _ (upd_get hT z2)
  refine ⟨_, hD2, ?_, ?_, ?_⟩
  · rw [List.length_map, List.length_range]
    exact Nat.lt_trans hi hn
  · intro b o e
    rw [upd_ne (ne_of_none e hD)]
    exact e2 _ _ (upd_get hT (z1 _ _ e))
  · rw [upd_same, List.range_succ, List.map_append]
    rfl
theorem strIter {tl : TE} {R : It → Hp → Prop} (q : tl σ H fun v H1 => ∃ x, v = .str x ∧ R (Its x) H1) : iStr tl σ H R := q
/-- over a text, flat values: a new list of them -/
theorem lcS {z : Str} {j : Nat} (f : Nat → V) (hl : z.cps.size < sizeLine) (hw : ∀ x, wipe ((wipe σ [j]).set j (some x)) [j] = wipe σ [j])
    (he : ∀ c H', c ∈ z.cps.toList → Same H H' → ∀ Q : VK, Q (f c) H' → te ((wipe σ [j]).set j (some (.str ⟨#[c]⟩))) H' Q)
    (q : ∀ D H', H D = none → Same H H' → H' D = some (.lst (z.cps.toList.map f)) → Q (.ref D) H') :
    ∃ x, V.str z = .str x ∧ ∀ D, H D = none → LcLoop (Its x) (L2.gName j) tYes te [j] σ D H Q := by
  refine ⟨z, rfl, fun D hD => ?_⟩
  refine lcI walk_str (fun i H' => Same H H' ∧ H' D = some (.lst ((z.cps.toList.take i).map f))) ⟨same_upd hD, upd_same⟩ (fun i H' _ _ => True.intro) ?_ (fun H' z' => q D H' hD z'.1 (by
    have e := z'.2
    rw [List.take_of_length_le (Nat.le_of_eq Array.length_toList)] at e
    exact e))
  rintro i x H1 H' hi ⟨z1, z2⟩ ⟨rfl, c, hc, rfl⟩
  rw [← Array.getElem?_toList] at hc
  refine ⟨hw _, ?_⟩
  unfold tYes
  refine iteT (he c _ (List.mem_of_getElem? hc) z1 _ ⟨_, z2, ?_, ?_, ?_⟩)
  · rw [List.length_map]
    exact Nat.lt_of_le_of_lt (List.length_take_le _ _) (Nat.lt_trans hi hl)
  · intro b o e
    rw [upd_ne (ne_of_none e hD)]
    exact z1 _ _ e
  · rw [upd_same, List.take_add_one, hc, List.map_append]
    rfl
end
section
variable {K : PySem.W.Frag} {σ : L2.St} {H : Hp} {Q : VK} {QP : List (V × V) → Hp → Prop} {tk tv : TE} {trs : List (TE × TE)}
theorem disp (q : ∀ p, H p = none → tPairs trs σ (upd H p (.dK [])) fun ps H2 => H2 p = some (.dK []) ∧ ∃ kvs : List (Key × V), ps = kvs.map (fun kv => (kV kv.1, kv.2)) ∧ kvs.length ≤ 15 ∧ Q (.ref p) (upd H2 p (.dK (mergeK [] kvs)))) : tDisp trs σ H Q := q
theorem pairsC (q : tk σ H fun x H1 => tv σ H1 fun y H2 => tPairs trs σ H2 fun ps H3 => QP ((x, y) :: ps) H3) : tPairs ((tk, tv) :: trs) σ H QP := q
theorem pairsN (q : QP [] H) : tPairs [] σ H QP := q
theorem dget (q : tk σ H fun x H1 => tv σ H1 fun y H2 => ∃ a v, x = .ref a ∧ DGet H2 a y (some v) ∧ Q v H2) : tDGet tk tv σ H Q := q
theorem dgetV {a : Addr} {kvs : List (Key × V)} {k : Key} {y v : V} (h : H a = some (.dK kvs)) (hy : y = kV k) (hv : valV kvs k = some v) (q : Q v H) : ∃ b v, V.ref a = .ref b ∧ DGet H b y (some v) ∧ Q v H :=
  ⟨a, v, rfl, .inl ⟨kvs, k, .inl h, hy, hv.symm⟩, q⟩
theorem bm {T : String} {r : V → List V → Hp → VK → Prop} {t : TA} (q : tk σ H fun x H1 => tyV K T x H1 ∧ t σ H1 fun xs H2 => r x xs H2 Q) : tBM K T r tk t σ H Q := q
theorem tyL {p : Addr} {xs : List V} {A : Prop} (h : H p = some (.lst xs)) (q : A) : tyV K "list" (.ref p) H ∧ A := ⟨.inl ⟨rfl, xs, SqL.of h⟩, q⟩
theorem append {p : Addr} {xs : List V} {y : V} (h : H p = some (.lst xs)) (hl : xs.length < sizeLine) (q : Q .non (upd H p (.lst (xs ++ [y])))) : rAppend (.ref p) [y] H Q := ⟨p, xs, y, rfl, rfl, h, hl, q⟩
theorem appendI {p : Addr} {ns : List Int} {n : Int} (h : H p = some (.lst (ns.map V.int))) (hl : ns.length < sizeLine) (q : Q .non (upd H p (.lst ((ns ++ [n]).map V.int)))) : rAppend (.ref p) [.int n] H Q :=
  append h (by rw [List.length_map]; exact hl) (by rw [← List.map_singleton (f := V.int), ← List.map_append]; exact q)
theorem map_erase {α β : Type} (f : α → β) : ∀ (xs : List α) (k : Nat), (xs.map f).eraseIdx k = (xs.eraseIdx k).map f
  | [], _ => rfl
  | _ :: _, 0 => rfl
  | x :: xs, k + 1 => congrArg (f x :: ·) (map_erase f xs k)
theorem popAtI {p : Addr} {ns : List Int} {i : Int} (h : H p = some (.lst (ns.map V.int))) (h0 : 0 ≤ i) (h1 : i < ns.length) (hb : ns.length < 2 ^ 62) (q : ∀ m, ns[i.toNat]? = some m → Q (.int m) (upd H p (.lst ((ns.eraseIdx i.toNat).map V.int)))) : rPopAt (.ref p) [.int i] H Q := by
  have hl : i.toNat < ns.length := by omega
  have e : ns[i.toNat]? = some ns[i.toNat] := List.getElem?_eq_getElem hl
  refine ⟨p, _, i, i.toNat, .int ns[i.toNat], rfl, rfl, h, by omega, by omega, ?_, by rw [List.getElem?_map, e]; rfl, ?_⟩
  · exact (ixN_seq (by rw [List.length_map]; exact ixN_pos h0 h1)).1
  · have z := q _ e
    rw [map_erase]
    exact z
theorem revL {p : Addr} {ns : List Int} (h : SqL K H p (ns.map V.int)) (q : ∀ l, H l = none → Q (.ref l) (upd H l (.lst (ns.reverse.map V.int)))) : ∃ a xs, V.ref p = .ref a ∧ SqL K H a xs ∧ ∀ l, H l = none → Q (.ref l) (upd H l (.lst xs.reverse)) :=
  ⟨p, _, rfl, h, by rw [← List.map_reverse]; exact q⟩
theorem rev (q : tk σ H fun x H1 => ∃ a xs, x = .ref a ∧ SqL K H1 a xs ∧ ∀ p, H1 p = none → Q (.ref p) (upd H1 p (.lst xs.reverse))) : tRevL K tk σ H Q := q
theorem sumI {p : Addr} {ns : List Int} (h : SqL K H p (ns.map V.int)) (q : Q (.int ns.sum) H) : rSum K [.ref p] H Q := ⟨p, ns, rfl, h, q⟩
theorem ixN_last {n : Nat} (h : 0 < n) : ixN n (-1) = some (n - 1) := by
  unfold ixN
  rw [if_neg (by decide), if_pos (by omega)]
  congr 1
  omega
theorem ixLast {p : Addr} {ns : List Int} (h : SqL K H p (ns.map V.int)) (hne : 0 < ns.length) (q : ∀ m, ns[ns.length - 1]? = some m → Q (.int m) H) : rIx K (.ref p) (.int (-1)) H Q := by
  have hl : ns.length - 1 < ns.length := by omega
  have e : ns[ns.length - 1]? = some ns[ns.length - 1] := List.getElem?_eq_getElem hl
  refine ixL h (v := .int ns[ns.length - 1]) ?_ (q _ e)
  unfold atI
  rw [List.length_map, ixN_last hne]
  show (ns.map V.int)[ns.length - 1]? = _
  rw [List.getElem?_map, e]
  rfl
theorem setLastI {p : Addr} {ns : List Int} {n : Int} {QS : Hp → Prop} (h : H p = some (.lst (ns.map V.int))) (hne : 0 < ns.length) (q : QS (upd H p (.lst ((ns.set (ns.length - 1) n).map V.int)))) : rSetL (.ref p) (.int (-1)) (.int n) H QS :=
  setL (k := ns.length - 1) h (by rw [List.length_map]; exact ixN_last hne) (by rw [← List.map_set]; exact q)
def rgI (a b : Int) : List Int := (List.range (b - a).toNat).map fun i => a + (i : Nat)
theorem rgI_V (a b : Int) : rgV a b = (rgI a b).map V.int := by
  unfold rgV rgI
  rw [List.map_map]
  rfl
theorem rgI_length (a b : Int) : (rgI a b).length = (b - a).toNat := by
  unfold rgI
  rw [List.length_map, List.length_range]
theorem lstRg {te : L2.St → Hp → (Int → Int → Hp → Prop) → Prop} (q : te σ H fun a b H1 => RgOk a b ∧ ∀ l, H1 l = none → Q (.ref l) (upd H1 l (.lst ((rgI a b).map V.int)))) : tLstRg te σ H Q := by
  have e : (fun (a b : Int) (H1 : Hp) => RgOk a b ∧ ∀ l, H1 l = none → Q (.ref l) (upd H1 l (.lst ((rgI a b).map V.int)))) = fun a b H1 => RgOk a b ∧ ∀ l, H1 l = none → Q (.ref l) (upd H1 l (.lst (rgV a b))) := by
    funext a b H1
    rw [rgI_V]
  rw [e] at q
  exact q
theorem rg1 {ta : TE} {QR : Int → Int → Hp → Prop} (q : ta σ H fun x H1 => ∃ n, x = .int n ∧ QR 0 n H1) : tRg1 ta σ H QR := q
theorem rg2 {ta tb : TE} {QR : Int → Int → Hp → Prop} (q : ta σ H fun x H1 => tb σ H1 fun y H2 => ∃ i j, x = .int i ∧ y = .int j ∧ QR i j H2) : tRg2 ta tb σ H QR := q
theorem exII {a b : Int} {F : Int → Int → Prop} (q : F a b) : ∃ i j, V.int a = .int i ∧ V.int b = .int j ∧ F i j := ⟨a, b, rfl, rfl, q⟩
theorem inS {a b : Str} (q : Q (.bl (!(Builtin.Str.occurrences b a 0 b.length 1).isEmpty)) H) : rInSA (.str a) (.str b) H Q := ⟨a, b, rfl, rfl, q⟩
end
end Rl.R
namespace Rl
open PySem PySem.Spec PyProof.Rows L2
/-! ## a set of ints, by a comprehension -/
/-- what the turns need: the set stands at D -/
def ScGo (w : World) (J : It) (g : TG) (tt : TT) (te : TE) (vs : List Nat) (σ : L2.St) (D : Addr) (H : Hp) (Q : VK) : Prop :=
  ∃ At : Nat → Nat → Hp → Prop, (∃ m, At 0 m (upd H D (SetO w D (fun _ => false) 0))) ∧ ∀ i m H, At i m H →
    (J.stop i H ∧ Q (.ref D) H) ∨ (J.go i H ∧ ∃ On : Hp → Prop, (∀ H', On H' → ∃ m', m' < m ∧ At (i + 1) m' H') ∧ ∀ x H', J.yld i H x H' → g x (wipe σ vs) H' fun σ2 H2 => wipe σ2 vs = wipe σ vs ∧ tt σ2 H2 fun b H3 =>
      if b = true then te σ2 H3 fun y H4 => ∃ (c : Int) (S : Int → Bool) (n : Nat), y = .int c ∧ H4 D = some (SetO w D S n) ∧ n + 1 < scanBound ∧ On (upd H4 D (SetO w D (fun j => S j || decide (j = c)) (if S c = true then n else n + 1))) else On H3)
def tScI (w : World) (wi : TI) (g : TG) (tt : TT) (te : TE) (vs : List Nat) : TE := fun σ H Q => wi σ H fun J H1 => ∀ D, H1 D = none → ScGo w J g tt te vs σ D H1 Q
section
variable {X : Cx}
theorem pe_scI {elt tg src : Expr} {cs : List Expr} {bsc : Scope} {own : List (PySem.Str × Nat)} {cp : Pos} {wi : TI} {g : TG} {tt : TT} {te : TE} (calm : X.calm = true) (nd : X.N.Nodup) (walk : PI X tg src wi) (blk : BlkOk X.N X.env.scope bsc own)
    (dg : ∀ (s : Shared) (H : Hp) (C : Addr) (cl : List (PySem.Str × Addr)) (fp : List Addr), PG (X.blk s H bsc (compEnvC bsc cl C X.env) fp) tg g)
    (dt : ∀ (s : Shared) (H : Hp) (C : Addr) (cl : List (PySem.Str × Addr)) (fp : List Addr), PTs (X.blk s H bsc (compEnvC bsc cl C X.env) fp) cs tt)
    (de : ∀ (s : Shared) (H : Hp) (C : Addr) (cl : List (PySem.Str × Addr)) (fp : List Addr), PE (X.blk s H bsc (compEnvC bsc cl C X.env) fp) elt te) (fold : ∀ x, foldedSetIterable src X.env x = pure x := by intro _; rfl) :
    PE X (.SetComp elt [⟨tg, src, cs, 0⟩] bsc cp) (tScI X.w wi g tt te (own.map (·.2))) := by
  refine ⟨fun pins s0 σ H Q I0 go => ?_⟩
  rw [PpSet.eval_SetComp]
  have cellsHere : ∀ y ∈ bsc.names, y.2 = .free → ∃ c, X.env.cells.lookup y.1 = some c := by
    intro y hy e
    exact (blk.free y hy e).elim (fun k => I0.ok.has _ (.inl k)) fun k => I0.ok.has _ (.inr k)
  refine wpAny_comprehension_free (use := none) rfl fold (closure_ok cellsHere) blk.kind (fun y hy e => by rw [blk.uniq y hy, e]) ?_
  refine thn (walk.run pins s0 σ H _ I0 go) fun xv sA inner => thn inner fun itv sB res => ?_
  obtain ⟨it, fp, tn, J, HB, e, IB, T, stB, okB, q⟩ := res
  subst e
  refine PpSet.newSet_ok (newEnv_comp ?_)
  -- the set is the newest thing
  obtain ⟨D, hD⟩ : ∃ D, D = sB.heap.objs.size := ⟨_, rfl⟩
  have fresh : HB D = none := IB.hok.fresh (Nat.le_of_eq hD.symm)
  obtain ⟨W, ⟨m0, w0⟩, turn⟩ := q D fresh
  rw [← hD]
  generalize hsC : ({ sB with heap := sB.heap.push { cls := .type "set", dict := none, data := .set #[] 0 (.fresh 0 0 (!X.w.params.followText "set-order")) } } : Shared) = sC
  have heapC : sC.heap = sB.heap.push { cls := .type "set", dict := none, data := .set #[] 0 (.fresh 0 0 (!X.w.params.followText "set-order")) } := by rw [← hsC]
  have IC : Inv X pins σ (upd HB D (SetO X.w D (fun _ => false) 0)) sC := by
    rw [← hsC]
    refine IB.laid (t' := sB.toks) (fun b o e => Heap.get?_push_of_some _ e) (Nat.le_of_eq hD.symm) ?_
    rw [hD]
    exact setO_new (setR_fresh X.w)
  have below : ∀ b ∈ fp, b < sB.heap.objs.size := by
    intro b hb
    obtain ⟨o, e, _⟩ := T.obj _ _ stB b hb
    exact Heap.lt_size e
  have okC : ∀ b ∈ fp, FpOk X pins (upd HB D (SetO X.w D (fun _ => false) 0)) b ∧ b < sC.heap.objs.size := by
    intro b hb
    have lt := below b hb
    have ne : b ≠ D := by
      rw [hD]
      exact Nat.ne_of_lt lt
    refine ⟨⟨(upd_ne ne).trans (okB b hb).1, (okB b hb).2⟩, ?_⟩
    rw [heapC, Heap.size_push]
    exact Nat.lt_succ_of_lt lt
  have stC : tn 0 sC.heap := T.keep _ _ _ stB fun b _ o e => by
    rw [heapC]
    exact Heap.get?_push_of_some _ e
  obtain ⟨HC, hHC⟩ : ∃ HC, HC = upd HB D (SetO X.w D (fun _ => false) 0) := ⟨_, rfl⟩
  rw [← hHC] at IC okC w0
  have inner := block_start IC blk nd okC
  have qg := dg sC HC sC.heap.objs.size (cellsFrom (sC.heap.objs.size + 1) bsc.names (cloFrom X.env.cells bsc.names [])) fp
  have qt := dt sC HC sC.heap.objs.size (cellsFrom (sC.heap.objs.size + 1) bsc.names (cloFrom X.env.cells bsc.names [])) fp
  have qe := de sC HC sC.heap.objs.size (cellsFrom (sC.heap.objs.size + 1) bsc.names (cloFrom X.env.cells bsc.names [])) fp
  show codeAny _ _ (.compStart (.SetComp elt [⟨tg, src, cs, 0⟩] bsc cp) 0 (.ref it) (.ref D) (compEnvC bsc (cellsFrom (sC.heap.objs.size + 1) bsc.names (cloFrom X.env.cells bsc.names [])) sC.heap.objs.size X.env)) (compPost (model X.prog X.w) X.A X.xe none _ (.ref D) sC.heap.objs.size) { sC with heap := pushCells (sC.heap.push { cls := .type "dict", data := .dict #[] }) bsc.names }
  have fpC : ∀ b ∈ fp, HC b = none := fun b hb => (okC b hb).1.1
  generalize hce : compEnvC bsc (cellsFrom (sC.heap.objs.size + 1) bsc.names (cloFrom X.env.cells bsc.names [])) sC.heap.objs.size X.env = ce at inner qg qt qe ⊢
  have locC : ce.locals = sC.heap.objs.size := by
    subst hce
    rfl
  generalize hsE : ({ sC with heap := pushCells (sC.heap.push { cls := .type "dict", data := .dict #[] }) bsc.names } : Shared) = sE at inner ⊢
  have stE : tn 0 sE.heap := T.keep _ _ _ stC fun b _ o e => by
    rw [← hsE]
    exact pushCells_keeps _ _ _ _ (Heap.get?_push_of_some _ e)
  have okIn : ∀ {σ' : L2.St} {H' : Hp} {s' : Shared}, Inv (X.blk sC HC bsc ce fp) [] σ' H' s' → (∀ b ∈ fp, H' b = none) → ∀ b ∈ fp, FpOk (X.blk sC HC bsc ce fp) [] H' b := by
    intro σ' H' s' I' none' b hb
    exact ⟨none' b hb, (I'.ok.exf b hb).1, I'.ok.exfs b hb, .inl hb, fun x c e => (I'.ok.exf b hb).2 x c e, fun p hp => absurd (show p ∈ ([] : List (Addr × Obj)) ++ [] from hp) (by simp)⟩
  refine PpSet.codeAny_compStart_set ?_ (T.self X.A 0 _ _ _ stE ?_)
  all_goals
    refine PpSet.compLoopS_any (fun n s' => ∃ i H', Inv (X.blk sC HC bsc ce fp) [] (wipe σ (own.map (·.2))) H' s' ∧ tn i s'.heap ∧ (∀ b ∈ fp, H' b = none) ∧ W i n H') ?_ m0 ⟨0, HC, inner, stE, fpC, w0⟩
    rintro n sF ⟨i, HF, IF, stF, noneF, wF⟩
    rcases turn i n HF wF with ⟨stop, fin⟩ | ⟨more, Nx, hNx, each⟩
    · refine thnF (T.done (X.blk sC HC bsc ce fp) rfl rfl rfl calm i [] sF _ HF (fun _ _ => False) IF (okIn IF noneF) stF stop) fun r sG ⟨hr, IG⟩ => ?_
      subst hr
      have back : Inv X pins σ HF sG := IC.call' (ch := fp) IG.os IG.base IG.hok IG.bare fun b hb => ⟨(okC b hb).1.2.2.2.1, (okC b hb).1.2.1, (okC b hb).1.2.2.2.2.1, (okC b hb).1.2.2.2.2.2⟩
      have noLoc : HF sC.heap.objs.size = none := by
        have z : HF ce.locals = none := IG.free
        rwa [locC] at z
      obtain ⟨m, isNs, _⟩ := IG.loc
      replace isNs : sG.heap.Ns ce.locals m := isNs
      rw [locC] at isNs
      refine ⟨m, isNs, fun h'' same => ?_⟩
      obtain ⟨f0, f1, f2, f3, f4, f5⟩ := IC.fpOk (Nat.le_refl _) noLoc
      exact ⟨.ref D, HF, back.turned (t' := sG.toks) (fun b o hb e => (same.2 b hb).trans e) f0 f1 f3 f4 f5, rfl, fin⟩
    · refine thnF (T.item (X.blk sC HC bsc ce fp) rfl rfl rfl calm i [] sF _ HF (fun _ _ => False) IF (okIn IF noneF) stF more) fun r sG ⟨u, hr, yields⟩ => ?_
      subst hr
      refine thnF yields fun _ sH ⟨x, HH, IH, rH, yH, stH, noneH⟩ => ?_
      refine thnF (qg.run _ sH _ HH x u _ (IH.pinned (okIn IH noneH) (T.obj _ _ stH)) rH (each x HH yH)) fun _ sI ⟨σI, HI, II, wipeI, qI⟩ => ?_
      refine thnF (qt.run _ sI σI HI _ II qI) fun b sJ ⟨HJ, IJ, qJ⟩ => ?_
      have onward : ∀ {s' : Shared} {H' : Hp}, Inv (X.blk sC HC bsc ce fp) ([] ++ pinsAt fp sH.heap) σI H' s' → Nx H' → ∃ m, m < n ∧ ∃ i H', Inv (X.blk sC HC bsc ce fp) [] (wipe σ (own.map (·.2))) H' s' ∧ tn i s'.heap ∧ (∀ b ∈ fp, H' b = none) ∧ W i m H' := by
        intro s' H' I' nx
        obtain ⟨m', lt, w'⟩ := hNx H' nx
        have held : ∀ b ∈ fp, ∀ o, sH.heap.get? b = some o → s'.heap.get? b = some o ∧ H' b = none := by
          intro b hb o e
          have z := I'.pin (b, o) (List.mem_append_right _ (List.mem_append_right _ (mem_pinsAt hb e)))
          exact ⟨z.1, z.2.1⟩
        refine ⟨m', lt, i + 1, H', (I'.unpinned (pins := [])).weak (by rw [← wipeI, wipe_length]) (fun j v e => ?_), T.keep _ _ _ stH fun b hb o e => (held b hb o e).1, fun b hb => ?_, w'⟩
        · rw [← wipeI] at e
          exact (wipe_some e).1
        · obtain ⟨o, e, _⟩ := T.obj _ _ stH b hb
          exact (held b hb o e).2
      cases b with
      | false =>
        simp only [Bool.false_eq_true, if_false] at qJ ⊢
        exact onward IJ qJ
      | true =>
        simp only [if_true] at qJ ⊢
        refine thnF (qe.run _ sJ σI HJ _ IJ qJ) fun z sK ⟨yv, HK, IK, rK, c, S, n0, ey, atD, room, nx⟩ => ?_
        subst ey
        obtain ⟨tk, rfl⟩ : ∃ tk, z = Value.int c tk := rK
        refine thnF (mt_sadd (X := X.blk sC HC bsc ce fp) _ sK σI HK (.ref D) [.int c] (.ref D) [.int c tk] (fun _ H' => Nx H') IK rfl (.cons ⟨tk, rfl⟩ .nil) ⟨D, c, S, n0, rfl, rfl, atD, room, nx⟩) fun _ sL ⟨_, HL, IL, _, nx'⟩ => onward IL nx'
end
/-- over anything that is walked -/
theorem scWalk {w : World} {J : It} {n : Nat} {G : Hp → Prop} {Y : Nat → Hp → V → Hp → Prop} {g : TG} {tt : TT} {te : TE} {vs : List Nat} {σ : L2.St} {D : Addr} {H : Hp} {Q : VK} (wk : Walk J n G Y) (Pv : Nat → Hp → Prop)
    (h0 : Pv 0 (upd H D (SetO w D (fun _ => false) 0))) (hG : ∀ i H, i ≤ n → Pv i H → G H)
    (each : ∀ i x H H', i < n → Pv i H → Y i H x H' → g x (wipe σ vs) H' fun σ2 H2 => wipe σ2 vs = wipe σ vs ∧ tt σ2 H2 fun b H3 =>
      if b = true then te σ2 H3 fun y H4 => ∃ (c : Int) (S : Int → Bool) (m : Nat), y = .int c ∧ H4 D = some (SetO w D S m) ∧ m + 1 < scanBound ∧ Pv (i + 1) (upd H4 D (SetO w D (fun j => S j || decide (j = c)) (if S c = true then m else m + 1))) else Pv (i + 1) H3)
    (hd : ∀ H, Pv n H → Q (.ref D) H) : ScGo w J g tt te vs σ D H Q := by
  refine ⟨fun i m H => m = n - i ∧ i ≤ n ∧ Pv i H, ⟨n, rfl, Nat.zero_le _, h0⟩, ?_⟩
  rintro i m H ⟨rfl, hi, p⟩
  by_cases lt : i < n
  · exact .inr ⟨wk.goes i H lt (hG i H hi p), Pv (i + 1), fun H' p' => ⟨n - (i + 1), by omega, rfl, lt, p'⟩, fun x H' y => each i x H H' lt p (wk.yields i H x H' lt (hG i H hi p) y)⟩
  · obtain rfl : i = n := by omega
    exact .inl ⟨wk.stops H (hG _ H hi p), hd H p⟩
theorem R.sc {w : World} {wi : TI} {g : TG} {tt : TT} {te : TE} {vs : List Nat} {σ : L2.St} {H : Hp} {Q : VK} (q : wi σ H fun J H1 => ∀ D, H1 D = none → ScGo w J g tt te vs σ D H1 Q) : tScI w wi g tt te vs σ H Q := q
end Rl
namespace Rl
open PySem PySem.Spec PyProof.Rows L2
/-! ## the old machine's rows, as they are decoded -/
inductive Sh where
  | e | rs | rn | n | r
  deriving DecidableEq
def box (i : Int) : Str := ⟨#[97 + i.toNat]⟩
def alone (i : Int) : Str := (["halt", "back", "rest"] : List Str).getD i.toNat "rest"
def single (i : Int) : Str := (["in", "out", "keep", "take"] : List Str).getD i.toNat "in"
def target (i : Int) : Str := (["go", "zero", "nonzero", "less", "notless", "call"] : List Str).getD i.toNat "go"
def pairT : List (Int × Str) := [(2, "copy"), (3, "add"), (4, "sub"), (5, "and"), (6, "or"), (7, "xor"), (8, "test"), (10, "load"), (11, "store")]
def numT : List (Int × Str) := [(1, "set"), (9, "testn"), (12, "loadn"), (13, "storen")]
/-- the word of a first byte, and what follows it -/
def dec (b : Int) : Option (Str × Sh) :=
  if b < 3 then some (alone b, .e)
  else if b / 16 = 15 then some (single (b % 4), .r)
  else match pairT.lookup (b / 16) with
    | some w => some (w, .rs)
    | none => if b / 16 = 14 ∧ b % 16 < 6 then some (target (b % 16), .n)
      else match numT.lookup (b / 16) with
        | some w => if b % 4 = 0 then some (w, .rn) else none
        | none => none
def boxR (b : Int) : Str := box (b / 4 % 4)
def boxS (b : Int) : Str := box (b % 4)
/-- what a row is, as data: by its first byte and the one behind -/
def rowD (b n : Int) : Option (List PyData) := (dec b).map fun p => .str p.1 :: match p.2 with
  | .e => []
  | .rs => [.str (boxR b), .str (boxS b)]
  | .rn => [.str (boxR b), .int n]
  | .n => [.int n]
  | .r => [.str (boxR b)]
def isLong (b : Int) : Bool := match dec b with
  | some (_, .rn) => true
  | some (_, .n) => true
  | _ => false
/-- the row at an address and how many bytes it has -/
def rowAt (ns : List Int) (a : Int) : Option (List PyData × Int) :=
  if 0 ≤ a ∧ a < ns.length then
    (if isLong (ns.getD a.toNat 0) = true then (if a + 1 < ns.length then (rowD (ns.getD a.toNat 0) (ns.getD (a.toNat + 1) 0)).map fun l => (l, 2) else none)
    else (rowD (ns.getD a.toNat 0) 0).map fun l => (l, 1))
  else none
def optD : Option (List PyData) → PyData
  | some l => .tuple l
  | none => .none
def atD : Option (List PyData × Int) → PyData
  | some (l, m) => .tuple [.tuple l, .int m]
  | none => .none
/-- bytes -/
def By (ns : List Int) : Prop := ∀ n ∈ ns, 0 ≤ n ∧ n < 256
/-- a list or a tuple of these ints -/
def Code (K : PySem.W.Frag) (H : Hp) (v : V) (ns : List Int) : Prop := ∃ a, v = .ref a ∧ (SqL K H a (ns.map V.int) ∨ SqT K H a (ns.map V.int))
theorem Code.mono {K : PySem.W.Frag} {H H' : Hp} {v : V} {ns : List Int} (e : Same H H') (h : Code K H v ns) : Code K H' v ns := by
  obtain ⟨a, q, h⟩ := h
  exact ⟨a, q, h.elim (fun h => .inl (SqL.mono e h)) fun h => .inr (SqT.mono e h)⟩
theorem R.lenC {K : PySem.W.Frag} {H : Hp} {c : V} {ns : List Int} {Q : VK} (h : Code K H c ns) (q : Q (.int ns.length) H) : rLenA K [c] H Q := by
  obtain ⟨p, rfl, h⟩ := h
  rcases h with h | h
  · refine R.lenL h ?_
    rw [List.length_map]
    exact q
  · refine R.lenT h ?_
    rw [List.length_map]
    exact q
theorem R.ixC {K : PySem.W.Frag} {H : Hp} {c : V} {ns : List Int} {Q : VK} {i : Int} (h : Code K H c ns) (h0 : 0 ≤ i) (h1 : i < ns.length) (q : ∀ m, ns[i.toNat]? = some m → m ∈ ns → Q (.int m) H) : rIx K c (.int i) H Q := by
  obtain ⟨p, rfl, h⟩ := h
  have hl : i.toNat < ns.length := by omega
  have e : ns[i.toNat]? = some ns[i.toNat] := List.getElem?_eq_getElem hl
  have g : atI (ns.map V.int) i = some (.int ns[i.toNat]) := R.atI_pos h0 (by rw [List.getElem?_map, e]; rfl)
  rcases h with h | h
  · exact R.ixL h g (q _ e (List.mem_of_getElem? e))
  · exact R.ixT h g (q _ e (List.mem_of_getElem? e))
theorem SqL.code {K : PySem.W.Frag} {H : Hp} {p : Addr} {ns : List Int} (h : SqL K H p (ns.map V.int)) : Code K H (.ref p) ns := ⟨p, rfl, .inl h⟩
theorem SqT.code {K : PySem.W.Frag} {H : Hp} {p : Addr} {ns : List Int} (h : SqT K H p (ns.map V.int)) : Code K H (.ref p) ns := ⟨p, rfl, .inr h⟩
/-- the module's constants -/
structure MachC (K : PySem.W.Frag) (w : World) : Prop where
  alone : ∀ H, SqT K H (He.ga K "ALONE") [.str "halt", .str "back", .str "rest"]
  single : ∀ H, SqT K H (He.ga K "SINGLE") [.str "in", .str "out", .str "keep", .str "take"]
  targets : ∀ H, SqT K H (He.ga K "TARGETS") [.str "go", .str "zero", .str "nonzero", .str "less", .str "notless", .str "call"]
  pairs : KD K w (He.ga K "WORDS_OF_PAIRS") (pairT.map fun p => (Sum.inl p.1, V.str p.2))
  nums : KD K w (He.ga K "WORDS_OF_NUMBERED") (numT.map fun p => (Sum.inl p.1, V.str p.2))
theorem atI_abcd {i : Int} (h0 : 0 ≤ i) (h4 : i < 4) : atI ("abcd" : Str).cps.toList i = some (97 + i.toNat) := by
  obtain rfl | rfl | rfl | rfl : i = 0 ∨ i = 1 ∨ i = 2 ∨ i = 3 := by omega
  all_goals decide
/-! ## promises -/
def sp_short_row (K : PySem.W.Frag) (_ : World) : Sp := fun vs H Q _ => ∃ b : Int, vs = [.int b] ∧ 0 ≤ b ∧ b < 256 ∧ ∀ v H', Same H H' → Dp K H' v (optD (if isLong b then none else rowD b 0)) → Q v H'
def sp_long_row (K : PySem.W.Frag) (_ : World) : Sp := fun vs H Q _ => ∃ b n : Int, vs = [.int b, .int n] ∧ 0 ≤ b ∧ b < 256 ∧ ∀ v H', Same H H' → Dp K H' v (optD (if isLong b then rowD b n else none)) → Q v H'
def sp_row_at (K : PySem.W.Frag) (_ : World) : Sp := fun vs H Q _ => ∃ (c : V) (ns : List Int) (a : Int), vs = [c, .int a] ∧ Code K H c ns ∧ By ns ∧ ∀ v H', Same H H' → Dp K H' v (atD (rowAt ns a)) → Q v H'
end Rl
namespace Rl
open PySem PySem.Spec PyProof.Rows L2
/-! ## the law's reel of draws -/
/-- all but what stands at r is as it was -/
abbrev Fx (r : Addr) (H H' : Hp) : Prop := Same (but r H) (but r H')
theorem Fx.refl (r : Addr) (H : Hp) : Fx r H H := Same.refl _
theorem Fx.at {r a : Addr} {H H' : Hp} {o : HO} (h : Fx r H H') (n : a ≠ r) (e : H a = some o) : H' a = some o := Same.of_but h n e
/-- a reel stands at r: great cells, told ones, how many draws, the number that is stirred; nothing of it in S -/
def Reel (H : Hp) (r : Addr) (S : Addr → Prop) : Prop := ∃ (g c : Addr) (k st : Int) (gs cs : List Int), H r = some (.lst [.ref g, .ref c, .int k, .int st]) ∧
  H g = some (.lst (gs.map V.int)) ∧ H c = some (.lst (cs.map V.int)) ∧ g ≠ r ∧ c ≠ r ∧ cs ≠ [] ∧ gs.length ≤ 1000 ∧ 0 ≤ st ∧ st < 2 ^ 127 ∧ ¬ S g ∧ ¬ S c ∧ ¬ S r ∧ ∀ a, S a → ∃ o, H a = some o
abbrev S0 : Addr → Prop := fun _ => False
abbrev S1 (l : Addr) (S : Addr → Prop) : Addr → Prop := fun a => a = l ∨ S a
section
variable {H H' : Hp} {r : Addr} {S S' : Addr → Prop}
theorem Reel.some (h : Reel H r S) : ∃ o, H r = some o := by
  obtain ⟨_, _, _, _, _, _, h, _⟩ := h
  exact ⟨_, h⟩
theorem Reel.isL (h : Reel H r S) : ∃ o, H r = Option.some (.lst o) := by
  obtain ⟨_, _, _, _, _, _, h, _⟩ := h
  exact ⟨_, h⟩
theorem Reel.ne {p : Addr} (h : Reel H r S) (n : H p = none) : p ≠ r := fun e => by
  obtain ⟨o, h⟩ := h.some
  rw [e, h] at n
  cases n
theorem Reel.neS {p : Addr} (h : Reel H r S) (n : S p) : p ≠ r := fun e => by
  obtain ⟨_, _, _, _, _, _, _, _, _, _, _, _, _, _, _, _, _, h, _⟩ := h
  exact h (e ▸ n)
/-- new things, changes elsewhere: the reel stays -/
theorem Reel.keep (h : Reel H r S) (e : Same H H') : Reel H' r S := by
  obtain ⟨g, c, k, st, gs, cs, h1, h2, h3, h4, h5, h6, h7, h8, h9, h10, h11, h12, h13⟩ := h
  exact ⟨g, c, k, st, gs, cs, e _ _ h1, e _ _ h2, e _ _ h3, h4, h5, h6, h7, h8, h9, h10, h11, h12, fun a ha => (h13 a ha).elim fun o z => ⟨o, e _ _ z⟩⟩
theorem Reel.sub (h : Reel H r S) (e : ∀ a, S' a → S a) : Reel H r S' := by
  obtain ⟨g, c, k, st, gs, cs, h1, h2, h3, h4, h5, h6, h7, h8, h9, h10, h11, h12, h13⟩ := h
  exact ⟨g, c, k, st, gs, cs, h1, h2, h3, h4, h5, h6, h7, h8, h9, fun z => h10 (e _ z), fun z => h11 (e _ z), fun z => h12 (e _ z), fun a ha => h13 a (e _ ha)⟩
theorem Reel.zero (h : Reel H r S) : Reel H r S0 := h.sub fun _ z => z.elim
theorem Reel.add {l : Addr} {o : HO} (h : Reel H r S) (n : H l = none) : Reel (upd H l o) r (S1 l S) := by
  obtain ⟨g, c, k, st, gs, cs, h1, h2, h3, h4, h5, h6, h7, h8, h9, h10, h11, h12, h13⟩ := h
  refine ⟨g, c, k, st, gs, cs, upd_get n h1, upd_get n h2, upd_get n h3, h4, h5, h6, h7, h8, h9, fun z => z.elim (ne_of_none h2 n) h10, fun z => z.elim (ne_of_none h3 n) h11, fun z => z.elim (ne_of_none h1 n) h12, fun a ha => ?_⟩
  rcases ha with rfl | ha
  · exact ⟨_, upd_same⟩
  · obtain ⟨o, z⟩ := h13 a ha
    exact ⟨o, upd_get n z⟩
theorem Reel.mut {l : Addr} {o : HO} (h : Reel H r S) (n : S l) : Reel (upd H l o) r S := by
  obtain ⟨g, c, k, st, gs, cs, h1, h2, h3, h4, h5, h6, h7, h8, h9, h10, h11, h12, h13⟩ := h
  refine ⟨g, c, k, st, gs, cs, upd_mut (fun z => h12 (z ▸ n)) h1, upd_mut (fun z => h10 (z ▸ n)) h2, upd_mut (fun z => h11 (z ▸ n)) h3, h4, h5, h6, h7, h8, h9, h10, h11, h12, fun a ha => ?_⟩
  by_cases e : a = l
  · rw [e]
    exact ⟨_, upd_same⟩
  · obtain ⟨o, z⟩ := h13 a ha
    exact ⟨o, upd_mut e z⟩
end
theorem shaped_ints (ns : List Int) : SeqAt.shaped (.list (ns.map PyData.int)) = true := by
  have h1 : ∀ ns : List Int, PyData.canLayAll0 (ns.map PyData.int) = true := fun ns => by
    induction ns with
    | nil => simp only [List.map_nil, PyData.canLayAll0]
    | cons n r ih => simp only [List.map_cons, PyData.canLayAll0, PyData.canLay0, ih, Bool.and_self]
  have h2 : ∀ ns : List Int, PyData.depthAll (ns.map PyData.int) = 0 := fun ns => by
    induction ns with
    | nil => simp only [List.map_nil, PyData.depthAll]
    | cons n r ih => simp only [List.map_cons, PyData.depthAll, PyData.depth, ih]; rfl
  unfold SeqAt.shaped
  simp only [PyData.canLay0, PyData.depth, h1, h2]
  rfl
theorem eqv_ints_nil (ns : List Int) : PyData.eqv (.list (ns.map PyData.int)) (.list []) = ns.isEmpty := by
  cases ns with
  | nil => simp only [List.map_nil, PyData.eqv, PyData.eqvAll, List.isEmpty_nil]
  | cons n r => simp only [List.map_cons, PyData.eqv, PyData.eqvAll, List.isEmpty_cons]
theorem eqvAll_ints (ns : List Int) : PyData.eqvAll (ns.map PyData.int) (ns.map PyData.int) = true := by
  induction ns with
  | nil => simp only [List.map_nil, PyData.eqvAll]
  | cons n r ih => simp only [List.map_cons, PyData.eqvAll, PyData.eqv, ih]; simp
theorem eqv_ints (ns : List Int) : PyData.eqv (.list (ns.map PyData.int)) (.list (ns.map PyData.int)) = true := by
  simp only [PyData.eqv, eqvAll_ints]
theorem SqL.ints {K : PySem.W.Frag} {H : Hp} {p : Addr} {ns : List Int} (h : SqL K H p (ns.map V.int)) : Dp K H (.ref p) (.list (ns.map PyData.int)) := .lst h (DpAll.ints ns)
theorem Fx.trans {r : Addr} {H1 H2 H3 : Hp} (a : Fx r H1 H2) (b : Fx r H2 H3) : Fx r H1 H3 := Same.trans a b
theorem Fx.same {r : Addr} {B H H' : Hp} (h : Fx r H H') (hb : B r = none) (e : Same B H) : Same B H' := fun a o z => h.at (ne_of_none z hb) (e a o z)
theorem Fx.mutN {r l : Addr} {H H' : Hp} {o : HO} (n : H l = none) (h : Fx r H H') : Fx r H (upd H' l o) := fun b u e => by
  have nb : b ≠ r := fun z => by
    rw [z, but_none] at e
    cases e
  have nl : b ≠ l := fun z => by
    have e2 := but_same b u e
    rw [z, n] at e2
    cases e2
  exact but_get nb (upd_mut nl (but_same b u (h b u e)))
/-- what is free then was free -/
theorem Fx.free {r l : Addr} {H H' : Hp} {S : Addr → Prop} (h : Fx r H H') (hR : Reel H' r S) (n : H' l = none) : H l = none := by
  cases e : H l with
  | none => rfl
  | some o =>
    have z := h.at (hR.ne n) e
    rw [n] at z
    cases z
theorem Same.mut {B H : Hp} {l : Addr} {o : HO} (hb : B l = none) (e : Same B H) : Same B (upd H l o) := fun a o z => upd_mut (ne_of_none z hb) (e a o z)
/-- [a draw of the reel for k in range(n)]: a new list of ints -/
theorem lcDraws {σ : L2.St} {H : Hp} {Q : VK} {te : TE} {j : Nat} {lo : Int} {m : Nat} {r : Addr} {S : Addr → Prop} (P : Int → Prop) (hR : Reel H r S) (hm : m < sizeLine) (hw : ∀ x, wipe ((wipe σ [j]).set j (some x)) [j] = wipe σ [j])
    (he : ∀ i D H', i < m → H D = none → Fx r H H' → Reel H' r (S1 D S) → ∀ Q : VK, (∀ v H'', Fx r H' H'' → Reel H'' r (S1 D S) → P v → Q (.int v) H'') → te ((wipe σ [j]).set j (some (.int (lo + (i : Nat))))) H' Q)
    (q : ∀ D H' (ns : List Int), H D = none → D ≠ r → Fx r H H' → Reel H' r (S1 D S) → H' D = some (.lst (ns.map V.int)) → ns.length = m → (∀ v ∈ ns, P v) → Q (.ref D) H') :
    ∀ D, H D = none → R.LcLoop (Itr lo m) (L2.gName j) tYes te [j] σ D H Q := by
  intro D hD
  have nD : D ≠ r := hR.ne hD
  refine R.lcI walk_range (fun i H' => Fx r H H' ∧ Reel H' r (S1 D S) ∧ ∃ ns : List Int, H' D = some (.lst (ns.map V.int)) ∧ ns.length = i ∧ ∀ v ∈ ns, P v) ⟨sm_bnew hD (Same.refl _), hR.add hD, [], upd_same, rfl, fun v hv => by cases hv⟩ (fun _ _ _ _ => True.intro) ?_ ?_
  · rintro i x H1 H' hi ⟨z1, z2, ns, z3, z4, z5⟩ ⟨rfl, rfl⟩
    refine ⟨hw _, ?_⟩
    unfold tYes
    refine iteT (he i D _ hi hD z1 z2 _ fun v H'' e2 r2 pv => ?_)
    have hD2 : H'' D = some (.lst (ns.map V.int)) := e2.at nD z3
    refine ⟨_, hD2, ?_, ?_, r2.mut (.inl rfl), ns ++ [v], ?_, ?_, ?_⟩
    · rw [List.length_map, z4]
      omega
    · intro b o e
      have nb : b ≠ r := fun z => by
        rw [z, but_none] at e
        cases e
      have e3 := e2 b o (z1 b o e)
      have hb : H b = some o := but_same b o e
      exact but_get nb (upd_mut (ne_of_none hb hD) (but_same b o e3))
    · rw [upd_same, List.map_append]
      rfl
    · rw [List.length_append, z4]
      rfl
    · intro u hu
      rcases List.mem_append.mp hu with hu | hu
      · exact z5 u hu
      · rw [List.mem_singleton.mp hu]
        exact pv
  · rintro H' ⟨z1, z2, ns, z3, z4, z5⟩
    exact q D H' ns hD nD z1 z2 z3 z4 z5
theorem By.set {ds : List Int} {k : Nat} {v : Int} (h : By ds) (h0 : 0 ≤ v) (h1 : v < 256) : By (ds.set k v) := fun n hn => by
  rcases List.mem_or_eq_of_mem_set hn with z | z
  · exact h n z
  · rw [z]
    exact ⟨h0, h1⟩
theorem By.take_add {ds : List Int} {k : Nat} {v : Int} (h : By ds) (h0 : 0 ≤ v) (h1 : v < 256) : By (ds.take k ++ [v]) := fun n hn => by
  rcases List.mem_append.mp hn with z | z
  · exact h n (List.mem_of_mem_take z)
  · rw [List.mem_singleton.mp z]
    exact ⟨h0, h1⟩
end Rl
namespace Rl
open PySem PySem.Spec PyProof.Rows L2
/-! ## the other laws' spring of draws -/
/-- a spring stands at r: the figures left, the number that is stirred, how many draws came of it -/
def Spr (H : Hp) (r : Addr) : Prop := ∃ a b c : Int, H r = some (.lst [.int a, .int b, .int c]) ∧ 0 ≤ a ∧ 0 ≤ b ∧ b < 2305843009213693951
theorem Spr.some {H : Hp} {r : Addr} (h : Spr H r) : ∃ o, H r = some o := by
  obtain ⟨_, _, _, h, _⟩ := h
  exact ⟨_, h⟩
theorem Spr.ne {H : Hp} {r p : Addr} (h : Spr H r) (n : H p = none) : p ≠ r := fun e => by
  obtain ⟨o, h⟩ := h.some
  rw [e, h] at n
  cases n
theorem Spr.keep {H H' : Hp} {r : Addr} (h : Spr H r) (e : Same H H') : Spr H' r := by
  obtain ⟨a, b, c, h1, h2⟩ := h
  exact ⟨a, b, c, e _ _ h1, h2⟩
theorem Spr.mut {H : Hp} {r l : Addr} {o : HO} (h : Spr H r) (n : l ≠ r) : Spr (upd H l o) r := by
  obtain ⟨a, b, c, h1, h2⟩ := h
  exact ⟨a, b, c, upd_mut n.symm h1, h2⟩
/-- what was not there is not there ahead -/
theorem Fx.freeS {r l : Addr} {H H' : Hp} (h : Fx r H H') (hR : Spr H' r) (n : H' l = none) : H l = none := by
  cases e : H l with
  | none => rfl
  | some v =>
    have z := h.at (hR.ne n) e
    rw [n] at z
    cases z
def sp_law_spring (K : PySem.W.Frag) (_ : World) : Sp := fun vs H Q _ => ∃ (a : Addr) (ns : List Int), vs = [.ref a] ∧ SqL K H a (ns.map V.int) ∧ ns.length ≤ 63 ∧ ∀ r H', Same H H' → H r = none → Spr H' r → Q (.ref r) H'
def sp_law_draw (_ : PySem.W.Frag) (_ : World) : Sp := fun vs H Q _ => ∃ (r : Addr) (m : Int), vs = [.ref r, .int m] ∧ Spr H r ∧ 0 < m ∧ m < 1073741824 ∧ ∀ n H', Fx r H H' → Spr H' r → 0 ≤ n → n < m → Q (.int n) H'
theorem len_law_spring {K : PySem.W.Frag} {w : World} {vs : List V} {H : Hp} {Q : VK} {E : XK} (h : sp_law_spring K w vs H Q E) : vs.length = 1 := by
  obtain ⟨a, ns, rfl, _⟩ := h
  rfl
theorem len_law_draw {K : PySem.W.Frag} {w : World} {vs : List V} {H : Hp} {Q : VK} {E : XK} (h : sp_law_draw K w vs H Q E) : vs.length = 2 := by
  obtain ⟨r, m, rfl, _⟩ := h
  rfl
end Rl
namespace Rl
open PySem PySem.Spec PyProof.Rows L2
/-- _law_spring: slots 0 _law_script, 1 _law_figures, 2 _law_stir, 3 _law_cell -/
def t_law_spring (K : PySem.W.Frag) (w : World) : TS :=
  (tSeq (tAsg (tC (.int 0)) (gName 1)) (tSeq (tAsg (tC (.int 88651)) (gName 2)) (tSeq (tFor (iSeq K (tSl (rSlA K) (tVar 0) tNoPart (tPart (tC (.int 63))))) (gName 3) (tSeq (tIfS (tTest (tOp (rGeA) (tCB (rAbs) (tCons (tVar 3) tNil)) (tOp (rPowA) (tC (.int 10)) (tC (.int 18))))) (tAsg (tOp (rAddA K) (tOp (rMulA) (tVar 1) (tOp (rPowA) (tC (.int 10)) (tC (.int 60)))) (tOp (rModA) (tCB (rAbs) (tCons (tVar 3) tNil)) (tOp (rPowA) (tC (.int 10)) (tC (.int 60))))) (gName 1)) tNext) (tAsg (tOp (rModA) (tOp (rAddA K) (tOp (rAddA K) (tOp (rMulA) (tVar 2) (tC (.int 69069))) (tOp (rModA) (tVar 3) (tC (.int 2305843009213693921)))) (tC (.int 7))) (tC (.int 2305843009213693951))) (gName 2)))) (tRet (tLst (tCons (tVar 1) (tCons (tVar 2) (tCons (tC (.int 0)) tNil))))))))
abbrev N_law_spring : List Str := ["_law_script", "_law_figures", "_law_stir", "_law_cell"]

/-- _law_draw: slots 0 _law_spring_here, 1 _law_many, 2 _law_found, 3 _law_stir -/
def t_law_draw (K : PySem.W.Frag) (w : World) : TS :=
  (tSeq (tIfS (tTest (tOp (rGtA) (tOp (rIx K) (tVar 0) (tC (.int 0))) (tC (.int 0)))) (tSeq (tAsg (tOp (rModA) (tOp (rIx K) (tVar 0) (tC (.int 0))) (tVar 1)) (gName 2)) (tSeq (tAsg (tOp (rDivA) (tOp (rIx K) (tVar 0) (tC (.int 0))) (tVar 1)) (gSub (tVar 0) (tC (.int 0)) rSetL)) (tRet (tVar 2)))) tNext) (tSeq (tAsg (tOp (rAddA K) (tOp (rIx K) (tVar 0) (tC (.int 2))) (tC (.int 1))) (gSub (tVar 0) (tC (.int 2)) rSetL)) (tSeq (tAsg (tOp (rModA) (tOp (rMulA) (tOp (rIx K) (tVar 0) (tC (.int 1))) (tOp (rIx K) (tVar 0) (tC (.int 1)))) (tC (.int 2305843009213693951))) (gName 3)) (tSeq (tAsg (tOp (rModA) (tOp (rAddA K) (tOp (rAddA K) (tVar 3) (tOp (rMulA) (tOp (rMulA) (tC (.int 7919)) (tOp (rIx K) (tVar 0) (tC (.int 2)))) (tOp (rIx K) (tVar 0) (tC (.int 1))))) (tC (.int 104729))) (tC (.int 2305843009213693951))) (gSub (tVar 0) (tC (.int 1)) rSetL)) (tRet (tOp (rModA) (tOp (rDivA) (tOp (rIx K) (tVar 0) (tC (.int 1))) (tC (.int 65537))) (tVar 1)))))))
abbrev N_law_draw : List Str := ["_law_spring_here", "_law_many", "_law_found", "_law_stir"]

end Rl
namespace Rl
open PySem PySem.Spec PyProof.Rows L2
/-! ## the law's table of first bytes -/
def shS : Sh → Str
  | .e => ""
  | .rs => "rs"
  | .rn => "rn"
  | .n => "n"
  | .r => "r"
abbrev TEnt := Option (Str × Str)
def Ent (H : Hp) (v : V) : TEnt → Prop
  | none => v = .non
  | some (a, b) => ∃ p, v = .ref p ∧ H p = some (.tup [.str a, .str b])
theorem Ent.mono {H H' : Hp} {v : V} {e : TEnt} (s : Same H H') (h : Ent H v e) : Ent H' v e := by
  cases e with
  | none => exact h
  | some e =>
    obtain ⟨p, h1, h2⟩ := h
    exact ⟨p, h1, s _ _ h2⟩
structure Tab (H : Hp) (t : Addr) (T : List TEnt) : Prop where
  len : T.length = 256
  ex : ∃ xs : List V, H t = some (.lst xs) ∧ xs.length = 256 ∧ ∀ (i : Nat) (v : V) (e : TEnt), xs[i]? = some v → T[i]? = some e → Ent H v e
theorem Tab.mono {H H' : Hp} {t : Addr} {T : List TEnt} (s : Same H H') (h : Tab H t T) : Tab H' t T := by
  obtain ⟨h0, xs, h1, h2, h3⟩ := h
  exact ⟨h0, xs, s _ _ h1, h2, fun i v e a b => (h3 i v e a b).mono s⟩
theorem Tab.ne {H : Hp} {t p : Addr} {T : List TEnt} (h : Tab H t T) (n : H p = none) : p ≠ t := by
  obtain ⟨_, xs, g, _⟩ := h
  exact fun z => by rw [z, g] at n; cases n
theorem Tab.but {H : Hp} {t r : Addr} {T : List TEnt} {rs : List V} (h : Tab H t T) (n : t ≠ r) (e : H r = some (.lst rs)) : Tab (but r H) t T := by
  obtain ⟨h0, xs, h1, h2, h3⟩ := h
  refine ⟨h0, xs, but_get n h1, h2, fun i v e' a b => ?_⟩
  have z := h3 i v e' a b
  cases e' with
  | none => exact z
  | some e' =>
    obtain ⟨p, z1, z2⟩ := z
    exact ⟨p, z1, but_get (fun y => by rw [y, e] at z2; cases z2) z2⟩
theorem Tab.get {K : PySem.W.Frag} {H : Hp} {t : Addr} {T : List TEnt} (h : Tab H t T) {i : Int} (h0 : 0 ≤ i) (h1 : i < 256) {e : TEnt} (he : T[i.toNat]? = some e) {Q : VK} (q : ∀ v, Ent H v e → Q v H) : rIx K (.ref t) (.int i) H Q := by
  obtain ⟨g0, xs, g1, g2, g3⟩ := h
  exact R.ixLV (SqL.of g1) h0 (by omega) fun m hm _ => q m (g3 _ _ _ hm he)
theorem R.setTab {H : Hp} {t p : Addr} {T : List TEnt} {a b : Str} {i : Int} {n : Nat} {QS : Hp → Prop} (h : Tab H t T) (hp : H p = some (.tup [.str a, .str b])) (hn : i = (n : Int)) (h1 : n < 256)
    (q : ∀ H', Tab H' t (T.set n (some (a, b))) → Fx t H H' → QS H') : rSetL (.ref t) (.int i) (.ref p) H QS := by
  obtain ⟨g0, xs, g1, g2, g3⟩ := h
  refine R.setL (k := n) g1 ?_ (q _ ⟨?_, xs.set n (.ref p), upd_same, ?_, ?_⟩ ?_)
  · rw [hn, g2]
    unfold ixN
    rw [if_pos (by omega), if_pos (by omega)]
    rfl
  · rw [List.length_set]; exact g0
  · rw [List.length_set]; exact g2
  · intro j v e h2 h3
    have np : p ≠ t := fun z => by
      rw [z, g1] at hp
      cases hp
    by_cases hj : n = j
    · subst hj
      rw [List.getElem?_set_self (by omega)] at h2 h3
      obtain rfl := Option.some.inj h2
      obtain rfl := Option.some.inj h3
      exact ⟨p, rfl, by rw [upd_ne np]; exact hp⟩
    · rw [List.getElem?_set_ne hj] at h2 h3
      have z := g3 j v e h2 h3
      cases e with
      | none => exact z
      | some e =>
        obtain ⟨p2, z1, z2⟩ := z
        refine ⟨p2, z1, ?_⟩
        rw [upd_ne]
        · exact z2
        · intro z3
          rw [z3, g1] at z2
          cases z2
  · exact sm_bmut (Same.refl _)
def w1 (k : Nat) : Str := (["halt", "back", "rest"] : List Str).getD k ""
def w2 (k : Nat) : Str := (["copy", "add", "sub", "and", "or", "xor", "test", "", "load", "store"] : List Str).getD k ""
def w3 (k : Nat) : Nat × Str := ([(1, "set"), (9, "testn"), (12, "loadn"), (13, "storen")] : List (Nat × Str)).getD k (0, "")
def w4 (k : Nat) : Str := (["go", "zero", "nonzero", "less", "notless", "call"] : List Str).getD k ""
def w5 (k : Nat) : Str := (["in", "out", "keep", "take"] : List Str).getD (k % 4) ""
abbrev TL := List TEnt
def tb0 : TL := List.replicate 256 none
def tb1 (i : Nat) : TL := (List.range i).foldl (fun T k => T.set k (some (w1 k, ""))) tb0
def in2 (k : Nat) (T : TL) (j : Nat) : TL := (List.range j).foldl (fun T j => T.set (32 + 16 * k + j) (some (w2 k, "rs"))) T
def n2 (k : Nat) : Nat := if w2 k = "" then 0 else 16
def tb2 (i : Nat) : TL := (List.range i).foldl (fun T k => in2 k T (n2 k)) (tb1 3)
def in3 (k : Nat) (T : TL) (j : Nat) : TL := (List.range j).foldl (fun T j => T.set (16 * (w3 k).1 + 4 * j) (some ((w3 k).2, "rn"))) T
def tb3 (i : Nat) : TL := (List.range i).foldl (fun T k => in3 k T 4) (tb2 10)
def tb4 (i : Nat) : TL := (List.range i).foldl (fun T k => T.set (224 + k) (some (w4 k, "n"))) (tb3 4)
def tb5 (i : Nat) : TL := (List.range i).foldl (fun T k => T.set (240 + k) (some (w5 k, "r"))) (tb4 6)
theorem fold_succ {α : Type} (f : α → Nat → α) (x : α) (i : Nat) : (List.range (i + 1)).foldl f x = f ((List.range i).foldl f x) i := by
  rw [List.range_succ, List.foldl_append]
  rfl
theorem tb2_0 : tb2 0 = tb1 3 := by unfold tb2; rw [List.range_zero, List.foldl_nil]
theorem tb3_0 : tb3 0 = tb2 10 := by unfold tb3; rw [List.range_zero, List.foldl_nil]
theorem tb4_0 : tb4 0 = tb3 4 := by unfold tb4; rw [List.range_zero, List.foldl_nil]
theorem tb5_0 : tb5 0 = tb4 6 := by unfold tb5; rw [List.range_zero, List.foldl_nil]
theorem in2_0 (k : Nat) (T : TL) : in2 k T 0 = T := by unfold in2; rw [List.range_zero, List.foldl_nil]
theorem in3_0 (k : Nat) (T : TL) : in3 k T 0 = T := by unfold in3; rw [List.range_zero, List.foldl_nil]
abbrev tabT : TL := tb5 16
theorem tab_dec : ∀ b : Fin 256, tabT[b.val]? = some ((dec (b.val : Int)).map fun p => (p.1, shS p.2)) := by decide +kernel
theorem tabT_at {i : Int} (h0 : 0 ≤ i) (h1 : i < 256) : tabT[i.toNat]? = some ((dec i).map fun p => (p.1, shS p.2)) := by
  have h := tab_dec ⟨i.toNat, by omega⟩
  have e : ((i.toNat : Nat) : Int) = i := Int.toNat_of_nonneg h0
  rw [← e]
  exact h
def sp_law_table (K : PySem.W.Frag) (_ : World) : Sp := fun vs H Q _ => vs = [] ∧ ∀ t H', Same H H' → H t = none → Tab H' t tabT → Q (.ref t) H'
theorem len_law_table {K : PySem.W.Frag} {w : World} {vs : List V} {H : Hp} {Q : VK} {E : XK} (h : sp_law_table K w vs H Q E) : vs.length = 0 := by
  obtain ⟨rfl, _⟩ := h
  rfl
end Rl
namespace Rl
open PySem PySem.Spec PyProof.Rows L2
/-! ## the law's own likeness: two things that are the same data -/
/-- no deeper than n, no list too long -/
def Nrw : Nat → PyData → Prop
  | 0, .list _ => False
  | 0, .tuple _ => False
  | n + 1, .list ds => ds.length < sizeLine ∧ ∀ d ∈ ds, Nrw n d
  | n + 1, .tuple ds => ds.length < sizeLine ∧ ∀ d ∈ ds, Nrw n d
  | _, _ => True
def spA (K : PySem.W.Frag) (_ : World) : Nat → Sp
  | 0 => fun _ _ _ _ => False
  | n + 1 => fun vs H Q _ => ∃ f d data, vs = [f, d] ∧ Dp K H f data ∧ Dp K H d data ∧ Nrw n data ∧ ∀ H', Same H H' → Q (.bl true) H'
abbrev sp_law_alike (K : PySem.W.Frag) (w : World) : Sp := spA K w 4
theorem len_law_alike {K : PySem.W.Frag} {w : World} {n : Nat} {vs : List V} {H : Hp} {Q : VK} {E : XK} (h : spA K w n vs H Q E) : vs.length = 2 := by
  cases n with
  | zero => cases h
  | succ n =>
    obtain ⟨f, d, data, rfl, _⟩ := h
    rfl
theorem all_true (n : Nat) : ((List.range n).map fun _ => true).all id = true := by
  rw [List.all_map]
  exact List.all_eq_true.mpr fun _ _ => rfl
end Rl
namespace Rl
open PySem PySem.Spec PyProof.Rows L2
/-! ## the law's own row -/
def isN : Sh → Bool
  | .rn => true
  | .n => true
  | _ => false
theorem isLong_dec {b : Int} {w : Str} {sh : Sh} (h : dec b = some (w, sh)) : isLong b = isN sh := by
  unfold isLong
  rw [h]
  cases sh <;> rfl
theorem n_in (sh : Sh) : (!(Builtin.Str.occurrences (shS sh) "n" 0 (shS sh).length 1).isEmpty) = isN sh := by
  cases sh <;> decide +kernel
theorem sh_cps (sh : Sh) : ∀ c ∈ (shS sh).cps.toList, c = 114 ∨ c = 115 ∨ c = 110 := by
  cases sh <;> decide +kernel
theorem sh_size (sh : Sh) : (shS sh).cps.size < sizeLine := by
  cases sh <;> decide
theorem sh_size1 (sh : Sh) : 1 + (shS sh).cps.toList.length ≤ sizeLine := by
  cases sh <;> decide
/-- what stands for a sign -/
def fS (b n : Int) (c : Nat) : V := if c = 114 then .str (boxR b) else if c = 115 then .str (boxS b) else .int n
def restD (b n : Int) : Sh → List PyData
  | .e => []
  | .rs => [.str (boxR b), .str (boxS b)]
  | .rn => [.str (boxR b), .int n]
  | .n => [.int n]
  | .r => [.str (boxR b)]
theorem rowD_dec {b n : Int} {w : Str} {sh : Sh} (h : dec b = some (w, sh)) : rowD b n = some (.str w :: restD b n sh) := by
  unfold rowD
  rw [h]
  cases sh <;> rfl
theorem restD_n {b n m : Int} {sh : Sh} (h : isN sh = false) : restD b n sh = restD b m sh := by
  cases sh <;> first | rfl | cases h
theorem fS_dp {K : PySem.W.Frag} {H : Hp} (b n : Int) (sh : Sh) : DpAll K H ((shS sh).cps.toList.map (fS b n)) (restD b n sh) := by
  cases sh with
  | e => exact .nil
  | rs => exact .cons (.str _) (.cons (.str _) .nil)
  | rn => exact .cons (.str _) (.cons (.int _) .nil)
  | n => exact .cons (.int _) .nil
  | r => exact .cons (.str _) .nil
def sp_law_row (K : PySem.W.Frag) (_ : World) : Sp := fun vs H Q _ => ∃ (t a : Addr) (ns : List Int) (i : Int), vs = [.ref t, .ref a, .int i] ∧ Tab H t tabT ∧ SqL K H a (ns.map V.int) ∧ By ns ∧ ns.length ≤ 100000 ∧
  ∀ v H', Same H H' → Dp K H' v (atD (rowAt ns i)) → Q v H'
theorem len_law_row {K : PySem.W.Frag} {w : World} {vs : List V} {H : Hp} {Q : VK} {E : XK} (h : sp_law_row K w vs H Q E) : vs.length = 3 := by
  obtain ⟨_, _, _, _, rfl, _⟩ := h
  rfl
theorem rowAt_out {ns : List Int} {a : Int} (h : ¬ (0 ≤ a ∧ a < ns.length)) : rowAt ns a = none := by
  unfold rowAt
  exact if_neg h
theorem rowAt_in {ns : List Int} {a b : Int} (h : 0 ≤ a ∧ a < ns.length) (hb : ns[a.toNat]? = some b) : rowAt ns a = (if isLong b = true then (if a + 1 < ns.length then (rowD b (ns.getD (a.toNat + 1) 0)).map fun l => (l, 2) else none) else (rowD b 0).map fun l => (l, 1)) := by
  unfold rowAt
  rw [if_pos h, List.getD_eq_getElem?_getD, hb]
  rfl
theorem nrw_rest (b n : Int) (sh : Sh) : (restD b n sh).length ≤ 2 ∧ ∀ d ∈ restD b n sh, Nrw 1 d := by
  cases sh <;> refine ⟨Nat.le_of_ble_eq_true rfl, fun d hd => ?_⟩ <;> unfold restD at hd <;> simp only [List.mem_cons, List.not_mem_nil, or_false] at hd
  · rcases hd with rfl | rfl <;> exact True.intro
  · rcases hd with rfl | rfl <;> exact True.intro
  · rw [hd]; exact True.intro
  · rw [hd]; exact True.intro
theorem nrw_rowD {b n : Int} {l : List PyData} (h : rowD b n = some l) : Nrw 2 (.tuple l) := by
  cases hd : dec b with
  | none =>
    unfold rowD at h
    rw [hd] at h
    cases h
  | some p =>
    obtain ⟨w, sh⟩ := p
    rw [rowD_dec hd] at h
    obtain rfl := Option.some.inj h
    obtain ⟨h1, h2⟩ := nrw_rest b n sh
    refine ⟨Nat.lt_of_le_of_lt (m := 3) (by rw [List.length_cons]; omega) (by decide), fun d hd => ?_⟩
    rcases List.mem_cons.mp hd with rfl | hd
    · exact True.intro
    · exact h2 d hd
theorem nrw_at (ns : List Int) (a : Int) : Nrw 3 (atD (rowAt ns a)) := by
  cases h : rowAt ns a with
  | none => exact True.intro
  | some p =>
    obtain ⟨l, m⟩ := p
    have hl : ∃ b n, rowD b n = some l := by
      unfold rowAt at h
      split at h
      · split at h
        · split at h
          · cases g : rowD (ns.getD a.toNat 0) (ns.getD (a.toNat + 1) 0) with
            | none => rw [g] at h; cases h
            | some l2 =>
              rw [g] at h
              cases h
              exact ⟨_, _, g⟩
          · cases h
        · cases g : rowD (ns.getD a.toNat 0) 0 with
          | none => rw [g] at h; cases h
          | some l2 =>
            rw [g] at h
            cases h
            exact ⟨_, _, g⟩
      · cases h
    obtain ⟨b, n, hl⟩ := hl
    refine ⟨(by decide : 2 < sizeLine), fun d hd => ?_⟩
    rcases List.mem_cons.mp hd with rfl | hd
    · exact nrw_rowD hl
    · rw [List.mem_singleton.mp hd]
      exact True.intro
end Rl
namespace Rl
open PySem PySem.Spec PyProof.Rows L2
/-! ## where a row goes on -/
def wordOf : List PyData → Str
  | .str w :: _ => w
  | _ => ""
def numOf : List PyData → Int
  | _ :: .int n :: _ => n
  | _ => 0
def endsT : List Str := ["halt", "back", "go"]
def tgtT : List Str := ["go", "zero", "nonzero", "less", "notless", "call"]
def behind (ns : List Int) (a : Int) : Option Int := match rowAt ns a with
  | some (l, m) => if wordOf l ∈ endsT then none else some (a + m)
  | none => none
def tgt (ns : List Int) (a : Int) : Option Int := match rowAt ns a with
  | some (l, _) => if wordOf l ∈ tgtT then some (numOf l) else none
  | none => none
def isCall (ns : List Int) (a : Int) : Bool := match rowAt ns a with
  | some (l, _) => decide (wordOf l = "call")
  | none => false
def optV : Option Int → V
  | some i => .int i
  | none => .non
theorem tgt_dec : ∀ b : Fin 256, (match dec (b.val : Int) with
    | some (w, sh) => decide (w ∈ tgtT) == decide (sh = .n)
    | none => true) = true := by decide +kernel
theorem row_shape {ns : List Int} {a m : Int} {l : List PyData} (hb : By ns) (h : rowAt ns a = some (l, m)) : ∃ w rest, l = .str w :: rest ∧ (w ∈ tgtT → ∃ n, rest = [.int n]) := by
  unfold rowAt at h
  by_cases hin : 0 ≤ a ∧ a < ns.length
  · rw [if_pos hin] at h
    obtain ⟨b, e⟩ : ∃ b, ns[a.toNat]? = some b := ⟨_, List.getElem?_eq_getElem (by omega)⟩
    have hb2 := hb b (List.mem_of_getElem? e)
    have hl : ∃ n, rowD b n = some l := by
      rw [List.getD_eq_getElem?_getD, e] at h
      simp only [Option.getD_some] at h
      split at h
      · split at h
        · cases g : rowD b (ns.getD (a.toNat + 1) 0) with
          | none => rw [g] at h; cases h
          | some l2 =>
            rw [g] at h
            cases h
            exact ⟨_, g⟩
        · cases h
      · cases g : rowD b 0 with
        | none => rw [g] at h; cases h
        | some l2 =>
          rw [g] at h
          cases h
          exact ⟨_, g⟩
    obtain ⟨n, hl⟩ := hl
    cases hd : dec b with
    | none =>
      unfold rowD at hl
      rw [hd] at hl
      cases hl
    | some p =>
      obtain ⟨w, sh⟩ := p
      rw [rowD_dec hd] at hl
      refine ⟨w, restD b n sh, (Option.some.inj hl).symm, fun hw => ?_⟩
      have t := tgt_dec ⟨b.toNat, by omega⟩
      have e2 : ((b.toNat : Nat) : Int) = b := Int.toNat_of_nonneg hb2.1
      simp only [e2, hd] at t
      have hs : sh = .n := by
        rw [decide_eq_true hw] at t
        exact of_decide_eq_true (eq_of_beq t).symm
      rw [hs]
      exact ⟨n, rfl⟩
  · rw [if_neg hin] at h
    cases h
theorem dp_at {K : PySem.W.Frag} {H : Hp} {v : V} {w : Str} {rest : List PyData} {m : Int} (h : Dp K H v (atD (some (.str w :: rest, m)))) : ∃ p q xs, v = .ref p ∧ SqT K H p [.ref q, .int m] ∧ SqT K H q (.str w :: xs) ∧ DpAll K H xs rest := by
  obtain ⟨p, ys, rfl, hp, ha⟩ := dp_tup h
  cases ha with
  | cons a1 t1 =>
    cases t1 with
    | cons a2 t2 =>
      cases t2
      obtain ⟨q, xs, rfl, hq, hb⟩ := dp_tup a1
      cases hb with
      | cons b1 s1 =>
        rw [dp_str b1] at hq
        rw [dp_int a2] at hp
        exact ⟨p, q, _, rfl, hp, hq, s1⟩
theorem in_strs (w : Str) : ∀ ws : List Str, inV (.str w) (ws.map V.str) = decide (w ∈ ws)
  | [] => rfl
  | z :: ws => by
    have ih := in_strs w ws
    unfold inV at ih ⊢
    rw [List.map_cons, List.any_cons, ih]
    show (eqV (V.str z) (V.str w) || decide (w ∈ ws)) = _
    have e : eqV (V.str z) (V.str w) = decide (w = z) := by
      show decide (z = w) = decide (w = z)
      by_cases h : w = z
      · rw [decide_eq_true h, decide_eq_true h.symm]
      · rw [decide_eq_false h, decide_eq_false fun q => h q.symm]
    rw [e]
    by_cases h : w = z
    · subst h
      simp
    · simp [h]
theorem R.inStrs {K : PySem.W.Frag} {H : Hp} {Q : VK} {w : Str} {ws : List Str} {p : Addr} (h : SqL K H p (ws.map V.str) ∨ SqT K H p (ws.map V.str)) (q : Q (.bl (decide (w ∈ ws))) H) : rIn K false (.str w) (.ref p) H Q :=
  ⟨p, _, rfl, h, rfl, List.all_eq_true.mpr fun x hx => by
    obtain ⟨z, _, rfl⟩ := List.mem_map.mp hx
    rfl, by
    rw [← in_strs] at q
    exact q⟩
/-- the ints of a tuple of ints and Nones, as a set -/
theorem scOpts {K : PySem.W.Frag} {w : World} {σ : L2.St} {H : Hp} {Q : VK} {a : Addr} {j : Nat} (os : List (Option Int)) (h : SqT K H a (os.map optV)) (hl : os.length < 60) (hw : ∀ x, wipe ((wipe σ [j]).set j (some x)) [j] = wipe σ [j]) (hg : ∀ x, ((wipe σ [j]).set j (some x))[j]? = some (some x))
    (q : ∀ D H' S n, H D = none → Same H H' → H' D = some (SetO w D S n) → n < 64 → (∀ k, S k = true ↔ some k ∈ os) → Q (.ref D) H') :
    ∀ D, H D = none → ScGo w (Itt K a) (L2.gName j) (tTest (tOp rNotN (tVar j) (tC .non))) (tVar j) [j] σ D H Q := by
  intro D hD
  refine scWalk walk_tup (fun i H' => Same H H' ∧ ∃ S n, H' D = some (SetO w D S n) ∧ n ≤ i ∧ ∀ k, S k = true ↔ some k ∈ os.take i) ⟨same_upd hD, _, 0, upd_same, Nat.le_refl _, fun k => ?_⟩ (fun i H' _ z => SqT.mono z.1 h) ?_ (fun H' z => ?_)
  · constructor
    · intro z
      cases z
    · intro z
      cases z
  · rintro i x H1 H' hi ⟨z1, S, n, z2, z3, z4⟩ ⟨rfl, hx⟩
    rw [List.length_map] at hi
    rw [List.getElem?_map, List.getElem?_eq_getElem hi] at hx
    obtain rfl : optV os[i] = x := Option.some.inj hx
    have ht : os.take (i + 1) = os.take i ++ [os[i]] := by rw [List.take_add_one, List.getElem?_eq_getElem hi]; rfl
    refine ⟨hw _, ?_⟩
    refine ⟨_, hg _, rfl, ?_⟩
    cases ho : os[i] with
    | none =>
      refine ⟨false, rfl, iteF ⟨z1, S, n, z2, by omega, fun k => ?_⟩⟩
      rw [ht, ho, List.mem_append, z4 k]
      simp
    | some c =>
      refine ⟨true, rfl, iteT ⟨_, hg _, c, S, n, rfl, z2, Nat.lt_of_le_of_lt (m := 61) (by omega) (by decide), ?_, _, _, upd_same, ?_, fun k => ?_⟩⟩
      · intro b o e
        rw [upd_ne (ne_of_none e hD)]
        exact z1 _ _ e
      · split <;> omega
      · rw [ht, ho, List.mem_append, Bool.or_eq_true, z4 k, List.mem_singleton]
        constructor
        · rintro (z | z)
          · exact .inl z
          · exact .inr (by rw [of_decide_eq_true z])
        · rintro (z | z)
          · exact .inl z
          · exact .inr (decide_eq_true (Option.some.inj z))
  · obtain ⟨z1, S, n, z2, z3, z4⟩ := z
    rw [List.length_map] at z3
    rw [List.length_map, List.take_of_length_le (Nat.le_refl _)] at z4
    exact q D H' S n hD z1 z2 (by omega) z4
structure FindC (K : PySem.W.Frag) (w : World) : Prop where
  mach : MachC K w
  ends : ∀ H, SqT K H (He.ga K "ENDS") [.str "halt", .str "back", .str "go"]
/-- a new pair -/
def Pair2 (H : Hp) (v : V) (x y : Option Int) : Prop := ∃ p, v = .ref p ∧ H p = some (.tup [optV x, optV y])
def sp_behind_and_target (K : PySem.W.Frag) (_ : World) : Sp := fun vs H Q _ => ∃ (c : V) (ns : List Int) (a : Int), vs = [c, .int a] ∧ Code K H c ns ∧ By ns ∧ ∀ v H', Same H H' → Pair2 H' v (behind ns a) (tgt ns a) → Q v H'
def sp_is_call (K : PySem.W.Frag) (_ : World) : Sp := fun vs H Q _ => ∃ (c : V) (ns : List Int) (a : Int), vs = [c, .int a] ∧ Code K H c ns ∧ By ns ∧ ∀ H', Same H H' → Q (.bl (isCall ns a)) H'
/-- the places that a row goes on to -/
def Goes (ns : List Int) (a : Int) (L : List Int) : Prop := L.Pairwise (· < ·) ∧ ∀ k, k ∈ L ↔ (behind ns a = some k ∨ (isCall ns a = false ∧ tgt ns a = some k))
def sp_goes_on (K : PySem.W.Frag) (_ : World) : Sp := fun vs H Q _ => ∃ (c : V) (ns : List Int) (a : Int), vs = [c, .int a] ∧ Code K H c ns ∧ By ns ∧ ∀ p H' L, Same H H' → H p = none → H' p = some (.lst (L.map V.int)) → Goes ns a L → Q (.ref p) H'
def sp_law_onward (K : PySem.W.Frag) (_ : World) : Sp := fun vs H Q _ => ∃ (t a : Addr) (ns : List Int) (i : Int), vs = [.ref t, .ref a, .int i] ∧ Tab H t tabT ∧ SqL K H a (ns.map V.int) ∧ By ns ∧ ns.length ≤ 100000 ∧ ∀ v H', Same H H' → Pair2 H' v (behind ns i) (tgt ns i) → Q v H'
def sp_law_is_call (K : PySem.W.Frag) (_ : World) : Sp := fun vs H Q _ => ∃ (t a : Addr) (ns : List Int) (i : Int), vs = [.ref t, .ref a, .int i] ∧ Tab H t tabT ∧ SqL K H a (ns.map V.int) ∧ By ns ∧ ns.length ≤ 100000 ∧ ∀ H', Same H H' → Q (.bl (isCall ns i)) H'
theorem len_behind_and_target {K : PySem.W.Frag} {w : World} {vs : List V} {H : Hp} {Q : VK} {E : XK} (h : sp_behind_and_target K w vs H Q E) : vs.length = 2 := by
  obtain ⟨_, _, _, rfl, _⟩ := h
  rfl
theorem len_is_call {K : PySem.W.Frag} {w : World} {vs : List V} {H : Hp} {Q : VK} {E : XK} (h : sp_is_call K w vs H Q E) : vs.length = 2 := by
  obtain ⟨_, _, _, rfl, _⟩ := h
  rfl
theorem len_goes_on {K : PySem.W.Frag} {w : World} {vs : List V} {H : Hp} {Q : VK} {E : XK} (h : sp_goes_on K w vs H Q E) : vs.length = 2 := by
  obtain ⟨_, _, _, rfl, _⟩ := h
  rfl
theorem len_law_onward {K : PySem.W.Frag} {w : World} {vs : List V} {H : Hp} {Q : VK} {E : XK} (h : sp_law_onward K w vs H Q E) : vs.length = 3 := by
  obtain ⟨_, _, _, _, rfl, _⟩ := h
  rfl
theorem len_law_is_call {K : PySem.W.Frag} {w : World} {vs : List V} {H : Hp} {Q : VK} {E : XK} (h : sp_law_is_call K w vs H Q E) : vs.length = 3 := by
  obtain ⟨_, _, _, _, rfl, _⟩ := h
  rfl
/-- the same members, rising: the same list -/
theorem sorted_uniq : ∀ {L M : List Int}, L.Pairwise (· < ·) → M.Pairwise (· < ·) → (∀ k, k ∈ L ↔ k ∈ M) → L = M
  | [], [], _, _, _ => rfl
  | [], m :: M, _, _, h => by
    have := (h m).mpr List.mem_cons_self
    cases this
  | l :: L, [], _, _, h => by
    have := (h l).mp List.mem_cons_self
    cases this
  | l :: L, m :: M, hl, hm, h => by
    obtain ⟨l1, l2⟩ := List.pairwise_cons.mp hl
    obtain ⟨m1, m2⟩ := List.pairwise_cons.mp hm
    have e : l = m := by
      rcases List.mem_cons.mp ((h l).mp List.mem_cons_self) with z | z
      · exact z
      · rcases List.mem_cons.mp ((h m).mpr List.mem_cons_self) with y | y
        · exact y.symm
        · have := m1 l z
          have := l1 m y
          omega
    subst e
    rw [sorted_uniq l2 m2 fun k => ?_]
    constructor
    · intro hk
      rcases List.mem_cons.mp ((h k).mp (List.mem_cons_of_mem _ hk)) with z | z
      · have := l1 k hk
        omega
      · exact z
    · intro hk
      rcases List.mem_cons.mp ((h k).mpr (List.mem_cons_of_mem _ hk)) with z | z
      · have := m1 k hk
        omega
      · exact z
theorem Goes.uniq {ns : List Int} {a : Int} {L M : List Int} (h : Goes ns a L) (g : Goes ns a M) : L = M := sorted_uniq h.1 g.1 fun k => (h.2 k).trans (g.2 k).symm
end Rl
namespace Rl
open PySem PySem.Spec PyProof.Rows L2
theorem row_range {ns : List Int} {a m : Int} {l : List PyData} (h : rowAt ns a = some (l, m)) : 0 ≤ a ∧ a < ns.length ∧ 1 ≤ m ∧ a + m ≤ ns.length := by
  by_cases hin : 0 ≤ a ∧ a < ns.length
  · obtain ⟨b, e⟩ : ∃ b, ns[a.toNat]? = some b := ⟨_, List.getElem?_eq_getElem (by omega)⟩
    rw [rowAt_in hin e] at h
    split at h
    · split at h
      · cases g : rowD b (ns.getD (a.toNat + 1) 0) with
        | none => rw [g] at h; cases h
        | some l2 =>
          rw [g] at h
          cases h
          omega
      · cases h
    · cases g : rowD b 0 with
      | none => rw [g] at h; cases h
      | some l2 =>
        rw [g] at h
        cases h
        omega
  · rw [rowAt_out hin] at h
    cases h
theorem row_byte {ns : List Int} {a m n : Int} {w : Str} (hb : By ns) (hw : w ∈ tgtT) (h : rowAt ns a = some ([.str w, .int n], m)) : 0 ≤ n ∧ n < 256 := by
  obtain ⟨h0, h1, _, _⟩ := row_range h
  obtain ⟨b, e⟩ : ∃ b, ns[a.toNat]? = some b := ⟨_, List.getElem?_eq_getElem (by omega)⟩
  have hb2 := hb b (List.mem_of_getElem? e)
  rw [rowAt_in ⟨h0, h1⟩ e] at h
  obtain ⟨z, hz, hl⟩ : ∃ z, (0 ≤ z ∧ z < 256) ∧ rowD b z = some [.str w, .int n] := by
    split at h
    · split at h
      · rename_i h2
        refine ⟨ns.getD (a.toNat + 1) 0, ?_, ?_⟩
        · rw [List.getD_eq_getElem?_getD, List.getElem?_eq_getElem (by omega)]
          exact hb _ (List.getElem_mem _)
        · cases g : rowD b (ns.getD (a.toNat + 1) 0) with
          | none => rw [g] at h; cases h
          | some l2 =>
            rw [g] at h
            cases h
            rfl
      · cases h
    · refine ⟨0, by decide, ?_⟩
      cases g : rowD b 0 with
      | none => rw [g] at h; cases h
      | some l2 =>
        rw [g] at h
        cases h
        rfl
  cases hd : dec b with
  | none =>
    unfold rowD at hl
    rw [hd] at hl
    cases hl
  | some p =>
    obtain ⟨w2, sh⟩ := p
    rw [rowD_dec hd] at hl
    have t := tgt_dec ⟨b.toNat, by omega⟩
    have e2 : ((b.toNat : Nat) : Int) = b := Int.toNat_of_nonneg hb2.1
    simp only [e2, hd] at t
    have hl2 := Option.some.inj hl
    injection hl2 with x1 x2
    injection x1 with x1
    rw [x1, decide_eq_true hw] at t
    have hs : sh = .n := of_decide_eq_true (eq_of_beq t).symm
    rw [hs] at x2
    have x3 : PyData.int z = PyData.int n := (List.cons.inj x2).1
    injection x3 with x3
    omega
end Rl
namespace Rl
open PySem PySem.Spec PyProof.Rows L2
/-! ## the old machine, as it is -/
structure Mc where
  bx : List Int
  cells : List Int
  zero : Bool
  less : Bool
  kept : List Int
  places : List Int
  ahead : List Int
  outs : List Int
  place : Int
  fin : Option Str
def Mc.box (m : Mc) (r : Nat) : Int := m.bx.getD r 0
def Mc.put (m : Mc) (r : Nat) (v : Int) : Mc := { m with bx := m.bx.set r v }
def Mc.mark (m : Mc) (z l : Bool) : Mc := { m with zero := z, less := l }
/-- what a row says, its boxes by number -/
inductive Op where
  | halt | back | rest
  | set (r : Nat) (n : Int) | copy (r s : Nat)
  | sum (add : Bool) (r s : Nat)
  | bits (k : Fin 3) (r s : Nat)
  | test (r s : Nat) | testn (r : Nat) (n : Int)
  | load (r s : Nat) | loadn (r : Nat) (n : Int)
  | store (r s : Nat) | storen (r : Nat) (n : Int)
  | go (k : Fin 5) (t : Int)
  | call (t : Int)
  | inn (r : Nat) | out (r : Nat) | keep (r : Nat) | take (r : Nat)
def bxN (r : Nat) : Str := Rl.box (r : Int)
def bitsW : Fin 3 → Str
  | 0 => "and"
  | 1 => "or"
  | 2 => "xor"
def bitsF : Fin 3 → Int → Int → Int
  | 0 => Builtin.bitAnd
  | 1 => Builtin.bitOr
  | 2 => Builtin.bitXor
def goW : Fin 5 → Str
  | 0 => "go"
  | 1 => "zero"
  | 2 => "nonzero"
  | 3 => "less"
  | 4 => "notless"
def goB (m : Mc) : Fin 5 → Bool
  | 0 => true
  | 1 => m.zero
  | 2 => !m.zero
  | 3 => m.less
  | 4 => !m.less
def Op.data : Op → List PyData
  | .halt => [.str "halt"]
  | .back => [.str "back"]
  | .rest => [.str "rest"]
  | .set r n => [.str "set", .str (bxN r), .int n]
  | .copy r s => [.str "copy", .str (bxN r), .str (bxN s)]
  | .sum a r s => [.str (if a then "add" else "sub"), .str (bxN r), .str (bxN s)]
  | .bits k r s => [.str (bitsW k), .str (bxN r), .str (bxN s)]
  | .test r s => [.str "test", .str (bxN r), .str (bxN s)]
  | .testn r n => [.str "testn", .str (bxN r), .int n]
  | .load r s => [.str "load", .str (bxN r), .str (bxN s)]
  | .loadn r n => [.str "loadn", .str (bxN r), .int n]
  | .store r s => [.str "store", .str (bxN r), .str (bxN s)]
  | .storen r n => [.str "storen", .str (bxN r), .int n]
  | .go k t => [.str (goW k), .int t]
  | .call t => [.str "call", .int t]
  | .inn r => [.str "in", .str (bxN r)]
  | .out r => [.str "out", .str (bxN r)]
  | .keep r => [.str "keep", .str (bxN r)]
  | .take r => [.str "take", .str (bxN r)]
/-- which def does it -/
def Op.doer : Op → Str
  | .halt => "done_alone"
  | .back => "done_alone"
  | .rest => "done_alone"
  | .set .. => "done_set"
  | .copy .. => "done_set"
  | .sum .. => "done_sum"
  | .bits .. => "done_bits"
  | .test .. => "done_test"
  | .testn .. => "done_test"
  | .load .. => "done_load"
  | .loadn .. => "done_load"
  | .store .. => "done_store"
  | .storen .. => "done_store"
  | .go .. => "done_go"
  | .call .. => "done_call"
  | .inn .. => "done_in"
  | .out .. => "done_out"
  | .keep .. => "done_keep"
  | .take .. => "done_take"
/-- its boxes are boxes, its numbers bytes -/
def Op.Ok : Op → Prop
  | .halt => True
  | .back => True
  | .rest => True
  | .set r n => r < 4 ∧ 0 ≤ n ∧ n < 256
  | .copy r s => r < 4 ∧ s < 4
  | .sum _ r s => r < 4 ∧ s < 4
  | .bits _ r s => r < 4 ∧ s < 4
  | .test r s => r < 4 ∧ s < 4
  | .testn r n => r < 4 ∧ 0 ≤ n ∧ n < 256
  | .load r s => r < 4 ∧ s < 4
  | .loadn r n => r < 4 ∧ 0 ≤ n ∧ n < 256
  | .store r s => r < 4 ∧ s < 4
  | .storen r n => r < 4 ∧ 0 ≤ n ∧ n < 256
  | .go _ t => 0 ≤ t ∧ t < 256
  | .call t => 0 ≤ t ∧ t < 256
  | .inn r => r < 4
  | .out r => r < 4
  | .keep r => r < 4
  | .take r => r < 4
def Mc.act (m : Mc) : Op → Mc
  | .halt => { m with fin := some "halt" }
  | .back => if m.places = [] then { m with fin := some "bare" } else { m with place := m.places.getD (m.places.length - 1) 0, places := m.places.dropLast }
  | .rest => m
  | .set r n => m.put r n
  | .copy r s => m.put r (m.box s)
  | .sum a r s => (m.put r ((if a then m.box r + m.box s else m.box r - m.box s) % 256)).mark (decide ((if a then m.box r + m.box s else m.box r - m.box s) % 256 = 0)) (!decide (0 ≤ (if a then m.box r + m.box s else m.box r - m.box s) ∧ (if a then m.box r + m.box s else m.box r - m.box s) < 256))
  | .bits k r s => (m.put r (bitsF k (m.box r) (m.box s))).mark (decide (bitsF k (m.box r) (m.box s) = 0)) false
  | .test r s => m.mark (decide (m.box r = m.box s)) (decide (m.box r < m.box s))
  | .testn r n => m.mark (decide (m.box r = n)) (decide (m.box r < n))
  | .load r s => m.put r (m.cells.getD (m.box s % 64).toNat 0)
  | .loadn r n => m.put r (m.cells.getD (n % 64).toNat 0)
  | .store r s => { m with cells := m.cells.set (m.box r % 64).toNat (m.box s) }
  | .storen r n => { m with cells := m.cells.set (n % 64).toNat (m.box r) }
  | .go k t => if goB m k then { m with place := t } else m
  | .call t => if m.places.length = 16 then { m with fin := some "deep" } else { m with places := m.places ++ [m.place], place := t }
  | .inn r => if m.ahead = [] then m.put r 0 else { m.put r (m.ahead.getD 0 0) with ahead := m.ahead.drop 1 }
  | .out r => { m with outs := m.outs ++ [m.box r] }
  | .keep r => if m.kept.length = 16 then { m with fin := some "deep" } else { m with kept := m.kept ++ [m.box r] }
  | .take r => if m.kept = [] then { m with fin := some "bare" } else { m.put r (m.kept.getD (m.kept.length - 1) 0) with kept := m.kept.dropLast }
/-- what holds of it at any time -/
structure Mc.Ok (m : Mc) : Prop where
  bl : m.bx.length = 4
  bb : By m.bx
  cl : m.cells.length = 64
  cb : By m.cells
  kl : m.kept.length ≤ 16
  kb : By m.kept
  pl : m.places.length ≤ 16
  ab : By m.ahead
/-- a new one -/
def Mc.new (ahead : List Int) : Mc := ⟨[0, 0, 0, 0], List.replicate 64 0, false, false, [], [], ahead, [], 0, none⟩
/-- every row is one of these -/
theorem row_op {ns : List Int} {a m : Int} {l : List PyData} (hb : By ns) (h : rowAt ns a = some (l, m)) : ∃ op : Op, l = op.data ∧ op.Ok := by
  have r := row_range h
  obtain ⟨b, e⟩ : ∃ b, ns[a.toNat]? = some b := ⟨_, List.getElem?_eq_getElem (by omega)⟩
  have hb2 := hb b (List.mem_of_getElem? e)
  rw [rowAt_in ⟨r.1, r.2.1⟩ e] at h
  obtain ⟨z, hz, hl⟩ : ∃ z, (0 ≤ z ∧ z < 256) ∧ rowD b z = some l := by
    split at h
    · split at h
      · rename_i h2
        refine ⟨ns.getD (a.toNat + 1) 0, ?_, ?_⟩
        · rw [List.getD_eq_getElem?_getD, List.getElem?_eq_getElem (by omega)]
          exact hb _ (List.getElem_mem _)
        · cases g : rowD b (ns.getD (a.toNat + 1) 0) with
          | none => rw [g] at h; cases h
          | some l2 =>
            rw [g] at h
            cases h
            rfl
      · cases h
    · refine ⟨0, by decide, ?_⟩
      cases g : rowD b 0 with
      | none => rw [g] at h; cases h
      | some l2 =>
        rw [g] at h
        cases h
        rfl
  have hr : (b / 4 % 4).toNat < 4 := by omega
  have hs : (b % 4).toNat < 4 := by omega
  have er : bxN (b / 4 % 4).toNat = boxR b := by
    unfold bxN boxR
    rw [Int.toNat_of_nonneg (by omega)]
  have es : bxN (b % 4).toNat = boxS b := by
    unfold bxN boxS
    rw [Int.toNat_of_nonneg (by omega)]
  cases hd : dec b with
  | none =>
    unfold rowD at hl
    rw [hd] at hl
    cases hl
  | some p =>
    obtain ⟨wd, sh⟩ := p
    rw [rowD_dec hd] at hl
    obtain rfl := Option.some.inj hl
    have key : ∀ b : Fin 256, (match dec (b.val : Int) with
      | some (w, .e) => decide (w ∈ (["halt", "back", "rest"] : List Str))
      | some (w, .rs) => decide (w ∈ (["copy", "add", "sub", "and", "or", "xor", "test", "load", "store"] : List Str))
      | some (w, .rn) => decide (w ∈ (["set", "testn", "loadn", "storen"] : List Str))
      | some (w, .n) => decide (w ∈ (["go", "zero", "nonzero", "less", "notless", "call"] : List Str))
      | some (w, .r) => decide (w ∈ (["in", "out", "keep", "take"] : List Str))
      | none => true) = true := by decide +kernel
    have k := key ⟨b.toNat, by omega⟩
    have e2 : ((b.toNat : Nat) : Int) = b := Int.toNat_of_nonneg hb2.1
    simp only [e2, hd] at k
    cases sh with
    | e =>
      have k2 := of_decide_eq_true k
      simp only [List.mem_cons, List.not_mem_nil, or_false] at k2
      rcases k2 with rfl | rfl | rfl
      · exact ⟨.halt, rfl, True.intro⟩
      · exact ⟨.back, rfl, True.intro⟩
      · exact ⟨.rest, rfl, True.intro⟩
    | rs =>
      have k2 := of_decide_eq_true k
      simp only [List.mem_cons, List.not_mem_nil, or_false] at k2
      unfold restD
      rw [← er, ← es]
      rcases k2 with rfl | rfl | rfl | rfl | rfl | rfl | rfl | rfl | rfl
      · exact ⟨.copy _ _, rfl, hr, hs⟩
      · exact ⟨.sum true _ _, rfl, hr, hs⟩
      · exact ⟨.sum false _ _, rfl, hr, hs⟩
      · exact ⟨.bits 0 _ _, rfl, hr, hs⟩
      · exact ⟨.bits 1 _ _, rfl, hr, hs⟩
      · exact ⟨.bits 2 _ _, rfl, hr, hs⟩
      · exact ⟨.test _ _, rfl, hr, hs⟩
      · exact ⟨.load _ _, rfl, hr, hs⟩
      · exact ⟨.store _ _, rfl, hr, hs⟩
    | rn =>
      have k2 := of_decide_eq_true k
      simp only [List.mem_cons, List.not_mem_nil, or_false] at k2
      unfold restD
      rw [← er]
      rcases k2 with rfl | rfl | rfl | rfl
      · exact ⟨.set _ _, rfl, hr, hz⟩
      · exact ⟨.testn _ _, rfl, hr, hz⟩
      · exact ⟨.loadn _ _, rfl, hr, hz⟩
      · exact ⟨.storen _ _, rfl, hr, hz⟩
    | n =>
      have k2 := of_decide_eq_true k
      simp only [List.mem_cons, List.not_mem_nil, or_false] at k2
      unfold restD
      rcases k2 with rfl | rfl | rfl | rfl | rfl | rfl
      · exact ⟨.go 0 _, rfl, hz⟩
      · exact ⟨.go 1 _, rfl, hz⟩
      · exact ⟨.go 2 _, rfl, hz⟩
      · exact ⟨.go 3 _, rfl, hz⟩
      · exact ⟨.go 4 _, rfl, hz⟩
      · exact ⟨.call _, rfl, hz⟩
    | r =>
      have k2 := of_decide_eq_true k
      simp only [List.mem_cons, List.not_mem_nil, or_false] at k2
      unfold restD
      rw [← er]
      rcases k2 with rfl | rfl | rfl | rfl
      · exact ⟨.inn _, rfl, hr⟩
      · exact ⟨.out _, rfl, hr⟩
      · exact ⟨.keep _, rfl, hr⟩
      · exact ⟨.take _, rfl, hr⟩
end Rl
namespace Rl
open PySem PySem.Spec PyProof.Rows L2
/-! ## the bytes of a row -/
/-- the first byte -/
def Op.fst : Op → Int
  | .halt => 0
  | .back => 1
  | .rest => 2
  | .set r _ => 16 + 4 * r
  | .copy r s => 32 + 4 * r + s
  | .sum a r s => (if a then 48 else 64) + 4 * r + s
  | .bits k r s => 80 + 16 * (k.val : Nat) + 4 * r + s
  | .test r s => 128 + 4 * r + s
  | .testn r _ => 144 + 4 * r
  | .load r s => 160 + 4 * r + s
  | .loadn r _ => 192 + 4 * r
  | .store r s => 176 + 4 * r + s
  | .storen r _ => 208 + 4 * r
  | .go k _ => 224 + (k.val : Nat)
  | .call _ => 229
  | .inn r => 240 + 4 * r
  | .out r => 241 + 4 * r
  | .keep r => 242 + 4 * r
  | .take r => 243 + 4 * r
/-- the second one, if there is one -/
def Op.snd : Op → List Int
  | .set _ n => [n]
  | .testn _ n => [n]
  | .loadn _ n => [n]
  | .storen _ n => [n]
  | .go _ t => [t]
  | .call t => [t]
  | _ => []
def Op.bytes (op : Op) : List Int := op.fst :: op.snd
/-- as values -/
def flV : PyData → V
  | .str s => .str s
  | .int i => .int i
  | _ => .non
def Op.vals (op : Op) : List V := op.data.map flV
end Rl
namespace Rl
open PySem PySem.Spec PyProof.Rows L2
/-! ## words in lists, written; places in lists and texts -/
theorem in_ints (i : Int) : ∀ ns : List Int, inV (.int i) (ns.map V.int) = decide (i ∈ ns)
  | [] => rfl
  | z :: ns => by
    have ih := in_ints i ns
    unfold inV at ih ⊢
    rw [List.map_cons, List.any_cons, ih]
    show ((z == i) || decide (i ∈ ns)) = _
    by_cases h : i = z
    · subst h
      simp
    · have h2 : ¬ z = i := fun q => h q.symm
      simp [h, h2]
theorem R.inInts {K : PySem.W.Frag} {H : Hp} {Q : VK} {i : Int} {ns : List Int} {p : Addr} (h : SqL K H p (ns.map V.int) ∨ SqT K H p (ns.map V.int)) (q : Q (.bl (decide (i ∈ ns))) H) : rIn K false (.int i) (.ref p) H Q :=
  ⟨p, _, rfl, h, rfl, List.all_eq_true.mpr fun x hx => by
    obtain ⟨z, _, rfl⟩ := List.mem_map.mp hx
    rfl, by
    rw [← in_ints] at q
    exact q⟩
theorem R.ninInts {K : PySem.W.Frag} {H : Hp} {Q : VK} {i : Int} {ns : List Int} {p : Addr} (h : SqL K H p (ns.map V.int) ∨ SqT K H p (ns.map V.int)) (q : Q (.bl (!decide (i ∈ ns))) H) : rIn K true (.int i) (.ref p) H Q :=
  ⟨p, _, rfl, h, rfl, List.all_eq_true.mpr fun x hx => by
    obtain ⟨z, _, rfl⟩ := List.mem_map.mp hx
    rfl, by
    rw [← in_ints] at q
    exact q⟩
namespace R
section
variable {K : PySem.W.Frag} {σ : L2.St} {H : Hp} {Q : VK} {tk : TE} {n : Nat} {key : Str} {v : V} {nx bk ct : L2.St → Hp → Prop} {rt : VK} {t u : TS} {te tf : TE} {wd z : Str} {ws : List Str}
/-- a list of words, written -/
def strL : List Str → TA
  | [] => tNil
  | w :: ws => tCons (tC (.str w)) (strL ws)
theorem strL_ok : ∀ (ws : List Str) {σ : L2.St} {H : Hp} {QA : List V → Hp → Prop}, QA (ws.map V.str) H → strL ws σ H QA
  | [], _, _, _, q => R.nil q
  | w :: ws, _, _, QA, q => R.cons (R.c (strL_ok ws (QA := fun xs H2 => QA (.str w :: xs) H2) q))
theorem inN (ws : List Str) (hn : wd ∉ ws) (q : ∀ H', Same H H' → u ⟨nx, rt, bk, ct⟩ σ H') (hl : ws.length ≤ sizeLine := by decide) (h0 : σ[n]? = some (some (.str wd)) := by with_unfolding_all rfl) : tIfS (tTest (tOp (rIn K false) (tVar n) (tLst (strL ws)))) t u ⟨nx, rt, bk, ct⟩ σ H :=
  R.ifS (R.test (R.op (R.var (R.lst (strL_ok ws ⟨by rw [List.length_map]; exact hl, fun l hl2 => R.inStrs (ws := ws) (.inl (SqL.of upd_same)) (R.bl (R.iDF hn (q _ (same_upd hl2))))⟩)) h0)))
theorem inY (ws : List Str) (hn : wd ∈ ws) (q : ∀ H', Same H H' → t ⟨nx, rt, bk, ct⟩ σ H') (hl : ws.length ≤ sizeLine := by decide) (h0 : σ[n]? = some (some (.str wd)) := by with_unfolding_all rfl) : tIfS (tTest (tOp (rIn K false) (tVar n) (tLst (strL ws)))) t u ⟨nx, rt, bk, ct⟩ σ H :=
  R.ifS (R.test (R.op (R.var (R.lst (strL_ok ws ⟨by rw [List.length_map]; exact hl, fun l hl2 => R.inStrs (ws := ws) (.inl (SqL.of upd_same)) (R.bl (R.iDT hn (q _ (same_upd hl2))))⟩)) h0)))
theorem eqN (hn : wd ≠ z) (q : u ⟨nx, rt, bk, ct⟩ σ H) (h0 : σ[n]? = some (some (.str wd)) := by with_unfolding_all rfl) : tIfS (tTest (tOp (rEqA K) (tVar n) (tC (.str z)))) t u ⟨nx, rt, bk, ct⟩ σ H := R.ifS (R.test (R.op (R.var (R.c (R.eqS (R.bl (R.iDF hn q)))) h0)))
theorem eqY (hn : wd = z) (q : t ⟨nx, rt, bk, ct⟩ σ H) (h0 : σ[n]? = some (some (.str wd)) := by with_unfolding_all rfl) : tIfS (tTest (tOp (rEqA K) (tVar n) (tC (.str z)))) t u ⟨nx, rt, bk, ct⟩ σ H := R.ifS (R.test (R.op (R.var (R.c (R.eqS (R.bl (R.iDT hn q)))) h0)))
theorem andN {c : TT} (hn : wd ≠ z) (q : u ⟨nx, rt, bk, ct⟩ σ H) (h0 : σ[n]? = some (some (.str wd)) := by with_unfolding_all rfl) : tIfS (tAnd (tTest (tOp (rEqA K) (tVar n) (tC (.str z)))) c) t u ⟨nx, rt, bk, ct⟩ σ H :=
  R.ifS (R.and' (R.test (R.op (R.var (R.c (R.eqS (R.bl (R.iDF hn (R.iF q))))) h0))))
theorem andY {c : TT} (hn : wd = z) (q : c σ H fun b H1 => if b = true then t ⟨nx, rt, bk, ct⟩ σ H1 else u ⟨nx, rt, bk, ct⟩ σ H1) (h0 : σ[n]? = some (some (.str wd)) := by with_unfolding_all rfl) : tIfS (tAnd (tTest (tOp (rEqA K) (tVar n) (tC (.str z)))) c) t u ⟨nx, rt, bk, ct⟩ σ H :=
  R.ifS (R.and' (R.test (R.op (R.var (R.c (R.eqS (R.bl (R.iDT hn q)))) h0))))
theorem eN (hn : wd ≠ z) (q : tf σ H Q) (h0 : σ[n]? = some (some (.str wd)) := by with_unfolding_all rfl) : tIf (tTest (tOp (rEqA K) (tVar n) (tC (.str z)))) te tf σ H Q := R.ifE (R.test (R.op (R.var (R.c (R.eqS (R.bl (R.iDF hn q)))) h0)))
theorem eY (hn : wd = z) (q : te σ H Q) (h0 : σ[n]? = some (some (.str wd)) := by with_unfolding_all rfl) : tIf (tTest (tOp (rEqA K) (tVar n) (tC (.str z)))) te tf σ H Q := R.ifE (R.test (R.op (R.var (R.c (R.eqS (R.bl (R.iDT hn q)))) h0)))
theorem rw0 {p : Addr} {x : V} {xs : List V} (hp : SqT K H p (x :: xs)) (q : Q x H) (h0 : σ[n]? = some (some (.ref p)) := by with_unfolding_all rfl) : tOp (rIx K) (tVar n) (tC (.int 0)) σ H Q := R.op (R.var (R.c (R.ixT0 hp q)) h0)
theorem rw1 {p : Addr} {x y : V} {xs : List V} (hp : SqT K H p (x :: y :: xs)) (q : Q y H) (h0 : σ[n]? = some (some (.ref p)) := by with_unfolding_all rfl) : tOp (rIx K) (tVar n) (tC (.int 1)) σ H Q := R.op (R.var (R.c (R.ixT1 hp q)) h0)
theorem rw2 {p : Addr} {x y z : V} {xs : List V} (hp : SqT K H p (x :: y :: z :: xs)) (q : Q z H) (h0 : σ[n]? = some (some (.ref p)) := by with_unfolding_all rfl) : tOp (rIx K) (tVar n) (tC (.int 2)) σ H Q := R.op (R.var (R.c (R.ixT hp (atI_pos (by decide) rfl) q)) h0)
theorem eqV_str {a b : Str} : eqV (V.str a) (V.str b) = decide (a = b) := rfl
theorem lstIx {p : Addr} {j : Nat} (h : SqL K H p (ws.map V.str)) (hj : ws[j]? = some wd) (hn : ∀ m, m < j → ws[m]? ≠ some wd) (q : Q (.int j) H) : rIndex K (.ref p) [.str wd] H Q := by
  refine ⟨p, _, .str wd, j, .str wd, rfl, rfl, h, rfl, List.all_eq_true.mpr fun x hx => ?_, by rw [List.getElem?_map, hj]; rfl, by rw [eqV_str, decide_eq_true rfl], fun m z' hm hz => ?_, q⟩
  · obtain ⟨y, _, rfl⟩ := List.mem_map.mp hx
    rfl
  · rw [List.getElem?_map] at hz
    cases e : ws[m]? with
    | none =>
      rw [e] at hz
      cases hz
    | some y =>
      rw [e] at hz
      obtain rfl : V.str y = z' := Option.some.inj hz
      rw [eqV_str, decide_eq_false fun e2 => hn m hm (by rw [e, e2])]
/-- [..].index(word), the list written -/
theorem ixOf (ws : List Str) {j : Nat} (hj : ws[j]? = some wd) (hn : ∀ m, m < j → ws[m]? ≠ some wd) (q : ∀ H', Same H H' → Q (.int j) H') (hl : ws.length ≤ sizeLine := by decide) (h0 : σ[n]? = some (some (.str wd)) := by with_unfolding_all rfl) : tBM K "list" (rIndex K) (tLst (strL ws)) (tCons (tVar n) tNil) σ H Q :=
  R.bm (R.lst (strL_ok ws ⟨by rw [List.length_map]; exact hl, fun l hl2 => R.tyL upd_same (R.cons (R.var (R.nil (lstIx (ws := ws) (SqL.of upd_same) hj hn (q _ (same_upd hl2)))) h0))⟩))
end
end R
end Rl
namespace Rl
open PySem PySem.Spec PyProof.Rows L2
/-! ## a, *rest = a tuple or a list -/
/-- n targets, the last one starred -/
def gStar (K : PySem.W.Frag) (n : Nat) (t : TGs) : TG := fun v σ H Q => ∃ a xs, v = .ref a ∧ (SqT K H a xs ∨ SqL K H a xs) ∧ n ≤ xs.length + 1 ∧ xs.length ≤ 16384 ∧ ∀ D, H D = none → t (xs.take (n - 1) ++ [.ref D]) σ (upd H D (.lst (xs.drop (n - 1)))) Q
section
variable {X : Cx}
/-- behind the draws: the rest is laid down as a list -/
theorem star_laid {pins : List (Addr × Obj)} {σ : L2.St} {H : Hp} {s : Shared} {xs : List V} {us : List Value} {k : Nat} {E : Value → Shared → Prop} {P : List Value → Shared → Prop} (I : Inv X pins σ H s) (rv : Vals xs us) (hz : xs.length ≤ 16384)
    {h' : Heap} {tk : Nat} (keep : ∀ b o, s.heap.get? b = some o → h'.get? b = some o)
    (fin : ∀ D s', Inv X pins σ (upd H D (.lst (xs.drop k))) s' → H D = none → P (us.take k ++ [.ref D] ++ []) s') :
    wpAny (model X.prog X.w) X.A (newList (us.drop k) >>= fun d => pure (us.take k ++ [d] ++ [])) P E { s with heap := h', toks := tk } := by
  have J : Inv X pins σ H { s with heap := h', toks := tk } := I.kept keep
  have small : (us.drop k).length ≤ sizeLine := by
    rw [List.length_drop, ← rv.length, sizeLine_eq]
    omega
  have small2 : (xs.drop k).length ≤ sizeLine := by
    rw [List.length_drop, sizeLine_eq]
    omega
  refine wpAny_bind (wpAny_newList ?_ small)
  refine wpAny_pure (fin _ _ (J.laid (t' := tk) (fun b o e => Heap.get?_push_of_some _ e) (Nat.le_refl _) ?_) (J.hok.fresh (Nat.le_refl _)))
  exact ⟨small2, us.drop k, 0, rv.drop k, Heap.get?_push_size _ rfl⟩
theorem pg_star {es : List Expr} {kk : Nat} {pos : Pos} {t : TGs} {i : Nat} (hc : X.calm = true) (h : PGs X es t)
    (hn : (assignEach es X.env).length = i + 1 := by rfl) (hst : (assignEach es X.env).findIdx? (·.1) = some i := by rfl) : PG X (.Tuple es kk pos) (gStar X.K (i + 1) t) := by
  refine ⟨fun pins s σ H v u Q I r hw => ?_⟩
  obtain ⟨a, xs, e1, hq, hl, hz, hw⟩ := hw
  subst e1
  cases r
  have hh := I.ok.hd hc
  rw [assign_Tuple]
  refine wpAny_bind (wpAny_standAt ?_)
  unfold unpack
  rw [hn, hst]
  refine wpAny_bind (wpAny_holding ?_)
  rcases hq with hq | hq
  · obtain ⟨its, rv, ht, _⟩ := I.tuple hq
    have hsz : its.toArray.size = xs.length := by rw [List.size_toArray, ← rv.length]
    have hlt : a ≠ s.heap.objs.size := by obtain ⟨o, ho, _⟩ := ht; exact Nat.ne_of_lt (Heap.lt_size ho)
    unfold unpackItems
    refine wpAny_bind ?_
    unfold notIterableAtAll
    refine wpAny_bind (wpAny_specialOf ht.typeIs slot_tuple_iter.lookup ?_)
    refine wpAny_pure ?_
    simp only [Bool.false_eq_true, if_false]
    refine wpAny_bind (wpAny_holding (iter_tuple ht ?_))
    refine wpAny_bind (wpAny_holding (draw_tuple hlt i 0 _ _ ⟨_, Heap.get?_push_size _ rfl, rfl, rfl⟩ (ht.push _) (by omega) fun h₁ hit₁ hs₁ => ?_))
    have hl₁ : IsTup h₁ a its.toArray := (ht.push _).extBut hs₁.extBut hlt
    rw [Nat.zero_add] at hit₁
    have hit₁' := hit₁
    obtain ⟨oi, hoi, _⟩ := hit₁'
    have hl₁' := hl₁
    obtain ⟨ol, hol, _⟩ := hl₁'
    rw [List.drop_zero]
    have hfl : (its.toArray.toList.take i).length = i := by rw [List.length_take, Array.length_toList]; omega
    rw [if_neg (show ¬ ((its.toArray.toList.take i).length < i) by rw [hfl]; omega)]
    refine wpAny_bind (wpAny_holding (PySem.W.kun_collect (s := { s with heap := h₁ }) (T := "tuple_iterator") (.inr (.inr (.inr rfl))) (Walks.tuple (A := X.A.in1) hh s.heap.objs.size a hlt its.toArray) (fun j u st => st.1.typeIs) (k := i) (by omega) ⟨hit₁, hl₁⟩ (Heap.lt_size hoi) (Heap.lt_size hol) (fun h₂ tk hk => ?_) (by rw [sizeLine_eq]; omega)))
    have hrl : (its.toArray.toList.drop i).length = its.toArray.size - i := by rw [List.length_drop, Array.length_toList]
    show wpAny _ _ (if (its.toArray.toList.drop i).length < i + 1 - 1 - i then _ else _) _ _ _
    rw [if_neg (by omega)]
    show wpAny _ _ (newList ((its.toArray.toList.drop i).take ((its.toArray.toList.drop i).length - (i + 1 - 1 - i))) >>= fun d => pure (its.toArray.toList.take i ++ [d] ++ (its.toArray.toList.drop i).drop ((its.toArray.toList.drop i).length - (i + 1 - 1 - i)))) _ _ _
    rw [show i + 1 - 1 - i = 0 by omega, Nat.sub_zero, List.take_length, List.drop_length]
    refine star_laid (xs := xs) I (by rw [List.toList_toArray]; exact rv) hz (fun b o e => hk b o (Nat.ne_of_lt (Heap.lt_size e)) (hs₁.extBut b o (Nat.ne_of_lt (Heap.lt_size e)) (Heap.get?_push_of_some _ e))) fun D s' I' hD => ?_
    refine h.run pins _ σ _ (xs.take i ++ [.ref D]) _ Q I' ?_ (hw D hD)
    rw [List.append_nil]
    exact (by rw [List.toList_toArray]; exact rv.take i : Vals (xs.take i) (its.toArray.toList.take i)).append (.cons (rfl : RelV (V.ref D) (Value.ref D)) .nil)
  · obtain ⟨its, rv, ht0, _⟩ := I.list hq
    have ht : s.heap.IsList a its.toArray := ht0.isList
    have hsz : its.toArray.size = xs.length := by rw [List.size_toArray, ← rv.length]
    have hlt : a ≠ s.heap.objs.size := by obtain ⟨o, ho, _⟩ := ht; exact Nat.ne_of_lt (Heap.lt_size ho)
    unfold unpackItems
    refine wpAny_bind ?_
    unfold notIterableAtAll
    refine wpAny_bind (wpAny_specialOf ht.typeIs slot_list_iter.lookup ?_)
    refine wpAny_pure ?_
    simp only [Bool.false_eq_true, if_false]
    refine wpAny_bind (wpAny_holding (wpAny_pyIter_list ht ?_))
    refine wpAny_bind (wpAny_holding (PySem.W.kun_draw hlt i 0 _ _ ⟨_, Heap.get?_push_size _ rfl, rfl, rfl⟩ (ht.push _) (by omega) fun h₁ hit₁ hs₁ => ?_))
    have hl₁ : h₁.IsList a its.toArray := (ht.push _).extBut hs₁.extBut hlt
    rw [Nat.zero_add] at hit₁
    have hit₁' := hit₁
    obtain ⟨oi, hoi, _⟩ := hit₁'
    have hl₁' := hl₁
    obtain ⟨ol, hol, _⟩ := hl₁'
    rw [List.drop_zero]
    have hfl : (its.toArray.toList.take i).length = i := by rw [List.length_take, Array.length_toList]; omega
    rw [if_neg (show ¬ ((its.toArray.toList.take i).length < i) by rw [hfl]; omega)]
    refine wpAny_bind (wpAny_holding (PySem.W.kun_collect (s := { s with heap := h₁ }) (T := "list_iterator") (.inr (.inr (.inl rfl))) (Walks.list (A := X.A.in1) hh s.heap.objs.size a hlt its.toArray) (fun j u st => st.1.typeIs) (k := i) (by omega) ⟨hit₁, hl₁⟩ (Heap.lt_size hoi) (Heap.lt_size hol) (fun h₂ tk hk => ?_) (by rw [sizeLine_eq]; omega)))
    have hrl : (its.toArray.toList.drop i).length = its.toArray.size - i := by rw [List.length_drop, Array.length_toList]
    show wpAny _ _ (if (its.toArray.toList.drop i).length < i + 1 - 1 - i then _ else _) _ _ _
    rw [if_neg (by omega)]
    show wpAny _ _ (newList ((its.toArray.toList.drop i).take ((its.toArray.toList.drop i).length - (i + 1 - 1 - i))) >>= fun d => pure (its.toArray.toList.take i ++ [d] ++ (its.toArray.toList.drop i).drop ((its.toArray.toList.drop i).length - (i + 1 - 1 - i)))) _ _ _
    rw [show i + 1 - 1 - i = 0 by omega, Nat.sub_zero, List.take_length, List.drop_length]
    refine star_laid (xs := xs) I (by rw [List.toList_toArray]; exact rv) hz (fun b o e => hk b o (Nat.ne_of_lt (Heap.lt_size e)) (hs₁.extBut b o (Nat.ne_of_lt (Heap.lt_size e)) (Heap.get?_push_of_some _ e))) fun D s' I' hD => ?_
    refine h.run pins _ σ _ (xs.take i ++ [.ref D]) _ Q I' ?_ (hw D hD)
    rw [List.append_nil]
    exact (by rw [List.toList_toArray]; exact rv.take i : Vals (xs.take i) (its.toArray.toList.take i)).append (.cons (rfl : RelV (V.ref D) (Value.ref D)) .nil)
/-- a starred target takes its value as the name within -/
theorem pgs_star {e : Expr} {p : Pos} {es : List Expr} {t : TG} {u : TGs} (h1 : PG X e t) (h2 : PGs X es u)
    (hs : (assignEach (.Starred e p :: es) X.env).map (·.2) = assign e X.env :: (assignEach es X.env).map (·.2) := by rfl) : PGs X (.Starred e p :: es) (gCons t u) := by
  refine ⟨fun pins s σ H vs us Q I r h => ?_⟩
  obtain ⟨v, vr, e1, h⟩ := h
  subst e1
  cases r with
  | cons r rr =>
    rw [hs]
    refine assignInOrder_cons (thn (h1.run pins s σ H _ _ _ I r h) fun _ s1 ⟨σ1, H1, I1, q1⟩ => ?_)
    exact h2.run pins s1 σ1 H1 _ _ Q I1 rr q1
end
end Rl
namespace Rl
open PySem PySem.Spec PyProof.Rows L2
/-! ## what is never come to; places in texts and tuples; types in a tuple -/
def tNever : TS := fun _ _ _ => False
theorem ps_never {X : Cx} {st : Stmt} : PS X st tNever := ⟨fun _ _ _ _ _ _ h => h.elim⟩
def rStrIx : V → List V → Hp → VK → Prop := fun x xs H Q => ∃ a b i rest, x = .str a ∧ xs = [.str b] ∧ Builtin.Str.occurrences a b 0 a.length 1 = i :: rest ∧ Q (.int (i : Nat)) H
def rTupIx (K : PySem.W.Frag) : V → List V → Hp → VK → Prop := fun x xs H Q => ∃ p, ∃ ys : List Str, ∃ z j, x = .ref p ∧ xs = [.str z] ∧ SqT K H p (ys.map V.str) ∧ ys[j]? = some z ∧ (∀ m, m < j → ys[m]? ≠ some z) ∧ Q (.int (j : Nat)) H
namespace R
section
variable {K : PySem.W.Frag} {σ : L2.St} {H : Hp} {Q : VK}
theorem strIx {a b : Str} {i : Nat} {rest : List Nat} (h : Builtin.Str.occurrences a b 0 a.length 1 = i :: rest) (q : Q (.int i) H) : rStrIx (.str a) [.str b] H Q := ⟨a, b, i, rest, rfl, rfl, h, q⟩
theorem tupIx {p : Addr} {ys : List Str} {z : Str} {j : Nat} (h : SqT K H p (ys.map V.str)) (hj : ys[j]? = some z) (hn : ∀ m, m < j → ys[m]? ≠ some z) (q : Q (.int j) H) : rTupIx K (.ref p) [.str z] H Q := ⟨p, ys, z, j, rfl, rfl, h, hj, hn, q⟩
theorem tyS {s : Str} {A : Prop} (q : A) : tyV K "str" (.str s) H ∧ A := ⟨rfl, q⟩
theorem tyT {p : Addr} {A : Prop} (h : ∃ o, K.lookup p = some o ∧ o.cls = .type "tuple" ∧ o.dict = none) (q : A) : tyV K "tuple" (.ref p) H ∧ A := ⟨.inr (.inl ⟨rfl, h⟩), q⟩
/-- isinstance(x, (list, tuple)) -/
theorem isiLT {p : Addr} {xs : List V} {tp : Addr} (h : SqL K H p xs) (ht : H tp = some (.tup [.ty "list", .ty "tuple"])) (q : Q (.bl true) H) : rIsiT K [.ref p, .ref tp] H Q :=
  ⟨.ref p, tp, _, .type "list", [.type "list", .type "tuple"], true, rfl, ht, .cons (.ty _) (.cons (.ty _) .nil), sql_ty h, kitAny_cons (b := true) (kit_ty (by decide +kernel)) (fun z => nomatch z) fun _ => rfl, q⟩
theorem gStar {i : Nat} {t : TGs} {a : Addr} {xs : List V} {QS : L2.St → Hp → Prop} (h : SqT K H a xs ∨ SqL K H a xs) (hn : i ≤ xs.length) (hl : xs.length ≤ 16384) (q : ∀ D, H D = none → t (xs.take i ++ [.ref D]) σ (upd H D (.lst (xs.drop i))) QS) : Rl.gStar K (i + 1) t (.ref a) σ H QS := ⟨a, xs, rfl, h, by omega, hl, q⟩
end
end R
/-- a tuple of K that has no dict: a look that the head can take -/
def tupN (K : PySem.W.Frag) (x : Str) : Bool := match K.lookup (He.ga K x) with
  | some ⟨.type c, none, .seq _ _, _⟩ => decide (c = "tuple")
  | _ => false
theorem tupN_ok {K : PySem.W.Frag} {x : Str} (h : tupN K x = true) : ∃ o, K.lookup (He.ga K x) = some o ∧ o.cls = .type "tuple" ∧ o.dict = none := by
  unfold tupN at h
  cases q : K.lookup (He.ga K x) with
  | none =>
    rw [q] at h
    cases h
  | some o =>
    obtain ⟨oc, od, dt, osl⟩ := o
    rw [q] at h
    cases oc with
    | type c =>
      cases od with
      | none =>
        cases dt with
        | seq its n => exact ⟨_, rfl, by rw [of_decide_eq_true h], rfl⟩
        | _ => cases h
      | some _ => cases h
    | _ => cases h
end Rl
namespace Rl
open PySem PySem.Spec PyProof.Rows L2
/-! ## codes of rows, drawn: what the defs promise -/
def sp_law_bytes (K : PySem.W.Frag) (_ : World) : Sp := fun vs H Q _ => ∃ (p : Addr) (op : Op), vs = [.ref p] ∧ SqT K H p op.vals ∧ op.Ok ∧ ∀ l H', Same H H' → H l = none → H' l = some (.lst (op.bytes.map V.int)) → Q (.ref l) H'
/-- a row in the heap, not the spring -/
def RowV (H : Hp) (r : Addr) (v : V) : Prop := ∃ (p : Addr) (op : Op), v = .ref p ∧ p ≠ r ∧ H p = some (.tup op.vals) ∧ op.Ok
def sp_law_drawn_row (_ : PySem.W.Frag) (_ : World) : Sp := fun vs H Q _ => ∃ r : Addr, vs = [.ref r] ∧ Spr H r ∧ ∀ v H', Fx r H H' → Spr H' r → RowV H' r v → Q v H'
/-- a new list of bytes -/
def spBy (N : Nat) : Sp := fun vs H Q _ => ∃ r : Addr, vs = [.ref r] ∧ Spr H r ∧ ∀ p H' ds, H p = none → p ≠ r → Fx r H H' → Spr H' r → H' p = some (.lst (ds.map V.int)) → By ds → 1 ≤ ds.length → ds.length ≤ N → Q (.ref p) H'
def sp_law_laid (_ : PySem.W.Frag) (_ : World) : Sp := fun vs H Q _ => ∃ (r l : Addr) (xs : List V), vs = [.ref r, .ref l] ∧ Spr H r ∧ l ≠ r ∧ H l = some (.lst xs) ∧ (∀ v ∈ xs, RowV H r v) ∧ 1 ≤ xs.length ∧ xs.length ≤ 100 ∧
  ∀ p H' ds, H p = none → p ≠ r → Fx r H H' → Spr H' r → H' p = some (.lst (ds.map V.int)) → By ds → 1 ≤ ds.length → ds.length ≤ 200 → Q (.ref p) H'
def sp_law_code (_ : PySem.W.Frag) (_ : World) : Sp := spBy 200
section
variable {K : PySem.W.Frag} {w : World} {vs : List V} {H : Hp} {Q : VK} {E : XK}
theorem len_law_bytes (h : sp_law_bytes K w vs H Q E) : vs.length = 1 := by
  obtain ⟨_, _, rfl, _⟩ := h
  rfl
theorem len_law_drawn_row (h : sp_law_drawn_row K w vs H Q E) : vs.length = 1 := by
  obtain ⟨_, rfl, _⟩ := h
  rfl
theorem len_law_laid (h : sp_law_laid K w vs H Q E) : vs.length = 2 := by
  obtain ⟨_, _, _, rfl, _⟩ := h
  rfl
theorem len_law_code (h : sp_law_code K w vs H Q E) : vs.length = 1 := by
  obtain ⟨_, rfl, _⟩ := h
  rfl
end
theorem RowV.fx {H H' : Hp} {r : Addr} {v : V} (h : RowV H r v) (f : Fx r H H') : RowV H' r v := by
  obtain ⟨p, op, e, n, g, ok⟩ := h
  exact ⟨p, op, e, n, f.at n g, ok⟩
theorem RowV.same {H H' : Hp} {r : Addr} {v : V} (h : RowV H r v) (f : Same H H') : RowV H' r v := by
  obtain ⟨p, op, e, n, g, ok⟩ := h
  exact ⟨p, op, e, n, f _ _ g, ok⟩
theorem RowV.mut {H : Hp} {r l : Addr} {v : V} {xs : List V} {o : HO} (h : RowV H r v) (hl : H l = some (.lst xs)) : RowV (upd H l o) r v := by
  obtain ⟨p, op, e, n, g, ok⟩ := h
  exact ⟨p, op, e, n, upd_mut (fun z => by rw [z, hl] at g; cases g) g, ok⟩
end Rl
namespace Rl
open PySem PySem.Spec PyProof.Rows L2
/-- _law_bytes: slots 0 _law_row, 1 _law_word, 2 _law_box, 3 _law_some, 4 _law_first -/
def t_law_bytes (K : PySem.W.Frag) (w : World) : TS :=
  (tSeq (tAsg (tOp (rIx K) (tVar 0) (tC (.int 0))) (gName 1)) (tSeq (tIfS (tTest (tOp ((rIn K false)) (tVar 1) (tLst (tCons (tC (.str "halt")) (tCons (tC (.str "back")) (tCons (tC (.str "rest")) tNil)))))) (tRet (tLst (tCons (tBM K "list" (rIndex K) (tLst (tCons (tC (.str "halt")) (tCons (tC (.str "back")) (tCons (tC (.str "rest")) tNil)))) (tCons (tVar 1) tNil)) tNil))) tNext) (tSeq (tIfS (tTest (tOp ((rIn K false)) (tVar 1) (tLst (tCons (tC (.str "go")) (tCons (tC (.str "zero")) (tCons (tC (.str "nonzero")) (tCons (tC (.str "less")) (tCons (tC (.str "notless")) (tCons (tC (.str "call")) tNil))))))))) (tRet (tLst (tCons (tOp (rAddA K) (tC (.int 224)) (tBM K "list" (rIndex K) (tLst (tCons (tC (.str "go")) (tCons (tC (.str "zero")) (tCons (tC (.str "nonzero")) (tCons (tC (.str "less")) (tCons (tC (.str "notless")) (tCons (tC (.str "call")) tNil))))))) (tCons (tVar 1) tNil))) (tCons (tOp (rIx K) (tVar 0) (tC (.int 1))) tNil)))) tNext) (tSeq (tAsg (tOp (rMulA) (tC (.int 4)) (tBM K "str" rStrIx (tC (.str "abcd")) (tCons (tOp (rIx K) (tVar 0) (tC (.int 1))) tNil))) (gName 2)) (tSeq (tIfS (tTest (tOp ((rIn K false)) (tVar 1) (tLst (tCons (tC (.str "in")) (tCons (tC (.str "out")) (tCons (tC (.str "keep")) (tCons (tC (.str "take")) tNil))))))) (tRet (tLst (tCons (tOp (rAddA K) (tOp (rAddA K) (tC (.int 240)) (tVar 2)) (tBM K "list" (rIndex K) (tLst (tCons (tC (.str "in")) (tCons (tC (.str "out")) (tCons (tC (.str "keep")) (tCons (tC (.str "take")) tNil))))) (tCons (tVar 1) tNil))) tNil))) tNext) (tSeq (tAsg (tLst (tCons (tC (.str "set")) (tCons (tC (.str "copy")) (tCons (tC (.str "add")) (tCons (tC (.str "sub")) (tCons (tC (.str "and")) (tCons (tC (.str "or")) (tCons (tC (.str "xor")) (tCons (tC (.str "test")) (tCons (tC (.str "testn")) (tCons (tC (.str "load")) (tCons (tC (.str "store")) (tCons (tC (.str "loadn")) (tCons (tC (.str "storen")) tNil)))))))))))))) (gName 3)) (tSeq (tAsg (tOp (rAddA K) (tOp (rAddA K) (tC (.int 16)) (tOp (rMulA) (tC (.int 16)) (tBM K "list" (rIndex K) (tVar 3) (tCons (tVar 1) tNil)))) (tVar 2)) (gName 4)) (tSeq (tIfS (tTest (tOp ((rIn K false)) (tVar 1) (tLst (tCons (tC (.str "set")) (tCons (tC (.str "testn")) (tCons (tC (.str "loadn")) (tCons (tC (.str "storen")) tNil))))))) (tRet (tLst (tCons (tVar 4) (tCons (tOp (rIx K) (tVar 0) (tC (.int 2))) tNil)))) tNext) (tRet (tLst (tCons (tOp (rAddA K) (tVar 4) (tBM K "str" rStrIx (tC (.str "abcd")) (tCons (tOp (rIx K) (tVar 0) (tC (.int 2))) tNil))) tNil)))))))))))
abbrev N_law_bytes : List Str := ["_law_row", "_law_word", "_law_box", "_law_some", "_law_first"]

/-- _law_drawn_row: slots 0 _law_spring_here, 1 _law_r, 2 _law_s, 3 _law_n, 4 _law_pick, 5 _law_some -/
def t_law_drawn_row (K : PySem.W.Frag) (w : World) : TS :=
  (tSeq (tPar 1 2 (tCons (tOp (rIx K) (tC (.str "abcd")) (tCall (sp_law_draw K w) [] E0 (tCons (tVar 0) (tCons (tC (.int 4)) tNil)))) (tCons (tOp (rIx K) (tC (.str "abcd")) (tCall (sp_law_draw K w) [] E0 (tCons (tVar 0) (tCons (tC (.int 4)) tNil)))) tNil))) (tSeq (tAsg (tOp (rIx K) (tLst (tCons (tCall (sp_law_draw K w) [] E0 (tCons (tVar 0) (tCons (tC (.int 4)) tNil))) (tCons (tCall (sp_law_draw K w) [] E0 (tCons (tVar 0) (tCons (tC (.int 256)) tNil))) (tCons (tOp (rSubA) (tC (.int 255)) (tCall (sp_law_draw K w) [] E0 (tCons (tVar 0) (tCons (tC (.int 3)) tNil)))) tNil)))) (tCall (sp_law_draw K w) [] E0 (tCons (tVar 0) (tCons (tC (.int 3)) tNil)))) (gName 3)) (tSeq (tAsg (tCall (sp_law_draw K w) [] E0 (tCons (tVar 0) (tCons (tC (.int 12)) tNil))) (gName 4)) (tSeq (tIfS (tTest (tOp (rLtA) (tVar 4) (tC (.int 2)))) (tRet (tTup (tCons (tOp (rIx K) (tLst (tCons (tC (.str "set")) (tCons (tC (.str "testn")) (tCons (tC (.str "loadn")) (tCons (tC (.str "storen")) tNil))))) (tCall (sp_law_draw K w) [] E0 (tCons (tVar 0) (tCons (tC (.int 4)) tNil)))) (tCons (tVar 1) (tCons (tVar 3) tNil))))) tNext) (tSeq (tIfS (tTest (tOp (rLtA) (tVar 4) (tC (.int 6)))) (tSeq (tAsg (tLst (tCons (tC (.str "copy")) (tCons (tC (.str "add")) (tCons (tC (.str "sub")) (tCons (tC (.str "and")) (tCons (tC (.str "or")) (tCons (tC (.str "xor")) (tCons (tC (.str "test")) (tCons (tC (.str "load")) (tCons (tC (.str "store")) tNil)))))))))) (gName 5)) (tRet (tTup (tCons (tOp (rIx K) (tVar 5) (tCall (sp_law_draw K w) [] E0 (tCons (tVar 0) (tCons (tC (.int 9)) tNil)))) (tCons (tVar 1) (tCons (tVar 2) tNil)))))) tNext) (tSeq (tIfS (tTest (tOp (rLtA) (tVar 4) (tC (.int 9)))) (tRet (tTup (tCons (tOp (rIx K) (tLst (tCons (tC (.str "go")) (tCons (tC (.str "zero")) (tCons (tC (.str "nonzero")) (tCons (tC (.str "less")) (tCons (tC (.str "notless")) (tCons (tC (.str "call")) tNil))))))) (tCall (sp_law_draw K w) [] E0 (tCons (tVar 0) (tCons (tC (.int 6)) tNil)))) (tCons (tC (.int 0)) tNil)))) tNext) (tSeq (tIfS (tTest (tOp (rLtA) (tVar 4) (tC (.int 11)))) (tRet (tTup (tCons (tOp (rIx K) (tLst (tCons (tC (.str "in")) (tCons (tC (.str "out")) (tCons (tC (.str "keep")) (tCons (tC (.str "take")) tNil))))) (tCall (sp_law_draw K w) [] E0 (tCons (tVar 0) (tCons (tC (.int 4)) tNil)))) (tCons (tVar 1) tNil)))) tNext) (tRet (tTup (tCons (tOp (rIx K) (tLst (tCons (tC (.str "halt")) (tCons (tC (.str "back")) (tCons (tC (.str "rest")) tNil)))) (tCall (sp_law_draw K w) [] E0 (tCons (tVar 0) (tCons (tC (.int 3)) tNil)))) tNil))))))))))
abbrev N_law_drawn_row : List Str := ["_law_spring_here", "_law_r", "_law_s", "_law_n", "_law_pick", "_law_some"]

/-- _law_laid: slots 0 _law_spring_here, 1 _law_rows, 2 _law_starts, 3 _law_far, 4 _law_row, 5 _law_code_here, 6 _law_at -/
def t_law_laid (K : PySem.W.Frag) (w : World) : TS :=
  (tSeq (tAsg (tLst tNil) (gName 2)) (tSeq (tAsg (tC (.int 0)) (gName 3)) (tSeq (tFor (iSeq K (tVar 1)) (gName 4) (tSeq (tDrop (tBM K "list" rAppend (tVar 2) (tCons (tVar 3) tNil))) (tAsg (tOp (rAddA K) (tVar 3) (tCB (rLenA K) (tCons (tCall (sp_law_bytes K w) [] E0 (tCons (tVar 4) tNil)) tNil))) (gName 3)))) (tSeq (tAsg (tLst tNil) (gName 5)) (tSeq (tFor (iSeq K (tVar 1)) (gName 4) (tSeq (tIfS (tAnd (tTest (tOp (rEqA K) (tCB (rLenA K) (tCons (tVar 4) tNil)) (tC (.int 2)))) (tB (tCB (rIsi K) (tCons (tOp (rIx K) (tVar 4) (tC (.int 1))) (tCons (tC (.ty "int")) tNil))))) (tSeq (tAsg (tOp (rIx K) (tVar 2) (tCall (sp_law_draw K w) [] E0 (tCons (tVar 0) (tCons (tCB (rLenA K) (tCons (tVar 2) tNil)) tNil)))) (gName 6)) (tAsg (tTup (tCons (tOp (rIx K) (tVar 4) (tC (.int 0))) (tCons (tOp (rIx K) (tLst (tCons (tVar 6) (tCons (tVar 6) (tCons (tVar 6) (tCons (tVar 6) (tCons (tCall (sp_law_draw K w) [] E0 (tCons (tVar 0) (tCons (tCB (rMin2) (tCons (tC (.int 256)) (tCons (tOp (rAddA K) (tVar 3) (tC (.int 3))) tNil))) tNil))) tNil)))))) (tCall (sp_law_draw K w) [] E0 (tCons (tVar 0) (tCons (tC (.int 5)) tNil)))) tNil))) (gName 4))) tNext) (tAsg (tOp (rAddA K) (tVar 5) (tCall (sp_law_bytes K w) [] E0 (tCons (tVar 4) tNil))) (gName 5)))) (tRet (tVar 5)))))))
abbrev N_law_laid : List Str := ["_law_spring_here", "_law_rows", "_law_starts", "_law_far", "_law_row", "_law_code_here", "_law_at"]

/-- _law_code: slots 0 _law_spring_here, 1 _law_pick, 2 _law_turn, 3 _law_most, 4 _law_code_here -/
def t_law_code (K : PySem.W.Frag) (w : World) : TS :=
  (tSeq (tAsg (tCall (sp_law_draw K w) [] E0 (tCons (tVar 0) (tCons (tC (.int 8)) tNil))) (gName 1)) (tSeq (tIfS (tTest (tOp (rEqA K) (tVar 1) (tC (.int 0)))) (tRet (tLc (iRng1 (tCons (tOp (rAddA K) (tC (.int 1)) (tCall (sp_law_draw K w) [] E0 (tCons (tVar 0) (tCons (tOp (rIx K) (tLst (tCons (tC (.int 8)) (tCons (tC (.int 60)) tNil))) (tCall (sp_law_draw K w) [] E0 (tCons (tVar 0) (tCons (tC (.int 2)) tNil)))) tNil)))) tNil)) (gName 2) tYes (tCall (sp_law_draw K w) [] E0 (tCons (tVar 0) (tCons (tC (.int 256)) tNil))) [2])) tNext) (tSeq (tAsg (tOp (rIx K) (tLst (tCons (tC (.int 6)) (tCons (tC (.int 12)) (tCons (tC (.int 30)) (tCons (tC (.int 100)) tNil))))) (tCall (sp_law_draw K w) [] E0 (tCons (tVar 0) (tCons (tC (.int 4)) tNil)))) (gName 3)) (tSeq (tAsg (tSl (rSlA K) (tCall (sp_law_laid K w) [] E0 (tCons (tVar 0) (tCons (tLc (iRng1 (tCons (tOp (rAddA K) (tC (.int 1)) (tCall (sp_law_draw K w) [] E0 (tCons (tVar 0) (tCons (tVar 3) tNil)))) tNil)) (gName 2) tYes (tCall (sp_law_drawn_row K w) [] E0 (tCons (tVar 0) tNil)) [2]) tNil))) tNoPart (tPart (tC (.int 200)))) (gName 4)) (tSeq (tIfS (tTest (tOp (rEqA K) (tVar 1) (tC (.int 1)))) (tAsg (tCall (sp_law_draw K w) [] E0 (tCons (tVar 0) (tCons (tC (.int 256)) tNil))) (gSub (tVar 4) (tCall (sp_law_draw K w) [] E0 (tCons (tVar 0) (tCons (tCB (rLenA K) (tCons (tVar 4) tNil)) tNil))) rSetL)) tNext) (tRet (tVar 4)))))))
abbrev N_law_code : List Str := ["_law_spring_here", "_law_pick", "_law_turn", "_law_most", "_law_code_here"]

end Rl
namespace Rl
open PySem PySem.Spec PyProof.Rows L2
/-! ## defs with defaults, called by keywords; methods; written dicts with text keys -/
/-- a def called with n values in their places and keywords named ks -/
structure ClN (P : Program) (w : World) (K : PySem.W.Frag) (mg : Str → Option Value) (base : Heap) (k : Nat) (x : Str) (n : Nat) (ks : List Str) (gV : List V → List V → List V) (sp : Sp) : Prop where
  ex : ∃ (f : Addr) (fd : FuncData) (ps : List Str) (g : List Value → List Value → List Value), FnOk P w K mg base CX0 k f fd ps sp ∧ mg x = some (.ref f) ∧ PySem.W.keepIn K (.ref f) = true ∧ KBn K fd ps n ks g gV
/-- the keywords' values behind the others -/
def gVc (vs zs : List V) : List V := vs ++ zs
section
variable {X : Cx} {k j n : Nat} {x : Str} {sp : Sp} {p pos : Pos} {e : Expr} {es : List Expr} {kws : List Keyword} {ks : List Str} {t tk : TA} {gV : List V → List V → List V}
theorem pe_cln {m : Nat} (c : ClN X.prog X.w X.K X.mg X.base k x n ks gV sp) (hr : Room j X.A) (hk : k ≤ j) (hg : Gl X x) (ha : PA X (e :: es) t) (hkw : PK X kws tk) (hm : ks.length = m := by rfl)
    (hall : (backToKw pos (keywordEach kws X.env)).all (·.1.isSome) = true := by rfl) (hks : (backToKw pos (keywordEach kws X.env)).filterMap (·.1) = ks := by rfl)
    (hdb : (x == ("__debug__" : Str)) = false := by decide) (he : starEach (e :: es) X.env = (false, eval e X.env) :: starEach es X.env := by rfl)
    (hpl : ((backTo pos (starEach (e :: es) X.env)).any (·.1) || (backToKw pos (keywordEach kws X.env)).any (·.1.isNone)) = false := by rfl) :
    PE X (.Call (.Name x p) (e :: es) kws pos) (tCallN n m sp gV E0 t tk) := by
  subst hm
  obtain ⟨f, fd, ps, g, F, hm, kp, b⟩ := c.ex
  exact pe_callN F (hr.mono hk) hg hm kp b pass0 ha hkw hall hks hdb he hpl
end
section
variable {P : Program} {w : World} {K : PySem.W.Frag} {mg : Str → Option Value} {base : Heap}
theorem Cl.mono {k j : Nat} {x : Str} {sp : Sp} (c : Cl P w K mg base k x sp) (h : k ≤ j) : Cl P w K mg base j x sp := by
  obtain ⟨f, fd, ps, F, r⟩ := c.ex
  exact ⟨f, fd, ps, F.mono h, r⟩
/-- a def's promise, its defaults and names any -/
theorem fo_of {x q : Str} {st : Stmt} {f : Addr} {fd : FuncData} {N ps : List Str} {k : Nat} {sp : Sp} {dvs : List V} {kws : List (Str × V)} (D : FunD K x q (defArgs st) (defBody st) (defScope st) dvs kws f fd) (S : FnScope N ps (defScope st)) (len : ∀ vs H Q E, sp vs H Q E → vs.length = ps.length)
    (hbody : ∀ (cdv : Value) (A : Around) (outer : List Env) (s : Shared) (H : Hp) (vs : List V) (Q : VK) (E : XK), Room k (A.deeper (envOfC q (defScope st) s.heap.objs.size f cdv)) → sp vs H Q E →
      ∃ t, PSs (cxOf CX0 P w K mg base N q (defScope st) f cdv A outer s H E) (defBody st) t ∧ t { nx := fun _ H' => Q .non H', rt := Q } (start N vs) H) : FnOk P w K mg base CX0 (k + 1) f fd ps sp :=
  FunD.ok D S len hbody
/-- keywords for all that is keyword-only, all others in their places -/
theorem kbc {x q : Str} {st : Stmt} {f : Addr} {fd : FuncData} {ps : List Str} {n : Nat} {ks : List Str} {dvs : List V} {kws : List (Str × V)} (D : FunD K x q (defArgs st) (defBody st) (defScope st) dvs kws f fd) (hd : dvs ≠ []) (hk : kws ≠ [])
    (h : ∀ (T D : Addr) (doc pm : Value) (an : Option Addr) (cdv ct : Value) (us its ws : List Value), us.length = n → its.length = dvs.length → ws.length = ks.length →
      ∃ k, bindArgs (PySem.W.fnOf x q (defArgs st) (defBody st) (defScope st) (.ref T) (.ref D) doc pm an cdv ct) ⟨us, ks.zip ws⟩ = seqItems? (.ref T) >>= k ∧ k (some its.toArray) = pure (ps.zip (us ++ ws))) : ∃ g, KBn K fd ps n ks g gVc := by
  obtain ⟨its, mv, b⟩ := D.kbinds n ks [] (fun us _ _ ws => us ++ ws) hd hk (fun _ z => nomatch z) (fun a _ _ b => a.append b) fun T D doc pm an cdv ct us its mv ws h1 h2 _ h4 => by
    obtain ⟨k, e1, e2⟩ := h T D doc pm an cdv ct us its ws h1 h2 h4
    exact ⟨k, e1, e2⟩
  exact ⟨_, b⟩
end
namespace R
theorem callN {σ : L2.St} {H : Hp} {Q : VK} {n m : Nat} {sp : Sp} {gV : List V → List V → List V} {E : XK} {t tk : TA} (q : t σ H fun vs H1 => tk σ H1 fun zs H2 => vs.length = n ∧ zs.length = m ∧ sp (gV vs zs) H2 Q E) : tCallN n m sp gV E t tk σ H Q := q
end R
/-- a written dict with text keys: a look that the head can take -/
def kdS (K : PySem.W.Frag) (a : Addr) (kvs : List (Str × He.Dv)) : Bool := match K.lookup a with
  | some ⟨.type c, none, .dict es _, sl⟩ => decide (c = "dict") && (sl.isEmpty && (!(a == sysModules) && kdAll K es.toList kvs))
  | _ => false
where
  kdAll (K : PySem.W.Frag) : List DictEntry → List (Str × He.Dv) → Bool
    | [], [] => true
    | e :: es, (k, d) :: r => (match e.key with
      | .str j _ => decide (j = k)
      | _ => false) && (He.relB (d.v K) e.val && kdAll K es r)
    | _, _ => false
theorem kdS_find {K : PySem.W.Frag} {w : World} (P : Program) : ∀ {es : List DictEntry} {kvs : List (Str × He.Dv)}, kdS.kdAll K es kvs = true → PySem.W.KeysLit w.params es →
    (∀ e ∈ es, ∃ k, (mixKind P w).is k e.key = true ∧ e.hash = (mixKind P w).hash k) ∧
    ∀ k, RelO (valV (kvs.map fun p => ((Sum.inr p.1 : Key), p.2.v K)) k) ((es.find? fun e => (mixKind P w).is k e.key).map (·.val))
  | [], [], _, _ => ⟨fun e he => (by cases he), fun k => True.intro⟩
  | e :: es, (j, d) :: r, h, ⟨⟨x, u, lk, lh⟩, ls⟩ => by
    obtain ⟨h1, h2⟩ := He.ba (show ((match e.key with
      | .str i _ => decide (i = j)
      | _ => false) && (He.relB (d.v K) e.val && kdS.kdAll K es r)) = true from h)
    obtain ⟨h5, h6⟩ := He.ba h2
    obtain ⟨i1, i2⟩ := kdS_find (w := w) P h6 ls
    rw [lk] at h1
    have ej : x = j := of_decide_eq_true h1
    subst ej
    have e1 : (mixKind P w).is (Sum.inr x : Key) e.key = true := by
      rw [lk]
      exact keyIs_str x u
    refine ⟨fun e' he => ?_, fun k => ?_⟩
    · rcases List.mem_cons.mp he with q | q
      · rw [q]
        exact ⟨Sum.inr x, e1, lh⟩
      · exact i1 e' q
    · rw [List.map_cons]
      by_cases q : (Sum.inr x : Key) = k
      · have q2 : (mixKind P w).is k e.key = true := by rw [← q]; exact e1
        rw [List.find?_cons_of_pos (p := fun (e : DictEntry) => (mixKind P w).is k e.key) q2, valV_pos (p := ((Sum.inr x : Key), d.v K)) q]
        exact He.relB_ok h5
      · have q2 : ¬ (mixKind P w).is k e.key = true := fun z => q ((mixKind P w).inj _ _ _ e1 z)
        rw [List.find?_cons_of_neg (p := fun (e : DictEntry) => (mixKind P w).is k e.key) q2, valV_neg (p := ((Sum.inr x : Key), d.v K)) q]
        exact i2 k
  | [], _ :: _, h, _ => by cases h
  | _ :: _, [], h, _ => by cases h
theorem kdS_ok {K : PySem.W.Frag} {w : World} {a : Addr} {kvs : List (Str × He.Dv)} (h : kdS K a kvs = true) (D : ∃ es n, KDict K w a es n) : KD K w a (kvs.map fun p => (Sum.inr p.1, p.2.v K)) := by
  obtain ⟨es, n, D⟩ := D
  obtain ⟨q, lit, sys⟩ := D
  unfold kdS at h
  rw [q] at h
  obtain ⟨h1, h2⟩ := He.ba h
  obtain ⟨h3, h4⟩ := He.ba h2
  obtain ⟨h5, h6⟩ := He.ba h4
  refine ⟨sys, fun P hp X => ?_⟩
  obtain ⟨i1, i2⟩ := kdS_find (w := w) P h6 lit
  refine ⟨fun k => findBy (mixKind P w).is es k, ⟨_, es, n, X _ _ q, ⟨rfl, rfl, rfl⟩, rfl, fun e he => i1 e (Array.mem_toList_iff.mpr he), fun k => rfl⟩, fun k => ?_⟩
  have z := i2 k
  obtain ⟨l⟩ := es
  show RelO _ ((Array.find? (fun e => (mixKind P w).is k e.key) l.toArray).map (·.val))
  rw [List.find?_toArray]
  exact z
end Rl
namespace Rl
open PySem PySem.Spec PyProof.Rows L2
/-! ## data that a text makes: expressions by what they tell in any later heap -/
/-- all but dicts is as it was -/
def SmD (H H' : Hp) : Prop := ∀ a o, H a = some o → (∀ kvs, o ≠ .dK kvs) → H' a = some o
theorem SmD.refl (H : Hp) : SmD H H := fun _ _ e _ => e
theorem SmD.trans {A B C : Hp} (h : SmD A B) (h2 : SmD B C) : SmD A C := fun a o e n => h2 a o (h a o e n) n
theorem _root_.L2.Same.smd {A B : Hp} (h : Same A B) : SmD A B := fun a o e _ => h a o e
theorem SmD.put {H : Hp} {p : Addr} {kvs : List (Key × V)} {o : HO} (h : H p = some (.dK kvs)) : SmD H (upd H p o) := fun a x e n => upd_mut (fun z => by rw [z, h] at e; exact n kvs (Option.some.inj e).symm) e
theorem SqL.smd {K : PySem.W.Frag} {H H' : Hp} {a : Addr} {xs : List V} (e : SmD H H') (h : SqL K H a xs) : SqL K H' a xs := by
  rcases h with (g | ⟨o, g⟩) | g
  · exact .inl (.inl (e _ _ g fun _ z => nomatch z))
  · exact .inl (.inr ⟨o, e _ _ g fun _ z => nomatch z⟩)
  · exact .inr g
theorem SqT.smd {K : PySem.W.Frag} {H H' : Hp} {a : Addr} {xs : List V} (e : SmD H H') (h : SqT K H a xs) : SqT K H' a xs := by
  rcases h with (g | ⟨o, g⟩) | g
  · exact .inl (.inl (e _ _ g fun _ z => nomatch z))
  · exact .inl (.inr ⟨o, e _ _ g fun _ z => nomatch z⟩)
  · exact .inr g
mutual
theorem Dp.smd {K : PySem.W.Frag} {H H' : Hp} (e : SmD H H') : ∀ {d : PyData} {v : V}, Dp K H v d → Dp K H' v d
  | _, _, .non => .non
  | _, _, .bl b => .bl b
  | _, _, .int i => .int i
  | _, _, .str x => .str x
  | _, _, .lst hs ha => .lst (SqL.smd e hs) (DpAll.smd e ha)
  | _, _, .tup hs ha => .tup (SqT.smd e hs) (DpAll.smd e ha)
theorem DpAll.smd {K : PySem.W.Frag} {H H' : Hp} (e : SmD H H') : ∀ {ds : List PyData} {vs : List V}, DpAll K H vs ds → DpAll K H' vs ds
  | _, _, .nil => .nil
  | _, _, .cons a b => .cons (Dp.smd e a) (DpAll.smd e b)
end
def rSetD : V → V → V → Hp → (Hp → Prop) → Prop := fun o i v H Q => ∃ a H', o = .ref a ∧ DPut H a i v H' ∧ Q H'
def DE (K : PySem.W.Frag) (te : TE) (σ : L2.St) (B : Hp) (d : PyData) : Prop := ∀ (H : Hp) (Q : VK), SmD B H → (∀ v H', Same H H' → Dp K H' v d → Q v H') → te σ H Q
def DA (K : PySem.W.Frag) (tr : TA) (σ : L2.St) (B : Hp) (ds : List PyData) : Prop := ∀ (H : Hp) (QA : List V → Hp → Prop), SmD B H → (∀ vs H', Same H H' → DpAll K H' vs ds → QA vs H') → tr σ H QA
/-- a dict that is made: its pairs' values -/
def DPs (K : PySem.W.Frag) (trs : List (TE × TE)) (σ : L2.St) (B : Hp) (tbl : List (Str × PyData)) : Prop := ∀ (H : Hp) (QP : List (V × V) → Hp → Prop), SmD B H →
  (∀ (kvs : List (Key × V)) H', Same H H' → kvs.map (·.1) = tbl.map (fun q => Sum.inr q.1) → DpAll K H' (kvs.map (·.2)) (tbl.map (·.2)) → QP (kvs.map fun kv => (kV kv.1, kv.2)) H') → tPairs trs σ H QP
section
variable {K : PySem.W.Frag} {σ : L2.St} {B : Hp} {d e : PyData} {ds : List PyData} {te tf : TE} {tr : TA} {n : Nat} {v : V} {p : Addr} {xs : List V}
theorem DE.int {i : Int} : DE K (tC (.int i)) σ B (.int i) := fun H Q _ q => q _ _ (Same.refl _) (.int i)
theorem DE.str {s : Str} : DE K (tC (.str s)) σ B (.str s) := fun H Q _ q => q _ _ (Same.refl _) (.str s)
theorem DE.non : DE K (tC .non) σ B .none := fun H Q _ q => q _ _ (Same.refl _) .non
theorem DE.cv (h : Dp K B v d) : DE K (tC v) σ B d := fun H Q s q => q _ _ (Same.refl _) (Dp.smd s h)
theorem DE.vr (h : Dp K B v d) (h0 : σ[n]? = some (some v) := by with_unfolding_all rfl) : DE K (tVar n) σ B d := fun H Q s q => R.var (q _ _ (Same.refl _) (Dp.smd s h)) h0
theorem DA.nil : DA K tNil σ B [] := fun H Q _ q => R.nil (q _ _ (Same.refl _) .nil)
theorem DA.cons (h : DE K te σ B d) (h2 : DA K tr σ B ds) : DA K (tCons te tr) σ B (d :: ds) := fun H Q s q => R.cons (h H _ s fun v H1 s1 d1 => h2 H1 _ (s.trans s1.smd) fun vs H2 s2 d2 => q _ _ (s1.trans s2) (.cons (Dp.mono s2 d1) d2))
theorem DE.tup (h : DA K tr σ B ds) (hl : ds.length ≤ 1000 := by first | decide | (simp only [List.length_cons, List.length_nil]; decide)) : DE K (tTup tr) σ B (.tuple ds) := fun H Q s q => R.tup (h H _ s fun vs H1 s1 d1 =>
  ⟨by rw [DpAll.length d1]; exact Nat.le_trans hl (by decide), fun p hp => q _ _ (s1.trans (same_upd hp)) (.tup (SqT.of upd_same) (DpAll.mono (same_upd hp) d1))⟩)
/-- a new list -/
theorem DA.newL (h : DA K tr σ B ds) (hl : ds.length ≤ 1000 := by first | decide | (simp only [List.length_cons, List.length_nil]; decide)) {H : Hp} {Q : VK} (s : SmD B H) (q : ∀ l vs H', Same H H' → H l = none → H' l = some (.lst vs) → DpAll K H' vs ds → Q (.ref l) H') : tLst tr σ H Q :=
  R.lst (h H _ s fun vs H1 s1 d1 => ⟨by rw [DpAll.length d1]; exact Nat.le_trans hl (by decide), fun p hp => q p vs _ (s1.trans (same_upd hp)) (s1.free hp) upd_same (DpAll.mono (same_upd hp) d1)⟩)
theorem DE.lst (h : DA K tr σ B ds) (hl : ds.length ≤ 1000 := by first | decide | (simp only [List.length_cons, List.length_nil]; decide)) : DE K (tLst tr) σ B (.list ds) := fun H Q s q => h.newL hl s fun l vs H1 s1 _ g d1 => q _ _ s1 (.lst (SqL.of g) d1)
/-- an item of a tuple -/
theorem DE.ix {i : Int} (h0 : σ[n]? = some (some (.ref p))) (h : SqT K B p xs) (hi : atI xs i = some v) (hd : Dp K B v d) : DE K (tOp (rIx K) (tVar n) (tC (.int i))) σ B d := fun H Q s q => R.op (R.var (R.c (R.ixT (SqT.smd s h) hi (q _ _ (Same.refl _) (Dp.smd s hd)))) h0)
/-- the last one -/
theorem DE.ixm {i : Int} (h0 : σ[n]? = some (some (.ref p))) (h : SqT K B p xs) (hi : atI xs (-i) = some v) (hd : Dp K B v d) : DE K (tOp (rIx K) (tVar n) (tUn (rU fun i => .int (-i)) (tC (.int i)))) σ B d := fun H Q s q => R.op (R.var (R.un (R.c (R.neg (R.ixT (SqT.smd s h) hi (q _ _ (Same.refl _) (Dp.smd s hd)))))) h0)
theorem DE.mod {i j : Int} (h : DE K te σ B (.int i)) (h2 : DE K tf σ B (.int j)) (hj : 0 < j) : DE K (tOp rModA te tf) σ B (.int (i % j)) := fun H Q s q => R.op (h H _ s fun v H1 s1 d1 => h2 H1 _ (s.trans s1.smd) fun v2 H2 s2 d2 => by
  rw [dp_int d1, dp_int d2]
  exact R.modI hj (q _ _ (s1.trans s2) (.int _)))
theorem DE.sub {i j : Int} (h : DE K te σ B (.int i)) (h2 : DE K tf σ B (.int j)) : DE K (tOp rSubA te tf) σ B (.int (i - j)) := fun H Q s q => R.op (h H _ s fun v H1 s1 d1 => h2 H1 _ (s.trans s1.smd) fun v2 H2 s2 d2 => by
  rw [dp_int d1, dp_int d2]
  exact R.subI (q _ _ (s1.trans s2) (.int _)))
theorem DE.add {i j : Int} (h : DE K te σ B (.int i)) (h2 : DE K tf σ B (.int j)) : DE K (tOp (rAddA K) te tf) σ B (.int (i + j)) := fun H Q s q => R.op (h H _ s fun v H1 s1 d1 => h2 H1 _ (s.trans s1.smd) fun v2 H2 s2 d2 => by
  rw [dp_int d1, dp_int d2]
  exact R.addI (q _ _ (s1.trans s2) (.int _)))
theorem DE.iT {t : TT} {b : Bool} (hb : b = true) (h : ∀ (H : Hp) (QB : Bool → Hp → Prop), SmD B H → QB b H → t σ H QB) (h2 : DE K te σ B d) : DE K (tIf t te tf) σ B d := fun H Q s q => R.ifE (h H _ s (by
  rw [hb]
  exact R.iT (h2 H Q s q)))
theorem DE.iF {t : TT} {b : Bool} (hb : b = false) (h : ∀ (H : Hp) (QB : Bool → Hp → Prop), SmD B H → QB b H → t σ H QB) (h2 : DE K tf σ B d) : DE K (tIf t te tf) σ B d := fun H Q s q => R.ifE (h H _ s (by
  rw [hb]
  exact R.iF (h2 H Q s q)))
/-- a name takes it -/
theorem DE.asg {nx bk ct : L2.St → Hp → Prop} {rt : VK} {H : Hp} (h : DE K te σ B d) (s : SmD B H) (q : ∀ v H', Same H H' → Dp K H' v d → nx (σ.set n (some v)) H') : tAsg te (gName n) ⟨nx, rt, bk, ct⟩ σ H := R.asg (h H _ s fun v H1 s1 d1 => R.gName (q v H1 s1 d1))
theorem DE.ret {nx bk ct : L2.St → Hp → Prop} {rt : VK} {H : Hp} (h : DE K te σ B d) (s : SmD B H) (q : ∀ v H', Same H H' → Dp K H' v d → rt v H') : tRet te ⟨nx, rt, bk, ct⟩ σ H := R.ret (h H _ s q)
theorem DPs.nil : DPs K [] σ B [] := fun H QP _ q => R.pairsN (q [] _ (Same.refl _) rfl .nil)
theorem DPs.cons {k : Str} {trs : List (TE × TE)} {tbl : List (Str × PyData)} (h : DE K te σ B d) (h2 : DPs K trs σ B tbl) : DPs K ((tC (.str k), te) :: trs) σ B ((k, d) :: tbl) := fun H QP s q => R.pairsC (R.c (h H _ s fun v H1 s1 d1 => h2 H1 _ (s.trans s1.smd) fun kvs H2 s2 hk d2 =>
  q ((Sum.inr k, v) :: kvs) H2 (s1.trans s2) (by rw [List.map_cons, List.map_cons, hk]) (.cons (Dp.mono s2 d1) d2)))
/-- what a dict with text keys has -/
def Good (K : PySem.W.Frag) (H : Hp) (kvs : List (Key × V)) (tbl : List (Str × PyData)) : Prop := ∀ k : Str, match tbl.lookup k with
  | some d => ∃ v, valV kvs (Sum.inr k) = some v ∧ Dp K H v d
  | none => valV kvs (Sum.inr k) = none
variable {H : Hp} {kvs : List (Key × V)} {tbl : List (Str × PyData)} {k : Str}
theorem Good.smd {H' : Hp} (h : Good K H kvs tbl) (s : SmD H H') : Good K H' kvs tbl := fun k => by
  have z := h k
  cases e : tbl.lookup k with
  | none =>
    rw [e] at z
    exact z
  | some d =>
    rw [e] at z
    obtain ⟨v, z1, z2⟩ := z
    exact ⟨v, z1, Dp.smd s z2⟩
theorem Good.get (h : Good K H kvs tbl) (e : tbl.lookup k = some d) : ∃ v, valV kvs (Sum.inr k) = some v ∧ Dp K H v d := by
  have z := h k
  rw [e] at z
  exact z
theorem Good.none (h : Good K H kvs tbl) (e : tbl.lookup k = none) : valV kvs (Sum.inr k) = none := by
  have z := h k
  rw [e] at z
  exact z
theorem Good.nil : Good K H [] [] := fun _ => rfl
theorem Good.put (h : Good K H kvs tbl) (hv : Dp K H v d) : Good K H (putK kvs (Sum.inr k) v) ((k, d) :: tbl) := fun j => by
  rw [List.lookup_cons, valV_put]
  by_cases e : j = k
  · subst e
    rw [show (j == j) = true from beq_self_eq_true j, if_pos rfl]
    exact ⟨v, rfl, hv⟩
  · rw [show (j == k) = false from beq_eq_false_iff_ne.mpr e, if_neg (fun z => e (Sum.inr.inj z))]
    exact h j
theorem Good.merge : ∀ {more : List (Key × V)} {tb : List (Str × PyData)} {kvs : List (Key × V)} {tbl : List (Str × PyData)}, Good K H kvs tbl → more.map (·.1) = tb.map (fun q => (Sum.inr q.1 : Key)) → DpAll K H (more.map (·.2)) (tb.map (·.2)) → Good K H (mergeK kvs more) (tb.reverse ++ tbl)
  | [], [], _, _, h, _, _ => h
  | (a, v) :: more, (k, d) :: tb, kvs, tbl, h, hk, hd => by
    rw [List.map_cons, List.map_cons] at hk hd
    obtain ⟨h1, h2⟩ := List.cons.inj hk
    obtain rfl : a = Sum.inr k := h1
    cases hd with
    | cons d1 d2 =>
      rw [List.reverse_cons, List.append_assoc]
      exact Good.merge (more := more) (tb := tb) (kvs := putK kvs (Sum.inr k) v) (tbl := (k, d) :: tbl) (Good.put h d1) h2 d2
  | [], _ :: _, _, _, _, hk, _ => by cases hk
  | _ :: _, [], _, _, _, hk, _ => by cases hk
/-- {k: e, ..} -/
theorem DPs.disp {trs : List (TE × TE)} {Q : VK} (h : DPs K trs σ B tbl) (s : SmD B H) (hl : tbl.length ≤ 15 := by first | decide | (simp only [List.length_cons, List.length_nil]; decide)) (q : ∀ p kvs H', Same H H' → H p = none → H' p = some (.dK kvs) → kvs.length ≤ 15 → Good K H' kvs tbl.reverse → Q (.ref p) H') : tDisp trs σ H Q :=
  R.disp fun p hp => h _ _ (s.trans (same_upd hp).smd) fun kvs H2 s2 hk hd => by
    have g2 : H2 p = some (.dK []) := s2 _ _ upd_same
    have sp : SmD H2 (upd H2 p (.dK (mergeK [] kvs))) := SmD.put g2
    have hl2 : kvs.length ≤ 15 := by
      have e : (kvs.map (·.1)).length = (tbl.map (fun q => (Sum.inr q.1 : Key))).length := by rw [hk]
      rw [List.length_map, List.length_map] at e
      omega
    refine ⟨g2, kvs, rfl, hl2, q p (mergeK [] kvs) _ (fun a o e => ?_) hp upd_same ?_ ?_⟩
    · rw [upd_ne (ne_of_none e hp)]
      exact s2 _ _ (same_upd hp _ _ e)
    · have z := length_mergeK kvs []
      rw [List.length_nil, Nat.zero_add] at z
      omega
    · have z := Good.merge (Good.nil (K := K) (H := upd H2 p (.dK (mergeK [] kvs)))) hk (DpAll.smd sp hd)
      rw [List.append_nil] at z
      exact z
/-- d[word], d[k] -/
theorem dgV {Q : VK} {td ty : TE} (hp : H p = some (.dK kvs)) (h : Good K H kvs tbl) (e : tbl.lookup k = some d) (h1 : ∀ Q2 : VK, Q2 (.ref p) H → td σ H Q2) (h2 : ∀ Q2 : VK, Q2 (.str k) H → ty σ H Q2) (q : ∀ v, Dp K H v d → Q v H) : tDGet td ty σ H Q := by
  obtain ⟨v, hv, dv⟩ := h.get e
  exact R.dget (h1 _ (h2 _ (R.dgetV hp (k := Sum.inr k) rfl hv (q v dv))))
/-- what a text tells in this very heap -/
def DX (K : PySem.W.Frag) (te : TE) (σ : L2.St) (H : Hp) (d : PyData) : Prop := ∀ Q : VK, (∀ v H', Same H H' → Dp K H' v d → Q v H') → te σ H Q
theorem DE.at' (h : DE K te σ B d) (s : SmD B H) : DX K te σ H d := fun Q q => h H Q s q
theorem DX.dg {td ty : TE} (hp : H p = some (.dK kvs)) (h : Good K H kvs tbl) (e : tbl.lookup k = some d) (h1 : ∀ Q2 : VK, Q2 (.ref p) H → td σ H Q2) (h2 : ∀ Q2 : VK, Q2 (.str k) H → ty σ H Q2) : DX K (tDGet td ty) σ H d := fun Q q => dgV hp h e h1 h2 fun v dv => q v _ (Same.refl _) dv
theorem DX.tag {z : Str} (h : DX K te σ H d) : DX K (tTup (tCons (tC (.str z)) (tCons te tNil))) σ H (.tuple [.str z, d]) := fun Q q => R.tup (R.cons (R.c (R.cons (h _ fun v H1 s1 d1 => R.nil ⟨by simp only [List.length_cons, List.length_nil]; decide, fun t ht =>
  q _ _ (s1.trans (same_upd ht)) (.tup (SqT.of upd_same) (.cons (.str _) (.cons (Dp.mono (same_upd ht) d1) .nil)))⟩))))
/-- d[k] = v -/
theorem dput1 {v : V} (hp : H p = some (.dK kvs)) (h : Good K H kvs tbl) (hl : kvs.length < 1000) (hv : Dp K H v d) {F : Hp → Prop} (q : ∀ kvs' H', SmD H H' → Fx p H H' → H' p = some (.dK kvs') → Good K H' kvs' ((k, d) :: tbl) → kvs'.length ≤ kvs.length + 1 → F H') : ∃ H', DPut H p (.str k) v H' ∧ F H' := by
  have sp : SmD H (upd H p (.dK (putK kvs (Sum.inr k) v))) := SmD.put hp
  exact ⟨_, .inl ⟨kvs, Sum.inr k, hp, rfl, Nat.lt_trans hl (by decide), rfl⟩, q _ _ sp (sm_bmut (Same.refl _)) upd_same ((h.put hv).smd sp) (length_putK _ _ _)⟩
theorem dpV {nx bk ct : L2.St → Hp → Prop} {rt : VK} {te : TE} {td ty : TE} (hp : H p = some (.dK kvs)) (h : Good K H kvs tbl) (hl : kvs.length < 1000) (he : DX K te σ H d) (h1 : ∀ (H2 : Hp) (Q2 : VK), Q2 (.ref p) H2 → td σ H2 Q2) (h2 : ∀ (H2 : Hp) (Q2 : VK), Q2 (.str k) H2 → ty σ H2 Q2)
    (q : ∀ kvs' H', SmD H H' → Fx p H H' → H' p = some (.dK kvs') → Good K H' kvs' ((k, d) :: tbl) → kvs'.length ≤ kvs.length + 1 → nx σ H') : sDPut td ty te ⟨nx, rt, bk, ct⟩ σ H := by
  refine he _ fun v H1 s1 d1 => h1 _ _ (h2 _ _ ?_)
  obtain ⟨H', g, z⟩ := dput1 (k := k) (s1 _ _ hp) (h.smd s1.smd) hl d1 (F := fun H' => nx σ H') fun kvs' H' a b c e f => q kvs' H' (s1.smd.trans a) ((Same.but s1).trans b) c e f
  exact ⟨p, H', rfl, g, z⟩
/-- d[k] = e, within a row of targets -/
theorem gdV {td ty : TE} {QS : L2.St → Hp → Prop} {v : V} (hp : H p = some (.dK kvs)) (h : Good K H kvs tbl) (hl : kvs.length < 1000) (hv : Dp K H v d) (h1 : ∀ (H2 : Hp) (Q2 : VK), Q2 (.ref p) H2 → td σ H2 Q2) (h2 : ∀ (H2 : Hp) (Q2 : VK), Q2 (.str k) H2 → ty σ H2 Q2)
    (q : ∀ kvs' H', SmD H H' → Fx p H H' → H' p = some (.dK kvs') → Good K H' kvs' ((k, d) :: tbl) → kvs'.length ≤ kvs.length + 1 → QS σ H') : gSub td ty rSetD v σ H QS := by
  refine R.gSub (h1 _ _ (h2 _ _ ?_))
  obtain ⟨H', g, z⟩ := dput1 (k := k) hp h hl hv (F := fun H' => QS σ H') q
  exact ⟨p, H', rfl, g, z⟩
/-- what was new is new: all else is as it was -/
theorem fx_new {H0 H1 H2 : Hp} (f : H0 p = none) (s : Same H0 H1) (x : Fx p H1 H2) : Same H0 H2 := fun a o e => x.at (ne_of_none e f) (s _ _ e)
theorem R.g3 {i j l : Nat} {x y z : V} {QS : L2.St → Hp → Prop} (h : SqT K H p [x, y, z]) (q : QS (((σ.set i (some x)).set j (some y)).set l (some z)) H) : L2.gTup K 3 (L2.gCons (L2.gName i) (L2.gCons (L2.gName j) (L2.gCons (L2.gName l) L2.gNil))) (.ref p) σ H QS :=
  ⟨p, [x, y, z], rfl, h, rfl, x, [y, z], rfl, y, [z], rfl, z, [], rfl, rfl, q⟩
end
/-! ## a dict that is filled, step by step, beside facts that stay -/
structure DcI (K : PySem.W.Frag) (H0 : Hp) (F : Hp → Prop) (p : Addr) (n : Nat) (tbl : List (Str × PyData)) (Hc : Hp) : Prop where
  mono : ∀ A B, SmD A B → F A → F B
  sm : Same H0 Hc
  new : H0 p = none
  fa : F Hc
  ex : ∃ kvs, Hc p = some (.dK kvs) ∧ kvs.length ≤ n ∧ Good K Hc kvs tbl
section
variable {K : PySem.W.Frag} {σ : L2.St} {d : PyData} {te : TE} {i n : Nat} {H0 Hc Hd : Hp} {F : Hp → Prop} {p : Addr} {tbl : List (Str × PyData)} {k : Str} {v : V}
theorem DcI.step (I : DcI K H0 F p n tbl Hc) (s : Same Hc Hd) : DcI K H0 F p n tbl Hd := by
  obtain ⟨kvs, g, l, gd⟩ := I.ex
  exact ⟨I.mono, I.sm.trans s, I.new, I.mono _ _ s.smd I.fa, kvs, s _ _ g, l, gd.smd s.smd⟩
theorem DcI.fact {F2 : Hp → Prop} (I : DcI K H0 F p n tbl Hc) (m : ∀ A B, SmD A B → F2 A → F2 B) (h : F2 Hc) : DcI K H0 F2 p n tbl Hc := ⟨m, I.sm, I.new, h, I.ex⟩
theorem DcI.put1 (I : DcI K H0 F p n tbl Hc) (hn : n < 1000) (hv : Dp K Hc v d) {G : Hp → Prop} (q : ∀ Hd, DcI K H0 F p (n + 1) ((k, d) :: tbl) Hd → SmD Hc Hd → G Hd) : ∃ Hd, DPut Hc p (.str k) v Hd ∧ G Hd := by
  obtain ⟨kvs, g, l, gd⟩ := I.ex
  exact dput1 g gd (Nat.lt_of_le_of_lt l hn) hv fun kvs' H' a b c e f => q H' ⟨I.mono, fx_new I.new I.sm b, I.new, I.mono _ _ a I.fa, kvs', c, by omega, e⟩ a
/-- d[k] = e -/
theorem DcI.put {nx bk ct : L2.St → Hp → Prop} {rt : VK} {ty : TE} (I : DcI K H0 F p n tbl Hc) (hn : n < 1000) (he : DX K te σ Hc d) (h0 : σ[i]? = some (some (.ref p))) (h2 : ∀ (H2 : Hp) (Q2 : VK), Q2 (.str k) H2 → ty σ H2 Q2)
    (q : ∀ Hd, DcI K H0 F p (n + 1) ((k, d) :: tbl) Hd → nx σ Hd) : sDPut (tVar i) ty te ⟨nx, rt, bk, ct⟩ σ Hc := by
  refine he _ fun v H1 s1 d1 => R.var (h2 _ _ ?_) h0
  obtain ⟨H', g, z⟩ := (I.step s1).put1 (k := k) hn d1 (G := fun H' => nx σ H') fun Hd I2 _ => q Hd I2
  exact ⟨p, H', rfl, g, z⟩
/-- d[k], within a row of targets -/
theorem DcI.gput {ty : TE} {QS : L2.St → Hp → Prop} (I : DcI K H0 F p n tbl Hc) (hn : n < 1000) (hv : Dp K Hc v d) (h0 : σ[i]? = some (some (.ref p))) (h2 : ∀ (H2 : Hp) (Q2 : VK), Q2 (.str k) H2 → ty σ H2 Q2)
    (q : ∀ Hd, DcI K H0 F p (n + 1) ((k, d) :: tbl) Hd → SmD Hc Hd → QS σ Hd) : gSub (tVar i) ty rSetD v σ Hc QS := by
  refine R.gSub (R.var (h2 _ _ ?_) h0)
  obtain ⟨H', g, z⟩ := I.put1 (k := k) hn hv (G := fun H' => QS σ H') q
  exact ⟨p, H', rfl, g, z⟩
theorem DcI.get {ty : TE} (I : DcI K H0 F p n tbl Hc) (e : tbl.lookup k = some d) (h0 : σ[i]? = some (some (.ref p))) (h2 : ∀ (H2 : Hp) (Q2 : VK), Q2 (.str k) H2 → ty σ H2 Q2) : DX K (tDGet (tVar i) ty) σ Hc d := by
  obtain ⟨kvs, g, l, gd⟩ := I.ex
  exact DX.dg g gd e (fun _ z => R.var z h0) (fun _ z => h2 _ _ z)
/-- a, b = d, e of two places -/
theorem DcI.gput2 {ty ty2 : TE} {QS : L2.St → Hp → Prop} {t : Addr} {v2 : V} {d2 : PyData} {k2 : Str} (I : DcI K H0 F p n tbl Hc) (hn : n < 999) (ht : SqT K Hc t [v, v2]) (hv : Dp K Hc v d) (hv2 : Dp K Hc v2 d2) (h0 : σ[i]? = some (some (.ref p))) (h2 : ∀ (H2 : Hp) (Q2 : VK), Q2 (.str k) H2 → ty σ H2 Q2) (h3 : ∀ (H2 : Hp) (Q2 : VK), Q2 (.str k2) H2 → ty2 σ H2 Q2)
    (q : ∀ Hd, DcI K H0 F p (n + 2) ((k2, d2) :: (k, d) :: tbl) Hd → QS σ Hd) : L2.gTup K 2 (L2.gCons (gSub (tVar i) ty rSetD) (L2.gCons (gSub (tVar i) ty2 rSetD) L2.gNil)) (.ref t) σ Hc QS :=
  ⟨t, [v, v2], rfl, ht, rfl, v, [v2], rfl, I.gput (by omega) hv h0 h2 fun Hd I2 s2 => ⟨v2, [], rfl, I2.gput (by omega) (Dp.smd s2 hv2) h0 h3 fun He I3 _ => ⟨rfl, q He I3⟩⟩⟩
/-- the two dicts' fields, made -/
theorem DX.two {ta tb : TE} {H : Hp} {Q : VK} {d2 : PyData} (h : DX K ta σ H d) (h2 : ∀ H', Same H H' → DX K tb σ H' d2) (q : ∀ t v v2 H', Same H H' → SqT K H' t [v, v2] → Dp K H' v d → Dp K H' v2 d2 → Q (.ref t) H') : tTup (tCons ta (tCons tb tNil)) σ H Q :=
  R.tup (R.cons (h _ fun v H1 s1 d1 => R.cons (h2 H1 s1 _ fun v2 H2 s2 e2 => R.nil ⟨by simp only [List.length_cons, List.length_nil]; decide, fun t ht => q t v v2 _ ((s1.trans s2).trans (same_upd ht)) (SqT.of upd_same) (Dp.mono (s2.trans (same_upd ht)) d1) (Dp.mono (same_upd ht) e2)⟩)))
end
/-! ## dicts: a place in a row of targets; get of a written one -/
theorem set_dict {X : Cx} (hu : X.A.units + 1 < cLine) : PSet X rSetD := by
  intro pins s σ H o i v ov iv u Q I ro ri rv h
  obtain ⟨a, H', rfl, g, q⟩ := h
  cases (show ov = Value.ref a from ro)
  exact d_setItem hu I g ri rv fun s4 I4 => ⟨H', I4, q⟩
/-- an object of K that has no dict -/
def NoDx (K : PySem.W.Frag) (a : Addr) : Prop := ∃ o, K.lookup a = some o ∧ o.dict = none
theorem kdS_dx {K : PySem.W.Frag} {a : Addr} {kvs : List (Str × He.Dv)} (h : kdS K a kvs = true) : NoDx K a := by
  unfold kdS at h
  cases q : K.lookup a with
  | none =>
    rw [q] at h
    cases h
  | some o =>
    obtain ⟨oc, od, dt, osl⟩ := o
    rw [q] at h
    cases oc with
    | type c =>
      cases od with
      | none => exact ⟨_, q, rfl⟩
      | some _ => cases dt <;> cases h
    | _ => cases od <;> cases dt <;> cases h
/-- d.get(y, x), d a written dict -/
def tGetKD (K : PySem.W.Frag) (w : World) (td ty tx : TE) : TE := fun σ H Q => td σ H fun x H1 => ∃ a kvs, x = .ref a ∧ KD K w a kvs ∧ NoDx K a ∧ ty σ H1 fun y H2 => tx σ H2 fun z H3 => ∃ k, y = kV k ∧ Q ((valV kvs k).getD z) H3
section
variable {X : Cx} {o e f : Expr} {apos cpos : Pos} {td ty tx : TE}
theorem pe_getKD (ho : PE X o td) (he : PE X e ty) (hf : PE X f tx) (m : M2 X o "get" apos e f cpos) : PE X (.Call (.Attribute o "get" apos) [e, f] [] cpos) (tGetKD X.K X.w td ty tx) := by
  refine ⟨fun pins s σ H Q I h => ?_⟩
  refine wpAny_Call_method m.base m.few m.line PySem.F.plainAttrs_dict PySem.F.slot_dict_get PySem.F.type_dict_get (thn (ho.run pins s σ H _ I h) fun u s1 ⟨x, H1, I1, rx, a, kvs, ex, D, ⟨ob, hob, hod⟩, q1⟩ => ?_)
  subst ex
  obtain rfl : u = Value.ref a := rx
  obtain ⟨f0, isD, _⟩ := D.get X.prog s1.heap I1.kIn
  refine ⟨isD.typeIs, fun b q => ?_, ?_⟩
  · cases q
    exact ⟨ob, I1.kIn _ _ hob, hod⟩
  rw [m.trees]
  refine Calls.callWith_builtin rfl (Calls.evalArgs_plain (Calls.spliced_cons (thn (he.run pins s1 σ H1 _ I1 q1) fun iv s2 ⟨y, H2, I2, ry, q2⟩ =>
    Calls.spliced_cons (thn (hf.run pins s2 σ H2 _ I2 q2) fun fv s3 ⟨z, H3, I3, rz, k, ey, q3⟩ => Calls.spliced_nil ?_))))
  subst ey
  obtain ⟨f1, isD3, same3⟩ := D.get X.prog s3.heap I3.kIn
  refine call_meetsIn PySem.F.slot_dict_get isD3.typeIs PySem.F.entry_dict_get (PySem.F.args_dict_get_3 _ _ _) (meets_dict_get_default (mixKind X.prog X.w) a (kV_is ry) D.lo fv) ⟨_, isD3, _, H3, I3.tok _, ?_, q3⟩
  exact (same3 k).getD rz
end
/-! ## tuples of K at any address: a look that the head can take -/
def tupAt (K : PySem.W.Frag) (a : PySem.W.Frag → Addr) (vs : List He.Dv) : Bool := match K.lookup (a K) with
  | some ⟨.type c, _, .seq its _, _⟩ => decide (c = "tuple") && (decide (its.size ≤ sizeLine) && He.relAll (vs.map (He.Dv.v K)) its.toList)
  | _ => false
theorem tupAt_ok {K : PySem.W.Frag} {a : PySem.W.Frag → Addr} {vs : List He.Dv} (h : tupAt K a vs = true) (H : Hp) : SqT K H (a K) (vs.map (He.Dv.v K)) := by
  unfold tupAt at h
  cases q : K.lookup (a K) with
  | none =>
    rw [q] at h
    cases h
  | some o =>
    obtain ⟨oc, od, dt, osl⟩ := o
    rw [q] at h
    cases oc with
    | type c =>
      cases dt with
      | seq its n =>
        obtain ⟨h1, h2⟩ := He.ba h
        obtain ⟨h3, h4⟩ := He.ba h2
        refine .inr ⟨_, its, n, q, ?_, rfl, ?_, ?_⟩
        · rw [of_decide_eq_true h1]
        · exact of_decide_eq_true h3
        · exact He.relAll_ok h4
      | _ => cases h
    | _ => cases h
/-- the value of the i-th entry of a dict of K, if it is an object -/
def entAt (x : Str) (i : Nat) (K : PySem.W.Frag) : Addr := match K.lookup (He.ga K x) with
  | some ⟨_, _, .dict es _, _⟩ => (match es.toList[i]? with
    | some e => (match e.val with
      | .ref a => a
      | _ => 0)
    | none => 0)
  | _ => 0
/-- the i-th item of a tuple of K, if it is an object -/
def itmAt (p : PySem.W.Frag → Addr) (i : Nat) (K : PySem.W.Frag) : Addr := match K.lookup (p K) with
  | some ⟨_, _, .seq its _, _⟩ => (match its.toList[i]? with
    | some (.ref a) => a
    | _ => 0)
  | _ => 0
end Rl
namespace Rl
open PySem PySem.Spec PyProof.Rows L2
/-! ## methods, instances made, defs held by a local name -/
section
variable {P : Program} {w : World} {K : PySem.W.Frag} {mg : Str → Option Value} {base : Heap}
/-- a method that may be called, every parameter given -/
structure ClM (P : Program) (w : World) (K : PySem.W.Frag) (mg : Str → Option Value) (base : Heap) (k : Nat) (C : Addr) (m : Str) (sp : Sp) : Prop where
  ex : ∃ (f : Addr) (fd : FuncData) (ps : List Str), FnOk P w K mg base CX0 k f fd ps sp ∧ Cls K C ∧ Meth K C m f ∧ Binds K fd ps []
/-- a class whose instances may be made, its __init__ with every parameter given -/
structure ClK (P : Program) (w : World) (K : PySem.W.Frag) (mg : Str → Option Value) (base : Heap) (k : Nat) (x : Str) (C : Addr) (sp : Sp) : Prop where
  ex : ∃ (f : Addr) (fd : FuncData) (ps : List Str), FnOk P w K mg base CX0 k f fd ps sp ∧ Mk K C f ∧ mg x = some (.ref C) ∧ Binds K fd ps []
end
section
variable {X : Cx} {k j i : Nat} {x : Str} {sp : Sp} {p pos apos : Pos} {o e : Expr} {es : List Expr} {t : TA} {ta : TE}
theorem pe_clm {C : Addr} {m : Str} {pl : Sem Bool} (c : ClM X.prog X.w X.K X.mg X.base k C m sp) (hr : Room j X.A) (hk : k ≤ j) (he : PE X o ta) (ha : PA X (e :: es) t)
    (h1 : starEach (e :: es) X.env = (false, eval e X.env) :: starEach es X.env := by rfl) (h2 : (backTo pos (starEach es X.env)).any (·.1) = false := by rfl)
    (h3 : eval (.Call (.Attribute o m apos) (e :: es) [] pos) X.env = (do
      let ov ← eval o X.env
      standAt apos.atName
      let (f, first) ← holding [ov] (getMethod ov m pl)
      callWith pos f first (backTo pos (starEach (e :: es) X.env)) (backToKw pos (keywordEach [] X.env))) := by rfl) : PE X (.Call (.Attribute o m apos) (e :: es) [] pos) (tMeth C m sp [] E0 ta t) := by
  obtain ⟨f, fd, ps, F, cl, M, b⟩ := c.ex
  exact pe_meth he cl M F (hr.mono hk) b .nil pass0 ha h1 h2 h3
theorem pe_clk {C : Addr} (c : ClK X.prog X.w X.K X.mg X.base k x C sp) (hr : Room j X.A) (hk : k + 1 ≤ j) (hg : Gl X x) (ha : PA X (e :: es) t)
    (hd : (x == ("__debug__" : Str)) = false := by decide) (h1 : starEach (e :: es) X.env = (false, eval e X.env) :: starEach es X.env := by rfl) (h2 : (backTo pos (starEach es X.env)).any (·.1) = false := by rfl) : PE X (.Call (.Name x p) (e :: es) [] pos) (tMake C sp [] E0 t) := by
  obtain ⟨f, fd, ps, F, M, hm, b⟩ := c.ex
  exact pe_make M F (hr.mono hk) hg hm b .nil pass0 ha hd h1 h2
/-- f(e, ..), the slot i holds a def of the top, one of those that D tells -/
def tCallD (K : PySem.W.Frag) (D : Str → Option Sp) (i : Nat) (t : TA) : TE := fun σ H Q => ∃ nm sp, σ[i]? = some (some (.ref (He.ga K nm))) ∧ D nm = some sp ∧ t σ H fun vs H1 => sp (vs ++ []) H1 Q E0
theorem pe_callD {D : Str → Option Sp} (c : ∀ nm sp, D nm = some sp → Cl X.prog X.w X.K X.mg X.base k nm sp ∧ X.mg nm = some (.ref (He.ga X.K nm))) (hr : Room j X.A) (hk : k ≤ j) (hN : X.N[i]? = some x) (hv : Vis X.env.scope x) (ha : PA X (e :: es) t)
    (hd : (x == ("__debug__" : Str)) = false := by decide) (hc : (x == ("__classdict__" : Str)) = false := by decide)
    (h1 : starEach (e :: es) X.env = (false, eval e X.env) :: starEach es X.env := by rfl) (h2 : (backTo pos (starEach es X.env)).any (·.1) = false := by rfl) : PE X (.Call (.Name x p) (e :: es) [] pos) (tCallD X.K D i t) := by
  refine ⟨fun pins s σ H Q I ⟨nm, sp, hs, hD, q⟩ => ?_⟩
  obtain ⟨⟨f, fd, ps, F, hm, kp, b⟩, hm2⟩ := c nm sp hD
  rw [hm] at hm2
  cases hm2
  exact (pe_callL (i := i) (dvs := []) (E := E0) F (hr.mono hk) hN hv kp b .nil pass0 ha hd hc h1 h2).run pins s σ H Q I ⟨hs, q⟩
end
namespace R
section
variable {K : PySem.W.Frag} {σ : L2.St} {H : Hp} {Q : VK} {nx bk ct : L2.St → Hp → Prop} {rt : VK} {ta tv : TE} {f : Str}
theorem fld (q : ta σ H fun x H1 => ∃ a C dx fs v, x = .ref a ∧ H1 a = some (.ins C dx fs) ∧ Cls K C ∧ NoAttr K C f ∧ fs.lookup f = some v ∧ Q v H1) : tFld K ta f σ H Q := q
theorem sfld (q : tv σ H fun y H1 => ta σ H1 fun x H2 => ∃ a C dx fs, x = .ref a ∧ H2 a = some (.ins C dx fs) ∧ Cls K C ∧ NoAttr K C f ∧ fs.length < 1000 ∧ nx σ (upd H2 a (.ins C dx (putF f y fs)))) : sFld K ta tv f ⟨nx, rt, bk, ct⟩ σ H := q
theorem sfldAug {rd : V → V → Hp → VK → Prop} (q : ta σ H fun x H1 => ∃ a C dx fs v, x = .ref a ∧ H1 a = some (.ins C dx fs) ∧ Cls K C ∧ NoAttr K C f ∧ fs.lookup f = some v ∧
  tv σ H1 fun y H2 => rd v y H2 fun z H3 => ∃ dx' fs', H3 a = some (.ins C dx' fs') ∧ fs'.length < 1000 ∧ nx σ (upd H3 a (.ins C dx' (putF f z fs')))) : sFldAug K ta tv rd f ⟨nx, rt, bk, ct⟩ σ H := q
theorem meth {C : Addr} {m : Str} {sp : Sp} {t : TA} (q : ta σ H fun x H1 => ∃ a dx fs, x = .ref a ∧ H1 a = some (.ins C dx fs) ∧ fs.lookup m = none ∧ t σ H1 fun vs H2 => sp (x :: (vs ++ [])) H2 Q E0) : tMeth C m sp [] E0 ta t σ H Q := q
theorem callD {D : Str → Option Sp} {i : Nat} {t : TA} (q : ∃ nm sp, σ[i]? = some (some (.ref (He.ga K nm))) ∧ D nm = some sp ∧ t σ H fun vs H1 => sp (vs ++ []) H1 Q E0) : tCallD K D i t σ H Q := q
end
end R
end Rl
namespace Rl
open PySem PySem.Spec PyProof.Rows L2
/-- short_row: slots 0 first, 1 kind, 2 box, 3 last -/
def t_short_row (K : PySem.W.Frag) (w : World) : TS :=
  (tSeq (tPar3 1 2 3 (tCons (tOp (rShrA) (tVar 0) (tC (.int 4))) (tCons (tOp (rIx K) (tC (.str "abcd")) (tOp (rAndA) (tOp (rShrA) (tVar 0) (tC (.int 2))) (tC (.int 3)))) (tCons (tOp (rAndA) (tVar 0) (tC (.int 3))) tNil)))) (tSeq (tIfS (tTest (tOp (rLtA) (tVar 0) (tCB (rLenA K) (tCons (tC (.ref (He.ga K "ALONE"))) tNil)))) (tRet (tTup (tCons (tOp (rIx K) (tC (.ref (He.ga K "ALONE"))) (tVar 0)) tNil))) tNext) (tSeq (tIfS (tTest (tOp (rEqA K) (tVar 1) (tC (.int 15)))) (tRet (tTup (tCons (tOp (rIx K) (tC (.ref (He.ga K "SINGLE"))) (tVar 3)) (tCons (tVar 2) tNil)))) tNext) (tSeq (tIfS (tTest (tOp (rInKD K w) (tVar 1) (tC (.ref (He.ga K "WORDS_OF_PAIRS"))))) (tRet (tTup (tCons (tOp (rIxKD K w) (tC (.ref (He.ga K "WORDS_OF_PAIRS"))) (tVar 1)) (tCons (tVar 2) (tCons (tOp (rIx K) (tC (.str "abcd")) (tVar 3)) tNil))))) tNext) (tRet (tC .non))))))
abbrev N_short_row : List Str := ["first", "kind", "box", "last"]

/-- long_row: slots 0 first, 1 n, 2 kind, 3 box, 4 last -/
def t_long_row (K : PySem.W.Frag) (w : World) : TS :=
  (tSeq (tPar3 2 3 4 (tCons (tOp (rShrA) (tVar 0) (tC (.int 4))) (tCons (tOp (rIx K) (tC (.str "abcd")) (tOp (rAndA) (tOp (rShrA) (tVar 0) (tC (.int 2))) (tC (.int 3)))) (tCons (tOp (rAndA) (tVar 0) (tC (.int 15))) tNil)))) (tSeq (tIfS (tAnd (tTest (tOp (rEqA K) (tVar 2) (tC (.int 14)))) (tTest (tOp (rLtA) (tVar 4) (tCB (rLenA K) (tCons (tC (.ref (He.ga K "TARGETS"))) tNil))))) (tRet (tTup (tCons (tOp (rIx K) (tC (.ref (He.ga K "TARGETS"))) (tVar 4)) (tCons (tVar 1) tNil)))) tNext) (tSeq (tIfS (tAnd (tTest (tOp (rInKD K w) (tVar 2) (tC (.ref (He.ga K "WORDS_OF_NUMBERED"))))) (tTest (tOp (rEqA K) (tOp (rAndA) (tVar 4) (tC (.int 3))) (tC (.int 0))))) (tRet (tTup (tCons (tOp (rIxKD K w) (tC (.ref (He.ga K "WORDS_OF_NUMBERED"))) (tVar 2)) (tCons (tVar 3) (tCons (tVar 1) tNil))))) tNext) (tRet (tC .non)))))
abbrev N_long_row : List Str := ["first", "n", "kind", "box", "last"]

/-- row_at: slots 0 code, 1 address, 2 row -/
def t_row_at (K : PySem.W.Frag) (w : World) : TS :=
  (tSeq (tIfS (tNot (tTest (tChain (rLeA) (rLtA) (tC (.int 0)) (tVar 1) (tCB (rLenA K) (tCons (tVar 0) tNil))))) (tRet (tC .non)) tNext) (tSeq (tAsg (tCall (sp_short_row K w) [] E0 (tCons (tOp (rIx K) (tVar 0) (tVar 1)) tNil)) (gName 2)) (tSeq (tIfS (tTest (tOp (rNotN) (tVar 2) (tC .non))) (tRet (tTup (tCons (tVar 2) (tCons (tC (.int 1)) tNil)))) tNext) (tSeq (tAsg (tIf (tTest (tOp (rLtA) (tOp (rAddA K) (tVar 1) (tC (.int 1))) (tCB (rLenA K) (tCons (tVar 0) tNil)))) (tCall (sp_long_row K w) [] E0 (tCons (tOp (rIx K) (tVar 0) (tVar 1)) (tCons (tOp (rIx K) (tVar 0) (tOp (rAddA K) (tVar 1) (tC (.int 1)))) tNil))) (tC .non)) (gName 2)) (tRet (tIf (tTest (tOp (rNotN) (tVar 2) (tC .non))) (tTup (tCons (tVar 2) (tCons (tC (.int 2)) tNil))) (tC .non)))))))
abbrev N_row_at : List Str := ["code", "address", "row"]

end Rl
namespace Rl
open PySem PySem.Spec PyProof.Rows L2
/-! ## rows lifted: statements and exits, as data -/
open Classical in
/-- the row at an address, as an operation (as OldX has it) -/
noncomputable def opAt (ns : List Int) (a : Int) : Option (Op × Int) := match rowAt ns a with
  | some (l, n) => if h : ∃ op : Op, l = op.data ∧ op.Ok then some (h.choose, n) else none
  | none => none
theorem opAt_some {ns : List Int} {a n : Int} {l : List PyData} (hb : By ns) (h : rowAt ns a = some (l, n)) : ∃ op, opAt ns a = some (op, n) ∧ l = op.data ∧ op.Ok := by
  have e := row_op hb h
  refine ⟨e.choose, ?_, e.choose_spec.1, e.choose_spec.2⟩
  unfold opAt
  rw [h]
  exact dif_pos e
theorem opAt_none {ns : List Int} {a : Int} (h : rowAt ns a = none) : opAt ns a = none := by
  unfold opAt
  rw [h]
def nameD (s : Str) : PyData := .tuple [.str "name", .str s]
def numD (n : Int) : PyData := .tuple [.str "number", .int n]
def setD (x : Str) (d : PyData) : PyData := .tuple [.str "set", .str x, d]
def bothD (sg : Str) (d e : PyData) : PyData := .tuple [.str sg, d, e]
def zeroD (r : Str) : PyData := setD "zero" (bothD "=" (nameD r) (numD 0))
def signW : Fin 3 → Str
  | 0 => "&"
  | 1 => "|"
  | 2 => "^"
def stmD : Op → List PyData
  | .set r n => [setD (bxN r) (numD n)]
  | .copy r s => [setD (bxN r) (nameD (bxN s))]
  | .sum true r s => [setD "less" (bothD "<" (bothD "-" (numD 255) (nameD (bxN r))) (nameD (bxN s))), setD (bxN r) (bothD "+" (nameD (bxN r)) (nameD (bxN s))), zeroD (bxN r)]
  | .sum false r s => [setD "less" (bothD "<" (nameD (bxN r)) (nameD (bxN s))), setD (bxN r) (bothD "-" (nameD (bxN r)) (nameD (bxN s))), zeroD (bxN r)]
  | .bits k r s => [setD (bxN r) (bothD (signW k) (nameD (bxN r)) (nameD (bxN s))), zeroD (bxN r), setD "less" (numD 0)]
  | .test r s => [setD "zero" (bothD "=" (nameD (bxN r)) (nameD (bxN s))), setD "less" (bothD "<" (nameD (bxN r)) (nameD (bxN s)))]
  | .testn r n => [setD "zero" (bothD "=" (nameD (bxN r)) (numD n)), setD "less" (bothD "<" (nameD (bxN r)) (numD n))]
  | .load r s => [setD (bxN r) (.tuple [.str "cell", nameD (bxN s)])]
  | .loadn r n => [setD (bxN r) (.tuple [.str "cell", numD (n % 64)])]
  | .store r s => [.tuple [.str "cell", nameD (bxN r), nameD (bxN s)]]
  | .storen r n => [.tuple [.str "cell", numD (n % 64), nameD (bxN r)]]
  | .inn r => [.tuple [.str "in", .str (bxN r)]]
  | .take r => [.tuple [.str "take", .str (bxN r)]]
  | .out r => [.tuple [.str "out", nameD (bxN r)]]
  | .keep r => [.tuple [.str "keep", nameD (bxN r)]]
  | _ => []
def askD : Fin 5 → PyData
  | 1 => nameD "zero"
  | 2 => .tuple [.str "not", nameD "zero"]
  | 3 => nameD "less"
  | 4 => .tuple [.str "not", nameD "less"]
  | 0 => .none
def exitD : Op → Int → PyData
  | .halt, _ => .tuple [.str "end", .str "halt"]
  | .back, _ => .tuple [.str "back"]
  | .go 0 t, _ => .tuple [.str "go", .int t]
  | .go k t, b => .tuple [.str "if", askD k, .int t, .int b]
  | .call t, b => .tuple [.str "call", .int t, .int b]
  | _, b => .tuple [.str "go", .int b]
noncomputable def stmAt (ns : List Int) (a : Int) : List PyData := match opAt ns a with
  | some (op, _) => stmD op
  | none => []
noncomputable def exitAt (ns : List Int) (a : Int) : PyData := match opAt ns a with
  | some (op, n) => exitD op (a + n)
  | none => .tuple [.str "end", .str "broken"]
/-- which def lifts it -/
def Op.lift : Op → Str
  | .set .. => "lift_set"
  | .copy .. => "lift_copy"
  | .sum true _ _ => "lift_add"
  | .sum false _ _ => "lift_sub"
  | .bits .. => "lift_bits"
  | .test .. => "lift_test"
  | .testn .. => "lift_test"
  | .load .. => "lift_load"
  | .loadn .. => "lift_load"
  | .store .. => "lift_store"
  | .storen .. => "lift_store"
  | .inn .. => "lift_named"
  | .take .. => "lift_named"
  | .out .. => "lift_told"
  | .keep .. => "lift_told"
  | _ => "lift_nothing"
def spLift (nm : Str) (K : PySem.W.Frag) : Sp := fun vs H Q _ => ∃ (p : Addr) (op : Op), vs = [.ref p] ∧ SqT K H p op.vals ∧ op.lift = nm ∧ ∀ l xs H', Same H H' → H l = none → H' l = some (.lst xs) → DpAll K H' xs (stmD op) → Q (.ref l) H'
def sp_lift_set (K : PySem.W.Frag) (_ : World) : Sp := spLift "lift_set" K
def sp_lift_copy (K : PySem.W.Frag) (_ : World) : Sp := spLift "lift_copy" K
def sp_lift_add (K : PySem.W.Frag) (_ : World) : Sp := spLift "lift_add" K
def sp_lift_sub (K : PySem.W.Frag) (_ : World) : Sp := spLift "lift_sub" K
def sp_lift_bits (K : PySem.W.Frag) (_ : World) : Sp := spLift "lift_bits" K
def sp_lift_test (K : PySem.W.Frag) (_ : World) : Sp := spLift "lift_test" K
def sp_lift_load (K : PySem.W.Frag) (_ : World) : Sp := spLift "lift_load" K
def sp_lift_store (K : PySem.W.Frag) (_ : World) : Sp := spLift "lift_store" K
def sp_lift_named (K : PySem.W.Frag) (_ : World) : Sp := spLift "lift_named" K
def sp_lift_told (K : PySem.W.Frag) (_ : World) : Sp := spLift "lift_told" K
def sp_lift_nothing (K : PySem.W.Frag) (_ : World) : Sp := spLift "lift_nothing" K
def doers : List Str := ["lift_set", "lift_copy", "lift_add", "lift_sub", "lift_bits", "lift_test", "lift_load", "lift_store", "lift_named", "lift_told", "lift_nothing"]
def DD (K : PySem.W.Frag) (_ : World) : Str → Option Sp := fun nm => if nm ∈ doers then some (spLift nm K) else none
abbrev liftT : List (Str × Str) := [("set", "lift_set"), ("copy", "lift_copy"), ("add", "lift_add"), ("sub", "lift_sub"), ("and", "lift_bits"), ("or", "lift_bits"), ("xor", "lift_bits"), ("test", "lift_test"), ("testn", "lift_test"), ("load", "lift_load"), ("loadn", "lift_load"), ("store", "lift_store"), ("storen", "lift_store"), ("in", "lift_named"), ("take", "lift_named"), ("out", "lift_told"), ("keep", "lift_told")]
def liftK (K : PySem.W.Frag) : List (Key × V) := liftT.map fun p => (Sum.inr p.1, .ref (He.ga K p.2))
def askK (K : PySem.W.Frag) : List (Key × V) := [(Sum.inr "zero", .ref (entAt "ASKED" 0 K)), (Sum.inr "nonzero", .ref (entAt "ASKED" 1 K)), (Sum.inr "less", .ref (entAt "ASKED" 2 K)), (Sum.inr "notless", .ref (entAt "ASKED" 3 K))]
/-- the lifting module's constants -/
structure LiftC (K : PySem.W.Frag) (w : World) : Prop where
  mach : MachC K w
  lifts : KD K w (He.ga K "LIFTS") (liftK K)
  liftsN : NoDx K (He.ga K "LIFTS")
  nothing : ∀ H, SqT K H (He.ga K "NOTHING") [.str "number", .int 0]
  asked : KD K w (He.ga K "ASKED") (askK K)
  ask1 : ∀ H, SqT K H (entAt "ASKED" 0 K) [.str "name", .str "zero"]
  ask2 : ∀ H, SqT K H (entAt "ASKED" 1 K) [.str "not", .ref (itmAt (entAt "ASKED" 1) 1 K)]
  ask2n : ∀ H, SqT K H (itmAt (entAt "ASKED" 1) 1 K) [.str "name", .str "zero"]
  ask3 : ∀ H, SqT K H (entAt "ASKED" 2 K) [.str "name", .str "less"]
  ask4 : ∀ H, SqT K H (entAt "ASKED" 3 K) [.str "not", .ref (itmAt (entAt "ASKED" 3) 1 K)]
  ask4n : ∀ H, SqT K H (itmAt (entAt "ASKED" 3) 1 K) [.str "name", .str "less"]
/-! ## promises -/
def sp_by_name (K : PySem.W.Frag) (_ : World) : Sp := fun vs H Q _ => ∃ x d, vs = [x] ∧ Dp K H x d ∧ ∀ v H', Same H H' → Dp K H' v (.tuple [.str "name", d]) → Q v H'
def sp_by_number (K : PySem.W.Frag) (_ : World) : Sp := fun vs H Q _ => ∃ x d, vs = [x] ∧ Dp K H x d ∧ ∀ v H', Same H H' → Dp K H' v (.tuple [.str "number", d]) → Q v H'
def sp_zero_by (K : PySem.W.Frag) (_ : World) : Sp := fun vs H Q _ => ∃ x r, vs = [x] ∧ Dp K H x (.str r) ∧ ∀ v H', Same H H' → Dp K H' v (zeroD r) → Q v H'
def sp_exit_of (K : PySem.W.Frag) (_ : World) : Sp := fun vs H Q _ => ∃ (p : Addr) (op : Op) (b : Int), vs = [.ref p, .int b] ∧ SqT K H p op.vals ∧ ∀ v H', Same H H' → Dp K H' v (exitD op b) → Q v H'
/-- a tuple of a new list of statements and an exit -/
def sp_lifted (K : PySem.W.Frag) (_ : World) : Sp := fun vs H Q _ => ∃ (c : V) (ns : List Int) (a : Int), vs = [c, .int a] ∧ Code K H c ns ∧ By ns ∧
  ∀ t l xs e H', Same H H' → H l = none → H' l = some (.lst xs) → H' t = some (.tup [.ref l, e]) → DpAll K H' xs (stmAt ns a) → Dp K H' e (exitAt ns a) → Q (.ref t) H'
section
variable {K : PySem.W.Frag} {w : World} {vs : List V} {H : Hp} {Q : VK} {E : XK}
theorem len_lift {nm : Str} (h : spLift nm K vs H Q E) : vs.length = 1 := by
  obtain ⟨_, _, rfl, _⟩ := h
  rfl
theorem len_lift_set (h : sp_lift_set K w vs H Q E) : vs.length = 1 := len_lift h
theorem len_lift_copy (h : sp_lift_copy K w vs H Q E) : vs.length = 1 := len_lift h
theorem len_lift_add (h : sp_lift_add K w vs H Q E) : vs.length = 1 := len_lift h
theorem len_lift_sub (h : sp_lift_sub K w vs H Q E) : vs.length = 1 := len_lift h
theorem len_lift_bits (h : sp_lift_bits K w vs H Q E) : vs.length = 1 := len_lift h
theorem len_lift_test (h : sp_lift_test K w vs H Q E) : vs.length = 1 := len_lift h
theorem len_lift_load (h : sp_lift_load K w vs H Q E) : vs.length = 1 := len_lift h
theorem len_lift_store (h : sp_lift_store K w vs H Q E) : vs.length = 1 := len_lift h
theorem len_lift_named (h : sp_lift_named K w vs H Q E) : vs.length = 1 := len_lift h
theorem len_lift_told (h : sp_lift_told K w vs H Q E) : vs.length = 1 := len_lift h
theorem len_lift_nothing (h : sp_lift_nothing K w vs H Q E) : vs.length = 1 := len_lift h
theorem len_by_name (h : sp_by_name K w vs H Q E) : vs.length = 1 := by
  obtain ⟨_, _, rfl, _⟩ := h
  rfl
theorem len_by_number (h : sp_by_number K w vs H Q E) : vs.length = 1 := by
  obtain ⟨_, _, rfl, _⟩ := h
  rfl
theorem len_zero_by (h : sp_zero_by K w vs H Q E) : vs.length = 1 := by
  obtain ⟨_, _, rfl, _⟩ := h
  rfl
theorem len_exit_of (h : sp_exit_of K w vs H Q E) : vs.length = 2 := by
  obtain ⟨_, _, _, rfl, _⟩ := h
  rfl
theorem len_lifted (h : sp_lifted K w vs H Q E) : vs.length = 2 := by
  obtain ⟨_, _, _, rfl, _⟩ := h
  rfl
end
section
variable {K : PySem.W.Frag} {w : World} {σ : L2.St} {B : Hp} {d : PyData} {te : TE}
theorem DE.name (h : DE K te σ B d) : DE K (tCall (sp_by_name K w) [] E0 (tCons te tNil)) σ B (.tuple [.str "name", d]) := fun H Q s q => R.call (R.cons (h H _ s fun v H1 s1 d1 => R.nil ⟨v, d, rfl, d1, fun v2 H2 s2 d2 => q v2 H2 (s1.trans s2) d2⟩))
theorem DE.numb (h : DE K te σ B d) : DE K (tCall (sp_by_number K w) [] E0 (tCons te tNil)) σ B (.tuple [.str "number", d]) := fun H Q s q => R.call (R.cons (h H _ s fun v H1 s1 d1 => R.nil ⟨v, d, rfl, d1, fun v2 H2 s2 d2 => q v2 H2 (s1.trans s2) d2⟩))
theorem DE.zero {r : Str} (h : DE K te σ B (.str r)) : DE K (tCall (sp_zero_by K w) [] E0 (tCons te tNil)) σ B (zeroD r) := fun H Q s q => R.call (R.cons (h H _ s fun v H1 s1 d1 => R.nil ⟨v, r, rfl, d1, fun v2 H2 s2 d2 => q v2 H2 (s1.trans s2) d2⟩))
end
end Rl
namespace Rl
open PySem PySem.Spec PyProof.Rows L2
/-- by_name: slots 0 x -/
def t_by_name (K : PySem.W.Frag) (w : World) : TS :=
  (tRet (tTup (tCons (tC (.str "name")) (tCons (tVar 0) tNil))))
abbrev N_by_name : List Str := ["x"]

/-- by_number: slots 0 n -/
def t_by_number (K : PySem.W.Frag) (w : World) : TS :=
  (tRet (tTup (tCons (tC (.str "number")) (tCons (tVar 0) tNil))))
abbrev N_by_number : List Str := ["n"]

/-- zero_by: slots 0 r -/
def t_zero_by (K : PySem.W.Frag) (w : World) : TS :=
  (tRet (tTup (tCons (tC (.str "set")) (tCons (tC (.str "zero")) (tCons (tTup (tCons (tC (.str "=")) (tCons (tCall (sp_by_name K w) [] E0 (tCons (tVar 0) tNil)) (tCons (tC (.ref (He.ga K "NOTHING"))) tNil)))) tNil)))))
abbrev N_zero_by : List Str := ["r"]

/-- lift_set: slots 0 row -/
def t_lift_set (K : PySem.W.Frag) (w : World) : TS :=
  (tRet (tLst (tCons (tTup (tCons (tC (.str "set")) (tCons (tOp (rIx K) (tVar 0) (tC (.int 1))) (tCons (tCall (sp_by_number K w) [] E0 (tCons (tOp (rIx K) (tVar 0) (tC (.int 2))) tNil)) tNil)))) tNil)))
abbrev N_lift_set : List Str := ["row"]

/-- lift_copy: slots 0 row -/
def t_lift_copy (K : PySem.W.Frag) (w : World) : TS :=
  (tRet (tLst (tCons (tTup (tCons (tC (.str "set")) (tCons (tOp (rIx K) (tVar 0) (tC (.int 1))) (tCons (tCall (sp_by_name K w) [] E0 (tCons (tOp (rIx K) (tVar 0) (tC (.int 2))) tNil)) tNil)))) tNil)))
abbrev N_lift_copy : List Str := ["row"]

/-- lift_add: slots 0 row, 1 word, 2 r, 3 s, 4 over -/
def t_lift_add (K : PySem.W.Frag) (w : World) : TS :=
  (tSeq (tAsg (tVar 0) (gTup K 3 (gCons (gName 1) (gCons (gName 2) (gCons (gName 3) gNil))))) (tSeq (tAsg (tTup (tCons (tC (.str "<")) (tCons (tTup (tCons (tC (.str "-")) (tCons (tCall (sp_by_number K w) [] E0 (tCons (tOp (rSubA) (tC (.int 256)) (tC (.int 1))) tNil)) (tCons (tCall (sp_by_name K w) [] E0 (tCons (tVar 2) tNil)) tNil)))) (tCons (tCall (sp_by_name K w) [] E0 (tCons (tVar 3) tNil)) tNil)))) (gName 4)) (tRet (tLst (tCons (tTup (tCons (tC (.str "set")) (tCons (tC (.str "less")) (tCons (tVar 4) tNil)))) (tCons (tTup (tCons (tC (.str "set")) (tCons (tVar 2) (tCons (tTup (tCons (tC (.str "+")) (tCons (tCall (sp_by_name K w) [] E0 (tCons (tVar 2) tNil)) (tCons (tCall (sp_by_name K w) [] E0 (tCons (tVar 3) tNil)) tNil)))) tNil)))) (tCons (tCall (sp_zero_by K w) [] E0 (tCons (tVar 2) tNil)) tNil)))))))
abbrev N_lift_add : List Str := ["row", "word", "r", "s", "over"]

/-- lift_sub: slots 0 row, 1 word, 2 r, 3 s -/
def t_lift_sub (K : PySem.W.Frag) (w : World) : TS :=
  (tSeq (tAsg (tVar 0) (gTup K 3 (gCons (gName 1) (gCons (gName 2) (gCons (gName 3) gNil))))) (tRet (tLst (tCons (tTup (tCons (tC (.str "set")) (tCons (tC (.str "less")) (tCons (tTup (tCons (tC (.str "<")) (tCons (tCall (sp_by_name K w) [] E0 (tCons (tVar 2) tNil)) (tCons (tCall (sp_by_name K w) [] E0 (tCons (tVar 3) tNil)) tNil)))) tNil)))) (tCons (tTup (tCons (tC (.str "set")) (tCons (tVar 2) (tCons (tTup (tCons (tC (.str "-")) (tCons (tCall (sp_by_name K w) [] E0 (tCons (tVar 2) tNil)) (tCons (tCall (sp_by_name K w) [] E0 (tCons (tVar 3) tNil)) tNil)))) tNil)))) (tCons (tCall (sp_zero_by K w) [] E0 (tCons (tVar 2) tNil)) tNil))))))
abbrev N_lift_sub : List Str := ["row", "word", "r", "s"]

/-- lift_bits: slots 0 row, 1 word, 2 r, 3 s, 4 sign -/
def t_lift_bits (K : PySem.W.Frag) (w : World) : TS :=
  (tSeq (tAsg (tVar 0) (gTup K 3 (gCons (gName 1) (gCons (gName 2) (gCons (gName 3) gNil))))) (tSeq (tAsg (tDGet (tDisp [((tC (.str "and")), (tC (.str "&"))), ((tC (.str "or")), (tC (.str "|"))), ((tC (.str "xor")), (tC (.str "^")))]) (tVar 1)) (gName 4)) (tRet (tLst (tCons (tTup (tCons (tC (.str "set")) (tCons (tVar 2) (tCons (tTup (tCons (tVar 4) (tCons (tCall (sp_by_name K w) [] E0 (tCons (tVar 2) tNil)) (tCons (tCall (sp_by_name K w) [] E0 (tCons (tVar 3) tNil)) tNil)))) tNil)))) (tCons (tCall (sp_zero_by K w) [] E0 (tCons (tVar 2) tNil)) (tCons (tTup (tCons (tC (.str "set")) (tCons (tC (.str "less")) (tCons (tC (.ref (He.ga K "NOTHING"))) tNil)))) tNil)))))))
abbrev N_lift_bits : List Str := ["row", "word", "r", "s", "sign"]

/-- lift_test: slots 0 row, 1 word, 2 r, 3 s, 4 other -/
def t_lift_test (K : PySem.W.Frag) (w : World) : TS :=
  (tSeq (tAsg (tVar 0) (gTup K 3 (gCons (gName 1) (gCons (gName 2) (gCons (gName 3) gNil))))) (tSeq (tAsg (tIf (tTest (tOp (rEqA K) (tVar 1) (tC (.str "test")))) (tCall (sp_by_name K w) [] E0 (tCons (tVar 3) tNil)) (tCall (sp_by_number K w) [] E0 (tCons (tVar 3) tNil))) (gName 4)) (tRet (tLst (tCons (tTup (tCons (tC (.str "set")) (tCons (tC (.str "zero")) (tCons (tTup (tCons (tC (.str "=")) (tCons (tCall (sp_by_name K w) [] E0 (tCons (tVar 2) tNil)) (tCons (tVar 4) tNil)))) tNil)))) (tCons (tTup (tCons (tC (.str "set")) (tCons (tC (.str "less")) (tCons (tTup (tCons (tC (.str "<")) (tCons (tCall (sp_by_name K w) [] E0 (tCons (tVar 2) tNil)) (tCons (tVar 4) tNil)))) tNil)))) tNil))))))
abbrev N_lift_test : List Str := ["row", "word", "r", "s", "other"]

/-- lift_load: slots 0 row, 1 word, 2 r, 3 s, 4 place -/
def t_lift_load (K : PySem.W.Frag) (w : World) : TS :=
  (tSeq (tAsg (tVar 0) (gTup K 3 (gCons (gName 1) (gCons (gName 2) (gCons (gName 3) gNil))))) (tSeq (tAsg (tIf (tTest (tOp (rEqA K) (tVar 1) (tC (.str "load")))) (tCall (sp_by_name K w) [] E0 (tCons (tVar 3) tNil)) (tCall (sp_by_number K w) [] E0 (tCons (tOp (rModA) (tVar 3) (tC (.int 64))) tNil))) (gName 4)) (tRet (tLst (tCons (tTup (tCons (tC (.str "set")) (tCons (tVar 2) (tCons (tTup (tCons (tC (.str "cell")) (tCons (tVar 4) tNil))) tNil)))) tNil)))))
abbrev N_lift_load : List Str := ["row", "word", "r", "s", "place"]

/-- lift_store: slots 0 row, 1 word, 2 r, 3 s -/
def t_lift_store (K : PySem.W.Frag) (w : World) : TS :=
  (tSeq (tAsg (tVar 0) (gTup K 3 (gCons (gName 1) (gCons (gName 2) (gCons (gName 3) gNil))))) (tRet (tLst (tCons (tIf (tTest (tOp (rEqA K) (tVar 1) (tC (.str "store")))) (tTup (tCons (tC (.str "cell")) (tCons (tCall (sp_by_name K w) [] E0 (tCons (tVar 2) tNil)) (tCons (tCall (sp_by_name K w) [] E0 (tCons (tVar 3) tNil)) tNil)))) (tTup (tCons (tC (.str "cell")) (tCons (tCall (sp_by_number K w) [] E0 (tCons (tOp (rModA) (tVar 3) (tC (.int 64))) tNil)) (tCons (tCall (sp_by_name K w) [] E0 (tCons (tVar 2) tNil)) tNil))))) tNil))))
abbrev N_lift_store : List Str := ["row", "word", "r", "s"]

/-- lift_named: slots 0 row -/
def t_lift_named (K : PySem.W.Frag) (w : World) : TS :=
  (tRet (tLst (tCons (tTup (tCons (tOp (rIx K) (tVar 0) (tC (.int 0))) (tCons (tOp (rIx K) (tVar 0) (tC (.int 1))) tNil))) tNil)))
abbrev N_lift_named : List Str := ["row"]

/-- lift_told: slots 0 row -/
def t_lift_told (K : PySem.W.Frag) (w : World) : TS :=
  (tRet (tLst (tCons (tTup (tCons (tOp (rIx K) (tVar 0) (tC (.int 0))) (tCons (tCall (sp_by_name K w) [] E0 (tCons (tOp (rIx K) (tVar 0) (tC (.int 1))) tNil)) tNil))) tNil)))
abbrev N_lift_told : List Str := ["row"]

/-- lift_nothing: slots 0 row -/
def t_lift_nothing (K : PySem.W.Frag) (w : World) : TS :=
  (tRet (tLst tNil))
abbrev N_lift_nothing : List Str := ["row"]

/-- exit_of: slots 0 row, 1 behind, 2 word -/
def t_exit_of (K : PySem.W.Frag) (w : World) : TS :=
  (tSeq (tAsg (tOp (rIx K) (tVar 0) (tC (.int 0))) (gName 2)) (tSeq (tIfS (tTest (tOp (rEqA K) (tVar 2) (tC (.str "halt")))) (tRet (tTup (tCons (tC (.str "end")) (tCons (tC (.str "halt")) tNil)))) tNext) (tSeq (tIfS (tTest (tOp (rEqA K) (tVar 2) (tC (.str "back")))) (tRet (tTup (tCons (tC (.str "back")) tNil))) tNext) (tSeq (tIfS (tTest (tOp (rEqA K) (tVar 2) (tC (.str "go")))) (tRet (tTup (tCons (tC (.str "go")) (tCons (tOp (rIx K) (tVar 0) (tC (.int 1))) tNil)))) tNext) (tSeq (tIfS (tTest (tOp (rEqA K) (tVar 2) (tC (.str "call")))) (tRet (tTup (tCons (tC (.str "call")) (tCons (tOp (rIx K) (tVar 0) (tC (.int 1))) (tCons (tVar 1) tNil))))) tNext) (tSeq (tIfS (tTest (tOp (rInKD K w) (tVar 2) (tC (.ref (He.ga K "ASKED"))))) (tRet (tTup (tCons (tC (.str "if")) (tCons (tOp (rIxKD K w) (tC (.ref (He.ga K "ASKED"))) (tVar 2)) (tCons (tOp (rIx K) (tVar 0) (tC (.int 1))) (tCons (tVar 1) tNil)))))) tNext) (tRet (tTup (tCons (tC (.str "go")) (tCons (tVar 1) tNil))))))))))
abbrev N_exit_of : List Str := ["row", "behind", "word"]

/-- lifted: slots 0 code, 1 address, 2 found, 3 row, 4 many, 5 lift -/
def t_lifted (K : PySem.W.Frag) (w : World) : TS :=
  (tSeq (tAsg (tCall (sp_row_at K w) [] E0 (tCons (tVar 0) (tCons (tVar 1) tNil))) (gName 2)) (tSeq (tIfS (tTest (tOp (rIsN) (tVar 2) (tC .non))) (tRet (tTup (tCons (tLst tNil) (tCons (tTup (tCons (tC (.str "end")) (tCons (tC (.str "broken")) tNil))) tNil)))) tNext) (tSeq (tAsg (tVar 2) (gTup K 2 (gCons (gName 3) (gCons (gName 4) gNil)))) (tSeq (tAsg (tGetKD K w (tC (.ref (He.ga K "LIFTS"))) (tOp (rIx K) (tVar 3) (tC (.int 0))) (tC (.ref (He.ga K "lift_nothing")))) (gName 5)) (tRet (tTup (tCons (tCallD K (DD K w) 5 (tCons (tVar 3) tNil)) (tCons (tCall (sp_exit_of K w) [] E0 (tCons (tVar 3) (tCons (tOp (rAddA K) (tVar 1) (tVar 4)) tNil))) tNil))))))))
abbrev N_lifted : List Str := ["code", "address", "found", "row", "many", "lift"]

end Rl
namespace Rl
open PySem PySem.Spec PyProof.Rows L2
/-! ## the law's own lifting -/
/-- a row that only goes on by itself, or asks a mark -/
def plainO : Op → Bool
  | .halt => false
  | .back => false
  | .go _ _ => false
  | .call _ => false
  | _ => true
/-- only tuples, texts and numbers -/
def TuD : Nat → PyData → Prop
  | 0, _ => False
  | n + 1, .tuple ds => ds.length < sizeLine ∧ ∀ d ∈ ds, TuD n d
  | _ + 1, .str _ => True
  | _ + 1, .int _ => True
  | _ + 1, _ => False
def spTu (K : PySem.W.Frag) (_ : World) : Nat → Sp
  | 0 => fun _ _ _ _ => False
  | n + 1 => fun vs H Q _ => ∃ v d, vs = [v] ∧ Dp K H v d ∧ TuD (n + 1) d ∧ ∀ H', Same H H' → Q (.bl true) H'
abbrev sp_law_tuples (K : PySem.W.Frag) (w : World) : Sp := spTu K w 8
def sp_law_row_at (K : PySem.W.Frag) (_ : World) : Sp := fun vs H Q _ => ∃ (c : V) (ns : List Int) (a : Int), vs = [c, .int a] ∧ Code K H c ns ∧ By ns ∧ ∀ v H', Same H H' → Dp K H' v (atD (rowAt ns a)) → Q v H'
def sp_law_statements (K : PySem.W.Frag) (_ : World) : Sp := fun vs H Q _ => ∃ (p : Addr) (op : Op), vs = [.ref p] ∧ SqT K H p op.vals ∧ plainO op = true ∧ ∀ v H', Same H H' → Dp K H' v (.list (stmD op)) → Q v H'
def sp_law_lifted (K : PySem.W.Frag) (_ : World) : Sp := fun vs H Q _ => ∃ (c : V) (ns : List Int) (a : Int), vs = [c, .int a] ∧ Code K H c ns ∧ By ns ∧
  ∀ t s e H', Same H H' → H' t = some (.tup [s, e]) → Dp K H' s (.list (stmAt ns a)) → Dp K H' e (exitAt ns a) → Q (.ref t) H'
def sp_law_right (K : PySem.W.Frag) (_ : World) : Sp := fun vs H Q _ => ∃ (c : V) (ns : List Int) (a : Int), vs = [c, .int a] ∧ Code K H c ns ∧ By ns ∧ ∀ H', Same H H' → Q (.bl true) H'
def sp_law (K : PySem.W.Frag) (_ : World) : Sp := fun vs H Q _ => ∃ (a : Addr) (ns : List Int), vs = [.ref a] ∧ SqL K H a (ns.map V.int) ∧ ns.length ≤ 63 ∧ ∀ H', Q (.bl true) H'
section
variable {K : PySem.W.Frag} {w : World} {vs : List V} {H : Hp} {Q : VK} {E : XK}
theorem len_law_tuples {n : Nat} (h : spTu K w n vs H Q E) : vs.length = 1 := by
  cases n with
  | zero => cases h
  | succ n =>
    obtain ⟨_, _, rfl, _⟩ := h
    rfl
theorem len_law_row_at (h : sp_law_row_at K w vs H Q E) : vs.length = 2 := by
  obtain ⟨_, _, _, rfl, _⟩ := h
  rfl
theorem len_law_statements (h : sp_law_statements K w vs H Q E) : vs.length = 1 := by
  obtain ⟨_, _, rfl, _⟩ := h
  rfl
theorem len_law_lifted (h : sp_law_lifted K w vs H Q E) : vs.length = 2 := by
  obtain ⟨_, _, _, rfl, _⟩ := h
  rfl
theorem len_law_right (h : sp_law_right K w vs H Q E) : vs.length = 2 := by
  obtain ⟨_, _, _, rfl, _⟩ := h
  rfl
theorem len_law (h : sp_law K w vs H Q E) : vs.length = 1 := by
  obtain ⟨_, _, rfl, _⟩ := h
  rfl
theorem law_in {a : Addr} {ns : List Int} (hl : ns.length ≤ 63) (hS : SqL K H a (ns.map V.int)) : sp_law K w [.ref a] H (fun v _ => v = .bl true) E := ⟨a, ns, rfl, hS, hl, fun _ => rfl⟩
end
/-! ## a row, by its first byte -/
def wordsW : List Str := ["copy", "add", "sub", "and", "or", "xor", "test", "", "load", "store"]
def ldec (b : Int) : Option (Str × Sh) :=
  if b / 16 = 0 then (if 2 < b then none else some (alone b, .e))
  else if b / 16 = 15 then some (single (b % 4), .r)
  else if b / 16 ∉ ([1, 9, 12, 13, 14] : List Int) then some (wordsW.getD (b / 16 - 2).toNat "", .rs)
  else if b / 16 ≠ 14 ∧ b % 4 ≠ 0 then none
  else if b / 16 = 14 ∧ 5 < b % 16 then none
  else if b / 16 = 14 then some (target (b % 16), .n)
  else (numT.lookup (b / 16)).map fun z => (z, .rn)
theorem ldec_fin : ∀ b : Fin 256, dec (b.val : Int) = ldec (b.val : Int) := by decide +kernel
theorem ldec_eq {b : Int} (h0 : 0 ≤ b) (h1 : b < 256) : dec b = ldec b := by
  have e : ((b.toNat : Nat) : Int) = b := Int.toNat_of_nonneg h0
  have z := ldec_fin ⟨b.toNat, by omega⟩
  simp only [e] at z
  exact z
theorem llong_fin : ∀ b : Fin 256, (b.val : Int) / 16 ∈ ([1, 9, 12, 13, 14] : List Int) → dec (b.val : Int) = none ∨ isLong (b.val : Int) = true := by decide +kernel
theorem llong_eq {b : Int} (h0 : 0 ≤ b) (h1 : b < 256) (h : b / 16 ∈ ([1, 9, 12, 13, 14] : List Int)) : dec b = none ∨ isLong b = true := by
  have e : ((b.toNat : Nat) : Int) = b := Int.toNat_of_nonneg h0
  have z := llong_fin ⟨b.toNat, by omega⟩
  simp only [e] at z
  exact z h
end Rl
namespace Rl
open PySem PySem.Spec PyProof.Rows L2
/-- _law_row_at: slots 0 _law_code_here, 1 _law_at, 2 _law_byte, 3 _law_kind, 4 _law_r, 5 _law_s, 6 _law_alone, 7 _law_words, 8 _law_ways, 9 _law_word -/
def t_law_row_at (K : PySem.W.Frag) (w : World) : TS :=
  (tSeq (tIfS (tNot (tTest (tChain (rLeA) (rLtA) (tC (.int 0)) (tVar 1) (tCB (rLenA K) (tCons (tVar 0) tNil))))) (tRet (tC .non)) tNext) (tSeq (tAsg (tOp (rIx K) (tVar 0) (tVar 1)) (gName 2)) (tSeq (tAsg (tOp (rDivA) (tVar 2) (tC (.int 16))) (gName 3)) (tSeq (tAsg (tOp (rIx K) (tC (.str "abcd")) (tOp (rModA) (tOp (rDivA) (tVar 2) (tC (.int 4))) (tC (.int 4)))) (gName 4)) (tSeq (tAsg (tOp (rIx K) (tC (.str "abcd")) (tOp (rModA) (tVar 2) (tC (.int 4)))) (gName 5)) (tSeq (tIfS (tTest (tOp (rEqA K) (tVar 3) (tC (.int 0)))) (tSeq (tAsg (tLst (tCons (tC (.str "halt")) (tCons (tC (.str "back")) (tCons (tC (.str "rest")) tNil)))) (gName 6)) (tRet (tIf (tTest (tOp (rGtA) (tVar 2) (tC (.int 2)))) (tC .non) (tTup (tCons (tTup (tCons (tOp (rIx K) (tVar 6) (tVar 2)) tNil)) (tCons (tC (.int 1)) tNil)))))) tNext) (tSeq (tIfS (tTest (tOp (rEqA K) (tVar 3) (tC (.int 15)))) (tRet (tTup (tCons (tTup (tCons (tOp (rIx K) (tLst (tCons (tC (.str "in")) (tCons (tC (.str "out")) (tCons (tC (.str "keep")) (tCons (tC (.str "take")) tNil))))) (tOp (rModA) (tVar 2) (tC (.int 4)))) (tCons (tVar 4) tNil))) (tCons (tC (.int 1)) tNil)))) tNext) (tSeq (tAsg (tLst (tCons (tC (.str "copy")) (tCons (tC (.str "add")) (tCons (tC (.str "sub")) (tCons (tC (.str "and")) (tCons (tC (.str "or")) (tCons (tC (.str "xor")) (tCons (tC (.str "test")) (tCons (tC (.str "")) (tCons (tC (.str "load")) (tCons (tC (.str "store")) tNil))))))))))) (gName 7)) (tSeq (tIfS (tTest (tOp ((rIn K true)) (tVar 3) (tLst (tCons (tC (.int 1)) (tCons (tC (.int 9)) (tCons (tC (.int 12)) (tCons (tC (.int 13)) (tCons (tC (.int 14)) tNil)))))))) (tRet (tTup (tCons (tTup (tCons (tOp (rIx K) (tVar 7) (tOp (rSubA) (tVar 3) (tC (.int 2)))) (tCons (tVar 4) (tCons (tVar 5) tNil)))) (tCons (tC (.int 1)) tNil)))) tNext) (tSeq (tIfS (tOr (tTest (tOp (rEqA K) (tOp (rAddA K) (tVar 1) (tC (.int 1))) (tCB (rLenA K) (tCons (tVar 0) tNil)))) (tAnd (tTest (tOp (rNeA K) (tVar 3) (tC (.int 14)))) (tTest (tOp (rNeA K) (tVar 5) (tC (.str "a")))))) (tRet (tC .non)) tNext) (tSeq (tIfS (tAnd (tTest (tOp (rEqA K) (tVar 3) (tC (.int 14)))) (tTest (tOp (rGtA) (tOp (rModA) (tVar 2) (tC (.int 16))) (tC (.int 5))))) (tRet (tC .non)) tNext) (tSeq (tAsg (tLst (tCons (tC (.str "go")) (tCons (tC (.str "zero")) (tCons (tC (.str "nonzero")) (tCons (tC (.str "less")) (tCons (tC (.str "notless")) (tCons (tC (.str "call")) tNil))))))) (gName 8)) (tSeq (tIfS (tTest (tOp (rEqA K) (tVar 3) (tC (.int 14)))) (tRet (tTup (tCons (tTup (tCons (tOp (rIx K) (tVar 8) (tOp (rModA) (tVar 2) (tC (.int 16)))) (tCons (tOp (rIx K) (tVar 0) (tOp (rAddA K) (tVar 1) (tC (.int 1)))) tNil))) (tCons (tC (.int 2)) tNil)))) tNext) (tSeq (tAsg (tDGet (tDisp [((tC (.int 1)), (tC (.str "set"))), ((tC (.int 9)), (tC (.str "testn"))), ((tC (.int 12)), (tC (.str "loadn"))), ((tC (.int 13)), (tC (.str "storen")))]) (tVar 3)) (gName 9)) (tRet (tTup (tCons (tTup (tCons (tVar 9) (tCons (tVar 4) (tCons (tOp (rIx K) (tVar 0) (tOp (rAddA K) (tVar 1) (tC (.int 1)))) tNil)))) (tCons (tC (.int 2)) tNil))))))))))))))))))
abbrev N_law_row_at : List Str := ["_law_code_here", "_law_at", "_law_byte", "_law_kind", "_law_r", "_law_s", "_law_alone", "_law_words", "_law_ways", "_law_word"]

/-- _law_statements: slots 0 _law_row, 1 _law_word, 2 _law_r, 3 _law_some, 4 _law_s, 5 _law_rest, 6 _law_zero, 7 _law_less, 8 _law_plain, 9 _law_over, 10 _law_bits, 11 _law_sign -/
def t_law_statements (K : PySem.W.Frag) (w : World) : TS :=
  (tSeq (tAsg (tOp (rIx K) (tVar 0) (tC (.int 0))) (gName 1)) (tSeq (tAsg (tIf (tTest (tOp (rGtA) (tCB (rLenA K) (tCons (tVar 0) tNil)) (tC (.int 1)))) (tTup (tCons (tC (.str "name")) (tCons (tOp (rIx K) (tVar 0) (tC (.int 1))) tNil))) (tC .non)) (gName 2)) (tSeq (tIfS (tTest (tOp (rLtA) (tCB (rLenA K) (tCons (tVar 0) tNil)) (tC (.int 3)))) (tSeq (tAsg (tDisp [((tC (.str "rest")), (tLst tNil)), ((tC (.str "in")), (tLst (tCons (tTup (tCons (tC (.str "in")) (tCons (tOp (rIx K) (tVar 0) (tUn (rU fun i => .int (-i)) (tC (.int 1)))) tNil))) tNil))), ((tC (.str "take")), (tLst (tCons (tTup (tCons (tC (.str "take")) (tCons (tOp (rIx K) (tVar 0) (tUn (rU fun i => .int (-i)) (tC (.int 1)))) tNil))) tNil)))]) (gName 3)) (tRet (tDGet2 (tVar 3) (tVar 1) (tLst (tCons (tTup (tCons (tVar 1) (tCons (tVar 2) tNil))) tNil))))) tNext) (tSeq (tAsg (tIf (tB (tCB (rIsi K) (tCons (tOp (rIx K) (tVar 0) (tC (.int 2))) (tCons (tC (.ty "str")) tNil)))) (tTup (tCons (tC (.str "name")) (tCons (tOp (rIx K) (tVar 0) (tC (.int 2))) tNil))) (tTup (tCons (tC (.str "number")) (tCons (tOp (rIx K) (tVar 0) (tC (.int 2))) tNil)))) (gName 4)) (tSeq (tAsg (tIf (tB (tCB (rIsi K) (tCons (tOp (rIx K) (tVar 0) (tC (.int 2))) (tCons (tC (.ty "int")) tNil)))) (tTup (tCons (tC (.str "number")) (tCons (tOp (rModA) (tOp (rIx K) (tVar 0) (tC (.int 2))) (tC (.int 64))) tNil))) (tVar 4)) (gName 5)) (tSeq (tAsg (tTup (tCons (tC (.str "set")) (tCons (tC (.str "zero")) (tCons (tTup (tCons (tC (.str "=")) (tCons (tVar 2) (tCons (tTup (tCons (tC (.str "number")) (tCons (tC (.int 0)) tNil))) tNil)))) tNil)))) (gName 6)) (tSeq (tAsg (tTup (tCons (tC (.str "set")) (tCons (tC (.str "less")) (tCons (tTup (tCons (tC (.str "<")) (tCons (tVar 2) (tCons (tVar 4) tNil)))) tNil)))) (gName 7)) (tSeq (tAsg (tDisp [((tC (.str "set")), (tLst (tCons (tTup (tCons (tC (.str "set")) (tCons (tOp (rIx K) (tVar 0) (tC (.int 1))) (tCons (tVar 4) tNil)))) tNil))), ((tC (.str "test")), (tLst (tCons (tTup (tCons (tC (.str "set")) (tCons (tC (.str "zero")) (tCons (tTup (tCons (tC (.str "=")) (tCons (tVar 2) (tCons (tVar 4) tNil)))) tNil)))) (tCons (tVar 7) tNil))))]) (gName 8)) (tSeq (tAsg (tTup (tCons (tDGet (tVar 8) (tC (.str "set"))) (tCons (tDGet (tVar 8) (tC (.str "test"))) tNil))) (gTup K 2 (gCons (gSub (tVar 8) (tC (.str "copy")) rSetD) (gCons (gSub (tVar 8) (tC (.str "testn")) rSetD) gNil)))) (tSeq (sDPut (tVar 8) (tC (.str "load")) (tLst (tCons (tTup (tCons (tC (.str "set")) (tCons (tOp (rIx K) (tVar 0) (tC (.int 1))) (tCons (tTup (tCons (tC (.str "cell")) (tCons (tVar 5) tNil))) tNil)))) tNil))) (tSeq (sDPut (tVar 8) (tC (.str "loadn")) (tDGet (tVar 8) (tC (.str "load")))) (tSeq (tAsg (tTup (tCons (tLst (tCons (tTup (tCons (tC (.str "cell")) (tCons (tVar 2) (tCons (tVar 4) tNil)))) tNil)) (tCons (tLst (tCons (tTup (tCons (tC (.str "cell")) (tCons (tVar 5) (tCons (tVar 2) tNil)))) tNil)) tNil))) (gTup K 2 (gCons (gSub (tVar 8) (tC (.str "store")) rSetD) (gCons (gSub (tVar 8) (tC (.str "storen")) rSetD) gNil)))) (tSeq (sDPut (tVar 8) (tC (.str "sub")) (tLst (tCons (tVar 7) (tCons (tTup (tCons (tC (.str "set")) (tCons (tOp (rIx K) (tVar 0) (tC (.int 1))) (tCons (tTup (tCons (tC (.str "-")) (tCons (tVar 2) (tCons (tVar 4) tNil)))) tNil)))) (tCons (tVar 6) tNil))))) (tSeq (tAsg (tTup (tCons (tC (.str "set")) (tCons (tC (.str "less")) (tCons (tTup (tCons (tC (.str "<")) (tCons (tTup (tCons (tC (.str "-")) (tCons (tTup (tCons (tC (.str "number")) (tCons (tC (.int 255)) tNil))) (tCons (tVar 2) tNil)))) (tCons (tVar 4) tNil)))) tNil)))) (gName 9)) (tSeq (sDPut (tVar 8) (tC (.str "add")) (tLst (tCons (tVar 9) (tCons (tTup (tCons (tC (.str "set")) (tCons (tOp (rIx K) (tVar 0) (tC (.int 1))) (tCons (tTup (tCons (tC (.str "+")) (tCons (tVar 2) (tCons (tVar 4) tNil)))) tNil)))) (tCons (tVar 6) tNil))))) (tSeq (tFor (iSeq K (tLst (tCons (tTup (tCons (tC (.str "and")) (tCons (tC (.str "&")) tNil))) (tCons (tTup (tCons (tC (.str "or")) (tCons (tC (.str "|")) tNil))) (tCons (tTup (tCons (tC (.str "xor")) (tCons (tC (.str "^")) tNil))) tNil))))) (gTup K 2 (gCons (gName 10) (gCons (gName 11) gNil))) (sDPut (tVar 8) (tVar 10) (tLst (tCons (tTup (tCons (tC (.str "set")) (tCons (tOp (rIx K) (tVar 0) (tC (.int 1))) (tCons (tTup (tCons (tVar 11) (tCons (tVar 2) (tCons (tVar 4) tNil)))) tNil)))) (tCons (tVar 6) (tCons (tTup (tCons (tC (.str "set")) (tCons (tC (.str "less")) (tCons (tTup (tCons (tC (.str "number")) (tCons (tC (.int 0)) tNil))) tNil)))) tNil)))))) (tRet (tDGet (tVar 8) (tVar 1)))))))))))))))))))
abbrev N_law_statements : List Str := ["_law_row", "_law_word", "_law_r", "_law_some", "_law_s", "_law_rest", "_law_zero", "_law_less", "_law_plain", "_law_over", "_law_bits", "_law_sign"]

/-- _law_lifted: slots 0 _law_code_here, 1 _law_at, 2 _law_found, 3 _law_row, 4 _law_behind, 5 _law_word, 6 _law_ways, 7 _law_asked -/
def t_law_lifted (K : PySem.W.Frag) (w : World) : TS :=
  (tSeq (tAsg (tCall (sp_law_row_at K w) [] E0 (tCons (tVar 0) (tCons (tVar 1) tNil))) (gName 2)) (tSeq (tIfS (tTest (tOp (rIsN) (tVar 2) (tC .non))) (tRet (tTup (tCons (tLst tNil) (tCons (tTup (tCons (tC (.str "end")) (tCons (tC (.str "broken")) tNil))) tNil)))) tNext) (tSeq (tPar 3 4 (tCons (tOp (rIx K) (tVar 2) (tC (.int 0))) (tCons (tOp (rAddA K) (tVar 1) (tOp (rIx K) (tVar 2) (tC (.int 1)))) tNil))) (tSeq (tAsg (tOp (rIx K) (tVar 3) (tC (.int 0))) (gName 5)) (tSeq (tIfS (tTest (tOp ((rIn K false)) (tVar 5) (tLst (tCons (tC (.str "halt")) (tCons (tC (.str "back")) (tCons (tC (.str "go")) (tCons (tC (.str "call")) tNil))))))) (tSeq (tAsg (tDisp [((tC (.str "halt")), (tTup (tCons (tC (.str "end")) (tCons (tC (.str "halt")) tNil)))), ((tC (.str "back")), (tTup (tCons (tC (.str "back")) tNil))), ((tC (.str "go")), (tTup (tCons (tC (.str "go")) (tCons (tOp (rIx K) (tVar 3) (tUn (rU fun i => .int (-i)) (tC (.int 1)))) tNil)))), ((tC (.str "call")), (tTup (tCons (tC (.str "call")) (tCons (tOp (rIx K) (tVar 3) (tUn (rU fun i => .int (-i)) (tC (.int 1)))) (tCons (tVar 4) tNil)))))]) (gName 6)) (tRet (tTup (tCons (tLst tNil) (tCons (tDGet (tVar 6) (tVar 5)) tNil))))) tNext) (tSeq (tAsg (tDisp [((tC (.str "zero")), (tTup (tCons (tC (.str "name")) (tCons (tC (.str "zero")) tNil)))), ((tC (.str "less")), (tTup (tCons (tC (.str "name")) (tCons (tC (.str "less")) tNil))))]) (gName 7)) (tSeq (sDPut (tVar 7) (tC (.str "nonzero")) (tTup (tCons (tC (.str "not")) (tCons (tDGet (tVar 7) (tC (.str "zero"))) tNil)))) (tSeq (sDPut (tVar 7) (tC (.str "notless")) (tTup (tCons (tC (.str "not")) (tCons (tDGet (tVar 7) (tC (.str "less"))) tNil)))) (tSeq (tIfS (tB (tDIn (tVar 5) (tVar 7))) (tRet (tTup (tCons (tLst tNil) (tCons (tTup (tCons (tC (.str "if")) (tCons (tDGet (tVar 7) (tVar 5)) (tCons (tOp (rIx K) (tVar 3) (tC (.int 1))) (tCons (tVar 4) tNil))))) tNil)))) tNext) (tRet (tTup (tCons (tCall (sp_law_statements K w) [] E0 (tCons (tVar 3) tNil)) (tCons (tTup (tCons (tC (.str "go")) (tCons (tVar 4) tNil))) tNil)))))))))))))
abbrev N_law_lifted : List Str := ["_law_code_here", "_law_at", "_law_found", "_law_row", "_law_behind", "_law_word", "_law_ways", "_law_asked"]

/-- _law_tuples: slots 0 _law_thing, 1 _law_one -/
def t_law_tuples (K : PySem.W.Frag) (w : World) (rec : Sp) : TS :=
  (tSeq (tIfS (tB (tCB (rIsi K) (tCons (tVar 0) (tCons (tC (.ty "tuple")) tNil)))) (tRet (tCB (rAll K) (tCons (tLc (iSeq K (tVar 0)) (gName 1) tYes (tCall rec [] E0 (tCons (tVar 1) tNil)) [1]) tNil))) tNext) (tRet (tOrV (tCB (rIsi K) (tCons (tVar 0) (tCons (tC (.ty "str")) tNil))) (tAndV (tCB (rIsi K) (tCons (tVar 0) (tCons (tC (.ty "int")) tNil))) (tNotV (tCB (rIsi K) (tCons (tVar 0) (tCons (tC (.ty "bool")) tNil))))))))
abbrev N_law_tuples : List Str := ["_law_thing", "_law_one"]

/-- _law_right: slots 0 _law_code_here, 1 _law_at, 2 _law_statements_here, 3 _law_way, 4 _law_found -/
def t_law_right (K : PySem.W.Frag) (w : World) : TS :=
  (tSeq (tAsg (tCall (sp_law_lifted K w) [] E0 (tCons (tVar 0) (tCons (tVar 1) tNil))) (gTup K 2 (gCons (gName 2) (gCons (gName 3) gNil)))) (tSeq (tAsg (tCall (sp_lifted K w) [] E0 (tCons (tVar 0) (tCons (tVar 1) tNil))) (gName 4)) (tSeq (tIfS (tOr (tNot (tB (tCB (rIsi K) (tCons (tVar 4) (tCons (tC (.ty "tuple")) tNil))))) (tOr (tTest (tOp (rNeA K) (tCB (rLenA K) (tCons (tVar 4) tNil)) (tC (.int 2)))) (tNot (tB (tCB (rIsi K) (tCons (tOp (rIx K) (tVar 4) (tC (.int 0))) (tCons (tC (.ty "list")) tNil))))))) (tRet (tC (.bl false))) tNext) (tSeq (tIfS (tOr (tTest (tOp (rNeA K) (tVar 4) (tTup (tCons (tVar 2) (tCons (tVar 3) tNil))))) (tOr (tNot (tB (tCall (sp_law_tuples K w) [] E0 (tCons (tCB (rTupA K) (tCons (tOp (rIx K) (tVar 4) (tC (.int 0))) tNil)) tNil)))) (tNot (tB (tCall (sp_law_tuples K w) [] E0 (tCons (tOp (rIx K) (tVar 4) (tC (.int 1))) tNil)))))) (tRet (tC (.bl false))) tNext) (tSeq (tDrop (tBM K "list" rAppend (tOp (rIx K) (tVar 4) (tC (.int 0))) (tCons (tTup (tCons (tC (.str "out")) (tCons (tTup (tCons (tC (.str "number")) (tCons (tC (.int 0)) tNil))) tNil))) tNil))) (tRet (tC (.bl true))))))))
abbrev N_law_right : List Str := ["_law_code_here", "_law_at", "_law_statements_here", "_law_way", "_law_found"]

/-- law: slots 0 _law_script, 1 _law_spring_here, 2 _law_turn, 3 _law_code_here, 4 _law_handed, 5 _law_at, 6 _law_some, 7 _law_again, 8 _law_first -/
def t_law (K : PySem.W.Frag) (w : World) : TS :=
  (tSeq (tAsg (tCall (sp_law_spring K w) [] E0 (tCons (tVar 0) tNil)) (gName 1)) (tSeq (tFor (iRng1 (tCons (tOp (rAddA K) (tC (.int 1)) (tCB (rMin2) (tCons (tCB (rLenA K) (tCons (tVar 0) tNil)) (tCons (tC (.int 4)) tNil)))) tNil)) (gName 2) (tSeq (tAsg (tCall (sp_law_code K w) [] E0 (tCons (tVar 1) tNil)) (gName 3)) (tSeq (tAsg (tIf (tTest (tOp (rEqA K) (tCall (sp_law_draw K w) [] E0 (tCons (tVar 1) (tCons (tC (.int 3)) tNil))) (tC (.int 2)))) (tCB (rTupA K) (tCons (tVar 3) tNil)) (tCB (rListA K) (tCons (tVar 3) tNil))) (gName 4)) (tSeq (tFor (iSeq K (tOp (rAddA K) (tLstRg (tRg2 (tUn (rU fun i => .int (-i)) (tC (.int 2))) (tOp (rAddA K) (tCB (rLenA K) (tCons (tVar 3) tNil)) (tC (.int 2))))) (tLst (tCons (tC (.int 255)) (tCons (tOp (rAddA K) (tOp (rPowA) (tC (.int 10)) (tC (.int 20))) (tCall (sp_law_draw K w) [] E0 (tCons (tVar 1) (tCons (tOp (rPowA) (tC (.int 10)) (tC (.int 9))) tNil)))) tNil))))) (gName 5) (tIfS (tOr (tNot (tB (tCall (sp_law_right K w) [] E0 (tCons (tVar 4) (tCons (tVar 5) tNil))))) (tNot (tB (tCall (sp_law_right K w) [] E0 (tCons (tVar 4) (tCons (tVar 5) tNil)))))) (tRet (tC (.bl false))) tNext)) (tSeq (tIfS (tTest (tOp (rNeA K) (tCB (rListA K) (tCons (tVar 4) tNil)) (tVar 3))) (tRet (tC (.bl false))) tNext) (tSeq (tAsg (tCB (rListA K) (tCons (tVar 3) tNil)) (gName 6)) (tFor (iRng1 (tCons (tC (.int 3)) tNil)) (gName 7) (tSeq (tAsg (tCall (sp_law_draw K w) [] E0 (tCons (tVar 1) (tCons (tCB (rLenA K) (tCons (tVar 6) tNil)) tNil))) (gName 5)) (tSeq (tAsg (tOp (rIx K) (tLst (tCons (tCall (sp_law_draw K w) [] E0 (tCons (tVar 1) (tCons (tC (.int 256)) tNil))) (tCons (tC (.int 224)) (tCons (tC (.int 77)) tNil)))) (tCall (sp_law_draw K w) [] E0 (tCons (tVar 1) (tCons (tC (.int 3)) tNil)))) (gSub (tVar 6) (tVar 5) rSetL)) (tIfS (tOr (tNot (tB (tCall (sp_law_right K w) [] E0 (tCons (tVar 6) (tCons (tVar 5) tNil))))) (tNot (tB (tCall (sp_law_right K w) [] E0 (tCons (tVar 6) (tCons (tCB (rMax2) (tCons (tC (.int 0)) (tCons (tOp (rSubA) (tVar 5) (tC (.int 1))) tNil))) tNil)))))) (tRet (tC (.bl false))) tNext)))))))))) (tSeq (tFor (iRng1 (tCons (tC (.int 256)) tNil)) (gName 8) (tSeq (tAsg (tSl (rSlA K) (tLst (tCons (tVar 8) (tCons (tCall (sp_law_draw K w) [] E0 (tCons (tVar 1) (tCons (tC (.int 256)) tNil))) tNil))) tNoPart (tPart (tOp (rAddA K) (tC (.int 1)) (tCall (sp_law_draw K w) [] E0 (tCons (tVar 1) (tCons (tC (.int 2)) tNil)))))) (gName 3)) (tIfS (tNot (tB (tCall (sp_law_right K w) [] E0 (tCons (tVar 3) (tCons (tC (.int 0)) tNil))))) (tRet (tC (.bl false))) tNext))) (tRet (tC (.bl true))))))
abbrev N_law : List Str := ["_law_script", "_law_spring_here", "_law_turn", "_law_code_here", "_law_handed", "_law_at", "_law_some", "_law_again", "_law_first"]

end Rl
/-! short words: rd goes through a reading as far as it can; hx, sq find what stands in a heap -/
local macro_rules | `(tactic| lcg_sub) => `(tactic| first
  | with_reducible assumption
  | with_reducible exact L2.upd_same
  | ((with_reducible apply Rl.upd_get); (focus (with_reducible assumption)); lcg_sub)
  | ((with_reducible apply Rl.upd_mut); (focus (with_reducible assumption)); lcg_sub)
  | ((with_reducible apply Rl.Fx.at); (focus (with_reducible assumption)); (focus (with_reducible assumption)); lcg_sub))
local macro_rules | `(tactic| lcg_off) => `(tactic| first
  | with_reducible assumption
  | with_reducible exact Rl.same_upd (by with_reducible assumption)
  | with_reducible exact Rl.Same.but (Rl.same_upd (by with_reducible assumption))
  | with_reducible exact Rl.Same.but (by with_reducible assumption))
local macro_rules | `(tactic| k_subL) => `(tactic| first
  | with_reducible assumption
  | with_reducible exact L2.Same.refl _
  | ((with_reducible apply Rl.sm_bmut); k_subL)
  | ((with_reducible apply Rl.sm_new); (focus (with_reducible assumption)); k_subL)
  | ((with_reducible apply Rl.sm_bnew); (focus (with_reducible assumption)); k_subL)
  | ((with_reducible apply Rl.sm_by); (focus (with_reducible assumption)); k_subL)
  | ((with_reducible apply Rl.sm_bby); (focus (with_reducible assumption)); k_subL)
  | ((with_reducible apply Rl.Same.mut); (focus (with_reducible assumption)); k_subL)
  | ((with_reducible apply Rl.Fx.same); (focus (with_reducible assumption)); (focus (with_reducible assumption)); k_subL))
local macro_rules | `(tactic| lcg_src) => `(tactic| first
  | with_reducible assumption
  | ((with_reducible apply L2.SqL.of); lcg_sub; done)
  | ((with_reducible apply L2.SqT.of); lcg_sub; done)
  | ((with_reducible apply Rl.SqL.mono); (focus (lcg_off)); lcg_src)
  | ((with_reducible apply Rl.SqT.mono); (focus (lcg_off)); lcg_src)
  | ((with_reducible apply Rl.Dp.mono); (focus (lcg_off)); lcg_src)
  | ((with_reducible apply Rl.Code.mono); (focus (lcg_off)); lcg_src))
local macro_rules | `(tactic| k_caughtN0) => `(tactic| first
  | assumption
  | (refine Nat.le_trans (m := 1000) (by simp only [List.length_cons, List.length_nil]; omega) (by decide))
  | omega)
local macro_rules | `(tactic| k_caughtB) => `(tactic| first
  | assumption
  | decide
  | omega)
local macro_rules | `(tactic| k_clsL) => `(tactic| first
  | exact Rl.R.cmul1 (by omega) (by omega)
  | exact Rl.R.cmul2 (by omega) (by omega)
  | exact Rl.R.cmul2 (by decide) (by decide)
  | exact Rl.R.cmul1 (by decide) (by decide))
local macro_rules | `(tactic| k_offL) => `(tactic| first
  | exact Rl.R.cdivL (by decide)
  | exact Rl.R.cdiv (by first | assumption | omega) (by first | assumption | omega))
local macro_rules | `(tactic| k_caught0) => `(tactic| repeat (first
  | with_reducible refine Rl.R.var ?_
  | with_reducible refine Rl.R.c ?_
  | with_reducible refine Rl.R.op ?_
  | with_reducible refine Rl.R.cons ?_
  | with_reducible refine Rl.R.nil ?_
  | with_reducible refine Rl.R.asg ?_
  | with_reducible refine Rl.R.gName ?_
  | with_reducible refine Rl.R.seq ?_
  | with_reducible refine Rl.R.cb ?_
  | with_reducible refine Rl.R.test ?_
  | with_reducible refine Rl.R.bl ?_
  | with_reducible refine Rl.R.eqIx ?_
  | with_reducible refine Rl.R.eqI ?_
  | with_reducible refine Rl.R.addI ?_
  | with_reducible refine Rl.R.ifS ?_
  | with_reducible refine Rl.R.next ?_
  | with_reducible refine Rl.R.tB' ?_
  | with_reducible refine Rl.R.ret ?_
  | with_reducible refine Rl.R.iT ?_
  | with_reducible refine Rl.R.iF ?_
  | with_reducible refine Rl.R.iFO ?_
  | with_reducible refine Rl.R.iTO ?_
  | with_reducible refine Rl.R.iTA ?_
  | with_reducible refine Rl.R.iFA ?_
  | ((with_reducible refine Rl.R.iDT ?_ ?_); (focus (exact rfl)))
  | with_reducible refine Rl.R.call ?_
  | with_reducible refine Rl.R.bm ?_
  | with_reducible refine Rl.R.rev ?_
  | ((with_reducible apply Rl.R.tyL); (focus (lcg_sub; done)))
  | with_reducible refine Rl.R.lstRg ?_
  | with_reducible refine Rl.R.rg1 ?_
  | with_reducible refine Rl.R.rg2 ?_
  | with_reducible refine Rl.R.exII ?_
  | with_reducible refine Rl.R.strIter ?_
  | with_reducible refine Rl.R.pairsC ?_
  | with_reducible refine Rl.R.pairsN ?_
  | with_reducible refine Rl.R.dget ?_
  | with_reducible refine Rl.R.inS ?_
  | with_reducible refine Rl.R.app ?_
  | with_reducible refine Rl.R.tup ?_
  | with_reducible refine Rl.R.lst ?_
  | with_reducible refine Rl.R.subI ?_
  | with_reducible refine Rl.R.ltI ?_
  | with_reducible refine Rl.R.leI ?_
  | with_reducible refine Rl.R.gtI ?_
  | with_reducible refine Rl.R.geI ?_
  | with_reducible refine Rl.R.eqSx ?_
  | with_reducible refine Rl.R.eqBx ?_
  | with_reducible refine Rl.R.neBx ?_
  | with_reducible refine Rl.R.neIx ?_
  | with_reducible refine Rl.R.neSx ?_
  | with_reducible refine Rl.R.isNb ?_
  | with_reducible refine Rl.R.isNs ?_
  | with_reducible refine Rl.R.notNb ?_
  | with_reducible refine Rl.R.notNs ?_
  | with_reducible refine Rl.R.eqS ?_
  | with_reducible refine Rl.R.notNr ?_
  | with_reducible refine Rl.R.notNn ?_
  | with_reducible refine Rl.R.notNi ?_
  | with_reducible refine Rl.R.isNr ?_
  | with_reducible refine Rl.R.isNn ?_
  | with_reducible refine Rl.R.isNi ?_
  | with_reducible refine Rl.R.intI ?_
  | with_reducible refine Rl.R.intB ?_
  | with_reducible refine Rl.R.neI ?_
  | with_reducible refine Rl.R.neS ?_
  | with_reducible refine Rl.R.eqB ?_
  | with_reducible refine Rl.R.neB ?_
  | with_reducible refine Rl.R.and3 ?_
  | with_reducible refine Rl.R.shr4 ?_
  | with_reducible refine Rl.R.shr2 ?_
  | with_reducible refine Rl.R.orI ?_
  | with_reducible refine Rl.R.xorI ?_
  | with_reducible refine Rl.R.ifE ?_
  | with_reducible refine Rl.R.par ?_
  | with_reducible refine Rl.R.par3 ?_
  | with_reducible refine Rl.R.ex2 ?_
  | with_reducible refine Rl.R.ex3 ?_
  | with_reducible refine Rl.R.not' ?_
  | with_reducible refine Rl.R.iNot ?_
  | with_reducible refine Rl.R.sl ?_
  | with_reducible refine Rl.R.noPart ?_
  | with_reducible refine Rl.R.part ?_
  | with_reducible refine Rl.R.exI ?_
  | with_reducible refine Rl.R.abs' ?_
  | with_reducible refine Rl.R.min2 ?_
  | with_reducible refine Rl.R.max2 ?_
  | with_reducible refine Rl.R.drop ?_
  | with_reducible refine Rl.R.retN ?_
  | with_reducible refine Rl.R.gSub ?_
  | with_reducible refine Rl.R.for' ?_
  | with_reducible refine Rl.R.seqIter ?_
  | with_reducible refine Rl.R.rng1 ?_
  | with_reducible refine Rl.R.rng2 ?_
  | with_reducible refine Rl.R.aug ?_
  | with_reducible refine Rl.R.ipA ?_
  | with_reducible refine Rl.R.un ?_
  | with_reducible refine Rl.R.neg ?_
  | with_reducible refine Rl.R.tru ?_
  | with_reducible refine Rl.R.yes ?_
  | with_reducible refine Rl.R.andV ?_
  | with_reducible refine Rl.R.orV ?_
  | with_reducible refine Rl.R.notV ?_
  | with_reducible refine Rl.R.isN ?_
  | with_reducible refine Rl.R.notN ?_
  | ((with_reducible refine Rl.R.and15 ?_ ?_); (focus (k_caughtB)))
  | with_reducible refine Rl.R.andI ?_
  | ((with_reducible refine Rl.R.modI ?_ ?_); (focus (k_caughtB)))
  | ((with_reducible refine Rl.R.shrI ?_ ?_); (focus (k_caughtB)))
  | ((with_reducible apply Rl.R.inKDi); (focus assumption))
  | ((with_reducible apply Rl.R.inKDs); (focus assumption))
  | ((with_reducible apply Rl.R.isiD); (focus (lcg_src; done)); (focus (first | exact (rfl : _ = some false) | exact (rfl : _ = some true))))
  | ((with_reducible apply Rl.R.lenLI); (focus (lcg_src; done)))
  | ((with_reducible apply Rl.R.lenTI); (focus (lcg_src; done)))
  | ((with_reducible apply Rl.R.lenL); (focus (lcg_src; done)))
  | ((with_reducible apply Rl.R.lenT); (focus (lcg_src; done)))
  | ((with_reducible apply Rl.R.lenC); (focus (lcg_src; done)))
  | ((with_reducible apply Rl.R.setL); (focus (lcg_sub; done)); (focus (exact rfl)))
  | ((with_reducible apply Rl.R.ixT0); (focus (lcg_src; done)))
  | ((with_reducible apply Rl.R.ixT1); (focus (lcg_src; done)))
  | ((with_reducible apply Rl.R.ixL0); (focus (lcg_src; done)))
  | ((with_reducible apply Rl.R.ixL1); (focus (lcg_src; done)))
  | ((with_reducible apply Rl.R.ixL); (focus (lcg_src; done)); (focus (exact rfl)))
  | ((with_reducible apply Rl.R.ixT); (focus (lcg_src; done)); (focus (exact rfl)))
  | ((with_reducible refine Rl.R.powI ?_ ?_); (focus (exact Rl.R.cpow (by decide))))
  | ((with_reducible refine Rl.R.mulI ?_ ?_); (focus (k_clsL; done)))
  | ((with_reducible refine Rl.R.divI ?_ ?_); (focus (k_offL; done)))
  | ((with_reducible apply Rl.R.andB); (focus (intro QB h; k_caught0; exact h)); (focus (intro hb QB h; k_caught0; exact h)))
  | ((with_reducible apply Rl.R.orB); (focus (intro QB h; k_caught0; exact h)); (focus (intro hb QB h; k_caught0; exact h)))
  | ((with_reducible apply Rl.R.chainB); (focus (intro Q h; k_caught0; exact h)); (focus (intro Q h; k_caught0; exact h)); (focus (intro Q h; k_caught0; exact h)); (focus (intro hb Q h; k_caught0; exact h)); (focus (intro hb Q h; k_caught0; exact h)))))
namespace Rl
open PySem PySem.Spec PyProof.Rows L2
section
variable {K : PySem.W.Frag} {w : World}
theorem fx_mut {r : Addr} {H : Hp} {o : HO} : Fx r H (upd H r o) := sm_bmut (Same.refl _)
theorem pure_law_draw {F : Prop} (_ : F) {vs : List V} {H : Hp} {Q : VK} {E : XK} (h : sp_law_draw K w vs H Q E) : t_law_draw K w { nx := fun _ H' => Q .non H', rt := Q } (start N_law_draw vs) H := by
  obtain ⟨r, m, rfl, ⟨a, b, c, g, a0, b0, b1⟩, m0, m1, q⟩ := h
  unfold t_law_draw
  k_caught0
  refine R.iD (fun h0 => ?_) (fun h0 => ?_)
  · k_caught0
    exact q _ _ fx_mut ⟨a / m, b, c, upd_same, Int.ediv_nonneg a0 (Int.le_of_lt m0), b0, b1⟩ (Int.emod_nonneg _ (by omega)) (Int.emod_lt_of_pos _ m0)
  · k_caught0
    generalize hz : (b * b % 2305843009213693951 + 7919 * (c + 1) * b + 104729) % 2305843009213693951 = z
    have z0 : 0 ≤ z := by rw [← hz]; exact Int.emod_nonneg _ (by decide)
    have z1 : z < 2305843009213693951 := by rw [← hz]; exact Int.emod_lt_of_pos _ (by decide)
    exact q _ _ (fx_mut.trans fx_mut) ⟨a, z, c + 1, upd_same, a0, z0, z1⟩ (Int.emod_nonneg _ (by omega)) (Int.emod_lt_of_pos _ m0)
theorem log_lt {n : Nat} {k : Nat} (h : n < 2 ^ k) : n.log2 < k + 1 := by
  cases n with
  | zero =>
    show Nat.log2 0 < k + 1
    rw [Nat.log2_zero]
    omega
  | succ n => exact Nat.lt_succ_of_lt ((Nat.log2_lt (Nat.succ_ne_zero n)).mpr h)
/-- ten to the sixtieth, i times -/
def tenP (i : Nat) : Nat := 10 ^ (60 * i)
theorem tenP_up (i : Nat) : tenP i ≤ tenP (i + 1) := Nat.pow_le_pow_right (by decide) (by omega)
theorem tenP_succ (i : Nat) : tenP (i + 1) = tenP i * tenP 1 := by
  unfold tenP
  rw [Nat.mul_add, Nat.pow_add]
theorem tenP_log {n i : Nat} (h : n < tenP i) : n.log2 < 4 * (60 * i) + 1 := by
  refine log_lt (Nat.lt_of_lt_of_le h ?_)
  unfold tenP
  rw [Nat.pow_mul 2 4]
  exact Nat.pow_le_pow_left (by decide) _
theorem tenP_one : (10 : Int) ^ (60 : Int).toNat = (tenP 1 : Int) := by decide +kernel
theorem tenP_one_log : ((tenP 1 : Nat) : Int).natAbs.log2 < 1000 := by decide +kernel
theorem tenP_pos : (0 : Int) < (tenP 1 : Int) := by decide +kernel
theorem pure_law_spring {F : Prop} (_ : F) {vs : List V} {H : Hp} {Q : VK} {E : XK} (h : sp_law_spring K w vs H Q E) : t_law_spring K w { nx := fun _ H' => Q .non H', rt := Q } (start N_law_spring vs) H := by
  obtain ⟨s, ns, rfl, hs, hl, q⟩ := h
  unfold t_law_spring
  refine R.seq (R.asg (R.c (R.gName ?_)))
  refine R.seq (R.asg (R.c (R.gName ?_)))
  refine R.seq (R.for' (R.seqIter (R.sl (R.var (R.noPart (R.part (R.c (R.exI ?_)))))))) 
  refine R.slToI hs (by decide) fun l hl2 => ?_
  have s1 : Same H (upd H l (.lst ((ns.take (63 : Int).toNat).map V.int))) := same_upd hl2
  have gl : (upd H l (.lst ((ns.take (63 : Int).toNat).map V.int))) l = some (.lst ((ns.take (63 : Int).toNat).map V.int)) := upd_same
  generalize upd H l (.lst ((ns.take (63 : Int).toNat).map V.int)) = H1 at s1 gl ⊢
  have ht : (ns.take (63 : Int).toNat).length ≤ 63 := by
    rw [List.length_take]
    omega
  refine R.forLI (ns := ns.take (63 : Int).toNat) (fun i σ H' => ∃ (f st : Int) (x : Option V), σ = [some (.ref s), some (.int f), some (.int st), x] ∧ Same H1 H' ∧ 0 ≤ f ∧ f < (tenP i : Int) ∧ 0 ≤ st ∧ st < 2305843009213693951) (SqL.of gl)
    ⟨0, 88651, _, rfl, Same.refl _, Int.le_refl _, by decide, by decide, by decide⟩ (fun i σ H' _ z => by
      obtain ⟨_, _, _, _, z, _⟩ := z
      exact SqL.of (z _ _ gl)) ?_ ?_
  · rintro i c σ H' _ _ hi ⟨f, st, x, rfl, sH, f0, f1, st0, st1⟩
    have i63 : i < 63 := by omega
    refine R.gName ?_
    have up := tenP_up i
    have e60 := tenP_succ i
    refine R.seq (R.joinS (fun σ H' => ∃ f2 : Int, σ = [some (.ref s), some (.int f2), some (.int st), some (.int c)] ∧ Same H1 H' ∧ 0 ≤ f2 ∧ f2 < (tenP (i + 1) : Int)) ?_ fun N key => ?_)
    · rintro σ H2 ⟨f2, rfl, s2, h0, h1⟩
      refine R.asg (R.op (R.op (R.op (R.op (R.var (R.c (R.mulI (R.cmul2 (by decide) (by decide)) ?_)))))))
      refine R.op (R.var (R.c (R.modI (by decide) ?_)))
      refine R.addI (R.c (R.addI (R.c (R.modI (by decide) (R.gName ?_)))))
      exact ⟨f2, _, _, rfl, s2, h0, h1, Int.emod_nonneg _ (by decide), Int.emod_lt_of_pos _ (by decide)⟩
    · refine R.ifS (R.test (R.op (R.cb (R.cons (R.var (R.nil (R.abs' ?_)))))))
      refine R.op (R.c (R.c (R.powI (R.cpow (by decide)) (R.geI (R.bl ?_)))))
      generalize hab : (if c < 0 then -c else c) = ab
      refine R.iD (fun hg => ?_) (fun hg => R.next (key _ _ ⟨f, rfl, sH, f0, by omega⟩))
      refine R.asg (R.op (R.op (R.var (R.op (R.c (R.c (R.powI (R.cpow (by decide)) ?_)))))))
      rw [tenP_one]
      refine R.mulI (.inr ?_) ?_
      · show f.natAbs.log2 + ((tenP 1 : Nat) : Int).natAbs.log2 < 1000000
        have h1 : f.natAbs < tenP i := by omega
        have h2 := tenP_log h1
        have h3 := tenP_one_log
        omega
      refine R.op (R.cb (R.cons (R.var (R.nil (R.abs' ?_)))))
      refine R.op (R.c (R.c (R.powI (R.cpow (by decide)) ?_)))
      rw [hab, tenP_one]
      refine R.modI tenP_pos (R.addI (R.gName ?_))
      have q60 := tenP_pos
      generalize tenP 1 = P at e60 q60 ⊢
      have r0 := Int.emod_nonneg ab (Int.ne_of_gt q60)
      have r1 := Int.emod_lt_of_pos ab q60
      refine key _ _ ⟨_, rfl, sH, Int.add_nonneg (Int.mul_nonneg f0 (Int.le_of_lt q60)) r0, ?_⟩
      rw [e60, Int.natCast_mul]
      have m1 : (f + 1) * (P : Int) ≤ (tenP i : Int) * (P : Int) := Int.mul_le_mul_of_nonneg_right (by omega) (Int.le_of_lt q60)
      rw [Int.add_mul, Int.one_mul] at m1
      exact Int.lt_of_lt_of_le (Int.add_lt_add_left r1 _) m1
  · rintro σ H' ⟨f, st, x, rfl, sH, f0, f1, st0, st1⟩
    refine R.ret (R.lst (R.cons (R.var (R.cons (R.var (R.cons (R.c (R.nil ⟨by k_caughtN0, fun r hr => ?_⟩))))))))
    exact q r _ (s1.trans (sH.trans (same_upd hr))) (s1.free (sH.free hr)) ⟨f, st, 0, upd_same, f0, st0, st1⟩
end
end Rl
namespace Rl
open PySem PySem.Spec PyProof.Rows L2
/-! ## codes of rows, drawn -/
abbrev aloneW : List Str := ["halt", "back", "rest"]
abbrev singleW : List Str := ["in", "out", "keep", "take"]
abbrev targetW : List Str := ["go", "zero", "nonzero", "less", "notless", "call"]
abbrev numbW : List Str := ["set", "testn", "loadn", "storen"]
abbrev someW : List Str := ["set", "copy", "add", "sub", "and", "or", "xor", "test", "testn", "load", "store", "loadn", "storen"]
theorem fin3 : ∀ k : Fin 3, k = 0 ∨ k = 1 ∨ k = 2 := by decide
theorem fin5 : ∀ k : Fin 5, k = 0 ∨ k = 1 ∨ k = 2 ∨ k = 3 ∨ k = 4 := by decide
theorem occ_box : ∀ r : Fin 4, Builtin.Str.occurrences "abcd" (bxN r.val) 0 ("abcd" : Str).length 1 = [r.val] := by decide +kernel
section
variable {K : PySem.W.Frag} {w : World} {H : Hp} {Q : VK} {p : Addr} {wd : Str}
theorem R.boxIx {σ : L2.St} {te : TE} {r : Nat} {Q' : VK} (hr : r < 4) (he : ∀ Q2 : VK, Q2 (.str (bxN r)) H → te σ H Q2) (q : Q' (.int r) H) : tBM K "str" rStrIx (tC (.str "abcd")) (tCons te tNil) σ H Q' :=
  R.bm (R.c (R.tyS (R.cons (he _ (R.nil (R.strIx (occ_box ⟨r, hr⟩) q))))))
theorem lb_alone {j : Nat} (hp : SqT K H p [.str wd]) (hj : aloneW[j]? = some wd) (hn : ∀ m, m < j → aloneW[m]? ≠ some wd) (q : ∀ l H', Same H H' → H l = none → H' l = some (.lst [.int j]) → Q (.ref l) H') : t_law_bytes K w { nx := fun _ H' => Q .non H', rt := Q } (start N_law_bytes [.ref p]) H := by
  unfold t_law_bytes
  refine R.seq (R.asg (R.rw0 hp (R.gName ?_)))
  refine R.seq (R.inY aloneW (List.mem_of_getElem? hj) fun H1 s1 => ?_)
  refine R.ret (R.lst (R.cons (R.ixOf aloneW hj hn fun H2 s2 => R.nil ⟨by k_caughtN0, fun l hl => ?_⟩)))
  exact q l _ ((s1.trans s2).trans (same_upd hl)) ((s1.trans s2).free hl) upd_same
theorem lb_target {j : Nat} {t : Int} (hp : SqT K H p [.str wd, .int t]) (h0 : wd ∉ aloneW) (hj : targetW[j]? = some wd) (hn : ∀ m, m < j → targetW[m]? ≠ some wd) (q : ∀ l H', Same H H' → H l = none → H' l = some (.lst [.int (224 + j), .int t]) → Q (.ref l) H') : t_law_bytes K w { nx := fun _ H' => Q .non H', rt := Q } (start N_law_bytes [.ref p]) H := by
  unfold t_law_bytes
  refine R.seq (R.asg (R.rw0 hp (R.gName ?_)))
  refine R.seq (R.inN aloneW h0 fun H1 s1 => R.next ?_)
  refine R.seq (R.inY targetW (List.mem_of_getElem? hj) fun H2 s2 => ?_)
  refine R.ret (R.lst (R.cons (R.op (R.c (R.ixOf targetW hj hn fun H3 s3 => R.addI ?_)))))
  have s := (s1.trans s2).trans s3
  refine R.cons (R.rw1 (SqT.mono s hp) (R.nil ⟨by k_caughtN0, fun l hl => ?_⟩))
  exact q l _ (s.trans (same_upd hl)) (s.free hl) upd_same
theorem lb_single {j r : Nat} (hp : SqT K H p [.str wd, .str (bxN r)]) (h0 : wd ∉ aloneW) (h1 : wd ∉ targetW) (hj : singleW[j]? = some wd) (hn : ∀ m, m < j → singleW[m]? ≠ some wd) (hr : r < 4) (q : ∀ l H', Same H H' → H l = none → H' l = some (.lst [.int (240 + 4 * (r : Int) + j)]) → Q (.ref l) H') : t_law_bytes K w { nx := fun _ H' => Q .non H', rt := Q } (start N_law_bytes [.ref p]) H := by
  unfold t_law_bytes
  refine R.seq (R.asg (R.rw0 hp (R.gName ?_)))
  refine R.seq (R.inN aloneW h0 fun H1 s1 => R.next ?_)
  refine R.seq (R.inN targetW h1 fun H2 s2 => R.next ?_)
  have hp2 := SqT.mono (s1.trans s2) hp
  refine R.seq (R.asg (R.op (R.c (R.boxIx hr (fun Q2 q2 => R.rw1 hp2 q2) (R.mulI (R.cmul1 (by decide) (by decide)) (R.gName ?_))))))
  refine R.seq (R.inY singleW (List.mem_of_getElem? hj) fun H3 s3 => ?_)
  refine R.ret (R.lst (R.cons (R.op (R.op (R.c (R.var (R.addI ?_)))))))
  refine R.ixOf singleW hj hn fun H4 s4 => R.addI (R.nil ⟨by k_caughtN0, fun l hl => ?_⟩)
  have s := ((s1.trans s2).trans s3).trans s4
  exact q l _ (s.trans (same_upd hl)) (s.free hl) upd_same
theorem lb_first {σ : L2.St} {u : TS} {nx bk ct : L2.St → Hp → Prop} {rt : VK} {j : Nat} {b : Int} {x3 x4 : Option V} (h2 : wd ∉ singleW) (hj : someW[j]? = some wd) (hn : ∀ m, m < j → someW[m]? ≠ some wd) (hs : σ = [some (.ref p), some (.str wd), some (.int b), x3, x4]) {t : TS}
    (q : ∀ l H', Same H H' → u ⟨nx, rt, bk, ct⟩ [some (.ref p), some (.str wd), some (.int b), some (.ref l), some (.int (16 + 16 * (j : Int) + b))] H') :
    tSeq (tIfS (tTest (tOp ((rIn K false)) (tVar 1) (tLst (R.strL singleW)))) t tNext) (tSeq (tAsg (tLst (R.strL someW)) (gName 3)) (tSeq (tAsg (tOp (rAddA K) (tOp (rAddA K) (tC (.int 16)) (tOp (rMulA) (tC (.int 16)) (tBM K "list" (rIndex K) (tVar 3) (tCons (tVar 1) tNil)))) (tVar 2)) (gName 4)) u)) ⟨nx, rt, bk, ct⟩ σ H := by
  subst hs
  refine R.seq (R.inN singleW h2 fun H1 s1 => R.next ?_)
  refine R.seq (R.asg (R.lst (R.strL_ok someW ⟨by decide, fun l hl => R.gName ?_⟩)))
  refine R.seq (R.asg (R.op (R.op (R.c (R.op (R.c (R.bm (R.var (R.tyL upd_same ?_)))))))))
  refine R.cons (R.var (R.nil (R.lstIx (ws := someW) (SqL.of upd_same) hj hn (R.mulI (R.cmul1 (by decide) (by decide)) (R.addI (R.var (R.addI (R.gName ?_))))))))
  exact q l _ (s1.trans (same_upd hl))
theorem lb_numb {j r : Nat} {n : Int} (hp : SqT K H p [.str wd, .str (bxN r), .int n]) (h0 : wd ∉ aloneW) (h1 : wd ∉ targetW) (h2 : wd ∉ singleW) (hj : someW[j]? = some wd) (hn : ∀ m, m < j → someW[m]? ≠ some wd) (h3 : wd ∈ numbW) (hr : r < 4) (q : ∀ l H', Same H H' → H l = none → H' l = some (.lst [.int (16 + 16 * (j : Int) + 4 * (r : Int)), .int n]) → Q (.ref l) H') : t_law_bytes K w { nx := fun _ H' => Q .non H', rt := Q } (start N_law_bytes [.ref p]) H := by
  unfold t_law_bytes
  refine R.seq (R.asg (R.rw0 hp (R.gName ?_)))
  refine R.seq (R.inN aloneW h0 fun H1 s1 => R.next ?_)
  refine R.seq (R.inN targetW h1 fun H2 s2 => R.next ?_)
  have hp2 := SqT.mono (s1.trans s2) hp
  refine R.seq (R.asg (R.op (R.c (R.boxIx hr (fun Q2 q2 => R.rw1 hp2 q2) (R.mulI (R.cmul1 (by decide) (by decide)) (R.gName ?_))))))
  refine lb_first h2 hj hn rfl fun l1 H3 s3 => ?_
  refine R.seq (R.inY numbW h3 fun H4 s4 => ?_)
  have s := ((s1.trans s2).trans s3).trans s4
  refine R.ret (R.lst (R.cons (R.var (R.cons (R.rw2 (SqT.mono s hp) (R.nil ⟨by k_caughtN0, fun l hl => ?_⟩))))))
  exact q l _ (s.trans (same_upd hl)) (s.free hl) upd_same
theorem lb_pair {j r s4 : Nat} (hp : SqT K H p [.str wd, .str (bxN r), .str (bxN s4)]) (h0 : wd ∉ aloneW) (h1 : wd ∉ targetW) (h2 : wd ∉ singleW) (hj : someW[j]? = some wd) (hn : ∀ m, m < j → someW[m]? ≠ some wd) (h3 : wd ∉ numbW) (hr : r < 4) (hs4 : s4 < 4) (q : ∀ l H', Same H H' → H l = none → H' l = some (.lst [.int (16 + 16 * (j : Int) + 4 * (r : Int) + (s4 : Nat))]) → Q (.ref l) H') : t_law_bytes K w { nx := fun _ H' => Q .non H', rt := Q } (start N_law_bytes [.ref p]) H := by
  unfold t_law_bytes
  refine R.seq (R.asg (R.rw0 hp (R.gName ?_)))
  refine R.seq (R.inN aloneW h0 fun H1 s1 => R.next ?_)
  refine R.seq (R.inN targetW h1 fun H2 s2 => R.next ?_)
  have hp2 := SqT.mono (s1.trans s2) hp
  refine R.seq (R.asg (R.op (R.c (R.boxIx hr (fun Q2 q2 => R.rw1 hp2 q2) (R.mulI (R.cmul1 (by decide) (by decide)) (R.gName ?_))))))
  refine lb_first h2 hj hn rfl fun l1 H3 s3 => ?_
  refine R.seq (R.inN numbW h3 fun H4 s4' => R.next ?_)
  have s := ((s1.trans s2).trans s3).trans s4'
  have hp4 := SqT.mono s hp
  refine R.ret (R.lst (R.cons (R.op (R.var (R.boxIx hs4 (fun Q2 q2 => R.rw2 hp4 q2) (R.addI (R.nil ⟨by k_caughtN0, fun l hl => ?_⟩)))))))
  exact q l _ (s.trans (same_upd hl)) (s.free hl) upd_same
end
section
variable {K : PySem.W.Frag} {w : World}
theorem pure_law_bytes {F : Prop} (_ : F) {vs : List V} {H : Hp} {Q : VK} {E : XK} (h : sp_law_bytes K w vs H Q E) : t_law_bytes K w { nx := fun _ H' => Q .non H', rt := Q } (start N_law_bytes vs) H := by
  obtain ⟨p, op, rfl, hp, ok, q⟩ := h
  cases op with
  | halt =>
    exact lb_alone hp (wd := "halt") (j := 0) rfl (fun m hm => absurd hm (Nat.not_lt_zero m)) fun l H2 s2 fl gl => q l H2 s2 fl (by rw [gl]; rfl)
  | back =>
    exact lb_alone hp (wd := "back") (j := 1) rfl (fun m hm => (by decide : ∀ m : Fin 1, aloneW[m.val]? ≠ some ("back" : Str)) ⟨m, hm⟩) fun l H2 s2 fl gl => q l H2 s2 fl (by rw [gl]; rfl)
  | rest =>
    exact lb_alone hp (wd := "rest") (j := 2) rfl (fun m hm => (by decide : ∀ m : Fin 2, aloneW[m.val]? ≠ some ("rest" : Str)) ⟨m, hm⟩) fun l H2 s2 fl gl => q l H2 s2 fl (by rw [gl]; rfl)
  | set r n =>
    exact lb_numb hp (wd := "set") (j := 0) (by decide : ("set" : Str) ∉ aloneW) (by decide : ("set" : Str) ∉ targetW) (by decide : ("set" : Str) ∉ singleW) rfl (fun m hm => absurd hm (Nat.not_lt_zero m)) (by decide : ("set" : Str) ∈ numbW) ok.1 fun l H2 s2 fl gl => q l H2 s2 fl (by
      rw [gl, show 16 + 16 * ((0 : Nat) : Int) + 4 * (r : Int) = 16 + 4 * (r : Int) by omega]
      rfl)
  | testn r n =>
    exact lb_numb hp (wd := "testn") (j := 8) (by decide : ("testn" : Str) ∉ aloneW) (by decide : ("testn" : Str) ∉ targetW) (by decide : ("testn" : Str) ∉ singleW) rfl (fun m hm => (by decide : ∀ m : Fin 8, someW[m.val]? ≠ some ("testn" : Str)) ⟨m, hm⟩) (by decide : ("testn" : Str) ∈ numbW) ok.1 fun l H2 s2 fl gl => q l H2 s2 fl (by
      rw [gl, show 16 + 16 * ((8 : Nat) : Int) + 4 * (r : Int) = 144 + 4 * (r : Int) by omega]
      rfl)
  | loadn r n =>
    exact lb_numb hp (wd := "loadn") (j := 11) (by decide : ("loadn" : Str) ∉ aloneW) (by decide : ("loadn" : Str) ∉ targetW) (by decide : ("loadn" : Str) ∉ singleW) rfl (fun m hm => (by decide : ∀ m : Fin 11, someW[m.val]? ≠ some ("loadn" : Str)) ⟨m, hm⟩) (by decide : ("loadn" : Str) ∈ numbW) ok.1 fun l H2 s2 fl gl => q l H2 s2 fl (by
      rw [gl, show 16 + 16 * ((11 : Nat) : Int) + 4 * (r : Int) = 192 + 4 * (r : Int) by omega]
      rfl)
  | storen r n =>
    exact lb_numb hp (wd := "storen") (j := 12) (by decide : ("storen" : Str) ∉ aloneW) (by decide : ("storen" : Str) ∉ targetW) (by decide : ("storen" : Str) ∉ singleW) rfl (fun m hm => (by decide : ∀ m : Fin 12, someW[m.val]? ≠ some ("storen" : Str)) ⟨m, hm⟩) (by decide : ("storen" : Str) ∈ numbW) ok.1 fun l H2 s2 fl gl => q l H2 s2 fl (by
      rw [gl, show 16 + 16 * ((12 : Nat) : Int) + 4 * (r : Int) = 208 + 4 * (r : Int) by omega]
      rfl)
  | copy r s =>
    exact lb_pair hp (wd := "copy") (j := 1) (by decide : ("copy" : Str) ∉ aloneW) (by decide : ("copy" : Str) ∉ targetW) (by decide : ("copy" : Str) ∉ singleW) rfl (fun m hm => (by decide : ∀ m : Fin 1, someW[m.val]? ≠ some ("copy" : Str)) ⟨m, hm⟩) (by decide : ("copy" : Str) ∉ numbW) ok.1 ok.2 fun l H2 s2 fl gl => q l H2 s2 fl (by
      rw [gl, show 16 + 16 * ((1 : Nat) : Int) + 4 * (r : Int) + ((s : Nat) : Int) = 32 + 4 * (r : Int) + (s : Int) by omega]
      rfl)
  | test r s =>
    exact lb_pair hp (wd := "test") (j := 7) (by decide : ("test" : Str) ∉ aloneW) (by decide : ("test" : Str) ∉ targetW) (by decide : ("test" : Str) ∉ singleW) rfl (fun m hm => (by decide : ∀ m : Fin 7, someW[m.val]? ≠ some ("test" : Str)) ⟨m, hm⟩) (by decide : ("test" : Str) ∉ numbW) ok.1 ok.2 fun l H2 s2 fl gl => q l H2 s2 fl (by
      rw [gl, show 16 + 16 * ((7 : Nat) : Int) + 4 * (r : Int) + ((s : Nat) : Int) = 128 + 4 * (r : Int) + (s : Int) by omega]
      rfl)
  | load r s =>
    exact lb_pair hp (wd := "load") (j := 9) (by decide : ("load" : Str) ∉ aloneW) (by decide : ("load" : Str) ∉ targetW) (by decide : ("load" : Str) ∉ singleW) rfl (fun m hm => (by decide : ∀ m : Fin 9, someW[m.val]? ≠ some ("load" : Str)) ⟨m, hm⟩) (by decide : ("load" : Str) ∉ numbW) ok.1 ok.2 fun l H2 s2 fl gl => q l H2 s2 fl (by
      rw [gl, show 16 + 16 * ((9 : Nat) : Int) + 4 * (r : Int) + ((s : Nat) : Int) = 160 + 4 * (r : Int) + (s : Int) by omega]
      rfl)
  | store r s =>
    exact lb_pair hp (wd := "store") (j := 10) (by decide : ("store" : Str) ∉ aloneW) (by decide : ("store" : Str) ∉ targetW) (by decide : ("store" : Str) ∉ singleW) rfl (fun m hm => (by decide : ∀ m : Fin 10, someW[m.val]? ≠ some ("store" : Str)) ⟨m, hm⟩) (by decide : ("store" : Str) ∉ numbW) ok.1 ok.2 fun l H2 s2 fl gl => q l H2 s2 fl (by
      rw [gl, show 16 + 16 * ((10 : Nat) : Int) + 4 * (r : Int) + ((s : Nat) : Int) = 176 + 4 * (r : Int) + (s : Int) by omega]
      rfl)
  | sum a2 r s =>
    cases a2
    ·
      exact lb_pair hp (wd := "sub") (j := 3) (by decide : ("sub" : Str) ∉ aloneW) (by decide : ("sub" : Str) ∉ targetW) (by decide : ("sub" : Str) ∉ singleW) rfl (fun m hm => (by decide : ∀ m : Fin 3, someW[m.val]? ≠ some ("sub" : Str)) ⟨m, hm⟩) (by decide : ("sub" : Str) ∉ numbW) ok.1 ok.2 fun l H2 s2 fl gl => q l H2 s2 fl (by
        rw [gl, show 16 + 16 * ((3 : Nat) : Int) + 4 * (r : Int) + ((s : Nat) : Int) = 64 + 4 * (r : Int) + (s : Int) by omega]
        rfl)
    ·
      exact lb_pair hp (wd := "add") (j := 2) (by decide : ("add" : Str) ∉ aloneW) (by decide : ("add" : Str) ∉ targetW) (by decide : ("add" : Str) ∉ singleW) rfl (fun m hm => (by decide : ∀ m : Fin 2, someW[m.val]? ≠ some ("add" : Str)) ⟨m, hm⟩) (by decide : ("add" : Str) ∉ numbW) ok.1 ok.2 fun l H2 s2 fl gl => q l H2 s2 fl (by
        rw [gl, show 16 + 16 * ((2 : Nat) : Int) + 4 * (r : Int) + ((s : Nat) : Int) = 48 + 4 * (r : Int) + (s : Int) by omega]
        rfl)
  | bits k r s =>
    rcases fin3 k with rfl | rfl | rfl
    ·
      exact lb_pair hp (wd := "and") (j := 4) (by decide : ("and" : Str) ∉ aloneW) (by decide : ("and" : Str) ∉ targetW) (by decide : ("and" : Str) ∉ singleW) rfl (fun m hm => (by decide : ∀ m : Fin 4, someW[m.val]? ≠ some ("and" : Str)) ⟨m, hm⟩) (by decide : ("and" : Str) ∉ numbW) ok.1 ok.2 fun l H2 s2 fl gl => q l H2 s2 fl (by
        rw [gl, show 16 + 16 * ((4 : Nat) : Int) + 4 * (r : Int) + ((s : Nat) : Int) = 80 + 16 * ((0 : Nat) : Int) + 4 * (r : Int) + (s : Int) by omega]
        rfl)
    ·
      exact lb_pair hp (wd := "or") (j := 5) (by decide : ("or" : Str) ∉ aloneW) (by decide : ("or" : Str) ∉ targetW) (by decide : ("or" : Str) ∉ singleW) rfl (fun m hm => (by decide : ∀ m : Fin 5, someW[m.val]? ≠ some ("or" : Str)) ⟨m, hm⟩) (by decide : ("or" : Str) ∉ numbW) ok.1 ok.2 fun l H2 s2 fl gl => q l H2 s2 fl (by
        rw [gl, show 16 + 16 * ((5 : Nat) : Int) + 4 * (r : Int) + ((s : Nat) : Int) = 80 + 16 * ((1 : Nat) : Int) + 4 * (r : Int) + (s : Int) by omega]
        rfl)
    ·
      exact lb_pair hp (wd := "xor") (j := 6) (by decide : ("xor" : Str) ∉ aloneW) (by decide : ("xor" : Str) ∉ targetW) (by decide : ("xor" : Str) ∉ singleW) rfl (fun m hm => (by decide : ∀ m : Fin 6, someW[m.val]? ≠ some ("xor" : Str)) ⟨m, hm⟩) (by decide : ("xor" : Str) ∉ numbW) ok.1 ok.2 fun l H2 s2 fl gl => q l H2 s2 fl (by
        rw [gl, show 16 + 16 * ((6 : Nat) : Int) + 4 * (r : Int) + ((s : Nat) : Int) = 80 + 16 * ((2 : Nat) : Int) + 4 * (r : Int) + (s : Int) by omega]
        rfl)
  | go k t =>
    rcases fin5 k with rfl | rfl | rfl | rfl | rfl
    ·
      exact lb_target hp (wd := "go") (j := 0) (by decide : ("go" : Str) ∉ aloneW) rfl (fun m hm => absurd hm (Nat.not_lt_zero m)) fun l H2 s2 fl gl => q l H2 s2 fl (by rw [gl]; rfl)
    ·
      exact lb_target hp (wd := "zero") (j := 1) (by decide : ("zero" : Str) ∉ aloneW) rfl (fun m hm => (by decide : ∀ m : Fin 1, targetW[m.val]? ≠ some ("zero" : Str)) ⟨m, hm⟩) fun l H2 s2 fl gl => q l H2 s2 fl (by rw [gl]; rfl)
    ·
      exact lb_target hp (wd := "nonzero") (j := 2) (by decide : ("nonzero" : Str) ∉ aloneW) rfl (fun m hm => (by decide : ∀ m : Fin 2, targetW[m.val]? ≠ some ("nonzero" : Str)) ⟨m, hm⟩) fun l H2 s2 fl gl => q l H2 s2 fl (by rw [gl]; rfl)
    ·
      exact lb_target hp (wd := "less") (j := 3) (by decide : ("less" : Str) ∉ aloneW) rfl (fun m hm => (by decide : ∀ m : Fin 3, targetW[m.val]? ≠ some ("less" : Str)) ⟨m, hm⟩) fun l H2 s2 fl gl => q l H2 s2 fl (by rw [gl]; rfl)
    ·
      exact lb_target hp (wd := "notless") (j := 4) (by decide : ("notless" : Str) ∉ aloneW) rfl (fun m hm => (by decide : ∀ m : Fin 4, targetW[m.val]? ≠ some ("notless" : Str)) ⟨m, hm⟩) fun l H2 s2 fl gl => q l H2 s2 fl (by rw [gl]; rfl)
  | call t =>
    exact lb_target hp (wd := "call") (j := 5) (by decide : ("call" : Str) ∉ aloneW) rfl (fun m hm => (by decide : ∀ m : Fin 5, targetW[m.val]? ≠ some ("call" : Str)) ⟨m, hm⟩) fun l H2 s2 fl gl => q l H2 s2 fl (by rw [gl]; rfl)
  | inn r =>
    exact lb_single hp (wd := "in") (j := 0) (by decide : ("in" : Str) ∉ aloneW) (by decide : ("in" : Str) ∉ targetW) rfl (fun m hm => absurd hm (Nat.not_lt_zero m)) ok fun l H2 s2 fl gl => q l H2 s2 fl (by
      rw [gl, show 240 + 4 * (r : Int) + ((0 : Nat) : Int) = 240 + 4 * (r : Int) by omega]
      rfl)
  | out r =>
    exact lb_single hp (wd := "out") (j := 1) (by decide : ("out" : Str) ∉ aloneW) (by decide : ("out" : Str) ∉ targetW) rfl (fun m hm => (by decide : ∀ m : Fin 1, singleW[m.val]? ≠ some ("out" : Str)) ⟨m, hm⟩) ok fun l H2 s2 fl gl => q l H2 s2 fl (by
      rw [gl, show 240 + 4 * (r : Int) + ((1 : Nat) : Int) = 241 + 4 * (r : Int) by omega]
      rfl)
  | keep r =>
    exact lb_single hp (wd := "keep") (j := 2) (by decide : ("keep" : Str) ∉ aloneW) (by decide : ("keep" : Str) ∉ targetW) rfl (fun m hm => (by decide : ∀ m : Fin 2, singleW[m.val]? ≠ some ("keep" : Str)) ⟨m, hm⟩) ok fun l H2 s2 fl gl => q l H2 s2 fl (by
      rw [gl, show 240 + 4 * (r : Int) + ((2 : Nat) : Int) = 242 + 4 * (r : Int) by omega]
      rfl)
  | take r =>
    exact lb_single hp (wd := "take") (j := 3) (by decide : ("take" : Str) ∉ aloneW) (by decide : ("take" : Str) ∉ targetW) rfl (fun m hm => (by decide : ∀ m : Fin 3, singleW[m.val]? ≠ some ("take" : Str)) ⟨m, hm⟩) ok fun l H2 s2 fl gl => q l H2 s2 fl (by
      rw [gl, show 240 + 4 * (r : Int) + ((3 : Nat) : Int) = 243 + 4 * (r : Int) by omega]
      rfl)
end
end Rl
namespace Rl
open PySem PySem.Spec PyProof.Rows L2
/-! ## codes of rows, drawn: rows, laid, the code -/
abbrev pairW : List Str := ["copy", "add", "sub", "and", "or", "xor", "test", "load", "store"]
theorem numb_op {i : Nat} {x : Str} {r : Nat} {n : Int} (h : numbW[i]? = some x) (hr : r < 4) (hn : 0 ≤ n ∧ n < 256) : ∃ op : Op, op.vals = [.str x, .str (bxN r), .int n] ∧ op.Ok := by
  match i, h with
  | 0, rfl => exact ⟨.set r n, rfl, hr, hn⟩
  | 1, rfl => exact ⟨.testn r n, rfl, hr, hn⟩
  | 2, rfl => exact ⟨.loadn r n, rfl, hr, hn⟩
  | 3, rfl => exact ⟨.storen r n, rfl, hr, hn⟩
theorem pair_op {i : Nat} {x : Str} {r s : Nat} (h : pairW[i]? = some x) (hr : r < 4) (hs : s < 4) : ∃ op : Op, op.vals = [.str x, .str (bxN r), .str (bxN s)] ∧ op.Ok := by
  match i, h with
  | 0, rfl => exact ⟨.copy r s, rfl, hr, hs⟩
  | 1, rfl => exact ⟨.sum true r s, rfl, hr, hs⟩
  | 2, rfl => exact ⟨.sum false r s, rfl, hr, hs⟩
  | 3, rfl => exact ⟨.bits 0 r s, rfl, hr, hs⟩
  | 4, rfl => exact ⟨.bits 1 r s, rfl, hr, hs⟩
  | 5, rfl => exact ⟨.bits 2 r s, rfl, hr, hs⟩
  | 6, rfl => exact ⟨.test r s, rfl, hr, hs⟩
  | 7, rfl => exact ⟨.load r s, rfl, hr, hs⟩
  | 8, rfl => exact ⟨.store r s, rfl, hr, hs⟩
theorem target_op {i : Nat} {x : Str} {t : Int} (h : targetW[i]? = some x) (ht : 0 ≤ t ∧ t < 256) : ∃ op : Op, op.vals = [.str x, .int t] ∧ op.Ok := by
  match i, h with
  | 0, rfl => exact ⟨.go 0 t, rfl, ht⟩
  | 1, rfl => exact ⟨.go 1 t, rfl, ht⟩
  | 2, rfl => exact ⟨.go 2 t, rfl, ht⟩
  | 3, rfl => exact ⟨.go 3 t, rfl, ht⟩
  | 4, rfl => exact ⟨.go 4 t, rfl, ht⟩
  | 5, rfl => exact ⟨.call t, rfl, ht⟩
theorem single_op {i : Nat} {x : Str} {r : Nat} (h : singleW[i]? = some x) (hr : r < 4) : ∃ op : Op, op.vals = [.str x, .str (bxN r)] ∧ op.Ok := by
  match i, h with
  | 0, rfl => exact ⟨.inn r, rfl, hr⟩
  | 1, rfl => exact ⟨.out r, rfl, hr⟩
  | 2, rfl => exact ⟨.keep r, rfl, hr⟩
  | 3, rfl => exact ⟨.take r, rfl, hr⟩
theorem alone_op {i : Nat} {x : Str} (h : aloneW[i]? = some x) : ∃ op : Op, op.vals = [.str x] ∧ op.Ok := by
  match i, h with
  | 0, rfl => exact ⟨.halt, rfl, trivial⟩
  | 1, rfl => exact ⟨.back, rfl, trivial⟩
  | 2, rfl => exact ⟨.rest, rfl, trivial⟩
/-- a row that goes elsewhere, or none -/
theorem op_kind : ∀ op : Op, op.Ok → (∃ (w : Str) (t : Int), op.vals = [.str w, .int t] ∧ ∀ t' : Int, 0 ≤ t' ∧ t' < 256 → ∃ op' : Op, op'.vals = [.str w, .int t'] ∧ op'.Ok) ∨ (∃ w x : Str, op.vals = [.str w, .str x]) ∨ op.vals.length ≠ 2
  | .go k t, _ => .inl ⟨goW k, t, rfl, fun t' h => ⟨.go k t', rfl, h⟩⟩
  | .call t, _ => .inl ⟨"call", t, rfl, fun t' h => ⟨.call t', rfl, h⟩⟩
  | .inn r, _ => .inr (.inl ⟨"in", bxN r, rfl⟩)
  | .out r, _ => .inr (.inl ⟨"out", bxN r, rfl⟩)
  | .keep r, _ => .inr (.inl ⟨"keep", bxN r, rfl⟩)
  | .take r, _ => .inr (.inl ⟨"take", bxN r, rfl⟩)
  | .halt, _ => .inr (.inr (by intro h; cases h))
  | .back, _ => .inr (.inr (by intro h; cases h))
  | .rest, _ => .inr (.inr (by intro h; cases h))
  | .set .., _ => .inr (.inr (by intro h; cases h))
  | .copy .., _ => .inr (.inr (by intro h; cases h))
  | .sum .., _ => .inr (.inr (by intro h; cases h))
  | .bits .., _ => .inr (.inr (by intro h; cases h))
  | .test .., _ => .inr (.inr (by intro h; cases h))
  | .testn .., _ => .inr (.inr (by intro h; cases h))
  | .load .., _ => .inr (.inr (by intro h; cases h))
  | .loadn .., _ => .inr (.inr (by intro h; cases h))
  | .store .., _ => .inr (.inr (by intro h; cases h))
  | .storen .., _ => .inr (.inr (by intro h; cases h))
theorem bytes_by : ∀ op : Op, op.Ok → By op.bytes ∧ op.bytes.length ≤ 2 := fun op h => by
  refine ⟨fun x hx => ?_, ?_⟩
  · cases op <;> simp only [Op.bytes, Op.fst, Op.snd, Op.Ok, List.mem_cons, List.not_mem_nil, or_false] at hx h <;> first
      | omega
      | (rename_i a _ _; cases a <;> simp at hx <;> omega)
      | (rename_i k _ _; have := k.isLt; omega)
      | (rename_i k _; have := k.isLt; omega)
  · cases op <;> simp only [Op.bytes, Op.snd, List.length_cons, List.length_nil] <;> omega
section
variable {K : PySem.W.Frag} {w : World}
theorem R.abcd {H : Hp} {Q : VK} {i : Int} (h0 : 0 ≤ i) (h4 : i < 4) (q : Q (.str (bxN i.toNat)) H) : rIx K (.str "abcd") (.int i) H Q := by
  obtain rfl | rfl | rfl | rfl : i = 0 ∨ i = 1 ∨ i = 2 ∨ i = 3 := by omega
  · exact R.ixS (k := 97) (by decide) (by decide +kernel) q
  · exact R.ixS (k := 98) (by decide) (by decide +kernel) q
  · exact R.ixS (k := 99) (by decide) (by decide +kernel) q
  · exact R.ixS (k := 100) (by decide) (by decide +kernel) q
theorem R.wordAt {H : Hp} {Q : VK} {p : Addr} {i : Int} {ws : List Str} (h : SqL K H p (ws.map V.str)) (h0 : 0 ≤ i) (h1 : i < ws.length) (q : ∀ x, ws[i.toNat]? = some x → Q (.str x) H) : rIx K (.ref p) (.int i) H Q := by
  refine R.ixLV h h0 (by rw [List.length_map]; exact h1) fun m hm _ => ?_
  rw [List.getElem?_map] at hm
  cases e : ws[i.toNat]? with
  | none =>
    rw [e] at hm
    cases hm
  | some x =>
    rw [e] at hm
    obtain rfl : V.str x = m := Option.some.inj hm
    exact q x e
/-- a word of a written list, drawn -/
theorem R.wordDraw {σ : L2.St} {H : Hp} {Q : VK} {r : Addr} (ws : List Str) {k : Int} (hS : Spr H r) (hk : (ws.length : Int) = k) (h0 : 0 < k) (h1 : k < 1000) (q : ∀ (H' : Hp) (i : Nat) (x : Str), Fx r H H' → Spr H' r → ws[i]? = some x → Q (.str x) H') (hs : σ[0]? = some (some (.ref r)) := by with_unfolding_all rfl) :
    tOp (rIx K) (tLst (R.strL ws)) (tCall (sp_law_draw K w) [] E0 (tCons (tVar 0) (tCons (tC (.int k)) tNil))) σ H Q := by
  refine R.op (R.lst (R.strL_ok ws ⟨by rw [List.length_map]; exact Nat.le_trans (m := 1000) (by omega) (by decide), fun l hl => ?_⟩))
  refine R.call (R.cons (R.var (R.cons (R.c (R.nil ?_))) hs))
  refine ⟨r, k, rfl, hS.keep (same_upd hl), h0, by omega, fun n H2 f2 S2 n0 n1 => ?_⟩
  refine R.wordAt (SqL.of (f2.at (hS.ne hl) upd_same)) n0 (by omega) fun x hx => ?_
  exact q H2 _ x (Fx.trans (Same.but (same_upd hl)) f2) S2 hx
theorem row_new {H : Hp} {r p : Addr} {op : Op} {xs : List V} (hS : Spr H r) (hp : H p = none) (e : op.vals = xs) (ok : op.Ok) : RowV (upd H p (.tup xs)) r (.ref p) := ⟨p, op, rfl, hS.ne hp, by rw [e]; exact upd_same, ok⟩
theorem pure_law_drawn_row {F : Prop} (_ : F) {vs : List V} {H : Hp} {Q : VK} {E : XK} (h : sp_law_drawn_row K w vs H Q E) : t_law_drawn_row K w { nx := fun _ H' => Q .non H', rt := Q } (start N_law_drawn_row vs) H := by
  obtain ⟨r, rfl, hS, q⟩ := h
  unfold t_law_drawn_row
  refine R.seq (R.par (R.cons (R.op (R.c (R.call (R.cons (R.var (R.cons (R.c (R.nil ?_)))))))))) 
  refine ⟨r, 4, rfl, hS, by decide, by decide, fun a H1 f1 S1 a0 a1 => R.abcd a0 a1 ?_⟩
  refine R.cons (R.op (R.c (R.call (R.cons (R.var (R.cons (R.c (R.nil ?_))))))))
  refine ⟨r, 4, rfl, S1, by decide, by decide, fun b H2 f2 S2 b0 b1 => R.abcd b0 b1 ?_⟩
  refine R.nil (R.ex2 ?_)
  have ra : a.toNat < 4 := by omega
  have rb : b.toNat < 4 := by omega
  refine R.seq (R.asg (R.op (R.lst (R.cons (R.call (R.cons (R.var (R.cons (R.c (R.nil ?_)))))))))) 
  refine ⟨r, 4, rfl, S2, by decide, by decide, fun c H3 f3 S3 c0 c1 => ?_⟩
  refine R.cons (R.call (R.cons (R.var (R.cons (R.c (R.nil ?_))))))
  refine ⟨r, 256, rfl, S3, by decide, by decide, fun d H4 f4 S4 d0 d1 => ?_⟩
  refine R.cons (R.op (R.c (R.call (R.cons (R.var (R.cons (R.c (R.nil ?_))))))))
  refine ⟨r, 3, rfl, S4, by decide, by decide, fun e H5 f5 S5 e0 e1 => R.subI (R.nil ⟨by k_caughtN0, fun l hl => ?_⟩)⟩
  refine R.call (R.cons (R.var (R.cons (R.c (R.nil ?_)))))
  refine ⟨r, 3, rfl, S5.keep (same_upd hl), by decide, by decide, fun g H6 f6 S6 g0 g1 => ?_⟩
  refine R.ixLI (ns := [c, d, 255 - e]) (SqL.of (f6.at (S5.ne hl) upd_same)) g0 g1 ?_
  intro n _ hn
  have hn2 : 0 ≤ n ∧ n < 256 := by
    simp at hn
    omega
  have F6 : Fx r H H6 := f1.trans (f2.trans (f3.trans (f4.trans (f5.trans (Fx.trans (Same.but (same_upd hl)) f6)))))
  clear f1 f2 f3 f4 f5 f6 hl hn S1 S2 S3 S4 S5
  refine R.gName ?_
  refine R.seq (R.asg (R.call (R.cons (R.var (R.cons (R.c (R.nil ?_)))))))
  refine ⟨r, 12, rfl, S6, by decide, by decide, fun pick H7 f7 S7 p0 p1 => R.gName ?_⟩
  have F7 := F6.trans f7
  refine R.seq (R.ifS (R.test (R.op (R.var (R.c (R.ltI (R.bl (R.iD (fun _ => ?_) (fun _ => R.next ?_)))))))))
  · refine R.ret (R.tup (R.cons (R.wordDraw numbW S7 rfl (by decide) (by decide) fun H8 i x f8 S8 hx => ?_)))
    obtain ⟨op, ev, ok⟩ := numb_op hx ra hn2
    refine R.cons (R.var (R.cons (R.var (R.nil ⟨by k_caughtN0, fun p hp => ?_⟩))))
    exact q _ _ (F7.trans (f8.trans (Same.but (same_upd hp)))) (S8.keep (same_upd hp)) (row_new S8 hp ev ok)
  refine R.seq (R.ifS (R.test (R.op (R.var (R.c (R.ltI (R.bl (R.iD (fun _ => ?_) (fun _ => R.next ?_)))))))))
  · refine R.seq (R.asg (R.lst (R.strL_ok pairW ⟨by decide, fun l hl => R.gName ?_⟩)))
    refine R.ret (R.tup (R.cons (R.op (R.var (R.call (R.cons (R.var (R.cons (R.c (R.nil ?_)))))))))) 
    refine ⟨r, 9, rfl, S7.keep (same_upd hl), by decide, by decide, fun i H8 f8 S8 i0 i1 => ?_⟩
    refine R.wordAt (ws := pairW) (SqL.of (f8.at (S7.ne hl) upd_same)) i0 i1 fun x hx => ?_
    obtain ⟨op, ev, ok⟩ := pair_op hx ra rb
    refine R.cons (R.var (R.cons (R.var (R.nil ⟨by k_caughtN0, fun p hp => ?_⟩))))
    exact q _ _ (F7.trans (Fx.trans (Same.but (same_upd hl)) (f8.trans (Same.but (same_upd hp))))) (S8.keep (same_upd hp)) (row_new S8 hp ev ok)
  refine R.seq (R.ifS (R.test (R.op (R.var (R.c (R.ltI (R.bl (R.iD (fun _ => ?_) (fun _ => R.next ?_)))))))))
  · refine R.ret (R.tup (R.cons (R.wordDraw targetW S7 rfl (by decide) (by decide) fun H8 i x f8 S8 hx => ?_)))
    obtain ⟨op, ev, ok⟩ := target_op (t := 0) hx (by decide)
    refine R.cons (R.c (R.nil ⟨by k_caughtN0, fun p hp => ?_⟩))
    exact q _ _ (F7.trans (f8.trans (Same.but (same_upd hp)))) (S8.keep (same_upd hp)) (row_new S8 hp ev ok)
  refine R.seq (R.ifS (R.test (R.op (R.var (R.c (R.ltI (R.bl (R.iD (fun _ => ?_) (fun _ => R.next ?_)))))))))
  · refine R.ret (R.tup (R.cons (R.wordDraw singleW S7 rfl (by decide) (by decide) fun H8 i x f8 S8 hx => ?_)))
    obtain ⟨op, ev, ok⟩ := single_op hx ra
    refine R.cons (R.var (R.nil ⟨by k_caughtN0, fun p hp => ?_⟩))
    exact q _ _ (F7.trans (f8.trans (Same.but (same_upd hp)))) (S8.keep (same_upd hp)) (row_new S8 hp ev ok)
  · refine R.ret (R.tup (R.cons (R.wordDraw aloneW S7 rfl (by decide) (by decide) fun H8 i x f8 S8 hx => ?_)))
    obtain ⟨op, ev, ok⟩ := alone_op hx
    refine R.nil ⟨by k_caughtN0, fun p hp => ?_⟩
    exact q _ _ (F7.trans (f8.trans (Same.but (same_upd hp)))) (S8.keep (same_upd hp)) (row_new S8 hp ev ok)
end
end Rl
namespace Rl
open PySem PySem.Spec PyProof.Rows L2
section
variable {K : PySem.W.Frag} {w : World}
theorem By.appS {a b : List Int} (h : By a) (g : By b) : By (a ++ b) := fun n hn => (List.mem_append.mp hn).elim (h n) (g n)
/-- [.. for k in range(n)], each drawn: a new list -/
theorem lcS {σ : L2.St} {H : Hp} {Q : VK} {te : TE} {j : Nat} {lo : Int} {m : Nat} {r : Addr} (P : Hp → V → Prop) (Pfx : ∀ H H' v, P H v → Fx r H H' → P H' v) (Pmut : ∀ H D v xs o, P H v → H D = some (.lst xs) → P (upd H D o) v)
    (hS : Spr H r) (hm : m < 1000) (hw : ∀ x, wipe ((wipe σ [j]).set j (some x)) [j] = wipe σ [j])
    (he : ∀ i H', i < m → Spr H' r → ∀ Q' : VK, (∀ v H'', Fx r H' H'' → Spr H'' r → P H'' v → Q' v H'') → te ((wipe σ [j]).set j (some (.int (lo + (i : Nat))))) H' Q')
    (q : ∀ D H' vs, H D = none → D ≠ r → Fx r H H' → Spr H' r → H' D = some (.lst vs) → vs.length = m → (∀ v ∈ vs, P H' v) → Q (.ref D) H') : ∀ D, H D = none → R.LcLoop (Itr lo m) (L2.gName j) tYes te [j] σ D H Q := by
  intro D hD
  have nD : D ≠ r := hS.ne hD
  refine R.lcI walk_range (fun i H' => ∃ vs : List V, Fx r H H' ∧ Spr H' r ∧ H' D = some (.lst vs) ∧ vs.length = i ∧ ∀ v ∈ vs, P H' v) ⟨[], Same.but (same_upd hD), hS.keep (same_upd hD), upd_same, rfl, fun _ z => (nomatch z)⟩ (fun _ _ _ _ => True.intro) ?_ ?_
  · rintro i x H1 H' hi ⟨vs, f1, S1, gD, hl, hP⟩ ⟨rfl, rfl⟩
    refine ⟨hw _, R.yes (iteT ?_)⟩
    refine he i _ hi S1 _ fun v H2 f2 S2 p2 => ?_
    have g2 := f2.at nD gD
    refine ⟨vs, g2, Nat.lt_of_le_of_lt (m := 1000) (by omega) (by decide), vs ++ [v], Fx.mutN hD (f1.trans f2), S2.mut nD, upd_same, by rw [List.length_append, hl]; rfl, fun y hy => ?_⟩
    rcases List.mem_append.mp hy with z | z
    · exact Pmut _ _ _ _ _ (Pfx _ _ _ (hP y z) f2) g2
    · rw [List.mem_singleton.mp z]
      exact Pmut _ _ _ _ _ p2 g2
  · rintro H' ⟨vs, f1, S1, gD, hl, hP⟩
    exact q D H' vs hD nD f1 S1 gD hl hP
theorem ints_of {vs : List V} (h : ∀ v ∈ vs, ∃ n : Int, v = .int n ∧ 0 ≤ n ∧ n < 256) : ∃ ds : List Int, vs = ds.map V.int ∧ By ds := by
  induction vs with
  | nil => exact ⟨[], rfl, fun _ z => (nomatch z)⟩
  | cons v vs ih =>
    obtain ⟨n, rfl, n0, n1⟩ := h v (List.mem_cons_self ..)
    obtain ⟨ds, rfl, hb⟩ := ih fun y hy => h y (List.mem_cons_of_mem _ hy)
    exact ⟨n :: ds, rfl, fun x hx => (List.mem_cons.mp hx).elim (fun z => z ▸ ⟨n0, n1⟩) (hb x)⟩
theorem pure_law_laid {F : Prop} (_ : F) {vs : List V} {H : Hp} {Q : VK} {E : XK} (h : sp_law_laid K w vs H Q E) : t_law_laid K w { nx := fun _ H' => Q .non H', rt := Q } (start N_law_laid vs) H := by
  obtain ⟨r, l, xs, rfl, hS, nl, gl, hx, h1, h100, q⟩ := h
  unfold t_law_laid
  refine R.seq (R.asg (R.lst (R.nil ⟨by k_caughtN0, fun st hst => R.gName ?_⟩)))
  have nst : st ≠ r := hS.ne hst
  have nlst : l ≠ st := fun z => by rw [← z, gl] at hst; cases hst
  refine R.seq (R.asg (R.c (R.gName ?_)))
  refine R.seq (R.for' (R.seqIter (R.var ?_)))
  refine R.forL (xs := xs) (fun i σ H' => ∃ (far : Int) (ss : List Int) (v4 : Option V), σ = [some (.ref r), some (.ref l), some (.ref st), some (.int far), v4, none, none] ∧ Fx r H H' ∧ Spr H' r ∧ H' l = some (.lst xs) ∧ H' st = some (.lst (ss.map V.int)) ∧ 0 ≤ far ∧ far ≤ 2 * i ∧ ss.length = i ∧ (∀ s ∈ ss, 0 ≤ s ∧ s ≤ 2 * i) ∧ ∀ v ∈ xs, RowV H' r v)
    (SqL.of (upd_get hst gl)) ⟨0, [], _, rfl, Same.but (same_upd hst), hS.keep (same_upd hst), upd_get hst gl, upd_same, Int.le_refl _, by decide, rfl, fun _ z => (nomatch z), fun v hv => (hx v hv).same (same_upd hst)⟩ (fun i σ H' _ z => by
      obtain ⟨_, _, _, _, _, _, z, _⟩ := z
      exact SqL.of z) ?_ ?_
  · rintro i x σ H1 hxi hi ⟨far, ss, v4, rfl, f1, S1, gl1, gs1, far0, far1, hsl, hss, hr1⟩
    obtain ⟨p, op, rfl, np, gp, ok⟩ := hr1 x (List.mem_of_getElem? hxi)
    have npst : p ≠ st := fun z => by rw [z, gs1] at gp; cases gp
    refine R.gName ?_
    refine R.seq (R.drop (R.bm (R.var (R.tyL gs1 (R.cons (R.var (R.nil (R.appendI gs1 (Nat.lt_of_le_of_lt (m := 100) (by omega) (by decide)) ?_))))))))
    have S2 : Spr (upd H1 st (.lst ((ss ++ [far]).map V.int))) r := S1.mut nst
    have f2 : Fx r H (upd H1 st (.lst ((ss ++ [far]).map V.int))) := Fx.mutN hst f1
    have gl2 : (upd H1 st (.lst ((ss ++ [far]).map V.int))) l = some (.lst xs) := upd_mut nlst gl1
    have gs2 : (upd H1 st (.lst ((ss ++ [far]).map V.int))) st = some _ := upd_same
    have gp2 : (upd H1 st (.lst ((ss ++ [far]).map V.int))) p = some (.tup op.vals) := upd_mut npst gp
    have hr2 : ∀ v ∈ xs, RowV (upd H1 st (.lst ((ss ++ [far]).map V.int))) r v := fun v hv => (hr1 v hv).mut gs1
    generalize upd H1 st (.lst ((ss ++ [far]).map V.int)) = H2 at S2 f2 gl2 gs2 gp2 hr2 ⊢
    refine R.asg (R.op (R.var (R.cb (R.cons (R.call (R.cons (R.var (R.nil ?_))))))))
    refine ⟨p, op, rfl, SqT.of gp2, ok, fun lb H3 s3 hlb glb => R.nil (R.lenLI (SqL.of glb) (R.addI (R.gName ?_)))⟩
    have lb2 := (bytes_by op ok).2
    refine ⟨_, ss ++ [far], _, rfl, f2.trans (Same.but s3), S2.keep s3, s3 _ _ gl2, s3 _ _ gs2, by omega, by omega, by rw [List.length_append, hsl]; rfl, fun s hs => ?_, fun v hv => (hr2 v hv).same s3⟩
    rcases List.mem_append.mp hs with z | z
    · have := hss s z
      omega
    · rw [List.mem_singleton.mp z]
      omega
  rintro σ H1 ⟨far, ss, v4, rfl, f1, S1, gl1, gs1, far0, far1, hsl, hss, hr1⟩
  refine R.seq (R.asg (R.lst (R.nil ⟨by k_caughtN0, fun c0 hc0 => R.gName ?_⟩)))
  have nc0 : c0 ≠ r := S1.ne hc0
  have s2 : Same H1 (upd H1 c0 (.lst [])) := same_upd hc0
  refine R.seq (R.for' (R.seqIter (R.var ?_)))
  refine R.forL (xs := xs) (fun i σ H' => ∃ (cd : Addr) (ds : List Int) (v4 v6 : Option V), σ = [some (.ref r), some (.ref l), some (.ref st), some (.int far), v4, some (.ref cd), v6] ∧ Fx r H H' ∧ Spr H' r ∧ H' l = some (.lst xs) ∧ H' st = some (.lst (ss.map V.int)) ∧ cd ≠ r ∧ H cd = none ∧ H' cd = some (.lst (ds.map V.int)) ∧ By ds ∧ i ≤ ds.length ∧ ds.length ≤ 2 * i ∧ ∀ v ∈ xs, RowV H' r v)
    (SqL.of (s2 _ _ gl1)) ⟨c0, [], _, _, rfl, f1.trans (Same.but s2), S1.keep s2, s2 _ _ gl1, s2 _ _ gs1, nc0, Fx.freeS f1 S1 hc0, upd_same, fun _ z => (nomatch z), Nat.le_refl _, Nat.le_refl _, fun v hv => (hr1 v hv).same s2⟩ (fun i σ H' _ z => by
      obtain ⟨_, _, _, _, _, _, _, z, _⟩ := z
      exact SqL.of z) ?_ ?_
  · clear hr1 gs1 gl1 S1 f1 hc0 s2
    rintro i x σ H1 hxi hi ⟨cd, ds, v4, v6, rfl, f1, S1, gl1, gs1, ncd, hcd, gcd, hb, hd1, hd2, hr1⟩
    obtain ⟨p, op, rfl, np, gp, ok⟩ := hr1 x (List.mem_of_getElem? hxi)
    refine R.gName ?_
    refine R.seq (R.joinS (fun σ H' => ∃ (p' : Addr) (op' : Op) (v6 : Option V), σ = [some (.ref r), some (.ref l), some (.ref st), some (.int far), some (.ref p'), some (.ref cd), v6] ∧ Fx r H1 H' ∧ Spr H' r ∧ p' ≠ r ∧ H' p' = some (.tup op'.vals) ∧ op'.Ok) ?_ fun N key => ?_)
    · rintro σ H2 ⟨p', op', v6', rfl, f2, S2, np', gp', ok'⟩
      refine R.asg (R.op (R.var (R.call (R.cons (R.var (R.nil ?_))))))
      refine ⟨p', op', rfl, SqT.of gp', ok', fun lb H3 s3 hlb glb => ?_⟩
      have bb := bytes_by op' ok'
      have b1 : op'.bytes.length = op'.snd.length + 1 := rfl
      have gcd3 := s3 _ _ (f2.at ncd gcd)
      refine R.catI gcd3 glb (Nat.le_trans (m := 300) (by omega) (by decide)) fun c3 hc3 => R.gName ?_
      have s4 := s3.trans (same_upd (o := .lst ((ds ++ op'.bytes).map V.int)) hc3)
      have f4 : Fx r H1 _ := f2.trans (Same.but s4)
      refine ⟨c3, ds ++ op'.bytes, _, _, rfl, f1.trans f4, S2.keep s4, f4.at nl gl1, f4.at nst gs1, (S2.keep s3).ne hc3, ?_, upd_same, hb.appS bb.1, by rw [List.length_append]; omega, by rw [List.length_append]; omega, fun v hv => (hr1 v hv).fx f4⟩
      exact Fx.freeS ((f1.trans f2).trans (Same.but s3)) (S2.keep s3) hc3
    · have base : ∀ v6, N [some (.ref r), some (.ref l), some (.ref st), some (.int far), some (.ref p), some (.ref cd), v6] H1 := fun v6 => key _ _ ⟨p, op, v6, rfl, Fx.refl _ _, S1, np, gp, ok⟩
      refine R.ifS (R.and' (R.test (R.op (R.cb (R.cons (R.var (R.nil (R.lenT (SqT.of gp) (R.c (R.eqI (R.bl ?_))))))))))) 
      rcases op_kind op ok with ⟨wd, t, ev, hop⟩ | ⟨wd, y, ev⟩ | hne
      · rw [ev] at gp ⊢
        refine R.iT (R.tB' (R.cb (R.cons (R.op (R.var (R.c (R.ixT1 (SqT.of gp) (R.cons (R.c (R.nil ?_)))))))))) 
        refine R.isiD (d := .int t) (b := true) (.int t) rfl (R.bl (R.iT ?_))
        refine R.seq (R.asg (R.op (R.var (R.call (R.cons (R.var (R.cons (R.cb (R.cons (R.var (R.nil (R.lenLI (SqL.of gs1) (R.nil ?_)))))))))))))
        refine ⟨r, _, rfl, S1, by omega, by omega, fun n H2 f2 S2 n0 n1 => ?_⟩
        refine R.ixLI (SqL.of (f2.at nst gs1)) n0 n1 fun at' _ hat => R.gName ?_
        have hat2 := hss at' hat
        have gp2 := f2.at np gp
        refine R.asg (R.tup (R.cons (R.op (R.var (R.c (R.ixT0 (SqT.of gp2) (R.cons (R.op (R.lst (R.cons (R.var (R.cons (R.var (R.cons (R.var (R.cons (R.var ?_)))))))))))))))))
        refine R.cons (R.call (R.cons (R.var (R.cons (R.cb (R.cons (R.c (R.cons (R.op (R.var (R.c (R.addI (R.nil (R.min2 (R.nil ?_)))))))))))))))
        refine ⟨r, _, rfl, S2, by split <;> omega, by split <;> omega, fun g H3 f3 S3 g0 g1 => R.nil ⟨by k_caughtN0, fun l4 hl4 => ?_⟩⟩
        have g2 : g < 256 := by split at g1 <;> omega
        refine R.call (R.cons (R.var (R.cons (R.c (R.nil ?_)))))
        refine ⟨r, 5, rfl, S3.keep (same_upd hl4), by decide, by decide, fun k H4 f4 S4 k0 k1 => ?_⟩
        refine R.ixLI (ns := [at', at', at', at', g]) (SqL.of (f4.at (S3.ne hl4) upd_same)) k0 k1 fun t' _ ht' => ?_
        have ht2 : 0 ≤ t' ∧ t' < 256 := by
          simp at ht'
          omega
        obtain ⟨op', ev', ok'⟩ := hop t' ht2
        refine R.nil ⟨by k_caughtN0, fun p5 hp5 => R.gName ?_⟩
        refine key _ _ ⟨p5, op', _, rfl, f2.trans (f3.trans (Fx.trans (Same.but (same_upd hl4)) (f4.trans (Same.but (same_upd hp5))))), S4.keep (same_upd hp5), S4.ne hp5, by rw [ev']; exact upd_same, ok'⟩
      · have gp' := gp
        rw [ev] at gp' ⊢
        refine R.iT (R.tB' (R.cb (R.cons (R.op (R.var (R.c (R.ixT1 (SqT.of gp') (R.cons (R.c (R.nil ?_)))))))))) 
        refine R.isiD (d := .str y) (b := false) (.str y) rfl (R.bl (R.iF (R.next (base _))))
      · rw [decide_eq_false (by omega)]
        exact R.iF (R.iF (R.next (base _)))
  · rintro σ H2 ⟨cd, ds, v4, v6, rfl, f2, S2, gl2, gs2, ncd, hcd, gcd, hb, hd1, hd2, hr2⟩
    exact R.ret (R.var (q cd H2 ds hcd ncd f2 S2 gcd hb (by omega) (by omega)))
theorem pure_law_code {F : Prop} (_ : F) {vs : List V} {H : Hp} {Q : VK} {E : XK} (h : sp_law_code K w vs H Q E) : t_law_code K w { nx := fun _ H' => Q .non H', rt := Q } (start N_law_code vs) H := by
  obtain ⟨r, rfl, hS, q⟩ := h
  unfold t_law_code
  refine R.seq (R.asg (R.call (R.cons (R.var (R.cons (R.c (R.nil ?_)))))))
  refine ⟨r, 8, rfl, hS, by decide, by decide, fun pick H1 f1 S1 p0 p1 => R.gName ?_⟩
  refine R.seq (R.ifS (R.test (R.op (R.var (R.c (R.eqI (R.bl (R.iD (fun _ => ?_) (fun _ => R.next ?_)))))))))
  · refine R.ret (R.lc (R.rng1 (R.cons (R.op (R.c (R.call (R.cons (R.var (R.cons (R.op (R.lst (R.cons (R.c (R.cons (R.c (R.nil ⟨by k_caughtN0, fun l hl => ?_⟩))))))))))))))))
    refine R.call (R.cons (R.var (R.cons (R.c (R.nil ?_)))))
    refine ⟨r, 2, rfl, S1.keep (same_upd hl), by decide, by decide, fun i H2 f2 S2 i0 i1 => ?_⟩
    refine R.ixLI (ns := [8, 60]) (SqL.of (f2.at (S1.ne hl) upd_same)) i0 i1 fun m _ hm => R.nil ?_
    have hm2 : m = 8 ∨ m = 60 := by
      simp at hm
      exact hm
    refine ⟨r, m, rfl, S2, by omega, by omega, fun n H3 f3 S3 n0 n1 => R.addI (R.nil (R.rng1v (by omega) (by omega) ?_))⟩
    have F3 : Fx r H H3 := f1.trans (Fx.trans (Same.but (same_upd hl)) (f2.trans f3))
    refine lcS (fun _ v => ∃ n : Int, v = .int n ∧ 0 ≤ n ∧ n < 256) (fun _ _ _ h _ => h) (fun _ _ _ _ _ h _ => h) S3 (by omega) (fun _ => rfl) ?_ ?_
    · intro k H4 hk S4 Q' q'
      refine R.call (R.cons (R.var (R.cons (R.c (R.nil ?_)))))
      exact ⟨r, 256, rfl, S4, by decide, by decide, fun n H5 f5 S5 n0 n1 => q' _ H5 f5 S5 ⟨n, rfl, n0, n1⟩⟩
    · intro D H4 vs hD nD f4 S4 gD hl hP
      obtain ⟨ds, rfl, hb⟩ := ints_of hP
      rw [List.length_map] at hl
      exact q D H4 ds (Fx.freeS F3 S3 hD) nD (F3.trans f4) S4 gD hb (by omega) (by omega)
  refine R.seq (R.asg (R.op (R.lst (R.cons (R.c (R.cons (R.c (R.cons (R.c (R.cons (R.c (R.nil ⟨by k_caughtN0, fun l hl => ?_⟩)))))))))))) 
  refine R.call (R.cons (R.var (R.cons (R.c (R.nil ?_)))))
  refine ⟨r, 4, rfl, S1.keep (same_upd hl), by decide, by decide, fun i H2 f2 S2 i0 i1 => ?_⟩
  refine R.ixLI (ns := [6, 12, 30, 100]) (SqL.of (f2.at (S1.ne hl) upd_same)) i0 i1 fun most _ hmost => R.gName ?_
  have hm2 : 6 ≤ most ∧ most ≤ 100 := by
    simp at hmost
    omega
  have F2 : Fx r H H2 := f1.trans (Fx.trans (Same.but (same_upd hl)) f2)
  clear f1 f2 hl S1
  refine R.seq (R.asg (R.sl (R.call (R.cons (R.var (R.cons (R.lc (R.rng1 (R.cons (R.op (R.c (R.call (R.cons (R.var (R.cons (R.var (R.nil ?_)))))))))))))))))
  refine ⟨r, most, rfl, S2, by omega, by omega, fun n H3 f3 S3 n0 n1 => R.addI (R.nil (R.rng1v (by omega) (by omega) ?_))⟩
  have F3 := F2.trans f3
  refine lcS (RowV · r) (fun _ _ _ h f => h.fx f) (fun _ _ _ _ _ h g => h.mut g) S3 (by omega) (fun _ => rfl) ?_ ?_
  · intro k H4 hk S4 Q' q'
    refine R.call (R.cons (R.var (R.nil ?_)))
    exact ⟨r, rfl, S4, fun v H5 f5 S5 hv => q' v H5 f5 S5 hv⟩
  intro D H4 vs hD nD f4 S4 gD hl hP
  refine R.nil ⟨r, D, vs, rfl, S4, nD, gD, hP, by omega, by omega, fun p H5 ds hp np f5 S5 gp hb h1 h2 => ?_⟩
  have F5 := F3.trans (f4.trans f5)
  refine R.noPart (R.part (R.c (R.exI ?_)))
  refine R.slToI (SqL.of gp) (by decide) fun c hc => R.gName ?_
  rw [show ds.take (200 : Int).toNat = ds from List.take_of_length_le h2]
  have nc : c ≠ r := S5.ne hc
  have S6 := S5.keep (same_upd (o := .lst (ds.map V.int)) hc)
  have F6 : Fx r H (upd H5 c (.lst (ds.map V.int))) := F5.trans (Same.but (same_upd hc))
  have gc : (upd H5 c (.lst (ds.map V.int))) c = some _ := upd_same
  have hc0 : H c = none := Fx.freeS F5 S5 hc
  generalize upd H5 c (.lst (ds.map V.int)) = H6 at S6 F6 gc ⊢
  refine R.seq (R.ifS (R.test (R.op (R.var (R.c (R.eqI (R.bl (R.iD (fun _ => ?_) (fun _ => R.next ?_)))))))))
  · refine R.asg (R.call (R.cons (R.var (R.cons (R.c (R.nil ?_))))))
    refine ⟨r, 256, rfl, S6, by decide, by decide, fun b H7 f7 S7 b0 b1 => ?_⟩
    refine R.gSub (R.var (R.call (R.cons (R.var (R.cons (R.cb (R.cons (R.var (R.nil (R.lenLI (SqL.of (f7.at nc gc)) (R.nil ?_)))))))))))
    refine ⟨r, _, rfl, S7, by omega, by omega, fun at' H8 f8 S8 a0 a1 => ?_⟩
    refine R.setLI (f8.at nc (f7.at nc gc)) a0 a1 ?_
    refine R.ret (R.var (q c _ _ hc0 nc (Fx.mutN hc0 (F6.trans (f7.trans f8))) (S8.mut nc) upd_same (hb.set b0 b1) (by rw [List.length_set]; exact h1) (by rw [List.length_set]; exact h2)))
  · exact R.ret (R.var (q c _ _ hc0 nc F6 S6 gc hb h1 h2))
end
end Rl
namespace Rl
open PySem PySem.Spec PyProof.Rows L2
section
variable {K : PySem.W.Frag} {w : World}
theorem len_short_row {vs : List V} {H : Hp} {Q : VK} {E : XK} (h : sp_short_row K w vs H Q E) : vs.length = 1 := by
  obtain ⟨b, rfl, _⟩ := h
  rfl
theorem atI_alone {i : Int} (h0 : 0 ≤ i) (h3 : i < 3) : atI ([.str "halt", .str "back", .str "rest"] : List V) i = some (.str (alone i)) := by
  obtain rfl | rfl | rfl : i = 0 ∨ i = 1 ∨ i = 2 := by omega
  all_goals rfl
theorem atI_single {i : Int} (h0 : 0 ≤ i) (h3 : i < 4) : atI ([.str "in", .str "out", .str "keep", .str "take"] : List V) i = some (.str (single i)) := by
  obtain rfl | rfl | rfl | rfl : i = 0 ∨ i = 1 ∨ i = 2 ∨ i = 3 := by omega
  all_goals rfl
theorem atI_target {i : Int} (h0 : 0 ≤ i) (h3 : i < 6) : atI ([.str "go", .str "zero", .str "nonzero", .str "less", .str "notless", .str "call"] : List V) i = some (.str (target i)) := by
  obtain rfl | rfl | rfl | rfl | rfl | rfl : i = 0 ∨ i = 1 ∨ i = 2 ∨ i = 3 ∨ i = 4 ∨ i = 5 := by omega
  all_goals rfl
theorem dec_alone {b : Int} (h : b < 3) : dec b = some (alone b, .e) := by
  unfold dec
  exact if_pos h
theorem dec_single {b : Int} (h : ¬ b < 3) (h2 : b / 16 = 15) : dec b = some (single (b % 4), .r) := by
  unfold dec
  rw [if_neg h, if_pos h2]
theorem dec_pair {b : Int} {z : Str} (h : ¬ b < 3) (h2 : ¬ b / 16 = 15) (h3 : pairT.lookup (b / 16) = some z) : dec b = some (z, .rs) := by
  unfold dec
  rw [if_neg h, if_neg h2, h3]
theorem dec_rest {b : Int} (h : ¬ b < 3) (h2 : ¬ b / 16 = 15) (h3 : pairT.lookup (b / 16) = none) : dec b = if b / 16 = 14 ∧ b % 16 < 6 then some (target (b % 16), .n) else match numT.lookup (b / 16) with
        | some w => if b % 4 = 0 then some (w, .rn) else none
        | none => none := by
  unfold dec
  rw [if_neg h, if_neg h2, h3]
  all_goals rfl
theorem pure_short_row (F : MachC K w) {vs : List V} {H : Hp} {Q : VK} {E : XK} (h : sp_short_row K w vs H Q E) : t_short_row K w { nx := fun _ H' => Q .non H', rt := Q } (start N_short_row vs) H := by
  obtain ⟨b, rfl, h0, h1, q⟩ := h
  unfold t_short_row
  k_caught0
  refine R.ixS (by decide) (atI_abcd (by omega) (by omega)) ?_
  have hA := F.alone H
  k_caught0
  refine R.iD (fun hb => ?_) (fun hb => ?_)
  · have hb3 : b < 3 := hb
    k_caught0
    refine R.ixT hA (atI_alone h0 hb3) ?_
    k_caught0
    refine ⟨by k_caughtN0, fun p hp => q _ _ (same_upd hp) ?_⟩
    have e : optD (if isLong b = true then none else rowD b 0) = .tuple [.str (alone b)] := by
      unfold isLong rowD
      rw [dec_alone hb3]
      rfl
    rw [e]
    exact .tup (SqT.of upd_same) (.cons (.str _) .nil)
  · have hb3 : ¬ b < 3 := hb
    k_caught0
    refine R.iD (fun hk => ?_) (fun hk => ?_)
    · k_caught0
      refine R.ixT (F.single H) (atI_single (by omega) (by omega)) ?_
      k_caught0
      refine ⟨by k_caughtN0, fun p hp => q _ _ (same_upd hp) ?_⟩
      have e : optD (if isLong b = true then none else rowD b 0) = .tuple [.str (single (b % 4)), .str (boxR b)] := by
        unfold isLong rowD
        rw [dec_single hb3 hk]
        rfl
      rw [e]
      exact .tup (SqT.of upd_same) (.cons (.str _) (.cons (.str _) .nil))
    · k_caught0
      have hP := F.pairs
      k_caught0
      rw [R.valV_ints (f := V.str)]
      cases hp : pairT.lookup (b / 16) with
      | some z =>
        k_caught0
        refine R.iT ?_
        k_caught0
        refine R.ixKDi F.pairs (by rw [R.valV_ints (f := V.str), hp]; rfl) ?_
        k_caught0
        refine R.ixS (by decide) (atI_abcd (by omega) (by omega)) ?_
        k_caught0
        refine ⟨by k_caughtN0, fun p hp' => q _ _ (same_upd hp') ?_⟩
        have e : optD (if isLong b = true then none else rowD b 0) = .tuple [.str z, .str (boxR b), .str (boxS b)] := by
          unfold isLong rowD
          rw [dec_pair hb3 hk hp]
          rfl
        rw [e]
        exact .tup (SqT.of upd_same) (.cons (.str _) (.cons (.str _) (.cons (.str _) .nil)))
      | none =>
        refine R.iF ?_
        k_caught0
        refine q _ _ (Same.refl _) ?_
        have hd := dec_rest hb3 hk hp
        have e : optD (if isLong b = true then none else rowD b 0) = .none := by
          by_cases h14 : b / 16 = 14 ∧ b % 16 < 6
          · rw [if_pos h14] at hd
            unfold isLong rowD
            rw [hd]
            rfl
          · rw [if_neg h14] at hd
            cases hn : numT.lookup (b / 16) with
            | none =>
              rw [hn] at hd
              unfold isLong rowD
              rw [hd]
              rfl
            | some z =>
              rw [hn] at hd
              by_cases h4 : b % 4 = 0
              · have hd2 : dec b = some (z, .rn) := by
                  rw [hd]
                  exact if_pos h4
                unfold isLong rowD
                rw [hd2]
                rfl
              · have hd2 : dec b = none := by
                  rw [hd]
                  exact if_neg h4
                unfold isLong rowD
                rw [hd2]
                rfl
        rw [e]
        exact .non
theorem len_long_row {vs : List V} {H : Hp} {Q : VK} {E : XK} (h : sp_long_row K w vs H Q E) : vs.length = 2 := by
  obtain ⟨b, n, rfl, _⟩ := h
  rfl
theorem dec_n {b : Int} (h0 : 0 ≤ b) (h : b / 16 = 14) (h2 : b % 16 < 6) : dec b = some (target (b % 16), .n) := by
  rw [dec_rest (by omega) (by omega) (by rw [h]; rfl), if_pos ⟨h, h2⟩]
theorem num_pair {k : Int} {z : Str} (h : numT.lookup k = some z) : pairT.lookup k = none ∧ k ≠ 15 ∧ k ≠ 14 ∧ 1 ≤ k := by
  unfold numT at h
  simp only [List.lookup_cons] at h
  split at h
  · rename_i q
    rw [beq_iff_eq.mp q]
    exact ⟨rfl, by decide, by decide, by decide⟩
  · split at h
    · rename_i q
      rw [beq_iff_eq.mp q]
      exact ⟨rfl, by decide, by decide, by decide⟩
    · split at h
      · rename_i q
        rw [beq_iff_eq.mp q]
        exact ⟨rfl, by decide, by decide, by decide⟩
      · split at h
        · rename_i q
          rw [beq_iff_eq.mp q]
          exact ⟨rfl, by decide, by decide, by decide⟩
        · cases h
theorem dec_rn {b : Int} {z : Str} (h : numT.lookup (b / 16) = some z) (h2 : b % 4 = 0) : dec b = some (z, .rn) := by
  obtain ⟨p1, p2, p3, p4⟩ := num_pair h
  rw [dec_rest (by omega) p2 p1, if_neg (fun q => p3 q.1), h]
  exact if_pos h2
/-- what is no long row -/
theorem not_long {b n : Int} (h1 : ¬ (b / 16 = 14 ∧ b % 16 < 6)) (h2 : ∀ z, numT.lookup (b / 16) = some z → ¬ b % 4 = 0) : optD (if isLong b = true then rowD b n else none) = .none := by
  have e : isLong b = false := by
    unfold isLong
    by_cases a : b < 3
    · rw [dec_alone a]
    · by_cases c : b / 16 = 15
      · rw [dec_single a c]
      · cases hp : pairT.lookup (b / 16) with
        | some z => rw [dec_pair a c hp]
        | none =>
          rw [dec_rest a c hp, if_neg h1]
          cases hn : numT.lookup (b / 16) with
          | none => rfl
          | some z =>
            dsimp only
            rw [if_neg (h2 z hn)]
  rw [e]
  rfl
theorem pure_long_row (F : MachC K w) {vs : List V} {H : Hp} {Q : VK} {E : XK} (h : sp_long_row K w vs H Q E) : t_long_row K w { nx := fun _ H' => Q .non H', rt := Q } (start N_long_row vs) H := by
  obtain ⟨b, n, rfl, h0, h1, q⟩ := h
  unfold t_long_row
  k_caught0
  refine R.ixS (by decide) (atI_abcd (by omega) (by omega)) ?_
  have hA := F.targets H
  k_caught0
  refine R.iAnd (fun h14 hl => ?_) (fun hno => ?_)
  · have hl6 : b % 16 < 6 := hl
    k_caught0
    refine R.ixT hA (atI_target (by omega) hl6) ?_
    k_caught0
    refine ⟨by k_caughtN0, fun p hp => q _ _ (same_upd hp) ?_⟩
    have e : optD (if isLong b = true then rowD b n else none) = .tuple [.str (target (b % 16)), .int n] := by
      unfold isLong rowD
      rw [dec_n h0 h14 hl6]
      rfl
    rw [e]
    exact .tup (SqT.of upd_same) (.cons (.str _) (.cons (.int _) .nil))
  · have hno' : ¬ (b / 16 = 14 ∧ b % 16 < 6) := hno
    have hN := F.nums
    k_caught0
    rw [R.valV_ints (f := V.str)]
    cases hn : numT.lookup (b / 16) with
    | some z =>
      refine R.iB (fun h4 => ?_) (fun h4 => ?_)
      · have h4' : b % 16 % 4 = 0 := of_decide_eq_true h4
        k_caught0
        refine R.ixKDi hN (by rw [R.valV_ints (f := V.str), hn]; rfl) ?_
        k_caught0
        refine ⟨by k_caughtN0, fun p hp => q _ _ (same_upd hp) ?_⟩
        have e : optD (if isLong b = true then rowD b n else none) = .tuple [.str z, .str (boxR b), .int n] := by
          unfold isLong rowD
          rw [dec_rn hn (by omega)]
          rfl
        rw [e]
        exact .tup (SqT.of upd_same) (.cons (.str _) (.cons (.str _) (.cons (.int _) .nil)))
      · have h4' : ¬ b % 16 % 4 = 0 := of_decide_eq_false h4
        k_caught0
        refine q _ _ (Same.refl _) ?_
        rw [not_long hno' fun _ _ => by omega]
        exact .non
    | none =>
      refine R.iF ?_
      k_caught0
      refine q _ _ (Same.refl _) ?_
      rw [not_long hno' fun z hz => by rw [hn] at hz; cases hz]
      exact .non
theorem len_row_at {vs : List V} {H : Hp} {Q : VK} {E : XK} (h : sp_row_at K w vs H Q E) : vs.length = 2 := by
  obtain ⟨c, ns, a, rfl, _⟩ := h
  rfl
theorem pure_row_at (F : MachC K w) {vs : List V} {H : Hp} {Q : VK} {E : XK} (h : sp_row_at K w vs H Q E) : t_row_at K w { nx := fun _ H' => Q .non H', rt := Q } (start N_row_at vs) H := by
  obtain ⟨c, ns, a, rfl, hc, hb, q⟩ := h
  unfold t_row_at
  k_caught0
  refine R.iAnd (fun h0 h1 => ?_) (fun hno => ?_)
  · have hat : rowAt ns a = (if isLong (ns.getD a.toNat 0) = true then (if a + 1 < ns.length then (rowD (ns.getD a.toNat 0) (ns.getD (a.toNat + 1) 0)).map fun l => (l, 2) else none)
      else (rowD (ns.getD a.toNat 0) 0).map fun l => (l, 1)) := by
      unfold rowAt
      exact if_pos ⟨h0, h1⟩
    k_caught0
    refine R.ixC hc h0 h1 ?_
    intro m hm hmem
    have hgd : ns.getD a.toNat 0 = m := by
      rw [List.getD_eq_getElem?_getD, hm]
      rfl
    rw [hgd] at hat
    k_caught0
    refine ⟨m, rfl, (hb m hmem).1, (hb m hmem).2, fun v H1 e1 hd1 => ?_⟩
    cases hs : (if isLong m = true then none else rowD m 0) with
    | some l =>
      rw [hs] at hd1
      have hL : isLong m = false := by
        cases q : isLong m with
        | false => rfl
        | true =>
          rw [q, if_pos rfl] at hs
          cases hs
      rw [hL, if_neg Bool.false_ne_true] at hs hat
      rw [hs] at hat
      obtain ⟨p1, xs, rfl, hx, ha⟩ := dp_tup hd1
      k_caught0
      refine ⟨by k_caughtN0, fun p hp => q _ _ (e1.trans (same_upd hp)) ?_⟩
      rw [hat]
      exact .tup (SqT.of upd_same) (.cons (Dp.mono (same_upd hp) hd1) (.cons (.int _) .nil))
    | none =>
      rw [hs] at hd1
      cases dp_none hd1
      k_caught0
      refine R.iD (fun h2 => ?_) (fun h2 => ?_)
      · k_caught0
        refine R.ixC (Code.mono e1 hc) h0 h1 ?_
        intro m' hm' _
        have em : m' = m := Option.some.inj (hm'.symm.trans hm)
        subst em
        k_caught0
        refine R.ixC (Code.mono e1 hc) (by omega) h2 ?_
        intro n hn hnm
        k_caught0
        refine ⟨m', n, rfl, (hb m' hmem).1, (hb m' hmem).2, fun v H2 e2 hd2 => ?_⟩
        have hgn : ns.getD (a.toNat + 1) 0 = n := by
          have ei : (a + 1).toNat = a.toNat + 1 := by omega
          rw [List.getD_eq_getElem?_getD, ← ei, hn]
          rfl
        rw [hgn, if_pos h2] at hat
        cases hl : isLong m' with
        | true =>
          rw [hl, if_pos rfl] at hd2 hat
          cases hr : rowD m' n with
          | none =>
            rw [hr] at hd2 hat
            cases dp_none hd2
            k_caught0
            refine q _ _ (e1.trans e2) ?_
            rw [hat]
            exact .non
          | some l =>
            rw [hr] at hd2 hat
            obtain ⟨p1, xs, rfl, hx, ha⟩ := dp_tup hd2
            k_caught0
            refine ⟨by k_caughtN0, fun p hp => q _ _ ((e1.trans e2).trans (same_upd hp)) ?_⟩
            rw [hat]
            exact .tup (SqT.of upd_same) (.cons (Dp.mono (same_upd hp) hd2) (.cons (.int _) .nil))
        | false =>
          rw [hl, if_neg Bool.false_ne_true] at hd2 hat hs
          cases dp_none hd2
          k_caught0
          refine q _ _ (e1.trans e2) ?_
          rw [hat, hs]
          exact .non
      · k_caught0
        refine q _ _ e1 ?_
        have e : rowAt ns a = none := by
          rw [hat]
          cases hl : isLong m with
          | true => rw [if_pos rfl, if_neg h2]
          | false =>
            rw [hl, if_neg Bool.false_ne_true] at hs
            rw [if_neg Bool.false_ne_true, hs]
            rfl
        rw [e]
        exact .non
  · k_caught0
    refine q _ _ (Same.refl _) ?_
    unfold rowAt
    rw [if_neg hno]
    exact .non
end
end Rl
namespace Rl
open PySem PySem.Spec PyProof.Rows L2
section
variable {K : PySem.W.Frag} {w : World} {vs : List V} {H : Hp} {Q : VK} {E : XK}
theorem pure_by_name (F : LiftC K w) (h : sp_by_name K w vs H Q E) : t_by_name K w { nx := fun _ H' => Q .non H', rt := Q } (start N_by_name vs) H := by
  obtain ⟨x, d, rfl, hd, q⟩ := h
  exact DE.ret (DE.tup (DA.cons DE.str (DA.cons (DE.vr hd rfl) DA.nil))) (SmD.refl H) q
theorem pure_by_number (F : LiftC K w) (h : sp_by_number K w vs H Q E) : t_by_number K w { nx := fun _ H' => Q .non H', rt := Q } (start N_by_number vs) H := by
  obtain ⟨x, d, rfl, hd, q⟩ := h
  exact DE.ret (DE.tup (DA.cons DE.str (DA.cons (DE.vr hd rfl) DA.nil))) (SmD.refl H) q
theorem DE.nothing (F : LiftC K w) {σ : L2.St} {B : Hp} : DE K (tC (.ref (He.ga K "NOTHING"))) σ B (numD 0) := DE.cv (.tup (F.nothing B) (.cons (.str _) (.cons (.int _) .nil)))
theorem pure_zero_by (F : LiftC K w) (h : sp_zero_by K w vs H Q E) : t_zero_by K w { nx := fun _ H' => Q .non H', rt := Q } (start N_zero_by vs) H := by
  obtain ⟨x, d, rfl, hd, q⟩ := h
  exact DE.ret (DE.tup (DA.cons DE.str (DA.cons DE.str (DA.cons (DE.tup (DA.cons DE.str (DA.cons (DE.name (DE.vr hd rfl)) (DA.cons (DE.nothing F) DA.nil)))) DA.nil)))) (SmD.refl H) q
theorem pure_lift_set (F : LiftC K w) (h : sp_lift_set K w vs H Q E) : t_lift_set K w { nx := fun _ H' => Q .non H', rt := Q } (start N_lift_set vs) H := by
  obtain ⟨p, op, rfl, hp, hl, q⟩ := h
  obtain ⟨r, n, rfl⟩ : ∃ r n, op = .set r n := by
    cases op <;> first | exact ⟨_, _, rfl⟩ | (rename_i a _ _; cases a <;> (dsimp only [Op.lift] at hl; exact absurd hl (by decide))) | (dsimp only [Op.lift] at hl; exact absurd hl (by decide))
  exact R.ret (DA.newL (B := H) (DA.cons (DE.tup (DA.cons DE.str (DA.cons (DE.ix (p := p) rfl hp rfl (.str _)) (DA.cons (DE.numb (DE.ix (p := p) rfl hp rfl (.int _))) DA.nil)))) DA.nil) (by simp only [List.length_cons, List.length_nil]; decide) (SmD.refl H) q)
theorem pure_lift_copy (F : LiftC K w) (h : sp_lift_copy K w vs H Q E) : t_lift_copy K w { nx := fun _ H' => Q .non H', rt := Q } (start N_lift_copy vs) H := by
  obtain ⟨p, op, rfl, hp, hl, q⟩ := h
  obtain ⟨r, n, rfl⟩ : ∃ r n, op = .copy r n := by
    cases op <;> first | exact ⟨_, _, rfl⟩ | (rename_i a _ _; cases a <;> (dsimp only [Op.lift] at hl; exact absurd hl (by decide))) | (dsimp only [Op.lift] at hl; exact absurd hl (by decide))
  exact R.ret (DA.newL (B := H) (DA.cons (DE.tup (DA.cons DE.str (DA.cons (DE.ix (p := p) rfl hp rfl (.str _)) (DA.cons (DE.name (DE.ix (p := p) rfl hp rfl (.str _))) DA.nil)))) DA.nil) (by simp only [List.length_cons, List.length_nil]; decide) (SmD.refl H) q)
theorem pure_lift_add (F : LiftC K w) (h : sp_lift_add K w vs H Q E) : t_lift_add K w { nx := fun _ H' => Q .non H', rt := Q } (start N_lift_add vs) H := by
  obtain ⟨p, op, rfl, hp, hl, q⟩ := h
  obtain ⟨r, s, rfl⟩ : ∃ r s, op = .sum true r s := by
    cases op <;> first | (rename_i a _ _; cases a <;> first | exact ⟨_, _, rfl⟩ | (dsimp only [Op.lift] at hl; exact absurd hl (by decide))) | (dsimp only [Op.lift] at hl; exact absurd hl (by decide))
  refine R.seq (R.asg (R.var (R.g3 hp ?_)))
  have nr : ∀ {σ : L2.St} {B : Hp} {n : Nat} {z : Str}, σ[n]? = some (some (.str z)) → DE K (tCall (sp_by_name K w) [] E0 (tCons (tVar n) tNil)) σ B (nameD z) := fun h => DE.name (DE.vr (.str _) h)
  refine R.seq (DE.asg (B := H) (DE.tup (DA.cons DE.str (DA.cons (DE.tup (DA.cons DE.str (DA.cons (DE.numb (DE.sub DE.int DE.int)) (DA.cons (nr rfl) DA.nil)))) (DA.cons (nr rfl) DA.nil)))) (SmD.refl H) fun v H1 s1 d1 => ?_)
  exact R.ret (DA.newL (B := H1) (DA.cons (DE.tup (DA.cons DE.str (DA.cons DE.str (DA.cons (DE.vr d1 rfl) DA.nil)))) (DA.cons (DE.tup (DA.cons DE.str (DA.cons (DE.vr (.str _) rfl) (DA.cons (DE.tup (DA.cons DE.str (DA.cons (nr rfl) (DA.cons (nr rfl) DA.nil)))) DA.nil)))) (DA.cons (DE.zero (DE.vr (.str _) rfl)) DA.nil))) (by simp only [List.length_cons, List.length_nil]; decide) (SmD.refl H1) fun l xs H' s2 fl g d2 => q l xs H' (s1.trans s2) (s1.free fl) g d2)
theorem pure_lift_sub (F : LiftC K w) (h : sp_lift_sub K w vs H Q E) : t_lift_sub K w { nx := fun _ H' => Q .non H', rt := Q } (start N_lift_sub vs) H := by
  obtain ⟨p, op, rfl, hp, hl, q⟩ := h
  obtain ⟨r, s, rfl⟩ : ∃ r s, op = .sum false r s := by
    cases op <;> first | (rename_i a _ _; cases a <;> first | exact ⟨_, _, rfl⟩ | (dsimp only [Op.lift] at hl; exact absurd hl (by decide))) | (dsimp only [Op.lift] at hl; exact absurd hl (by decide))
  refine R.seq (R.asg (R.var (R.g3 hp ?_)))
  have nr : ∀ {σ : L2.St} {B : Hp} {n : Nat} {z : Str}, σ[n]? = some (some (.str z)) → DE K (tCall (sp_by_name K w) [] E0 (tCons (tVar n) tNil)) σ B (nameD z) := fun h => DE.name (DE.vr (.str _) h)
  exact R.ret (DA.newL (B := H) (DA.cons (DE.tup (DA.cons DE.str (DA.cons DE.str (DA.cons (DE.tup (DA.cons DE.str (DA.cons (nr rfl) (DA.cons (nr rfl) DA.nil)))) DA.nil)))) (DA.cons (DE.tup (DA.cons DE.str (DA.cons (DE.vr (.str _) rfl) (DA.cons (DE.tup (DA.cons DE.str (DA.cons (nr rfl) (DA.cons (nr rfl) DA.nil)))) DA.nil)))) (DA.cons (DE.zero (DE.vr (.str _) rfl)) DA.nil))) (by simp only [List.length_cons, List.length_nil]; decide) (SmD.refl H) q)
abbrev signT : List (Str × PyData) := [("and", .str "&"), ("or", .str "|"), ("xor", .str "^")]
theorem sign_look (k : Fin 3) : signT.reverse.lookup (bitsW k) = some (.str (signW k)) := by
  rcases fin3 k with rfl | rfl | rfl <;> rfl
theorem pure_lift_bits (F : LiftC K w) (h : sp_lift_bits K w vs H Q E) : t_lift_bits K w { nx := fun _ H' => Q .non H', rt := Q } (start N_lift_bits vs) H := by
  obtain ⟨p, op, rfl, hp, hl, q⟩ := h
  obtain ⟨k, r, s, rfl⟩ : ∃ k r s, op = .bits k r s := by
    cases op <;> first | exact ⟨_, _, _, rfl⟩ | (rename_i a _ _; cases a <;> (dsimp only [Op.lift] at hl; exact absurd hl (by decide))) | (dsimp only [Op.lift] at hl; exact absurd hl (by decide))
  refine R.seq (R.asg (R.var (R.g3 hp ?_)))
  have nr : ∀ {σ : L2.St} {B : Hp} {n : Nat} {z : Str}, σ[n]? = some (some (.str z)) → DE K (tCall (sp_by_name K w) [] E0 (tCons (tVar n) tNil)) σ B (nameD z) := fun h => DE.name (DE.vr (.str _) h)
  refine R.seq (R.asg (R.dget (DPs.disp (K := K) (B := H) (tbl := signT) (DPs.cons DE.str (DPs.cons DE.str (DPs.cons DE.str DPs.nil))) (SmD.refl H) (by decide) fun p2 kvs H1 s1 f1 g1 _ gd => ?_)))
  obtain ⟨v, hv, dv⟩ := gd.get (sign_look k)
  refine R.var (R.dgetV g1 (k := Sum.inr (bitsW k)) rfl hv ?_)
  refine R.ret (DA.newL (B := H1) (DA.cons (DE.tup (DA.cons DE.str (DA.cons (DE.vr (.str _) rfl) (DA.cons (DE.tup (DA.cons (DE.vr dv rfl) (DA.cons (nr rfl) (DA.cons (nr rfl) DA.nil)))) DA.nil)))) (DA.cons (DE.zero (DE.vr (.str _) rfl)) (DA.cons (DE.tup (DA.cons DE.str (DA.cons DE.str (DA.cons (DE.nothing F) DA.nil)))) DA.nil))) (by simp only [List.length_cons, List.length_nil]; decide) (SmD.refl H1) fun l xs H' s2 fl g d2 => q l xs H' (s1.trans s2) (s1.free fl) g d2)
theorem pure_lift_test (F : LiftC K w) (h : sp_lift_test K w vs H Q E) : t_lift_test K w { nx := fun _ H' => Q .non H', rt := Q } (start N_lift_test vs) H := by
  obtain ⟨p, op, rfl, hp, hl, q⟩ := h
  have nr : ∀ {σ : L2.St} {B : Hp} {n : Nat} {z : Str}, σ[n]? = some (some (.str z)) → DE K (tCall (sp_by_name K w) [] E0 (tCons (tVar n) tNil)) σ B (nameD z) := fun h => DE.name (DE.vr (.str _) h)
  have tail : ∀ {r : Nat} {a : V} {b : V} {wd : Str} {d : PyData} {v : V} {H1 : Hp}, Same H H1 → Dp K H1 v d → (∀ l xs H', Same H H' → H l = none → H' l = some (.lst xs) → DpAll K H' xs [setD "zero" (bothD "=" (nameD (bxN r)) d), setD "less" (bothD "<" (nameD (bxN r)) d)] → Q (.ref l) H') →
      (tRet (tLst (tCons (tTup (tCons (tC (.str "set")) (tCons (tC (.str "zero")) (tCons (tTup (tCons (tC (.str "=")) (tCons (tCall (sp_by_name K w) [] E0 (tCons (tVar 2) tNil)) (tCons (tVar 4) tNil)))) tNil)))) (tCons (tTup (tCons (tC (.str "set")) (tCons (tC (.str "less")) (tCons (tTup (tCons (tC (.str "<")) (tCons (tCall (sp_by_name K w) [] E0 (tCons (tVar 2) tNil)) (tCons (tVar 4) tNil)))) tNil)))) tNil)))) { nx := fun _ H' => Q .non H', rt := Q } [some (.ref p), some (.str wd), some (.str (bxN r)), some b, some v] H1 := fun s1 d1 q1 =>
    R.ret (DA.newL (B := _) (DA.cons (DE.tup (DA.cons DE.str (DA.cons DE.str (DA.cons (DE.tup (DA.cons DE.str (DA.cons (nr rfl) (DA.cons (DE.vr d1 rfl) DA.nil)))) DA.nil)))) (DA.cons (DE.tup (DA.cons DE.str (DA.cons DE.str (DA.cons (DE.tup (DA.cons DE.str (DA.cons (nr rfl) (DA.cons (DE.vr d1 rfl) DA.nil)))) DA.nil)))) DA.nil)) (by simp only [List.length_cons, List.length_nil]; decide) (SmD.refl _) fun l xs H' s2 fl g d2 => q1 l xs H' (s1.trans s2) (s1.free fl) g d2)
  cases op <;> first | (rename_i a _ _; cases a <;> (dsimp only [Op.lift] at hl; exact absurd hl (by decide))) | (dsimp only [Op.lift] at hl; exact absurd hl (by decide)) | skip
  · rename_i r s
    refine R.seq (R.asg (R.var (R.g3 hp ?_)))
    refine R.seq (R.asg (R.eY rfl (nr rfl H _ (SmD.refl H) fun v H1 s1 d1 => R.gName ?_)))
    exact tail (a := .non) s1 d1 q
  · rename_i r n
    refine R.seq (R.asg (R.var (R.g3 hp ?_)))
    refine R.seq (R.asg (R.eN (wd := "testn") (by decide) (DE.numb (DE.vr (.int n) rfl) H _ (SmD.refl H) fun v H1 s1 d1 => R.gName ?_)))
    exact tail (a := .non) s1 d1 q
theorem pure_lift_load (F : LiftC K w) (h : sp_lift_load K w vs H Q E) : t_lift_load K w { nx := fun _ H' => Q .non H', rt := Q } (start N_lift_load vs) H := by
  obtain ⟨p, op, rfl, hp, hl, q⟩ := h
  cases op <;> first | (rename_i a _ _; cases a <;> (dsimp only [Op.lift] at hl; exact absurd hl (by decide))) | (dsimp only [Op.lift] at hl; exact absurd hl (by decide)) | skip
  · rename_i r s
    refine R.seq (R.asg (R.var (R.g3 hp ?_)))
    refine R.seq (R.asg (R.eY rfl (DE.name (DE.vr (.str (bxN s)) rfl) H _ (SmD.refl H) fun v H1 s1 d1 => R.gName ?_)))
    exact R.ret (DA.newL (B := H1) (DA.cons (DE.tup (DA.cons DE.str (DA.cons (DE.vr (.str _) rfl) (DA.cons (DE.tup (DA.cons DE.str (DA.cons (DE.vr d1 rfl) DA.nil))) DA.nil)))) DA.nil) (by simp only [List.length_cons, List.length_nil]; decide) (SmD.refl H1) fun l xs H' s2 fl g d2 => q l xs H' (s1.trans s2) (s1.free fl) g d2)
  · rename_i r n
    refine R.seq (R.asg (R.var (R.g3 hp ?_)))
    refine R.seq (R.asg (R.eN (wd := "loadn") (by decide) (DE.numb (DE.mod (DE.vr (.int n) rfl) DE.int (by decide)) H _ (SmD.refl H) fun v H1 s1 d1 => R.gName ?_)))
    exact R.ret (DA.newL (B := H1) (DA.cons (DE.tup (DA.cons DE.str (DA.cons (DE.vr (.str _) rfl) (DA.cons (DE.tup (DA.cons DE.str (DA.cons (DE.vr d1 rfl) DA.nil))) DA.nil)))) DA.nil) (by simp only [List.length_cons, List.length_nil]; decide) (SmD.refl H1) fun l xs H' s2 fl g d2 => q l xs H' (s1.trans s2) (s1.free fl) g d2)
theorem pure_lift_store (F : LiftC K w) (h : sp_lift_store K w vs H Q E) : t_lift_store K w { nx := fun _ H' => Q .non H', rt := Q } (start N_lift_store vs) H := by
  obtain ⟨p, op, rfl, hp, hl, q⟩ := h
  have isW : ∀ {σ : L2.St} {B : Hp} {a : Str} {te tf : TE} {d : PyData}, σ[1]? = some (some (.str a)) → (a = "store" → DE K te σ B d) → (a ≠ "store" → DE K tf σ B d) → DE K (tIf (tTest (tOp (rEqA K) (tVar 1) (tC (.str "store")))) te tf) σ B d := fun {σ B a te tf d} h0 h1 h2 H Q s q => by
    by_cases e : a = "store"
    · exact R.eY e (h1 e H Q s q) h0
    · exact R.eN e (h2 e H Q s q) h0
  cases op <;> first | (rename_i a _ _; cases a <;> (dsimp only [Op.lift] at hl; exact absurd hl (by decide))) | (dsimp only [Op.lift] at hl; exact absurd hl (by decide)) | skip
  · rename_i r s
    refine R.seq (R.asg (R.var (R.g3 hp ?_)))
    exact R.ret (DA.newL (B := H) (DA.cons (isW rfl (fun _ => DE.tup (DA.cons DE.str (DA.cons (DE.name (DE.vr (.str (bxN r)) rfl)) (DA.cons (DE.name (DE.vr (.str (bxN s)) rfl)) DA.nil)))) (fun e => absurd rfl e)) DA.nil) (by simp only [List.length_cons, List.length_nil]; decide) (SmD.refl H) q)
  · rename_i r n
    refine R.seq (R.asg (R.var (R.g3 hp ?_)))
    exact R.ret (DA.newL (B := H) (DA.cons (isW rfl (fun e => absurd e (by decide)) (fun _ => DE.tup (DA.cons DE.str (DA.cons (DE.numb (DE.mod (DE.vr (.int n) rfl) DE.int (by decide))) (DA.cons (DE.name (DE.vr (.str (bxN r)) rfl)) DA.nil))))) DA.nil) (by simp only [List.length_cons, List.length_nil]; decide) (SmD.refl H) q)
theorem pure_lift_named (F : LiftC K w) (h : sp_lift_named K w vs H Q E) : t_lift_named K w { nx := fun _ H' => Q .non H', rt := Q } (start N_lift_named vs) H := by
  obtain ⟨p, op, rfl, hp, hl, q⟩ := h
  cases op <;> first | (rename_i a _ _; cases a <;> (dsimp only [Op.lift] at hl; exact absurd hl (by decide))) | (dsimp only [Op.lift] at hl; exact absurd hl (by decide)) | skip
  all_goals exact R.ret (DA.newL (B := H) (DA.cons (DE.tup (DA.cons (DE.ix (p := p) rfl hp rfl (.str _)) (DA.cons (DE.ix (p := p) rfl hp rfl (.str _)) DA.nil))) DA.nil) (by simp only [List.length_cons, List.length_nil]; decide) (SmD.refl H) q)
theorem pure_lift_told (F : LiftC K w) (h : sp_lift_told K w vs H Q E) : t_lift_told K w { nx := fun _ H' => Q .non H', rt := Q } (start N_lift_told vs) H := by
  obtain ⟨p, op, rfl, hp, hl, q⟩ := h
  cases op <;> first | (rename_i a _ _; cases a <;> (dsimp only [Op.lift] at hl; exact absurd hl (by decide))) | (dsimp only [Op.lift] at hl; exact absurd hl (by decide)) | skip
  all_goals exact R.ret (DA.newL (B := H) (DA.cons (DE.tup (DA.cons (DE.ix (p := p) rfl hp rfl (.str _)) (DA.cons (DE.name (DE.ix (p := p) rfl hp rfl (.str _))) DA.nil))) DA.nil) (by simp only [List.length_cons, List.length_nil]; decide) (SmD.refl H) q)
theorem pure_lift_nothing (F : LiftC K w) (h : sp_lift_nothing K w vs H Q E) : t_lift_nothing K w { nx := fun _ H' => Q .non H', rt := Q } (start N_lift_nothing vs) H := by
  obtain ⟨p, op, rfl, hp, hl, q⟩ := h
  have e : stmD op = [] := by
    cases op <;> first | rfl | (rename_i a _ _; cases a <;> (dsimp only [Op.lift] at hl; exact absurd hl (by decide))) | (dsimp only [Op.lift] at hl; exact absurd hl (by decide))
  rw [e] at q
  exact R.ret (DA.newL (B := H) DA.nil (by decide) (SmD.refl H) q)
theorem ex_start {p : Addr} {b : Int} {wd : Str} {rest : List V} {nx bk ct : L2.St → Hp → Prop} {rt : VK} {u : TS} (hp : SqT K H p (.str wd :: rest)) (q : u ⟨nx, rt, bk, ct⟩ [some (.ref p), some (.int b), some (.str wd)] H) :
    tSeq (tAsg (tOp (rIx K) (tVar 0) (tC (.int 0))) (gName 2)) u ⟨nx, rt, bk, ct⟩ (start N_exit_of [.ref p, .int b]) H := R.seq (R.asg (R.rw0 hp (R.gName q)))
/-- a row that only goes on -/
theorem ex_on (F : LiftC K w) {p : Addr} {b : Int} {wd : Str} {rest : List V} (hp : SqT K H p (.str wd :: rest)) (h1 : wd ≠ "halt") (h2 : wd ≠ "back") (h3 : wd ≠ "go") (h4 : wd ≠ "call") (h5 : (valV (askK K) (Sum.inr wd)).isSome = false)
    (q : ∀ v H', Same H H' → Dp K H' v (.tuple [.str "go", .int b]) → Q v H') : t_exit_of K w { nx := fun _ H' => Q .non H', rt := Q } (start N_exit_of [.ref p, .int b]) H := by
  unfold t_exit_of
  refine ex_start hp ?_
  refine R.seq (R.eqN h1 (R.next (R.seq (R.eqN h2 (R.next (R.seq (R.eqN h3 (R.next (R.seq (R.eqN h4 (R.next ?_)))))))))))
  refine R.seq (R.ifS (R.test (R.op (R.var (R.c (R.inKDs F.asked (R.bl ?_)))))))
  rw [h5]
  exact R.iF (R.next (DE.ret (DE.tup (DA.cons DE.str (DA.cons (DE.vr (.int b) rfl) DA.nil))) (SmD.refl H) q))
/-- a row that asks a mark -/
theorem ex_if (F : LiftC K w) {p : Addr} {b t : Int} {wd : Str} {a : Addr} {d : PyData} (hp : SqT K H p [.str wd, .int t]) (h1 : wd ≠ "halt") (h2 : wd ≠ "back") (h3 : wd ≠ "go") (h4 : wd ≠ "call") (h5 : valV (askK K) (Sum.inr wd) = some (.ref a)) (hd : Dp K H (.ref a) d)
    (q : ∀ v H', Same H H' → Dp K H' v (.tuple [.str "if", d, .int t, .int b]) → Q v H') : t_exit_of K w { nx := fun _ H' => Q .non H', rt := Q } (start N_exit_of [.ref p, .int b]) H := by
  unfold t_exit_of
  refine ex_start hp ?_
  refine R.seq (R.eqN h1 (R.next (R.seq (R.eqN h2 (R.next (R.seq (R.eqN h3 (R.next (R.seq (R.eqN h4 (R.next ?_)))))))))))
  refine R.seq (R.ifS (R.test (R.op (R.var (R.c (R.inKDs F.asked (R.bl ?_)))))))
  rw [h5]
  have ask : DE K (tOp (rIxKD K w) (tC (.ref (He.ga K "ASKED"))) (tVar 2)) [some (.ref p), some (.int b), some (.str wd)] H d := fun H2 Q2 s q2 => R.op (R.c (R.var (R.ixKDs F.asked h5 (q2 _ _ (Same.refl _) (Dp.smd s hd)))))
  exact R.iT (DE.ret (DE.tup (DA.cons DE.str (DA.cons ask (DA.cons (DE.ix (p := p) rfl hp rfl (.int t)) (DA.cons (DE.vr (.int b) rfl) DA.nil))))) (SmD.refl H) q)
theorem pure_exit_of (F : LiftC K w) (h : sp_exit_of K w vs H Q E) : t_exit_of K w { nx := fun _ H' => Q .non H', rt := Q } (start N_exit_of vs) H := by
  obtain ⟨p, op, b, rfl, hp, q⟩ := h
  cases op with
  | halt =>
    unfold t_exit_of
    refine ex_start hp ?_
    exact R.seq (R.eqY rfl (DE.ret (DE.tup (DA.cons DE.str (DA.cons DE.str DA.nil))) (SmD.refl H) q))
  | back =>
    unfold t_exit_of
    refine ex_start hp ?_
    exact R.seq (R.eqN (wd := "back") (by decide) (R.next (R.seq (R.eqY rfl (DE.ret (DE.tup (DA.cons DE.str DA.nil)) (SmD.refl H) q)))))
  | call t =>
    unfold t_exit_of
    refine ex_start hp ?_
    refine R.seq (R.eqN (wd := "call") (by decide) (R.next (R.seq (R.eqN (wd := "call") (by decide) (R.next (R.seq (R.eqN (wd := "call") (by decide) (R.next (R.seq (R.eqY rfl ?_))))))))))
    exact DE.ret (DE.tup (DA.cons DE.str (DA.cons (DE.ix (p := p) rfl hp rfl (.int t)) (DA.cons (DE.vr (.int b) rfl) DA.nil)))) (SmD.refl H) q
  | go k t =>
    rcases fin5 k with rfl | rfl | rfl | rfl | rfl
    · unfold t_exit_of
      refine ex_start hp ?_
      refine R.seq (R.eqN (wd := "go") (by decide) (R.next (R.seq (R.eqN (wd := "go") (by decide) (R.next (R.seq (R.eqY rfl ?_)))))))
      exact DE.ret (DE.tup (DA.cons DE.str (DA.cons (DE.ix (p := p) rfl hp rfl (.int t)) DA.nil))) (SmD.refl H) q
    · exact ex_if F (wd := "zero") hp (by decide) (by decide) (by decide) (by decide) rfl (.tup (F.ask1 H) (.cons (.str _) (.cons (.str _) .nil))) q
    · exact ex_if F (wd := "nonzero") hp (by decide) (by decide) (by decide) (by decide) rfl (.tup (F.ask2 H) (.cons (.str _) (.cons (.tup (F.ask2n H) (.cons (.str _) (.cons (.str _) .nil))) .nil))) q
    · exact ex_if F (wd := "less") hp (by decide) (by decide) (by decide) (by decide) rfl (.tup (F.ask3 H) (.cons (.str _) (.cons (.str _) .nil))) q
    · exact ex_if F (wd := "notless") hp (by decide) (by decide) (by decide) (by decide) rfl (.tup (F.ask4 H) (.cons (.str _) (.cons (.tup (F.ask4n H) (.cons (.str _) (.cons (.str _) .nil))) .nil))) q
  | sum a r s =>
    cases a
    · exact ex_on F (wd := "sub") hp (by decide) (by decide) (by decide) (by decide) rfl q
    · exact ex_on F (wd := "add") hp (by decide) (by decide) (by decide) (by decide) rfl q
  | bits k r s =>
    rcases fin3 k with rfl | rfl | rfl
    · exact ex_on F (wd := "and") hp (by decide) (by decide) (by decide) (by decide) rfl q
    · exact ex_on F (wd := "or") hp (by decide) (by decide) (by decide) (by decide) rfl q
    · exact ex_on F (wd := "xor") hp (by decide) (by decide) (by decide) (by decide) rfl q
  | rest => exact ex_on F (wd := "rest") hp (by decide) (by decide) (by decide) (by decide) rfl q
  | set r n => exact ex_on F (wd := "set") hp (by decide) (by decide) (by decide) (by decide) rfl q
  | copy r s => exact ex_on F (wd := "copy") hp (by decide) (by decide) (by decide) (by decide) rfl q
  | test r s => exact ex_on F (wd := "test") hp (by decide) (by decide) (by decide) (by decide) rfl q
  | testn r n => exact ex_on F (wd := "testn") hp (by decide) (by decide) (by decide) (by decide) rfl q
  | load r s => exact ex_on F (wd := "load") hp (by decide) (by decide) (by decide) (by decide) rfl q
  | loadn r n => exact ex_on F (wd := "loadn") hp (by decide) (by decide) (by decide) (by decide) rfl q
  | store r s => exact ex_on F (wd := "store") hp (by decide) (by decide) (by decide) (by decide) rfl q
  | storen r n => exact ex_on F (wd := "storen") hp (by decide) (by decide) (by decide) (by decide) rfl q
  | inn r => exact ex_on F (wd := "in") hp (by decide) (by decide) (by decide) (by decide) rfl q
  | out r => exact ex_on F (wd := "out") hp (by decide) (by decide) (by decide) (by decide) rfl q
  | keep r => exact ex_on F (wd := "keep") hp (by decide) (by decide) (by decide) (by decide) rfl q
  | take r => exact ex_on F (wd := "take") hp (by decide) (by decide) (by decide) (by decide) rfl q
/-- the word of a row, and the def that lifts it -/
def Op.wd : Op → Str
  | .halt => "halt"
  | .back => "back"
  | .rest => "rest"
  | .set .. => "set"
  | .copy .. => "copy"
  | .sum a _ _ => if a then "add" else "sub"
  | .bits k _ _ => bitsW k
  | .test .. => "test"
  | .testn .. => "testn"
  | .load .. => "load"
  | .loadn .. => "loadn"
  | .store .. => "store"
  | .storen .. => "storen"
  | .go k _ => goW k
  | .call _ => "call"
  | .inn _ => "in"
  | .out _ => "out"
  | .keep _ => "keep"
  | .take _ => "take"
theorem vals_wd (op : Op) : ∃ rest, op.vals = .str op.wd :: rest := by
  cases op <;> exact ⟨_, rfl⟩
theorem lift_look (K : PySem.W.Frag) (op : Op) : (valV (liftK K) (Sum.inr op.wd)).getD (.ref (He.ga K "lift_nothing")) = .ref (He.ga K op.lift) := by
  cases op with
  | sum a r s => cases a <;> rfl
  | bits k r s => rcases fin3 k with rfl | rfl | rfl <;> rfl
  | go k t => rcases fin5 k with rfl | rfl | rfl | rfl | rfl <;> rfl
  | _ => rfl
theorem lift_in (op : Op) : op.lift ∈ doers := by
  cases op with
  | sum a r s => cases a <;> (dsimp only [Op.lift]; decide)
  | _ => (dsimp only [Op.lift]; decide)
theorem dp_row {op : Op} {v : V} (h : Dp K H v (.tuple op.data)) : ∃ p, v = .ref p ∧ SqT K H p op.vals := by
  obtain ⟨p, xs, rfl, hs, ha⟩ := dp_tup h
  refine ⟨p, rfl, ?_⟩
  have e : xs = op.vals := by
    cases op <;> (first
      | (cases ha with | cons a1 a2 => cases a1; cases a2; rfl)
      | (cases ha with | cons a1 a2 => cases a1; cases a2 with | cons b1 b2 => cases b1; cases b2; rfl)
      | (cases ha with | cons a1 a2 => cases a1; cases a2 with | cons b1 b2 => cases b1; cases b2 with | cons c1 c2 => cases c1; cases c2; rfl))
  rw [← e]
  exact hs
theorem pure_lifted (F : LiftC K w) (h : sp_lifted K w vs H Q E) : t_lifted K w { nx := fun _ H' => Q .non H', rt := Q } (start N_lifted vs) H := by
  obtain ⟨c, ns, a, rfl, hc, hb, q⟩ := h
  unfold t_lifted
  refine R.seq (R.asg (R.call (R.cons (R.var (R.cons (R.var (R.nil ⟨c, ns, a, rfl, hc, hb, fun v H1 s1 d1 => R.gName ?_⟩)))))))
  cases e : rowAt ns a with
  | none =>
    rw [e] at d1
    obtain rfl := dp_none d1
    refine R.seq (R.ifS (R.test (R.op (R.var (R.c (R.isNn (R.bl (R.iT ?_))))))))
    have e1 : stmAt ns a = [] := by
      unfold stmAt
      rw [opAt_none e]
    have e2 : exitAt ns a = .tuple [.str "end", .str "broken"] := by
      unfold exitAt
      rw [opAt_none e]
    rw [e1, e2] at q
    refine R.ret (R.tup (R.cons (DA.newL (K := K) (B := H1) DA.nil (by decide) (SmD.refl H1) fun l xs H2 s2 fl g d2 => R.cons ?_)))
    refine (DE.tup (K := K) (B := H2) (ds := [.str "end", .str "broken"]) (DA.cons DE.str (DA.cons DE.str DA.nil))) H2 _ (SmD.refl H2) fun v H3 s3 d3 => R.nil ⟨by k_caughtN0, fun t ht => ?_⟩
    exact q t l xs v _ (s1.trans (s2.trans (s3.trans (same_upd ht)))) (s1.free fl) (same_upd ht _ _ (s3 _ _ g)) upd_same (DpAll.mono (s3.trans (same_upd ht)) d2) (Dp.mono (same_upd ht) d3)
  | some y =>
    obtain ⟨l, m⟩ := y
    obtain ⟨op, h1, rfl, ok⟩ := opAt_some hb e
    rw [e] at d1
    have e1 : stmAt ns a = stmD op := by
      unfold stmAt
      rw [h1]
    have e2 : exitAt ns a = exitD op (a + m) := by
      unfold exitAt
      rw [h1]
    rw [e1, e2] at q
    obtain ⟨f, xs, rfl, hf, ha⟩ := dp_tup d1
    cases ha with
    | cons a1 a2 =>
      cases a2 with
      | cons b1 b2 =>
        cases b1
        cases b2
        obtain ⟨p, rfl, hp⟩ := dp_row a1
        refine R.seq (R.ifS (R.test (R.op (R.var (R.c (R.isNr (R.bl (R.iF (R.next ?_)))))))))
        refine R.seq (R.asg (R.var (R.gPairT hf ?_)))
        obtain ⟨rest, ev⟩ := vals_wd op
        refine R.seq (R.asg ⟨_, _, rfl, F.lifts, F.liftsN, R.rw0 (show SqT K H1 p (.str op.wd :: rest) by rw [← ev]; exact hp) ⟨Sum.inr op.wd, rfl, ?_⟩⟩)
        rw [lift_look]
        refine R.gName (R.ret (R.tup (R.cons (R.callD ⟨op.lift, spLift op.lift K, rfl, if_pos (lift_in op), R.cons (R.var (R.nil ⟨p, op, rfl, hp, rfl, fun l xs H2 s2 fl g d2 => ?_⟩))⟩))))
        refine R.cons (R.call (R.cons (R.var (R.cons (R.op (R.var (R.var (R.addI (R.nil ⟨p, op, a + m, rfl, SqT.mono s2 hp, fun v H3 s3 d3 => ?_⟩)))))))))
        refine R.nil ⟨by k_caughtN0, fun t ht => ?_⟩
        exact q t l xs v _ (s1.trans (s2.trans (s3.trans (same_upd ht)))) (s1.free fl) (same_upd ht _ _ (s3 _ _ g)) upd_same (DpAll.mono (s3.trans (same_upd ht)) d2) (Dp.mono (same_upd ht) d3)
end
end Rl
namespace Rl
open PySem PySem.Spec PyProof.Rows L2
section
variable {K : PySem.W.Frag} {w : World} {vs : List V} {H : Hp} {Q : VK} {E : XK}
theorem row_dn {ns : List Int} {a b : Int} (h : 0 ≤ a ∧ a < ns.length) (hb : ns[a.toNat]? = some b) (hd : dec b = none) : rowAt ns a = none := by
  rw [rowAt_in h hb]
  unfold rowD
  rw [hd]
  cases isLong b <;> simp
theorem row_d1 {ns : List Int} {a b : Int} {z : Str} {sh : Sh} (h : 0 ≤ a ∧ a < ns.length) (hb : ns[a.toNat]? = some b) (hd : dec b = some (z, sh)) (hs : isN sh = false) : rowAt ns a = some (.str z :: restD b 0 sh, 1) := by
  rw [rowAt_in h hb, isLong_dec hd, hs, if_neg Bool.false_ne_true, rowD_dec hd]
  rfl
theorem row_d2 {ns : List Int} {a b n : Int} {z : Str} {sh : Sh} (h : 0 ≤ a ∧ a < ns.length) (hb : ns[a.toNat]? = some b) (hd : dec b = some (z, sh)) (hs : isN sh = true) (h2 : a + 1 < ns.length) (hn : ns[(a + 1).toNat]? = some n) : rowAt ns a = some (.str z :: restD b n sh, 2) := by
  have e : ns.getD (a.toNat + 1) 0 = n := by
    rw [List.getD_eq_getElem?_getD, show a.toNat + 1 = (a + 1).toNat by omega, hn]
    rfl
  rw [rowAt_in h hb, isLong_dec hd, hs, if_pos rfl, if_pos h2, e, rowD_dec hd]
  rfl
theorem words_at {k : Int} (h : k ∉ ([1, 9, 12, 13, 14] : List Int)) (h0 : k ≠ 0) (h15 : k ≠ 15) (k0 : 0 ≤ k) (k1 : k < 16) : atI (wordsW.map V.str) (k - 2) = some (.str (wordsW.getD (k - 2).toNat "")) := by
  simp only [List.mem_cons, List.not_mem_nil, or_false, not_or] at h
  obtain rfl | rfl | rfl | rfl | rfl | rfl | rfl | rfl | rfl : k = 2 ∨ k = 3 ∨ k = 4 ∨ k = 5 ∨ k = 6 ∨ k = 7 ∨ k = 8 ∨ k = 10 ∨ k = 11 := by omega
  all_goals rfl
theorem num_look {k : Int} (h : k ∈ ([1, 9, 12, 13, 14] : List Int)) (h14 : k ≠ 14) : ∃ z, numT.lookup k = some z ∧ valV ([(Sum.inl 1, .str "set"), (Sum.inl 9, .str "testn"), (Sum.inl 12, .str "loadn"), (Sum.inl 13, .str "storen")] : List (Key × V)) (Sum.inl k) = some (.str z) := by
  simp only [List.mem_cons, List.not_mem_nil, or_false] at h
  rcases h with rfl | rfl | rfl | rfl | rfl
  · exact ⟨_, rfl, rfl⟩
  · exact ⟨_, rfl, rfl⟩
  · exact ⟨_, rfl, rfl⟩
  · exact ⟨_, rfl, rfl⟩
  · exact absurd rfl h14
theorem box_at {i : Int} (h0 : 0 ≤ i) (h4 : i < 4) {Q2 : VK} (q : Q2 (.str (box i)) H) : rIx K (.str "abcd") (.int i) H Q2 := R.ixS (by decide) (atI_abcd h0 h4) q
/-- the tail: a tuple of a row and how many bytes it has -/
theorem la_ret {σ : L2.St} {tr : TA} {ds : List PyData} {m : Int} (h : DX K (tTup tr) σ H (.tuple ds)) (q : ∀ v H', Same H H' → Dp K H' v (.tuple [.tuple ds, .int m]) → Q v H') : tTup (tCons (tTup tr) (tCons (tC (.int m)) tNil)) σ H Q :=
  R.tup (R.cons (h _ fun v H1 s1 d1 => R.cons (R.c (R.nil ⟨by simp only [List.length_cons, List.length_nil]; decide, fun t ht => q _ _ (s1.trans (same_upd ht)) (.tup (SqT.of upd_same) (.cons (Dp.mono (same_upd ht) d1) (.cons (.int _) .nil)))⟩))))
theorem DX.tup {σ : L2.St} {tr : TA} {ds : List PyData} (h : ∀ QA : List V → Hp → Prop, (∀ vs H', Same H H' → DpAll K H' vs ds → QA vs H') → tr σ H QA) (hl : ds.length ≤ 1000) : DX K (tTup tr) σ H (.tuple ds) := fun Q q => R.tup (h _ fun vs H1 s1 d1 =>
  ⟨by rw [DpAll.length d1]; exact Nat.le_trans hl (by decide), fun p hp => q _ _ (s1.trans (same_upd hp)) (.tup (SqT.of upd_same) (DpAll.mono (same_upd hp) d1))⟩)
theorem pure_law_row_at {F : Prop} (_ : F) (h : sp_law_row_at K w vs H Q E) : t_law_row_at K w { nx := fun _ H' => Q .non H', rt := Q } (start N_law_row_at vs) H := by
  obtain ⟨c, ns, a, rfl, hc, hb, q⟩ := h
  unfold t_law_row_at
  have hQ : ∀ {v : V} {H' : Hp} {o : Option (List PyData × Int)}, rowAt ns a = o → Same H H' → Dp K H' v (atD o) → Q v H' := fun e s d => q _ _ s (by rw [e]; exact d)
  refine R.seq (R.ifS (R.not' ?_))
  k_caught0
  refine R.iAnd (fun h0 h1 => ?_) (fun hno => R.ret (R.c (hQ (rowAt_out hno) (Same.refl _) .non)))
  have hin : 0 ≤ a ∧ a < (ns.length : Int) := ⟨h0, h1⟩
  refine R.next ?_
  refine R.seq (R.asg (R.op (R.var (R.var (R.ixC hc hin.1 hin.2 fun b hbm hmem => R.gName ?_)))))
  have hb2 := hb b hmem
  have hd := ldec_eq hb2.1 hb2.2
  unfold ldec at hd
  refine R.seq (R.asg (R.op (R.var (R.c (R.divI (R.cdiv (by omega) (by omega)) (R.gName ?_))))))
  refine R.seq (R.asg (R.op (R.c (R.op (R.op (R.var (R.c (R.divI (R.cdiv (by omega) (by omega)) (R.c (R.modI (by decide) (box_at (by omega) (by omega) (R.gName ?_))))))))))))
  refine R.seq (R.asg (R.op (R.c (R.op (R.var (R.c (R.modI (by decide) (box_at (by omega) (by omega) (R.gName ?_)))))))))
  by_cases k0 : b / 16 = 0
  · refine R.seq (R.ifS (R.test (R.op (R.var (R.c (R.eqI (R.bl (R.iDT k0 ?_))))))))
    rw [if_pos k0] at hd
    refine R.seq (R.asg (R.lst (R.strL_ok aloneW ⟨by decide, fun l hl => R.gName ?_⟩)))
    refine R.ret (R.ifE (R.test (R.op (R.var (R.c (R.gtI (R.bl (R.iD (fun h2 => ?_) (fun h2 => ?_)))))))))
    · rw [if_pos h2] at hd
      exact R.c (hQ (row_dn hin hbm hd) (same_upd hl) .non)
    · rw [if_neg h2] at hd
      refine la_ret (K := K) (ds := [.str (alone b)]) (DX.tup (fun QA qa => ?_) (by simp only [List.length_cons, List.length_nil]; decide)) fun v H2 s2 d2 => ?_
      · exact R.cons (R.op (R.var (R.var (R.ixL (xs := aloneW.map V.str) (SqL.of upd_same) (atI_alone hb2.1 (by omega)) (R.nil (qa _ _ (Same.refl _) (.cons (.str _) .nil)))))))
      · exact hQ (row_d1 hin hbm hd rfl) ((same_upd hl).trans s2) d2
  rw [if_neg k0] at hd
  refine R.seq (R.ifS (R.test (R.op (R.var (R.c (R.eqI (R.bl (R.iDF k0 (R.next ?_)))))))))
  by_cases k15 : b / 16 = 15
  · rw [if_pos k15] at hd
    refine R.seq (R.ifS (R.test (R.op (R.var (R.c (R.eqI (R.bl (R.iDT k15 ?_))))))))
    refine R.ret (la_ret (K := K) (ds := [.str (single (b % 4)), .str (boxR b)]) (DX.tup (fun QA qa => ?_) (by simp only [List.length_cons, List.length_nil]; decide)) fun v H2 s2 d2 => ?_)
    · exact R.cons (R.op (R.lst (R.strL_ok singleW ⟨by decide, fun l hl => R.op (R.var (R.c (R.modI (by decide) (R.ixL (xs := singleW.map V.str) (SqL.of upd_same) (atI_single (by omega) (by omega)) (R.cons (R.var (R.nil (qa _ _ (same_upd hl) (.cons (.str _) (.cons (.str _) .nil))))))))))⟩)))
    · exact hQ (row_d1 hin hbm hd rfl) s2 d2
  rw [if_neg k15] at hd
  refine R.seq (R.ifS (R.test (R.op (R.var (R.c (R.eqI (R.bl (R.iDF k15 (R.next ?_)))))))))
  refine R.seq (R.asg (R.lst (R.strL_ok wordsW ⟨by decide, fun l7 hl7 => R.gName ?_⟩)))
  have s7 : Same H (upd H l7 (.lst (wordsW.map V.str))) := same_upd hl7
  have g7 : (upd H l7 (.lst (wordsW.map V.str))) l7 = some (.lst (wordsW.map V.str)) := upd_same
  generalize upd H l7 (.lst (wordsW.map V.str)) = H1 at s7 g7 ⊢
  refine R.seq (R.ifS (R.test (R.op (R.var (R.lst (R.cons (R.c (R.cons (R.c (R.cons (R.c (R.cons (R.c (R.cons (R.c (R.nil ⟨by k_caughtN0, fun l hl => ?_⟩))))))))))))))))
  refine R.ninInts (ns := [1, 9, 12, 13, 14]) (.inl (SqL.of upd_same)) (R.bl ?_)
  have s8 : Same H (upd H1 l (.lst [V.int 1, V.int 9, V.int 12, V.int 13, V.int 14])) := s7.trans (same_upd hl)
  have g8 : (upd H1 l (.lst [V.int 1, V.int 9, V.int 12, V.int 13, V.int 14])) l7 = some (.lst (wordsW.map V.str)) := same_upd hl _ _ g7
  show if _ then _ else _
  generalize upd H1 l (.lst [V.int 1, V.int 9, V.int 12, V.int 13, V.int 14]) = H2 at s8 g8 ⊢
  by_cases hk : b / 16 ∉ ([1, 9, 12, 13, 14] : List Int)
  · rw [if_pos hk] at hd
    rw [decide_eq_false hk]
    refine R.iT (R.ret (la_ret (K := K) (ds := [.str (wordsW.getD (b / 16 - 2).toNat ""), .str (boxR b), .str (boxS b)]) (DX.tup (fun QA qa => ?_) (by simp only [List.length_cons, List.length_nil]; decide)) fun v H2 s2 d2 => ?_))
    · exact R.cons (R.op (R.var (R.op (R.var (R.c (R.subI (R.ixL (SqL.of g8) (words_at hk k0 k15 (by omega) (by omega)) (R.cons (R.var (R.cons (R.var (R.nil (qa _ _ (Same.refl _) (.cons (.str _) (.cons (.str _) (.cons (.str _) .nil))))))))))))))))
    · exact hQ (row_d1 hin hbm hd rfl) (s8.trans s2) d2
  rw [if_neg hk] at hd
  have hk : b / 16 ∈ ([1, 9, 12, 13, 14] : List Int) := Decidable.of_not_not hk
  rw [decide_eq_true hk]
  refine R.iF (R.next ?_)
  have hc2 := Code.mono s8 hc
  have hlong := llong_eq hb2.1 hb2.2 hk
  refine R.seq (R.ifS (R.or' (R.test (R.op (R.op (R.var (R.c (R.addI (R.cb (R.cons (R.var (R.nil (R.lenC hc2 (R.eqI (R.bl (R.iD (fun hend => R.iT ?_) (fun hend => ?_)))))))))))))))))
  · have e : rowAt ns a = none := by
      rcases hlong with z | z
      · exact row_dn hin hbm z
      · rw [rowAt_in hin hbm, if_pos z, if_neg (by omega)]
    exact R.ret (R.c (hQ e s8 .non))
  have hlt : a + 1 < (ns.length : Int) := by omega
  have esx : ∀ {i : Int}, 0 ≤ i → i < 4 → (box i ≠ "a" ↔ i ≠ 0) := fun {i} h0 h4 => by
    obtain rfl | rfl | rfl | rfl : i = 0 ∨ i = 1 ∨ i = 2 ∨ i = 3 := by omega
    all_goals decide
  have es := esx (i := b % 4) (by omega) (by omega)
  by_cases k14 : b / 16 = 14
  · rw [if_neg (fun z => z.1 k14)] at hd
    refine R.and' (R.test (R.op (R.var (R.c (R.neI (R.bl ?_))))))
    rw [decide_eq_true k14]
    refine R.iF (R.iF (R.next ?_))
    refine R.seq (R.ifS (R.and' (R.test (R.op (R.var (R.c (R.eqI (R.bl (R.iDT k14 (R.test (R.op (R.op (R.var (R.c (R.modI (by decide) (R.c (R.gtI (R.bl (R.iD (fun h5 => ?_) (fun h5 => R.next ?_))))))))))))))))))))
    · rw [if_pos ⟨k14, h5⟩] at hd
      exact R.ret (R.c (hQ (row_dn hin hbm hd) s8 .non))
    rw [if_neg (fun z => h5 z.2), if_pos k14] at hd
    refine R.seq (R.asg (R.lst (R.strL_ok targetW ⟨by decide, fun l9 hl9 => R.gName ?_⟩)))
    have s9 := s8.trans (same_upd (o := .lst (targetW.map V.str)) hl9)
    refine R.seq (R.ifS (R.test (R.op (R.var (R.c (R.eqI (R.bl (R.iDT k14 ?_))))))))
    have hc3 := Code.mono s9 hc
    obtain ⟨n, hn⟩ : ∃ n, ns[(a + 1).toNat]? = some n := ⟨_, List.getElem?_eq_getElem (by omega)⟩
    refine R.ret (la_ret (K := K) (ds := [.str (target (b % 16)), .int n]) (DX.tup (fun QA qa => ?_) (by simp only [List.length_cons, List.length_nil]; decide)) fun v H2 s2 d2 => ?_)
    · exact R.cons (R.op (R.var (R.op (R.var (R.c (R.modI (by decide) (R.ixL (xs := targetW.map V.str) (SqL.of upd_same) (atI_target (by omega) (by omega)) (R.cons (R.op (R.var (R.op (R.var (R.c (R.addI (R.ixC hc3 (by omega) hlt fun m hm _ => R.nil (qa _ _ (Same.refl _) (.cons (.str _) (.cons (by rw [hn] at hm; cases hm; exact .int _) .nil))))))))))))))))))
    · exact hQ (row_d2 hin hbm hd rfl hlt hn) (s9.trans s2) d2
  · refine R.and' (R.test (R.op (R.var (R.c (R.neI (R.bl ?_))))))
    rw [decide_eq_false k14]
    refine R.iT (R.test (R.op (R.var (R.c (R.neS (R.bl ?_))))))
    by_cases hs : b % 4 ≠ 0
    · rw [if_pos ⟨k14, hs⟩] at hd
      rw [decide_eq_false (es.mpr hs)]
      exact R.iT (R.ret (R.c (hQ (row_dn hin hbm hd) s8 .non)))
    have hs : b % 4 = 0 := Decidable.of_not_not hs
    rw [if_neg (fun z => z.2 hs), if_neg (fun z => k14 z.1), if_neg k14] at hd
    rw [decide_eq_true (Decidable.of_not_not fun z => es.mp z hs)]
    refine R.iF (R.next ?_)
    refine R.seq (R.ifS (R.and' (R.test (R.op (R.var (R.c (R.eqI (R.bl (R.iDF k14 (R.iF (R.next ?_)))))))))))
    refine R.seq (R.asg (R.lst (R.strL_ok targetW ⟨by decide, fun l9 hl9 => R.gName ?_⟩)))
    have s9 := s8.trans (same_upd (o := .lst (targetW.map V.str)) hl9)
    refine R.seq (R.ifS (R.test (R.op (R.var (R.c (R.eqI (R.bl (R.iDF k14 (R.next ?_)))))))))
    obtain ⟨z, hz1, hz2⟩ := num_look hk k14
    rw [hz1] at hd
    generalize upd H2 l9 (.lst (targetW.map V.str)) = H3 at s9 ⊢
    refine R.seq (R.asg (R.dget (R.disp fun p hp => ?_)))
    refine R.pairsC (R.c (R.c (R.pairsC (R.c (R.c (R.pairsC (R.c (R.c (R.pairsC (R.c (R.c (R.pairsN ⟨upd_same, [(Sum.inl 1, .str "set"), (Sum.inl 9, .str "testn"), (Sum.inl 12, .str "loadn"), (Sum.inl 13, .str "storen")], rfl, by simp only [List.length_cons, List.length_nil]; decide, R.var ?_⟩))))))))))))
    refine R.dgetV (k := Sum.inl (b / 16)) upd_same rfl hz2 ?_
    have s10 : ∀ o, Same H (upd (upd H3 p (.dK [])) p o) := fun o => s9.trans (fun x y e => by
      rw [upd_ne (ne_of_none e hp)]
      exact same_upd hp _ _ e)
    have hc3 : ∀ o, Code K (upd (upd H3 p (.dK [])) p o) c ns := fun o => Code.mono (s10 o) hc
    obtain ⟨n, hn⟩ : ∃ n, ns[(a + 1).toNat]? = some n := ⟨_, List.getElem?_eq_getElem (by omega)⟩
    refine R.ret (la_ret (K := K) (ds := [.str z, .str (boxR b), .int n]) (DX.tup (fun QA qa => ?_) (by simp only [List.length_cons, List.length_nil]; decide)) fun v H2 s2 d2 => ?_)
    · exact R.cons (R.var (R.cons (R.var (R.cons (R.op (R.var (R.op (R.var (R.c (R.addI (R.ixC (hc3 _) (by omega) hlt fun m hm _ => R.nil (qa _ _ (Same.refl _) (.cons (.str _) (.cons (.str _) (.cons (by rw [hn] at hm; cases hm; exact .int _) .nil)))))))))))))))
    · exact hQ (row_d2 hin hbm hd rfl hlt hn) ((s10 _).trans s2) d2
end
end Rl
namespace Rl
open PySem PySem.Spec PyProof.Rows L2
section
variable {K : PySem.W.Frag} {w : World} {vs : List V} {H : Hp} {Q : VK} {E : XK}
/-! ## the law's statements -/
/-- the table of statements by words: box, worth, place -/
abbrev preT (r : Str) (sD rD : PyData) : List (Str × PyData) :=
  [("add", .list [setD "less" (bothD "<" (bothD "-" (numD 255) (nameD r)) sD), setD r (bothD "+" (nameD r) sD), zeroD r]),
   ("sub", .list [setD "less" (bothD "<" (nameD r) sD), setD r (bothD "-" (nameD r) sD), zeroD r]),
   ("storen", .list [.tuple [.str "cell", rD, nameD r]]), ("store", .list [.tuple [.str "cell", nameD r, sD]]),
   ("loadn", .list [setD r (.tuple [.str "cell", rD])]), ("load", .list [setD r (.tuple [.str "cell", rD])]),
   ("testn", .list [setD "zero" (bothD "=" (nameD r) sD), setD "less" (bothD "<" (nameD r) sD)]), ("copy", .list [setD r sD]),
   ("test", .list [setD "zero" (bothD "=" (nameD r) sD), setD "less" (bothD "<" (nameD r) sD)]), ("set", .list [setD r sD])]
abbrev bitT : List (Str × Str) := [("and", "&"), ("or", "|"), ("xor", "^")]
def bitE (r : Str) (sD : PyData) (q : Str × Str) : Str × PyData := (q.1, .list [setD r (bothD q.2 (nameD r) sD), zeroD r, setD "less" (numD 0)])
abbrev bitsD : List PyData := bitT.map fun q => .tuple [.str q.1, .str q.2]
/-- what holds while the table is filled -/
structure LsF (K : PySem.W.Frag) (p : Addr) (wd r : Str) (x v2 v4 v5 v6 v7 : V) (sD rD : PyData) (H : Hp) : Prop where
  row : SqT K H p [.str wd, .str r, x]
  d2 : Dp K H v2 (nameD r)
  d4 : Dp K H v4 sD
  d5 : Dp K H v5 rD
  d6 : Dp K H v6 (zeroD r)
  d7 : Dp K H v7 (setD "less" (bothD "<" (nameD r) sD))
theorem LsF.smd {p : Addr} {wd r : Str} {x v2 v4 v5 v6 v7 : V} {sD rD : PyData} : ∀ A B, SmD A B → LsF K p wd r x v2 v4 v5 v6 v7 sD rD A → LsF K p wd r x v2 v4 v5 v6 v7 sD rD B := fun A B s h =>
  ⟨SqT.smd s h.row, Dp.smd s h.d2, Dp.smd s h.d4, Dp.smd s h.d5, Dp.smd s h.d6, Dp.smd s h.d7⟩
theorem kS {k : Str} {σ : L2.St} : ∀ (H2 : Hp) (Q2 : VK), Q2 (.str k) H2 → tC (.str k) σ H2 Q2 := fun _ _ z => R.c z
theorem joinT {σ : L2.St} {nx bk ct : L2.St → Hp → Prop} {rt : VK} {t : TS} (P : L2.St → Hp → Prop) (q : ∀ N : L2.St → Hp → Prop, (∀ σ H, P σ H → N σ H) → t ⟨N, rt, bk, ct⟩ σ H) (key : ∀ σ H, P σ H → nx σ H) : t ⟨nx, rt, bk, ct⟩ σ H := q nx key
/-- a row of three -/
theorem ls_three {p : Addr} {wd r : Str} {x : V} {sD rD d : PyData} (hp : SqT K H p [.str wd, .str r, x]) (hx : (∃ s, x = .str s ∧ sD = nameD s ∧ rD = nameD s) ∨ ∃ n, x = .int n ∧ sD = numD n ∧ rD = numD (n % 64))
    (look : ((bitT.map (bitE r sD)).reverse ++ preT r sD rD).lookup wd = some d) (q : ∀ v H', Same H H' → Dp K H' v d → Q v H') : t_law_statements K w { nx := fun _ H' => Q .non H', rt := Q } (start N_law_statements [.ref p]) H := by
  unfold t_law_statements
  refine R.seq (R.asg (R.rw0 hp (R.gName ?_)))
  refine R.seq (R.asg (R.ifE (R.test (R.op (R.cb (R.cons (R.var (R.nil (R.lenT hp (R.c (R.gtI (R.bl (R.iDT (by simp) ?_)))))))))))))
  refine (DE.tup (K := K) (B := H) (DA.cons DE.str (DA.cons (DE.ix (p := p) rfl hp rfl (.str r)) DA.nil))) H _ (SmD.refl H) fun v2 H1 s1 d2 => R.gName ?_
  have hp1 := SqT.mono s1 hp
  refine R.seq (R.ifS (R.test (R.op (R.cb (R.cons (R.var (R.nil (R.lenT hp1 (R.c (R.ltI (R.bl (R.iDF (by simp) (R.next ?_)))))))))))))
  refine R.seq (joinT (fun σ H' => ∃ v4, σ = [some (.ref p), some (.str wd), some v2, none, some v4, none, none, none, none, none, none, none] ∧ Same H1 H' ∧ Dp K H' v4 sD) (fun N key => ?_) ?_)
  · refine R.asg (R.ifE (R.tB' (R.cb (R.cons (R.rw2 hp1 (R.cons (R.c (R.nil ?_))))))))
    rcases hx with ⟨s, rfl, rfl, rfl⟩ | ⟨n, rfl, rfl, rfl⟩
    · refine R.isiD (d := .str s) (b := true) (.str s) rfl (R.bl (R.iT ?_))
      exact (DE.tup (K := K) (B := H1) (DA.cons DE.str (DA.cons (DE.ix (p := p) rfl hp1 rfl (.str s)) DA.nil))) H1 _ (SmD.refl H1) fun v4 H2 s2 d4 => R.gName (key _ _ ⟨v4, rfl, s2, d4⟩)
    · refine R.isiD (d := .int n) (b := false) (.int n) rfl (R.bl (R.iF ?_))
      exact (DE.tup (K := K) (B := H1) (DA.cons DE.str (DA.cons (DE.ix (p := p) rfl hp1 rfl (.int n)) DA.nil))) H1 _ (SmD.refl H1) fun v4 H2 s2 d4 => R.gName (key _ _ ⟨v4, rfl, s2, d4⟩)
  rintro σ H2 ⟨v4, rfl, s2, d4⟩
  have hp2 := SqT.mono s2 hp1
  refine R.seq (joinT (fun σ H' => ∃ v5, σ = [some (.ref p), some (.str wd), some v2, none, some v4, some v5, none, none, none, none, none, none] ∧ Same H2 H' ∧ Dp K H' v5 rD) (fun N key => ?_) ?_)
  · refine R.asg (R.ifE (R.tB' (R.cb (R.cons (R.rw2 hp2 (R.cons (R.c (R.nil ?_))))))))
    rcases hx with ⟨s, rfl, rfl, rfl⟩ | ⟨n, rfl, rfl, rfl⟩
    · refine R.isiD (d := .str s) (b := false) (.str s) rfl (R.bl (R.iF ?_))
      exact R.var (R.gName (key _ _ ⟨v4, rfl, Same.refl _, d4⟩))
    · refine R.isiD (d := .int n) (b := true) (.int n) rfl (R.bl (R.iT ?_))
      exact (DE.tup (K := K) (B := H2) (DA.cons DE.str (DA.cons (DE.mod (DE.ix (p := p) rfl hp2 rfl (.int n)) DE.int (by decide)) DA.nil))) H2 _ (SmD.refl H2) fun v5 H3 s3 d5 => R.gName (key _ _ ⟨v5, rfl, s3, d5⟩)
  rintro σ H3 ⟨v5, rfl, s3, d5⟩
  have d2' := Dp.mono (s2.trans s3) d2
  have d4' := Dp.mono s3 d4
  refine R.seq (DE.asg (K := K) (B := H3) (d := zeroD r) (DE.tup (DA.cons DE.str (DA.cons DE.str (DA.cons (DE.tup (DA.cons DE.str (DA.cons (DE.vr d2' rfl) (DA.cons (DE.tup (DA.cons DE.str (DA.cons DE.int DA.nil))) DA.nil)))) DA.nil)))) (SmD.refl H3) fun v6 H4 s4 d6 => ?_)
  have d24 := Dp.mono s4 d2'
  have d44 := Dp.mono s4 d4'
  refine R.seq (DE.asg (K := K) (B := H4) (d := setD "less" (bothD "<" (nameD r) sD)) (DE.tup (DA.cons DE.str (DA.cons DE.str (DA.cons (DE.tup (DA.cons DE.str (DA.cons (DE.vr d24 rfl) (DA.cons (DE.vr d44 rfl) DA.nil)))) DA.nil)))) (SmD.refl H4) fun v7 H5 s5 d7 => ?_)
  have sA : Same H H5 := s1.trans (s2.trans (s3.trans (s4.trans s5)))
  have fa : LsF K p wd r x v2 v4 v5 v6 v7 sD rD H5 := ⟨SqT.mono sA hp, Dp.mono s5 d24, Dp.mono s5 d44, Dp.mono (s4.trans s5) d5, Dp.mono s5 d6, d7⟩
  clear d2 d4 d5 d6 d7 d2' d4' d24 d44 hp1 hp2 s1 s2 s3 s4 s5 hp
  refine R.seq (R.asg (DPs.disp (K := K) (B := H5) (tbl := [("set", .list [setD r sD]), ("test", .list [setD "zero" (bothD "=" (nameD r) sD), setD "less" (bothD "<" (nameD r) sD)])]) (DPs.cons (DE.lst (DA.cons (DE.tup (DA.cons DE.str (DA.cons (DE.ix (p := p) rfl fa.row rfl (.str r)) (DA.cons (DE.vr fa.d4 rfl) DA.nil)))) DA.nil)) (DPs.cons (DE.lst (DA.cons (DE.tup (DA.cons DE.str (DA.cons DE.str (DA.cons (DE.tup (DA.cons DE.str (DA.cons (DE.vr fa.d2 rfl) (DA.cons (DE.vr fa.d4 rfl) DA.nil)))) DA.nil)))) (DA.cons (DE.vr fa.d7 rfl) DA.nil))) DPs.nil)) (SmD.refl H5) (by simp only [List.length_cons, List.length_nil]; decide) fun p8 kvs H6 s6 f8 g8 l8 gd => R.gName ?_))
  have I : DcI K H (LsF K p wd r x v2 v4 v5 v6 v7 sD rD) p8 15 [("test", .list [setD "zero" (bothD "=" (nameD r) sD), setD "less" (bothD "<" (nameD r) sD)]), ("set", .list [setD r sD])] H6 := ⟨LsF.smd, sA.trans s6, sA.free f8, LsF.smd _ _ s6.smd fa, kvs, g8, l8, gd⟩
  clear g8 l8 gd f8 s6 fa sA kvs
  refine R.seq (R.asg (DX.two (I.get rfl rfl kS) (fun H' s => (I.step s).get rfl rfl kS) fun t va vb H7 s7 ht da db => ?_))
  refine (I.step s7).gput2 (by decide) ht da db rfl kS kS fun H8 I8 => ?_
  clear I s7 ht da db
  refine R.seq (I8.put (by decide) (DE.at' (DE.lst (DA.cons (DE.tup (DA.cons DE.str (DA.cons (DE.ix (p := p) rfl I8.fa.row rfl (.str r)) (DA.cons (DE.tup (DA.cons DE.str (DA.cons (DE.vr I8.fa.d5 rfl) DA.nil))) DA.nil)))) DA.nil)) (SmD.refl H8)) rfl kS fun H9 I9 => ?_)
  refine R.seq (I9.put (by decide) (I9.get rfl rfl kS) rfl kS fun Ha Ia => ?_)
  refine R.seq (R.asg (DX.two (DE.at' (DE.lst (DA.cons (DE.tup (DA.cons DE.str (DA.cons (DE.vr Ia.fa.d2 rfl) (DA.cons (DE.vr Ia.fa.d4 rfl) DA.nil)))) DA.nil)) (SmD.refl Ha)) (fun H' s => DE.at' (DE.lst (DA.cons (DE.tup (DA.cons DE.str (DA.cons (DE.vr Ia.fa.d5 rfl) (DA.cons (DE.vr Ia.fa.d2 rfl) DA.nil)))) DA.nil)) s.smd) fun t va vb Hb sb ht da db => ?_))
  refine (Ia.step sb).gput2 (by decide) ht da db rfl kS kS fun Hc Ic => ?_
  clear sb ht da db I8 I9 Ia
  refine R.seq (Ic.put (by decide) (DE.at' (DE.lst (DA.cons (DE.vr Ic.fa.d7 rfl) (DA.cons (DE.tup (DA.cons DE.str (DA.cons (DE.ix (p := p) rfl Ic.fa.row rfl (.str r)) (DA.cons (DE.tup (DA.cons DE.str (DA.cons (DE.vr Ic.fa.d2 rfl) (DA.cons (DE.vr Ic.fa.d4 rfl) DA.nil)))) DA.nil)))) (DA.cons (DE.vr Ic.fa.d6 rfl) DA.nil)))) (SmD.refl Hc)) rfl kS fun Hd Id => ?_)
  refine R.seq (DE.asg (K := K) (B := Hd) (d := setD "less" (bothD "<" (bothD "-" (numD 255) (nameD r)) sD)) (DE.tup (DA.cons DE.str (DA.cons DE.str (DA.cons (DE.tup (DA.cons DE.str (DA.cons (DE.tup (DA.cons DE.str (DA.cons (DE.tup (DA.cons DE.str (DA.cons DE.int DA.nil))) (DA.cons (DE.vr Id.fa.d2 rfl) DA.nil)))) (DA.cons (DE.vr Id.fa.d4 rfl) DA.nil)))) DA.nil)))) (SmD.refl Hd) fun v9 He se d9 => ?_)
  have Ie := Id.step se
  refine R.seq (Ie.put (by decide) (DE.at' (DE.lst (DA.cons (DE.vr d9 rfl) (DA.cons (DE.tup (DA.cons DE.str (DA.cons (DE.ix (p := p) rfl Ie.fa.row rfl (.str r)) (DA.cons (DE.tup (DA.cons DE.str (DA.cons (DE.vr Ie.fa.d2 rfl) (DA.cons (DE.vr Ie.fa.d4 rfl) DA.nil)))) DA.nil)))) (DA.cons (DE.vr Ie.fa.d6 rfl) DA.nil)))) (SmD.refl He)) rfl kS fun Hf If' => ?_)
  clear Ic Id Ie d9 se
  refine R.seq (R.for' (R.seqIter ?_))
  refine (DE.lst (K := K) (B := Hf) (ds := bitsD) (DA.cons (DE.tup (DA.cons DE.str (DA.cons DE.str DA.nil))) (DA.cons (DE.tup (DA.cons DE.str (DA.cons DE.str DA.nil))) (DA.cons (DE.tup (DA.cons DE.str (DA.cons DE.str DA.nil))) DA.nil)))) Hf _ (SmD.refl Hf) fun v Hg sg dg => ?_
  obtain ⟨L, xs, rfl, hL, hxs⟩ := dp_lst dg
  have Ig := (If'.step sg).fact (F2 := fun H => LsF K p wd r x v2 v4 v5 v6 v7 sD rD H ∧ SqL K H L xs ∧ DpAll K H xs bitsD) (fun A B s z => ⟨LsF.smd A B s z.1, SqL.smd s z.2.1, DpAll.smd s z.2.2⟩) ⟨(If'.step sg).fa, hL, hxs⟩
  have hlen : xs.length = 3 := DpAll.length hxs
  refine R.forL (xs := xs) (fun i σ H' => ∃ x10 x11, σ = [some (.ref p), some (.str wd), some v2, none, some v4, some v5, some v6, some v7, some (.ref p8), some v9, x10, x11] ∧ DcI K H (fun H => LsF K p wd r x v2 v4 v5 v6 v7 sD rD H ∧ SqL K H L xs ∧ DpAll K H xs bitsD) p8 (23 + i) (((bitT.take i).map (bitE r sD)).reverse ++ preT r sD rD) H') hL ⟨none, none, rfl, Ig⟩ (fun i σ H' _ z => ?_) ?_ ?_
  · obtain ⟨_, _, _, z⟩ := z
    exact z.fa.2.1
  · rintro i y σ H' hy hi ⟨x10, x11, rfl, J⟩
    obtain ⟨d1, g1, g2⟩ := DpAll.get J.fa.2.2 hy
    rw [List.getElem?_map] at g1
    cases eq : bitT[i]? with
    | none =>
      rw [eq] at g1
      cases g1
    | some b =>
      rw [eq] at g1
      obtain rfl := Option.some.inj g1
      obtain ⟨t, ys, rfl, ht, hys⟩ := dp_tup g2
      obtain rfl : ys = [.str b.1, .str b.2] := by
        cases hys with | cons a1 a2 => cases a1; cases a2 with | cons b1 b2 => cases b1; cases b2; rfl
      refine R.gPairT ht ?_
      refine J.put (k := b.1) (by omega) (DE.at' (DE.lst (DA.cons (DE.tup (DA.cons DE.str (DA.cons (DE.ix (p := p) rfl J.fa.1.row rfl (.str r)) (DA.cons (DE.tup (DA.cons (DE.vr (.str b.2) rfl) (DA.cons (DE.vr J.fa.1.d2 rfl) (DA.cons (DE.vr J.fa.1.d4 rfl) DA.nil)))) DA.nil)))) (DA.cons (DE.vr J.fa.1.d6 rfl) (DA.cons (DE.tup (DA.cons DE.str (DA.cons DE.str (DA.cons (DE.tup (DA.cons DE.str (DA.cons DE.int DA.nil))) DA.nil)))) DA.nil)))) (SmD.refl H')) rfl (fun _ _ z => R.var z rfl) fun Hd J2 => ⟨_, _, rfl, ?_⟩
      rw [List.take_add_one, eq, List.map_append, List.reverse_append]
      exact J2
  · rintro σ H' ⟨x10, x11, rfl, J⟩
    rw [hlen] at J
    exact R.ret (J.get (k := wd) look rfl (fun _ _ z => R.var z rfl) _ fun v H2 s2 dv => q v H2 (J.sm.trans s2) dv)
/-- a row of one or two -/
theorem ls_two {p : Addr} {wd : Str} {rest : List V} {lv : V} {ld dR : PyData} (hp : SqT K H p (.str wd :: rest)) (hr : (rest = [] ∧ dR = .none) ∨ ∃ r, rest = [.str r] ∧ dR = nameD r) (hlast : atI (.str wd :: rest) (-1) = some lv) (dl : Dp K H lv ld)
    (q : ∀ v H', Same H H' → Dp K H' v ((([("take", .list [.tuple [.str "take", ld]]), ("in", .list [.tuple [.str "in", ld]]), ("rest", .list [])] : List (Str × PyData)).lookup wd).getD (.list [.tuple [.str wd, dR]])) → Q v H') : t_law_statements K w { nx := fun _ H' => Q .non H', rt := Q } (start N_law_statements [.ref p]) H := by
  unfold t_law_statements
  refine R.seq (R.asg (R.rw0 hp (R.gName ?_)))
  refine R.seq (joinT (fun σ H' => ∃ v2, σ = [some (.ref p), some (.str wd), some v2, none, none, none, none, none, none, none, none, none] ∧ Same H H' ∧ Dp K H' v2 dR) (fun N key => ?_) ?_)
  · refine R.asg (R.ifE (R.test (R.op (R.cb (R.cons (R.var (R.nil (R.lenT hp (R.c (R.gtI (R.bl ?_)))))))))))
    rcases hr with ⟨rfl, rfl⟩ | ⟨r, rfl, rfl⟩
    · exact R.iDF (by simp) (R.c (R.gName (key _ _ ⟨.non, rfl, Same.refl _, .non⟩)))
    · refine R.iDT (by simp) ?_
      exact (DE.tup (K := K) (B := H) (DA.cons DE.str (DA.cons (DE.ix (p := p) rfl hp rfl (.str r)) DA.nil))) H _ (SmD.refl H) fun v2 H1 s1 d2 => R.gName (key _ _ ⟨v2, rfl, s1, d2⟩)
  rintro σ H1 ⟨v2, rfl, s1, d2⟩
  have hp1 := SqT.mono s1 hp
  have dl1 := Dp.mono s1 dl
  have h3 : (((.str wd :: rest : List V).length : Nat) : Int) < 3 := by
    rcases hr with ⟨rfl, _⟩ | ⟨r, rfl, _⟩ <;> simp
  refine R.seq (R.ifS (R.test (R.op (R.cb (R.cons (R.var (R.nil (R.lenT hp1 (R.c (R.ltI (R.bl (R.iDT h3 ?_))))))))))))
  refine R.seq (R.asg (DPs.disp (K := K) (B := H1) (tbl := [("rest", .list []), ("in", .list [.tuple [.str "in", ld]]), ("take", .list [.tuple [.str "take", ld]])]) (DPs.cons (DE.lst DA.nil) (DPs.cons (DE.lst (DA.cons (DE.tup (DA.cons DE.str (DA.cons (DE.ixm (p := p) rfl hp1 hlast dl1) DA.nil))) DA.nil)) (DPs.cons (DE.lst (DA.cons (DE.tup (DA.cons DE.str (DA.cons (DE.ixm (p := p) rfl hp1 hlast dl1) DA.nil))) DA.nil)) DPs.nil))) (SmD.refl H1) (by simp only [List.length_cons, List.length_nil]; decide) fun p3 kvs H3 s3 f3 g3 l3 gd => R.gName ?_))
  have d23 := Dp.mono s3 d2
  refine R.ret (R.var ⟨p3, rfl, .inl ⟨kvs, .inl g3⟩, R.var ((DE.lst (K := K) (B := H3) (ds := [.tuple [.str wd, dR]]) (DA.cons (DE.tup (DA.cons (DE.vr (.str wd) rfl) (DA.cons (DE.vr d23 rfl) DA.nil))) DA.nil)) H3 _ (SmD.refl H3) fun z H4 s4 dz => ⟨valV kvs (Sum.inr wd), .inl ⟨kvs, Sum.inr wd, .inl (s4 _ _ g3), rfl, rfl⟩, ?_⟩)⟩)
  refine q _ _ ((s1.trans s3).trans s4) ?_
  have gd4 := gd.smd s4.smd
  cases e : ([("take", .list [.tuple [.str "take", ld]]), ("in", .list [.tuple [.str "in", ld]]), ("rest", .list [])] : List (Str × PyData)).lookup wd with
  | none =>
    rw [gd4.none e]
    exact dz
  | some d =>
    obtain ⟨v, hv, dv⟩ := gd4.get e
    rw [hv]
    exact dv
theorem pure_law_statements {F : Prop} (_ : F) (h : sp_law_statements K w vs H Q E) : t_law_statements K w { nx := fun _ H' => Q .non H', rt := Q } (start N_law_statements vs) H := by
  obtain ⟨p, op, rfl, hp, ho, q⟩ := h
  cases op with
  | halt => cases ho
  | back => cases ho
  | go k t => cases ho
  | call t => cases ho
  | rest => exact ls_two (wd := "rest") (rest := []) hp (.inl ⟨rfl, rfl⟩) rfl (.str _) q
  | inn r => exact ls_two (wd := "in") hp (.inr ⟨_, rfl, rfl⟩) rfl (.str _) q
  | out r => exact ls_two (wd := "out") hp (.inr ⟨_, rfl, rfl⟩) rfl (.str _) q
  | keep r => exact ls_two (wd := "keep") hp (.inr ⟨_, rfl, rfl⟩) rfl (.str _) q
  | take r => exact ls_two (wd := "take") hp (.inr ⟨_, rfl, rfl⟩) rfl (.str _) q
  | set r n => exact ls_three (wd := "set") hp (.inr ⟨_, rfl, rfl, rfl⟩) rfl q
  | copy r s => exact ls_three (wd := "copy") hp (.inl ⟨_, rfl, rfl, rfl⟩) rfl q
  | test r s => exact ls_three (wd := "test") hp (.inl ⟨_, rfl, rfl, rfl⟩) rfl q
  | testn r n => exact ls_three (wd := "testn") hp (.inr ⟨_, rfl, rfl, rfl⟩) rfl q
  | load r s => exact ls_three (wd := "load") hp (.inl ⟨_, rfl, rfl, rfl⟩) rfl q
  | loadn r n => exact ls_three (wd := "loadn") hp (.inr ⟨_, rfl, rfl, rfl⟩) rfl q
  | store r s => exact ls_three (wd := "store") hp (.inl ⟨_, rfl, rfl, rfl⟩) rfl q
  | storen r n => exact ls_three (wd := "storen") hp (.inr ⟨_, rfl, rfl, rfl⟩) rfl q
  | sum a r s =>
    cases a
    · exact ls_three (wd := "sub") hp (.inl ⟨_, rfl, rfl, rfl⟩) rfl q
    · exact ls_three (wd := "add") hp (.inl ⟨_, rfl, rfl, rfl⟩) rfl q
  | bits k r s =>
    rcases fin3 k with rfl | rfl | rfl
    · exact ls_three (wd := "and") hp (.inl ⟨_, rfl, rfl, rfl⟩) rfl q
    · exact ls_three (wd := "or") hp (.inl ⟨_, rfl, rfl, rfl⟩) rfl q
    · exact ls_three (wd := "xor") hp (.inl ⟨_, rfl, rfl, rfl⟩) rfl q
end
end Rl
namespace Rl
open PySem PySem.Spec PyProof.Rows L2
section
variable {K : PySem.W.Frag} {w : World} {vs : List V} {H : Hp} {Q : VK} {E : XK}
/-! ## the law's lifted row -/
abbrev wayW : List Str := ["halt", "back", "go", "call"]
abbrev wayT (ld : PyData) (b : Int) : List (Str × PyData) := [("halt", .tuple [.str "end", .str "halt"]), ("back", .tuple [.str "back"]), ("go", .tuple [.str "go", ld]), ("call", .tuple [.str "call", ld, .int b])]
abbrev askT : List (Str × PyData) := [("notless", .tuple [.str "not", nameD "less"]), ("nonzero", .tuple [.str "not", nameD "zero"]), ("less", nameD "less"), ("zero", nameD "zero")]
theorem in_ways : ∀ op : Op, op.wd ∈ wayW ∨ (op.wd ∉ wayW ∧ (askT.lookup op.wd).isSome = true) ∨ (op.wd ∉ wayW ∧ askT.lookup op.wd = none ∧ plainO op = true) := fun op => by
  cases op with
  | go k t =>
    rcases fin5 k with rfl | rfl | rfl | rfl | rfl
    · exact .inl (by dsimp only [Op.wd, goW]; decide)
    all_goals exact .inr (.inl ⟨by dsimp only [Op.wd, goW]; decide, rfl⟩)
  | halt => exact .inl (by dsimp only [Op.wd]; decide)
  | back => exact .inl (by dsimp only [Op.wd]; decide)
  | call t => exact .inl (by dsimp only [Op.wd]; decide)
  | sum a r s => cases a <;> exact .inr (.inr ⟨by dsimp only [Op.wd]; decide, rfl, rfl⟩)
  | bits k r s => rcases fin3 k with rfl | rfl | rfl <;> exact .inr (.inr ⟨by dsimp only [Op.wd, bitsW]; decide, rfl, rfl⟩)
  | _ => exact .inr (.inr ⟨by dsimp only [Op.wd]; decide, rfl, rfl⟩)
theorem exit_way {op : Op} {b : Int} (h : op.wd ∈ wayW) : ∃ lv ld, atI op.vals (-1) = some lv ∧ (∀ H, Dp K H lv ld) ∧ (wayT ld b).reverse.lookup op.wd = some (exitD op b) ∧ stmD op = [] := by
  cases op with
  | halt => exact ⟨_, _, rfl, fun _ => .str _, rfl, rfl⟩
  | back => exact ⟨_, .str "back", rfl, fun _ => .str _, rfl, rfl⟩
  | call t => exact ⟨_, _, rfl, fun _ => .int _, rfl, rfl⟩
  | go k t =>
    rcases fin5 k with rfl | rfl | rfl | rfl | rfl
    · exact ⟨_, _, rfl, fun _ => .int _, rfl, rfl⟩
    all_goals (dsimp only [Op.wd, goW] at h; exact absurd h (by decide))
  | sum a r s => cases a <;> (dsimp only [Op.wd] at h; exact absurd h (by decide))
  | bits k r s => rcases fin3 k with rfl | rfl | rfl <;> (dsimp only [Op.wd, bitsW] at h; exact absurd h (by decide))
  | _ => (dsimp only [Op.wd] at h; exact absurd h (by decide))
theorem exit_ask {op : Op} {b : Int} (h : op.wd ∉ wayW) (h2 : (askT.lookup op.wd).isSome = true) : ∃ t d, op.vals = [.str op.wd, .int t] ∧ askT.lookup op.wd = some d ∧ exitD op b = .tuple [.str "if", d, .int t, .int b] ∧ stmD op = [] := by
  cases op with
  | go k t =>
    rcases fin5 k with rfl | rfl | rfl | rfl | rfl
    · dsimp only [Op.wd, goW] at h
      exact absurd (by decide) h
    all_goals exact ⟨t, _, rfl, rfl, rfl, rfl⟩
  | sum a r s => cases a <;> (dsimp only [Op.wd] at h2; exact absurd h2 (by decide))
  | bits k r s => rcases fin3 k with rfl | rfl | rfl <;> (dsimp only [Op.wd, bitsW] at h2; exact absurd h2 (by decide))
  | _ => (dsimp only [Op.wd] at h2; exact absurd h2 (by decide))
theorem exit_on {op : Op} {b : Int} (h : plainO op = true) : exitD op b = .tuple [.str "go", .int b] := by
  cases op <;> first | rfl | cases h
/-- a tuple of a list of statements and an exit -/
theorem ll_ret {σ : L2.St} {ta tb : TE} {d e : PyData} (ha : DX K ta σ H d) (hb : ∀ H', Same H H' → DX K tb σ H' e) (q : ∀ t s e2 H', Same H H' → H' t = some (.tup [s, e2]) → Dp K H' s d → Dp K H' e2 e → Q (.ref t) H') : tTup (tCons ta (tCons tb tNil)) σ H Q :=
  R.tup (R.cons (ha _ fun v H1 s1 d1 => R.cons (hb H1 s1 _ fun v2 H2 s2 e2 => R.nil ⟨by simp only [List.length_cons, List.length_nil]; decide, fun t ht => q t v v2 _ ((s1.trans s2).trans (same_upd ht)) upd_same (Dp.mono (s2.trans (same_upd ht)) d1) (Dp.mono (same_upd ht) e2)⟩)))
theorem pure_law_lifted {F : Prop} (_ : F) (h : sp_law_lifted K w vs H Q E) : t_law_lifted K w { nx := fun _ H' => Q .non H', rt := Q } (start N_law_lifted vs) H := by
  obtain ⟨c, ns, a, rfl, hc, hb, q⟩ := h
  unfold t_law_lifted
  refine R.seq (R.asg (R.call (R.cons (R.var (R.cons (R.var (R.nil ⟨c, ns, a, rfl, hc, hb, fun v H1 s1 d1 => R.gName ?_⟩)))))))
  cases e : rowAt ns a with
  | none =>
    rw [e] at d1
    obtain rfl := dp_none d1
    refine R.seq (R.ifS (R.test (R.op (R.var (R.c (R.isNn (R.bl (R.iT ?_))))))))
    have e1 : stmAt ns a = [] := by
      unfold stmAt
      rw [opAt_none e]
    have e2 : exitAt ns a = .tuple [.str "end", .str "broken"] := by
      unfold exitAt
      rw [opAt_none e]
    rw [e1, e2] at q
    exact R.ret (ll_ret (DE.at' (DE.lst DA.nil) (SmD.refl H1)) (fun H' s => DE.at' (DE.tup (DA.cons DE.str (DA.cons DE.str DA.nil))) s.smd) fun t x y H' s g d d2 => q t x y H' (s1.trans s) g d d2)
  | some y =>
    obtain ⟨l, m⟩ := y
    obtain ⟨op, h1, rfl, ok⟩ := opAt_some hb e
    rw [e] at d1
    have e1 : stmAt ns a = stmD op := by
      unfold stmAt
      rw [h1]
    have e2 : exitAt ns a = exitD op (a + m) := by
      unfold exitAt
      rw [h1]
    rw [e1, e2] at q
    obtain ⟨f, xs, rfl, hf, ha⟩ := dp_tup d1
    cases ha with
    | cons a1 a2 =>
      cases a2 with
      | cons b1 b2 =>
        cases b1
        cases b2
        obtain ⟨p, rfl, hp⟩ := dp_row a1
        refine R.seq (R.ifS (R.test (R.op (R.var (R.c (R.isNr (R.bl (R.iF (R.next ?_)))))))))
        refine R.seq (R.par (R.cons (R.op (R.var (R.c (R.ixT0 hf (R.cons (R.op (R.var (R.op (R.var (R.c (R.ixT1 hf (R.addI (R.nil (R.ex2 ?_))))))))))))))))
        obtain ⟨rest, ev⟩ := vals_wd op
        have hp' : SqT K H1 p (.str op.wd :: rest) := by
          rw [← ev]
          exact hp
        refine R.seq (R.asg (R.rw0 hp' (R.gName ?_)))
        rcases in_ways op with hw | ⟨hw, hk⟩ | ⟨hw, hk, ho⟩
        · obtain ⟨lv, ld, l1, l2, l3, l4⟩ := exit_way (K := K) (b := a + m) hw
          refine R.seq (R.inY wayW hw fun H2 s2 => ?_)
          have hp2 := SqT.mono s2 hp
          rw [l4] at q
          refine R.seq (R.asg (DPs.disp (K := K) (B := H2) (tbl := wayT ld (a + m)) (DPs.cons (DE.tup (DA.cons DE.str (DA.cons DE.str DA.nil))) (DPs.cons (DE.tup (DA.cons DE.str DA.nil)) (DPs.cons (DE.tup (DA.cons DE.str (DA.cons (DE.ixm (p := p) rfl hp2 l1 (l2 H2)) DA.nil))) (DPs.cons (DE.tup (DA.cons DE.str (DA.cons (DE.ixm (p := p) rfl hp2 l1 (l2 H2)) (DA.cons (DE.vr (.int (a + m)) rfl) DA.nil)))) DPs.nil)))) (SmD.refl H2) (by simp only [List.length_cons, List.length_nil]; decide) fun p6 kvs H3 s3 f3 g3 n3 gd => R.gName ?_))
          have s123 := s1.trans (s2.trans s3)
          exact R.ret (ll_ret (DE.at' (DE.lst DA.nil) (SmD.refl H3)) (fun H' s => DX.dg (s _ _ g3) (gd.smd s.smd) l3 (fun _ z => R.var z rfl) (fun _ z => R.var z rfl)) fun t x y H' s g d d2 => q t x y H' (s123.trans s) g d d2)
        all_goals
          refine R.seq (R.inN wayW hw fun H2 s2 => R.next ?_)
          refine R.seq (R.asg (DPs.disp (K := K) (B := H2) (tbl := [("zero", nameD "zero"), ("less", nameD "less")]) (DPs.cons (DE.tup (DA.cons DE.str (DA.cons DE.str DA.nil))) (DPs.cons (DE.tup (DA.cons DE.str (DA.cons DE.str DA.nil))) DPs.nil)) (SmD.refl H2) (by simp only [List.length_cons, List.length_nil]; decide) fun p7 kvs H3 s3 f3 g3 n3 gd => R.gName ?_))
          have s12 := s1.trans (s2.trans s3)
          have I : DcI K H (fun H => SqT K H p op.vals) p7 15 [("less", nameD "less"), ("zero", nameD "zero")] H3 := ⟨fun A B s z => SqT.smd s z, s12, (s1.trans s2).free f3, SqT.mono (s2.trans s3) hp, kvs, g3, n3, gd⟩
          refine R.seq (I.put (by decide) (DX.tag (I.get rfl rfl kS)) rfl kS fun H4 I4 => ?_)
          refine R.seq (I4.put (by decide) (DX.tag (I4.get rfl rfl kS)) rfl kS fun H5 I5 => ?_)
          obtain ⟨kvs5, g5, n5, gd5⟩ := I5.ex
        · obtain ⟨t, d, e3, e4, e5, e6⟩ := exit_ask (b := a + m) hw hk
          obtain ⟨v, hv, dv⟩ := gd5.get e4
          have hp5 := I5.fa
          rw [e3] at hp5
          rw [e5, e6] at q
          refine R.seq (R.ifS (R.tB' (R.var (R.var ⟨p7, some v, rfl, .inl ⟨kvs5, Sum.inr op.wd, .inl g5, rfl, hv.symm⟩, R.bl (R.iT ?_)⟩))))
          refine R.ret (ll_ret (DE.at' (DE.lst DA.nil) (SmD.refl H5)) (fun H' s => ?_) fun t x y H' s g d d2 => q t x y H' (I5.sm.trans s) g d d2)
          intro Q2 q2
          refine R.tup (R.cons (R.c (R.cons (R.dget (R.var (R.var ⟨p7, v, rfl, .inl ⟨kvs5, Sum.inr op.wd, .inl (s _ _ g5), rfl, hv.symm⟩, ?_⟩))))))
          refine R.cons (R.rw1 (SqT.mono s hp5) (R.cons (R.var (R.nil ⟨by simp only [List.length_cons, List.length_nil]; decide, fun tt htt => ?_⟩))))
          exact q2 _ _ (same_upd htt) (.tup (SqT.of upd_same) (.cons (.str _) (.cons (Dp.mono (s.trans (same_upd htt)) dv) (.cons (.int _) (.cons (.int _) .nil)))))
        · have hv := gd5.none hk
          rw [exit_on ho] at q
          refine R.seq (R.ifS (R.tB' (R.var (R.var ⟨p7, none, rfl, .inl ⟨kvs5, Sum.inr op.wd, .inl g5, rfl, hv.symm⟩, R.bl (R.iF (R.next ?_))⟩))))
          refine R.ret (ll_ret (fun Q2 q2 => R.call (R.cons (R.var (R.nil ⟨p, op, rfl, I5.fa, ho, q2⟩)))) (fun H' s => DE.at' (DE.tup (DA.cons DE.str (DA.cons (DE.vr (.int (a + m)) rfl) DA.nil))) (SmD.refl H')) fun t x y H' s g d d2 => q t x y H' (I5.sm.trans s) g d d2)
end
end Rl
namespace Rl
open PySem PySem.Spec PyProof.Rows L2
/-! ## only tuples, texts and numbers -/
def tuB : Nat → PyData → Bool
  | 0, _ => false
  | n + 1, .tuple ds => decide (ds.length < 1000) && ds.all (tuB n)
  | _ + 1, .str _ => true
  | _ + 1, .int _ => true
  | _ + 1, _ => false
theorem tuB_ok : ∀ {n : Nat} {d : PyData}, tuB n d = true → TuD n d
  | 0, _, h => by cases h
  | n + 1, .tuple ds, h => by
    obtain ⟨h1, h2⟩ := Bool.and_eq_true_iff.mp h
    exact ⟨Nat.lt_trans (of_decide_eq_true h1) (by decide), fun d hd => tuB_ok (List.all_eq_true.mp h2 d hd)⟩
  | _ + 1, .str _, _ => True.intro
  | _ + 1, .int _, _ => True.intro
  | _ + 1, .none, h => by cases h
  | _ + 1, .bool _, h => by cases h
  | _ + 1, .list _, h => by cases h
  | _ + 1, .dict _, h => by cases h
theorem tu_stm (op : Op) : TuD 8 (.tuple (stmD op)) := by
  refine tuB_ok ?_
  cases op with
  | sum a r s => cases a <;> rfl
  | _ => rfl
theorem tu_exit (op : Op) (b : Int) : TuD 8 (exitD op b) := by
  refine tuB_ok ?_
  cases op with
  | go k t => rcases fin5 k with rfl | rfl | rfl | rfl | rfl <;> rfl
  | _ => rfl
theorem so_box {r : Nat} (h : r < 4) : PyData.strOk (bxN r) = true := (by decide +kernel : ∀ r : Fin 4, PyData.strOk (bxN r.val) = true) ⟨r, h⟩
theorem so_0 : PyData.strOk ("set" : Str) = true := by decide +kernel
theorem so_1 : PyData.strOk ("zero" : Str) = true := by decide +kernel
theorem so_2 : PyData.strOk ("=" : Str) = true := by decide +kernel
theorem so_3 : PyData.strOk ("name" : Str) = true := by decide +kernel
theorem so_4 : PyData.strOk ("number" : Str) = true := by decide +kernel
theorem so_5 : PyData.strOk ("less" : Str) = true := by decide +kernel
theorem so_6 : PyData.strOk ("<" : Str) = true := by decide +kernel
theorem so_7 : PyData.strOk ("-" : Str) = true := by decide +kernel
theorem so_8 : PyData.strOk ("+" : Str) = true := by decide +kernel
theorem so_9 : PyData.strOk ("&" : Str) = true := by decide +kernel
theorem so_10 : PyData.strOk ("|" : Str) = true := by decide +kernel
theorem so_11 : PyData.strOk ("^" : Str) = true := by decide +kernel
theorem so_12 : PyData.strOk ("cell" : Str) = true := by decide +kernel
theorem so_13 : PyData.strOk ("in" : Str) = true := by decide +kernel
theorem so_14 : PyData.strOk ("take" : Str) = true := by decide +kernel
theorem so_15 : PyData.strOk ("out" : Str) = true := by decide +kernel
theorem so_16 : PyData.strOk ("keep" : Str) = true := by decide +kernel
theorem so_17 : PyData.strOk ("not" : Str) = true := by decide +kernel
theorem so_18 : PyData.strOk ("end" : Str) = true := by decide +kernel
theorem so_19 : PyData.strOk ("halt" : Str) = true := by decide +kernel
theorem so_20 : PyData.strOk ("back" : Str) = true := by decide +kernel
theorem so_21 : PyData.strOk ("go" : Str) = true := by decide +kernel
theorem so_22 : PyData.strOk ("call" : Str) = true := by decide +kernel
theorem so_23 : PyData.strOk ("if" : Str) = true := by decide +kernel
theorem so_24 : PyData.strOk ("broken" : Str) = true := by decide +kernel
theorem lay_op {op : Op} (ok : op.Ok) (b : Int) : PyData.canLayAll0 (stmD op) = true ∧ PyData.canLay0 (exitD op b) = true := by
  cases op with
  | sum a r s => cases a <;> simp only [stmD, exitD, setD, bothD, nameD, numD, zeroD, PyData.canLay0, PyData.canLayAll0, so_box ok.1, so_box ok.2, so_0, so_1, so_2, so_3, so_4, so_5, so_6, so_7, so_8, so_9, so_10, so_11, so_12, so_13, so_14, so_15, so_16, so_17, so_18, so_19, so_20, so_21, so_22, so_23, so_24, Bool.and_self, and_self]
  | bits k r s => rcases fin3 k with rfl | rfl | rfl <;> simp only [stmD, exitD, setD, bothD, nameD, numD, zeroD, signW, PyData.canLay0, PyData.canLayAll0, so_box ok.1, so_box ok.2, so_0, so_1, so_2, so_3, so_4, so_5, so_6, so_7, so_8, so_9, so_10, so_11, so_12, so_13, so_14, so_15, so_16, so_17, so_18, so_19, so_20, so_21, so_22, so_23, so_24, Bool.and_self, and_self]
  | go k t => rcases fin5 k with rfl | rfl | rfl | rfl | rfl <;> simp [stmD, exitD, askD, nameD, PyData.canLay0, PyData.canLayAll0, so_0, so_1, so_2, so_3, so_4, so_5, so_6, so_7, so_8, so_9, so_10, so_11, so_12, so_13, so_14, so_15, so_16, so_17, so_18, so_19, so_20, so_21, so_22, so_23, so_24]
  | halt => simp only [stmD, exitD, PyData.canLay0, PyData.canLayAll0, so_0, so_1, so_2, so_3, so_4, so_5, so_6, so_7, so_8, so_9, so_10, so_11, so_12, so_13, so_14, so_15, so_16, so_17, so_18, so_19, so_20, so_21, so_22, so_23, so_24, Bool.and_self, and_self]
  | back => simp only [stmD, exitD, PyData.canLay0, PyData.canLayAll0, so_0, so_1, so_2, so_3, so_4, so_5, so_6, so_7, so_8, so_9, so_10, so_11, so_12, so_13, so_14, so_15, so_16, so_17, so_18, so_19, so_20, so_21, so_22, so_23, so_24, Bool.and_self, and_self]
  | rest => simp only [stmD, exitD, PyData.canLay0, PyData.canLayAll0, so_0, so_1, so_2, so_3, so_4, so_5, so_6, so_7, so_8, so_9, so_10, so_11, so_12, so_13, so_14, so_15, so_16, so_17, so_18, so_19, so_20, so_21, so_22, so_23, so_24, Bool.and_self, and_self]
  | call t => simp only [stmD, exitD, PyData.canLay0, PyData.canLayAll0, so_0, so_1, so_2, so_3, so_4, so_5, so_6, so_7, so_8, so_9, so_10, so_11, so_12, so_13, so_14, so_15, so_16, so_17, so_18, so_19, so_20, so_21, so_22, so_23, so_24, Bool.and_self, and_self]
  | copy r s => simp only [stmD, exitD, setD, bothD, nameD, numD, zeroD, PyData.canLay0, PyData.canLayAll0, so_box ok.1, so_box ok.2, so_0, so_1, so_2, so_3, so_4, so_5, so_6, so_7, so_8, so_9, so_10, so_11, so_12, so_13, so_14, so_15, so_16, so_17, so_18, so_19, so_20, so_21, so_22, so_23, so_24, Bool.and_self, and_self]
  | test r s => simp only [stmD, exitD, setD, bothD, nameD, numD, zeroD, PyData.canLay0, PyData.canLayAll0, so_box ok.1, so_box ok.2, so_0, so_1, so_2, so_3, so_4, so_5, so_6, so_7, so_8, so_9, so_10, so_11, so_12, so_13, so_14, so_15, so_16, so_17, so_18, so_19, so_20, so_21, so_22, so_23, so_24, Bool.and_self, and_self]
  | load r s => simp only [stmD, exitD, setD, bothD, nameD, numD, zeroD, PyData.canLay0, PyData.canLayAll0, so_box ok.1, so_box ok.2, so_0, so_1, so_2, so_3, so_4, so_5, so_6, so_7, so_8, so_9, so_10, so_11, so_12, so_13, so_14, so_15, so_16, so_17, so_18, so_19, so_20, so_21, so_22, so_23, so_24, Bool.and_self, and_self]
  | store r s => simp only [stmD, exitD, setD, bothD, nameD, numD, zeroD, PyData.canLay0, PyData.canLayAll0, so_box ok.1, so_box ok.2, so_0, so_1, so_2, so_3, so_4, so_5, so_6, so_7, so_8, so_9, so_10, so_11, so_12, so_13, so_14, so_15, so_16, so_17, so_18, so_19, so_20, so_21, so_22, so_23, so_24, Bool.and_self, and_self]
  | set r n => simp only [stmD, exitD, setD, bothD, nameD, numD, zeroD, PyData.canLay0, PyData.canLayAll0, so_box ok.1, so_0, so_1, so_2, so_3, so_4, so_5, so_6, so_7, so_8, so_9, so_10, so_11, so_12, so_13, so_14, so_15, so_16, so_17, so_18, so_19, so_20, so_21, so_22, so_23, so_24, Bool.and_self, and_self]
  | testn r n => simp only [stmD, exitD, setD, bothD, nameD, numD, zeroD, PyData.canLay0, PyData.canLayAll0, so_box ok.1, so_0, so_1, so_2, so_3, so_4, so_5, so_6, so_7, so_8, so_9, so_10, so_11, so_12, so_13, so_14, so_15, so_16, so_17, so_18, so_19, so_20, so_21, so_22, so_23, so_24, Bool.and_self, and_self]
  | loadn r n => simp only [stmD, exitD, setD, bothD, nameD, numD, zeroD, PyData.canLay0, PyData.canLayAll0, so_box ok.1, so_0, so_1, so_2, so_3, so_4, so_5, so_6, so_7, so_8, so_9, so_10, so_11, so_12, so_13, so_14, so_15, so_16, so_17, so_18, so_19, so_20, so_21, so_22, so_23, so_24, Bool.and_self, and_self]
  | storen r n => simp only [stmD, exitD, setD, bothD, nameD, numD, zeroD, PyData.canLay0, PyData.canLayAll0, so_box ok.1, so_0, so_1, so_2, so_3, so_4, so_5, so_6, so_7, so_8, so_9, so_10, so_11, so_12, so_13, so_14, so_15, so_16, so_17, so_18, so_19, so_20, so_21, so_22, so_23, so_24, Bool.and_self, and_self]
  | inn r => simp only [stmD, exitD, nameD, PyData.canLay0, PyData.canLayAll0, so_box ok, so_0, so_1, so_2, so_3, so_4, so_5, so_6, so_7, so_8, so_9, so_10, so_11, so_12, so_13, so_14, so_15, so_16, so_17, so_18, so_19, so_20, so_21, so_22, so_23, so_24, Bool.and_self, and_self]
  | out r => simp only [stmD, exitD, nameD, PyData.canLay0, PyData.canLayAll0, so_box ok, so_0, so_1, so_2, so_3, so_4, so_5, so_6, so_7, so_8, so_9, so_10, so_11, so_12, so_13, so_14, so_15, so_16, so_17, so_18, so_19, so_20, so_21, so_22, so_23, so_24, Bool.and_self, and_self]
  | keep r => simp only [stmD, exitD, nameD, PyData.canLay0, PyData.canLayAll0, so_box ok, so_0, so_1, so_2, so_3, so_4, so_5, so_6, so_7, so_8, so_9, so_10, so_11, so_12, so_13, so_14, so_15, so_16, so_17, so_18, so_19, so_20, so_21, so_22, so_23, so_24, Bool.and_self, and_self]
  | take r => simp only [stmD, exitD, nameD, PyData.canLay0, PyData.canLayAll0, so_box ok, so_0, so_1, so_2, so_3, so_4, so_5, so_6, so_7, so_8, so_9, so_10, so_11, so_12, so_13, so_14, so_15, so_16, so_17, so_18, so_19, so_20, so_21, so_22, so_23, so_24, Bool.and_self, and_self]
theorem tu_depth : ∀ {n : Nat} {d : PyData}, TuD n d → PyData.depth d ≤ n
  | 0, _, h => by cases h
  | n + 1, .tuple ds, h => by
    rw [PyData.depth]
    have k : ∀ l : List PyData, (∀ d ∈ l, TuD n d) → PyData.depthAll l ≤ n := fun l => by
      induction l with
      | nil =>
        intro _
        rw [PyData.depthAll]
        exact Nat.zero_le _
      | cons x l ih =>
        intro hl
        rw [PyData.depthAll]
        exact Nat.max_le.mpr ⟨tu_depth (hl x (List.mem_cons_self ..)), ih fun d hd => hl d (List.mem_cons_of_mem _ hd)⟩
    exact Nat.succ_le_succ (k ds h.2)
  | _ + 1, .str _, _ => by
    rw [PyData.depth]
    exact Nat.zero_le _
  | _ + 1, .int _, _ => by
    rw [PyData.depth]
    exact Nat.zero_le _
  | _ + 1, .none, h => by cases h
  | _ + 1, .bool _, h => by cases h
  | _ + 1, .list _, h => by cases h
  | _ + 1, .dict _, h => by cases h
theorem sh_two {ds : List PyData} {e : PyData} (h : PyData.canLayAll0 ds = true ∧ PyData.canLay0 e = true) (h1 : TuD 8 (.tuple ds)) (h2 : TuD 8 e) : SeqAt.shaped (.tuple [.list ds, e]) = true := by
  have d1 := tu_depth h1
  have d2 := tu_depth h2
  rw [PyData.depth] at d1
  unfold SeqAt.shaped
  simp only [PyData.canLay0, PyData.canLayAll0, h.1, h.2, PyData.depth, PyData.depthAll, Bool.and_self, Bool.true_and]
  exact decide_eq_true (by omega)
theorem at_all {ns : List Int} (hb : By ns) (a : Int) : TuD 8 (.tuple (stmAt ns a)) ∧ TuD 8 (exitAt ns a) ∧ SeqAt.shaped (.tuple [.list (stmAt ns a), exitAt ns a]) = true ∧ (stmAt ns a).length ≤ 3 := by
  have key : ∀ op b, op.Ok → TuD 8 (.tuple (stmD op)) ∧ TuD 8 (exitD op b) ∧ SeqAt.shaped (.tuple [.list (stmD op), exitD op b]) = true ∧ (stmD op).length ≤ 3 := fun op b ok => by
    refine ⟨tu_stm op, tu_exit op _, sh_two (lay_op ok b) (tu_stm op) (tu_exit op b), ?_⟩
    cases op with
    | sum a r s => cases a <;> exact Nat.le_of_ble_eq_true rfl
    | _ => exact Nat.le_of_ble_eq_true rfl
  cases e : rowAt ns a with
  | none =>
    unfold stmAt exitAt
    rw [opAt_none e]
    exact ⟨tuB_ok rfl, tuB_ok rfl, sh_two ⟨by simp only [PyData.canLayAll0], by simp only [PyData.canLay0, PyData.canLayAll0, so_0, so_1, so_2, so_3, so_4, so_5, so_6, so_7, so_8, so_9, so_10, so_11, so_12, so_13, so_14, so_15, so_16, so_17, so_18, so_19, so_20, so_21, so_22, so_23, so_24, Bool.and_self]⟩ (tuB_ok rfl) (tuB_ok rfl), Nat.zero_le _⟩
  | some y =>
    obtain ⟨l, m⟩ := y
    obtain ⟨op, h1, _, ok⟩ := opAt_some hb e
    unfold stmAt exitAt
    rw [h1]
    exact key op _ ok
section
variable {K : PySem.W.Frag} {w : World} {vs : List V} {H : Hp} {Q : VK} {E : XK}
/-- over a tuple: a new list of f of each, other things may be made (as K09P has it) -/
theorem R.lcMapT {σ : L2.St} {H : Hp} {Q : VK} {te : TE} {a : Addr} {xs : List V} {j : Nat} (f : V → V) (h : SqT K H a xs) (hl : xs.length < sizeLine) (hw : ∀ x, wipe ((wipe σ [j]).set j (some x)) [j] = wipe σ [j])
    (he : ∀ x H', x ∈ xs → Same H H' → ∀ Q : VK, (∀ H'', Same H' H'' → Q (f x) H'') → te ((wipe σ [j]).set j (some x)) H' Q)
    (q : ∀ D H', H D = none → Same H H' → H' D = some (.lst (xs.map f)) → Q (.ref D) H') :
    (∃ b, V.ref a = .ref b ∧ (∃ xs, SqL K H b xs) ∧ ∀ D, H D = none → LcLoop (Itl K b) (L2.gName j) tYes te [j] σ D H Q) ∨ (∃ b, V.ref a = .ref b ∧ (∃ xs, SqT K H b xs) ∧ ∀ D, H D = none → LcLoop (Itt K b) (L2.gName j) tYes te [j] σ D H Q) := by
  refine .inr ⟨a, rfl, ⟨xs, h⟩, fun D hD => ?_⟩
  refine R.lcI walk_tup (fun i H' => Same H H' ∧ H' D = some (.lst ((xs.take i).map f))) ⟨same_upd hD, upd_same⟩ (fun i H' _ z => SqT.mono z.1 h) ?_ (fun H' z => q D H' hD z.1 (by
    have e := z.2
    rw [List.take_of_length_le (Nat.le_refl _)] at e
    exact e))
  rintro i x H1 H' hi ⟨z1, z2⟩ ⟨rfl, hx⟩
  have hm : x ∈ xs := List.mem_of_getElem? hx
  refine ⟨hw x, R.yes (R.iT ?_)⟩
  refine he x _ hm z1 _ fun H'' s => ⟨_, s _ _ z2, ?_, ?_, ?_⟩
  · rw [List.length_map]
    exact Nat.lt_of_le_of_lt (List.length_take_le _ _) (Nat.lt_of_le_of_lt (Nat.le_of_lt hi) hl)
  · exact Same.mut hD (z1.trans s)
  · rw [upd_same, show xs.take (i + 1) = xs.take i ++ [x] by rw [List.take_add_one, hx]; rfl, List.map_append]
    rfl
theorem pure_law_tuples {F : Prop} (_ : F) {n : Nat} (h : spTu K w (n + 1) vs H Q E) : t_law_tuples K w (spTu K w n) { nx := fun _ H' => Q .non H', rt := Q } (start N_law_tuples vs) H := by
  obtain ⟨v, d, rfl, hd, hn, q⟩ := h
  unfold t_law_tuples
  cases d with
  | str s =>
    obtain rfl := dp_str hd
    refine R.seq (R.ifS (R.tB' (R.cb (R.cons (R.var (R.cons (R.c (R.nil (R.isiD (b := false) hd rfl (R.bl (R.iF (R.next ?_))))))))))))
    exact R.ret (R.orV (R.cb (R.cons (R.var (R.cons (R.c (R.nil (R.isiD (b := true) hd rfl ⟨_, rfl, R.iT (q _ (Same.refl _))⟩))))))))
  | int s =>
    obtain rfl := dp_int hd
    refine R.seq (R.ifS (R.tB' (R.cb (R.cons (R.var (R.cons (R.c (R.nil (R.isiD (b := false) hd rfl (R.bl (R.iF (R.next ?_))))))))))))
    refine R.ret (R.orV (R.cb (R.cons (R.var (R.cons (R.c (R.nil (R.isiD (b := false) hd rfl ⟨_, rfl, R.iF ?_⟩))))))))
    refine R.andV (R.cb (R.cons (R.var (R.cons (R.c (R.nil (R.isiD (b := true) hd rfl ⟨_, rfl, R.iT ?_⟩)))))))
    exact R.notV (R.cb (R.cons (R.var (R.cons (R.c (R.nil (R.isiD (b := false) hd rfl ⟨_, rfl, q _ (Same.refl _)⟩)))))))
  | tuple ds =>
    obtain ⟨p, xs, rfl, hp, hx⟩ := dp_tup hd
    refine R.seq (R.ifS (R.tB' (R.cb (R.cons (R.var (R.cons (R.c (R.nil (R.isiD (b := true) hd rfl (R.bl (R.iT ?_)))))))))))
    refine R.ret (R.cb (R.cons (R.lc (R.seqIter (R.var ?_)))))
    refine R.lcMapT (fun _ => V.bl true) hp (by rw [DpAll.length hx]; exact hn.1) (fun _ => rfl) ?_ ?_
    · intro x H' hm s Q2 q2
      obtain ⟨i, hi⟩ := List.mem_iff_getElem?.mp hm
      obtain ⟨d, g1, g2⟩ := DpAll.get hx hi
      have ht := hn.2 d (List.mem_of_getElem? g1)
      cases n with
      | zero => cases ht
      | succ n => exact R.call (R.cons (R.var (R.nil ⟨x, d, rfl, Dp.mono s g2, ht, q2⟩)))
    · intro D H' hD s g
      refine R.nil (R.all' (bs := xs.map fun _ => true) (SqL.of (by rw [List.map_map]; exact g)) ?_)
      rw [show (xs.map fun _ => true).all id = true by rw [List.all_map]; exact List.all_eq_true.mpr fun _ _ => rfl]
      exact q _ s
  | none => cases hn
  | bool b => cases hn
  | list ds => cases hn
  | dict ds => cases hd
theorem pure_law_right {F : Prop} (_ : F) (h : sp_law_right K w vs H Q E) : t_law_right K w { nx := fun _ H' => Q .non H', rt := Q } (start N_law_right vs) H := by
  obtain ⟨c, ns, a, rfl, hc, hb, q⟩ := h
  obtain ⟨t1, t2, sh, hlen⟩ := at_all hb a
  unfold t_law_right
  refine R.seq (R.asg (R.call (R.cons (R.var (R.cons (R.var (R.nil ⟨c, ns, a, rfl, hc, hb, fun t s e H1 s1 g ds de => R.gPair g ?_⟩)))))))
  refine R.seq (R.asg (R.call (R.cons (R.var (R.cons (R.var (R.nil ⟨c, ns, a, rfl, Code.mono s1 hc, hb, fun t2' l xs e2 H2 s2 fl gl gt dl de2 => R.gName ?_⟩)))))))
  have D2 : Dp K H2 (.ref t2') (.tuple [.list (stmAt ns a), exitAt ns a]) := .tup (SqT.of gt) (.cons (.lst (SqL.of gl) dl) (.cons de2 .nil))
  have DL : Dp K H2 (.ref l) (.list (stmAt ns a)) := .lst (SqL.of gl) dl
  refine R.seq (R.ifS (R.or' (R.not' (R.tB' (R.cb (R.cons (R.var (R.cons (R.c (R.nil (R.isiD (b := true) D2 rfl (R.bl (R.iF ?_)))))))))))))
  refine R.or' (R.test (R.op (R.cb (R.cons (R.var (R.nil (R.lenT (SqT.of gt) (R.c (R.neI (R.bl (R.iF ?_))))))))))) 
  refine R.not' (R.tB' (R.cb (R.cons (R.op (R.var (R.c (R.ixT0 (SqT.of gt) (R.cons (R.c (R.nil (R.isiD (b := true) DL rfl (R.bl (R.iF (R.next ?_))))))))))))))
  refine R.seq (R.ifS (R.or' (R.test (R.op (R.var (R.tup (R.cons (R.var (R.cons (R.var (R.nil ⟨by simp only [List.length_cons, List.length_nil]; decide, fun t3 h3 => ?_⟩)))))))))))
  have s3 : Same H2 (upd H2 t3 (.tup [s, e])) := same_upd h3
  have D3 : Dp K (upd H2 t3 (.tup [s, e])) (.ref t3) (.tuple [.list (stmAt ns a), exitAt ns a]) := .tup (SqT.of upd_same) (.cons (Dp.mono (s2.trans s3) ds) (.cons (Dp.mono (s2.trans s3) de) .nil))
  refine R.neD (Dp.mono s3 D2) D3 sh sh (R.bl ?_)
  rw [SeqAt.eqv_refl _ (SeqAt.canLay_of_shaped sh)]
  generalize upd H2 t3 (.tup [s, e]) = H3 at s3 ⊢
  refine R.iF (R.or' (R.not' (R.tB' (R.call (R.cons (R.cb (R.cons (R.op (R.var (R.c (R.ixT0 (SqT.of (s3 _ _ gt)) (R.nil (R.tupL (SqL.of (s3 _ _ gl)) fun t4 h4 => ?_)))))))))))))
  refine R.nil ⟨.ref t4, .tuple (stmAt ns a), rfl, .tup (SqT.of upd_same) (DpAll.mono (s3.trans (same_upd h4)) dl), t1, fun H5 s5 => R.bl (R.iF ?_)⟩
  have s35 := s3.trans ((same_upd h4).trans s5)
  refine R.not' (R.tB' (R.call (R.cons (R.op (R.var (R.c (R.ixT1 (SqT.of (s35 _ _ gt)) (R.nil ⟨e2, exitAt ns a, rfl, Dp.mono s35 de2, t2, fun H6 s6 => R.bl (R.iF (R.next ?_))⟩))))))))
  have s26 := s35.trans s6
  have gl6 := s26 _ _ gl
  refine R.seq (R.drop (R.bm (R.op (R.var (R.c (R.ixT0 (SqT.of (s26 _ _ gt)) (R.tyL gl6 ?_)))))))
  refine R.cons (R.tup (R.cons (R.c (R.cons (R.tup (R.cons (R.c (R.cons (R.c (R.nil ⟨by simp only [List.length_cons, List.length_nil]; decide, fun t7 h7 => ?_⟩))))))))))
  refine R.nil ⟨by simp only [List.length_cons, List.length_nil]; decide, fun t8 h8 => R.nil ?_⟩
  have s68 := (same_upd (o := .tup [.str "number", .int 0]) h7).trans (same_upd (o := .tup [.str "out", .ref t7]) h8)
  have hxl : xs.length ≤ 3 := by rw [DpAll.length dl]; exact hlen
  refine R.append (s68 _ _ gl6) (Nat.lt_of_le_of_lt hxl (by decide)) (R.ret (R.c (q _ ?_)))
  exact Same.mut (s1.free fl) (s1.trans (s2.trans (s26.trans s68)))
end
end Rl
namespace Rl
open PySem PySem.Spec PyProof.Rows L2
section
variable {K : PySem.W.Frag} {w : World} {vs : List V} {H : Hp} {Q : VK} {E : XK}
theorem pure_law {F : Prop} (_ : F) (h : sp_law K w vs H Q E) : t_law K w { nx := fun _ H' => Q .non H', rt := Q } (start N_law vs) H := by
  obtain ⟨s, xs, rfl, hs, hl, q⟩ := h
  unfold t_law
  refine R.seq (R.asg (R.call (R.cons (R.var (R.nil ⟨s, xs, rfl, hs, hl, fun r H1 e1 nr S1 => R.gName ?_⟩)))))
  refine R.seq (R.for' (R.rng1 (R.cons (R.op (R.c (R.cb (R.cons (R.cb (R.cons (R.var (R.nil (R.lenLI (SqL.mono e1 hs) (R.cons (R.c (R.nil (R.min2 (R.addI (R.nil (R.rng1v (by split <;> omega) (by split <;> omega) ?_)))))))))))))))))))
  refine R.forR (fun i σ H' => (∃ v2 v3 v4 v5 v6 v7 v8, σ = [some (.ref s), some (.ref r), v2, v3, v4, v5, v6, v7, v8]) ∧ Spr H' r) ⟨⟨_, _, _, _, _, _, _, rfl⟩, S1⟩ ?_ ?_
  · rintro i σ H2 hi ⟨⟨v2, v3, v4, v5, v6, v7, v8, rfl⟩, S2⟩
    refine R.gName (R.seq (R.asg (R.call (R.cons (R.var (R.nil ⟨r, rfl, S2, fun c H3 ds hc nc f3 S3 gc hb h1 h2 => R.gName ?_⟩))))))
    refine R.seq (joinT (fun σ H' => ∃ h o, σ = [some (.ref s), some (.ref r), some (.int (0 + (i : Nat))), some (.ref c), some (.ref h), v5, v6, v7, v8] ∧ h ≠ r ∧ H' h = some o ∧ (o = .lst (ds.map V.int) ∨ o = .tup (ds.map V.int)) ∧ Spr H' r ∧ Fx r H3 H') (fun N key => ?_) ?_)
    · refine R.asg (R.ifE (R.test (R.op (R.call (R.cons (R.var (R.cons (R.c (R.nil ⟨r, 3, rfl, S3, by decide, by decide, fun n H4 f4 S4 n0 n1 => R.c (R.eqI (R.bl (R.iD (fun _ => ?_) (fun _ => ?_))))⟩)))))))))
      · exact R.cb (R.cons (R.var (R.nil (R.tupL (SqL.of (f4.at nc gc)) fun h hh => R.gName (key _ _ ⟨h, _, rfl, S4.ne hh, upd_same, .inr rfl, S4.keep (same_upd hh), f4.trans (Same.but (same_upd hh))⟩)))))
      · exact R.cb (R.cons (R.var (R.nil (R.listL (SqL.of (f4.at nc gc)) fun h hh => R.gName (key _ _ ⟨h, _, rfl, S4.ne hh, upd_same, .inl rfl, S4.keep (same_upd hh), f4.trans (Same.but (same_upd hh))⟩)))))
    rintro σ H4 ⟨h, o, rfl, nh, gh, ho, S4, f4⟩
    have codeH : ∀ {H' : Hp}, H' h = some o → Code K H' (.ref h) ds := fun g => by
      rcases ho with rfl | rfl
      · exact ⟨h, rfl, .inl (SqL.of g)⟩
      · exact ⟨h, rfl, .inr (SqT.of g)⟩
    have gc4 := f4.at nc gc
    refine R.seq (R.for' (R.seqIter (R.op (R.lstRg (R.rg2 (R.un (R.c (R.neg (R.op (R.cb (R.cons (R.var (R.nil (R.lenLI (SqL.of gc4) (R.c (R.addI (R.exII ⟨⟨by decide, by decide, by omega, by omega, by omega⟩, fun l1 hl1 => ?_⟩)))))))))))))))))
    have n1 : l1 ≠ r := S4.ne hl1
    have S5 := S4.keep (same_upd (o := .lst ((R.rgI (-2) (ds.length + 2)).map V.int)) hl1)
    have f5 := f4.trans (Same.but (same_upd (o := .lst ((R.rgI (-2) (ds.length + 2)).map V.int)) hl1))
    have g5 : (upd H4 l1 (.lst ((R.rgI (-2) (ds.length + 2)).map V.int))) l1 = some (.lst ((R.rgI (-2) (ds.length + 2)).map V.int)) := upd_same
    have gh5 := upd_get (o := .lst ((R.rgI (-2) (ds.length + 2)).map V.int)) hl1 gh
    generalize upd H4 l1 (.lst ((R.rgI (-2) (ds.length + 2)).map V.int)) = H5 at S5 f5 g5 gh5 ⊢
    refine R.lst (R.cons (R.c (R.cons (R.op (R.op (R.c (R.c (R.powI (R.cpow (by decide)) ?_))))))))
    refine R.call (R.cons (R.var (R.cons (R.op (R.c (R.c (R.powI (R.cpow (by decide)) (R.nil ⟨r, 1000000000, rfl, S5, by decide, by decide, fun m H6 f6 S6 m0 m1 => R.addI (R.nil ⟨by simp only [List.length_cons, List.length_nil]; decide, fun l2 hl2 => ?_⟩)⟩))))))))
    refine R.catI (xs := R.rgI (-2) (ds.length + 2)) (ys := [255, 10 ^ (20 : Int).toNat + m]) (upd_get hl2 (f6.at n1 g5)) upd_same ?_ fun L hL => ?_
    · rw [R.rgI_length]
      refine Nat.le_trans (m := 1000) ?_ (by decide)
      simp only [List.length_cons, List.length_nil]
      omega
    have S7 := (S6.keep (same_upd (o := .lst [.int 255, .int (10 ^ (20 : Int).toNat + m)]) hl2)).keep (same_upd (o := .lst ((R.rgI (-2) (ds.length + 2) ++ [255, 10 ^ (20 : Int).toNat + m]).map V.int)) hL)
    have nL : L ≠ r := (S6.keep (same_upd (o := .lst [.int 255, .int (10 ^ (20 : Int).toNat + m)]) hl2)).ne hL
    have f7 := (f5.trans f6).trans ((Same.but (same_upd (o := .lst [.int 255, .int (10 ^ (20 : Int).toNat + m)]) hl2)).trans (Same.but (same_upd (o := .lst ((R.rgI (-2) (ds.length + 2) ++ [255, 10 ^ (20 : Int).toNat + m]).map V.int)) hL)))
    have gh7 := upd_get (o := .lst ((R.rgI (-2) (ds.length + 2) ++ [255, 10 ^ (20 : Int).toNat + m]).map V.int)) hL (upd_get (o := .lst [.int 255, .int (10 ^ (20 : Int).toNat + m)]) hl2 (f6.at nh gh5))
    refine R.forLI (ns := R.rgI (-2) (ds.length + 2) ++ [255, 10 ^ (20 : Int).toNat + m]) (fun j σ H' => (∃ v5, σ = [some (.ref s), some (.ref r), some (.int (0 + (i : Nat))), some (.ref c), some (.ref h), v5, v6, v7, v8]) ∧ Spr H' r ∧ Fx r H3 H' ∧ H' h = some o ∧ H' L = some (.lst ((R.rgI (-2) (ds.length + 2) ++ [255, 10 ^ (20 : Int).toNat + m]).map V.int))) (SqL.of upd_same) ⟨⟨_, rfl⟩, S7, f7, gh7, upd_same⟩ (fun j σ H' _ z => SqL.of z.2.2.2.2) ?_ ?_
    · rintro j x σ H8 _ _ _ ⟨⟨v5', rfl⟩, S8, f8, gh8, gL8⟩
      refine R.gName (R.ifS (R.or' (R.not' (R.tB' (R.call (R.cons (R.var (R.cons (R.var (R.nil ⟨.ref h, ds, x, rfl, codeH gh8, hb, fun H9 s9 => R.bl (R.iF ?_)⟩))))))))))
      refine R.not' (R.tB' (R.call (R.cons (R.var (R.cons (R.var (R.nil ⟨.ref h, ds, x, rfl, codeH (s9 _ _ gh8), hb, fun Ha sa => R.bl (R.iF (R.next ?_))⟩)))))))
      have s := s9.trans sa
      exact ⟨⟨_, rfl⟩, S8.keep s, f8.trans (Same.but s), s _ _ gh8, s _ _ gL8⟩
    rintro σ H8 ⟨⟨v5', rfl⟩, S8, f8, gh8, _⟩
    have gc8 := f8.at nc gc
    have lh : ∀ {QQ : VK}, (∀ l, H8 l = none → QQ (.ref l) (upd H8 l (.lst (ds.map V.int)))) → rListA K [.ref h] H8 QQ := fun qq => by
      rcases ho with rfl | rfl
      · exact R.listL (SqL.of gh8) qq
      · exact R.listT (SqT.of gh8) qq
    refine R.seq (R.ifS (R.test (R.op (R.cb (R.cons (R.var (R.nil (lh fun l hn => R.var (R.neD (SqL.ints (SqL.of upd_same)) (SqL.ints (SqL.of (upd_get hn gc8))) (shaped_ints ds) (shaped_ints ds) (R.bl ?_)))))))))) 
    rw [eqv_ints]
    refine R.iF (R.next ?_)
    have S9 := S8.keep (same_upd (o := .lst (ds.map V.int)) hn)
    have gc9 := upd_get (o := .lst (ds.map V.int)) hn gc8
    generalize upd H8 l (.lst (ds.map V.int)) = H9 at S9 gc9 ⊢
    refine R.seq (R.asg (R.cb (R.cons (R.var (R.nil (R.listL (SqL.of gc9) fun l6 h6 => R.gName ?_))))))
    have n6 : l6 ≠ r := S9.ne h6
    refine R.for' (R.rng1 (R.cons (R.c (R.nil (R.rng1v (by decide) (by decide) ?_)))))
    refine R.forR (fun j σ H' => ∃ v5 v7 ms, σ = [some (.ref s), some (.ref r), some (.int (0 + (i : Nat))), some (.ref c), some (.ref h), v5, some (.ref l6), v7, v8] ∧ Spr H' r ∧ H' l6 = some (.lst (ms.map V.int)) ∧ By ms ∧ ms.length = ds.length) ⟨_, _, ds, rfl, S9.keep (same_upd h6), upd_same, hb, rfl⟩ ?_ ?_
    · rintro j σ Ha hj ⟨v5, v7, ms, rfl, Sa, ga, hbm, hlm⟩
      refine R.gName (R.seq (R.asg (R.call (R.cons (R.var (R.cons (R.cb (R.cons (R.var (R.nil (R.lenLI (SqL.of ga) (R.nil ⟨r, _, rfl, Sa, by omega, by omega, fun a Hb fb Sb a0 a1 => R.gName ?_⟩))))))))))))
      refine R.seq (R.asg (R.op (R.lst (R.cons (R.call (R.cons (R.var (R.cons (R.c (R.nil ⟨r, 256, rfl, Sb, by decide, by decide, fun b Hc fc Sc b0 b1 => R.cons (R.c (R.cons (R.c (R.nil ⟨by simp only [List.length_cons, List.length_nil]; decide, fun l7 h7 => ?_⟩))))⟩))))))))))
      refine R.call (R.cons (R.var (R.cons (R.c (R.nil ⟨r, 3, rfl, Sc.keep (same_upd h7), by decide, by decide, fun k Hd fd Sd k0 k1 => ?_⟩)))))
      refine R.ixLI (ns := [b, 224, 77]) (SqL.of (fd.at (Sc.ne h7) upd_same)) k0 k1 fun z _ hz => ?_
      have hz2 : 0 ≤ z ∧ z < 256 := by
        simp at hz
        omega
      have gd := fd.at n6 (upd_get (o := .lst [.int b, .int 224, .int 77]) h7 (fc.at n6 (fb.at n6 ga)))
      refine R.gSub (R.var (R.var (R.setLI gd a0 a1 ?_)))
      have Se := Sd.mut (o := .lst ((ms.set a.toNat z).map V.int)) n6
      have ge : (upd Hd l6 (.lst ((ms.set a.toNat z).map V.int))) l6 = some (.lst ((ms.set a.toNat z).map V.int)) := upd_same
      have hbe := By.set (k := a.toNat) hbm hz2.1 hz2.2
      generalize upd Hd l6 (.lst ((ms.set a.toNat z).map V.int)) = He at Se ge ⊢
      refine R.ifS (R.or' (R.not' (R.tB' (R.call (R.cons (R.var (R.cons (R.var (R.nil ⟨.ref l6, _, a, rfl, SqL.code (SqL.of ge), hbe, fun Hf sf => R.bl (R.iF ?_)⟩)))))))))
      refine R.not' (R.tB' (R.call (R.cons (R.var (R.cons (R.cb (R.cons (R.c (R.cons (R.op (R.var (R.c (R.subI (R.nil (R.max2 (R.nil ⟨.ref l6, _, _, rfl, SqL.code (SqL.of (sf _ _ ge)), hbe, fun Hg sg => R.bl (R.iF (R.next ?_))⟩))))))))))))))))
      exact ⟨_, _, _, rfl, (Se.keep sf).keep sg, sg _ _ (sf _ _ ge), hbe, by rw [List.length_set]; exact hlm⟩
    · rintro σ H' ⟨v5, v7, ms, rfl, S, _⟩
      exact ⟨⟨_, _, _, _, _, _, _, rfl⟩, S⟩
  · rintro σ H2 ⟨⟨v2, v3, v4, v5, v6, v7, v8, rfl⟩, S2⟩
    refine R.seq (R.for' (R.rng1 (R.cons (R.c (R.nil (R.rng1v (by decide) (by decide) ?_))))))
    refine R.forR (fun i σ H' => (∃ v2 v3 v4 v5 v6 v7 v8, σ = [some (.ref s), some (.ref r), v2, v3, v4, v5, v6, v7, v8]) ∧ Spr H' r) ⟨⟨_, _, _, _, _, _, _, rfl⟩, S2⟩ ?_ fun σ H3 _ => R.ret (R.c (q _))
    rintro i σ H3 hi ⟨⟨v2, v3, v4, v5, v6, v7, v8, rfl⟩, S3⟩
    have hi : i < 256 := hi
    refine R.gName (R.seq (R.asg (R.sl (R.lst (R.cons (R.var (R.cons (R.call (R.cons (R.var (R.cons (R.c (R.nil ⟨r, 256, rfl, S3, by decide, by decide, fun d H4 f4 S4 d0 d1 => R.nil ⟨by simp only [List.length_cons, List.length_nil]; decide, fun l hl => ?_⟩⟩)))))))))))))
    refine R.noPart (R.part (R.op (R.c (R.call (R.cons (R.var (R.cons (R.c (R.nil ⟨r, 2, rfl, S4.keep (same_upd hl), by decide, by decide, fun k H5 f5 S5 k0 k1 => R.addI (R.exI ?_)⟩)))))))))
    have n4 : l ≠ r := S4.ne hl
    refine R.slToI (ns := [0 + (i : Nat), d]) (SqL.of (f5.at n4 upd_same)) (by omega) fun l2 hl2 => R.gName ?_
    refine R.ifS (R.not' (R.tB' (R.call (R.cons (R.var (R.cons (R.c (R.nil ⟨.ref l2, _, 0, rfl, ⟨l2, rfl, .inl (SqL.of upd_same)⟩, ?_, fun H6 s6 => R.bl (R.iF (R.next ?_))⟩))))))))
    · intro x hx
      have hm := List.mem_of_mem_take hx
      simp only [List.mem_cons, List.not_mem_nil, or_false] at hm
      rcases hm with rfl | rfl
      · omega
      · exact ⟨d0, d1⟩
    · exact ⟨⟨_, _, _, _, _, _, _, rfl⟩, (S5.keep (same_upd hl2)).keep s6⟩
end
end Rl
namespace Rl
open PySem PySem.Spec PyProof.Rows L2
/-! ## the walk of each def -/
def top (i : Nat) : Stmt := PySem.Challenge.pw_rowlift_k26_rows_lifted.main.body.getD i (.Pass ⟨0, 0, 0, 0⟩)
abbrev s_short_row : Stmt := top 9
abbrev s_long_row : Stmt := top 10
abbrev s_row_at : Stmt := top 11
abbrev s_by_name : Stmt := top 16
abbrev s_by_number : Stmt := top 17
abbrev s_zero_by : Stmt := top 18
abbrev s_lift_set : Stmt := top 19
abbrev s_lift_copy : Stmt := top 20
abbrev s_lift_add : Stmt := top 21
abbrev s_lift_sub : Stmt := top 22
abbrev s_lift_bits : Stmt := top 23
abbrev s_lift_test : Stmt := top 24
abbrev s_lift_load : Stmt := top 25
abbrev s_lift_store : Stmt := top 26
abbrev s_lift_named : Stmt := top 27
abbrev s_lift_told : Stmt := top 28
abbrev s_lift_nothing : Stmt := top 29
abbrev s_exit_of : Stmt := top 32
abbrev s_lifted : Stmt := top 33
abbrev s_law_spring : Stmt := top 35
abbrev s_law_draw : Stmt := top 36
abbrev s_law_bytes : Stmt := top 37
abbrev s_law_row_at : Stmt := top 38
abbrev s_law_drawn_row : Stmt := top 39
abbrev s_law_laid : Stmt := top 40
abbrev s_law_code : Stmt := top 41
abbrev s_law_statements : Stmt := top 43
abbrev s_law_lifted : Stmt := top 42
abbrev s_law_tuples : Stmt := top 44
abbrev s_law_right : Stmt := top 45
abbrev s_law : Stmt := top 46

structure Bl (mg : Str → Option Value) : Prop where
  b_abs : mg "abs" = none
  b_all : mg "all" = none
  b_bool : mg "bool" = none
  b_int : mg "int" = none
  b_isinstance : mg "isinstance" = none
  b_len : mg "len" = none
  b_list : mg "list" = none
  b_max : mg "max" = none
  b_min : mg "min" = none
  b_range : mg "range" = none
  b_str : mg "str" = none
  b_tuple : mg "tuple" = none
structure Cn (K : PySem.W.Frag) (mg : Str → Option Value) : Prop where
  c_ALONE : mg "ALONE" = some (.ref (He.ga K "ALONE"))
  c_ASKED : mg "ASKED" = some (.ref (He.ga K "ASKED"))
  c_BOXES : ∃ t, mg "BOXES" = some (.str "abcd" t)
  c_CELLS : ∃ t, mg "CELLS" = some (.int 64 t)
  c_JUMPS : ∃ t, mg "JUMPS" = some (.int 14 t)
  c_LIFTS : mg "LIFTS" = some (.ref (He.ga K "LIFTS"))
  c_NOTHING : mg "NOTHING" = some (.ref (He.ga K "NOTHING"))
  c_ROUND : ∃ t, mg "ROUND" = some (.int 256 t)
  c_SINGLE : mg "SINGLE" = some (.ref (He.ga K "SINGLE"))
  c_SINGLES : ∃ t, mg "SINGLES" = some (.int 15 t)
  c_TARGETS : mg "TARGETS" = some (.ref (He.ga K "TARGETS"))
  c_WORDS_OF_NUMBERED : mg "WORDS_OF_NUMBERED" = some (.ref (He.ga K "WORDS_OF_NUMBERED"))
  c_WORDS_OF_PAIRS : mg "WORDS_OF_PAIRS" = some (.ref (He.ga K "WORDS_OF_PAIRS"))
  f_lift_nothing : mg "lift_nothing" = some (.ref (He.ga K "lift_nothing"))

section
variable {P : Program} {w : World} {K : PySem.W.Frag} {mg : Str → Option Value} {base : Heap}
theorem sc_short_row : FnScope N_short_row ["first"] (defScope s_short_row) := ⟨rfl, rfl, rfl, by decide +kernel, rfl, by decide +kernel, by decide +kernel⟩
theorem cl_short_row (B : Bl mg) (C : Cn K mg) (F : LiftC K w) {f : Addr} {fd : FuncData} (D : FnP K "short_row" s_short_row f fd) (hm : mg "short_row" = some (.ref f)) (hb : Binds K fd ["first"] []) : Cl P w K mg base 1 "short_row" (sp_short_row K w) :=
  cl_of D hm hb sc_short_row (fun vs H Q E h => len_short_row h) fun cdv A outer s H vs Q E hr h => ⟨t_short_row K w, PSs.nox (pss_cons (ps_par3 (i := 1) (j := 2) (l := 3) (by rfl) sc_short_row.nd rfl rfl rfl (by decide) (by decide) (by decide) rfl rfl rfl (pa_cons (pe_op op_shrA (pv 0) pe_int) (pa_cons (pe_ix ix_seq (pe_gcn rfl C.c_BOXES) (pe_op op_andA (pe_op op_shrA (pv 0) pe_int) pe_int) (fun _ _ => rfl)) (pa_cons (pe_op op_andA (pv 0) pe_int) pa_nil))) (by rfl))
      (pss_cons (ps_if (pt_cmpR op_ltA (pv 0) (pe_callB call_lenA (by rfl) B.b_len (by decide +kernel) (pa_cons (pe_glob rfl C.c_ALONE rfl) pa_nil)) (nomark _))
      (pss_one (ps_ret (pe_tup (pa_cons (pe_ix ix_seq (pe_glob rfl C.c_ALONE rfl) (pv 0) (fun _ _ => rfl)) pa_nil))))
      pss_nil)
      (pss_cons (ps_if (pt_cmpR (op_eqA hr.units) (pv 1) (pe_gcn rfl C.c_SINGLES) (nomark _))
      (pss_one (ps_ret (pe_tup (pa_cons (pe_ix ix_seq (pe_glob rfl C.c_SINGLE rfl) (pv 3) (fun _ _ => rfl)) (pa_cons (pv 2) pa_nil)))))
      pss_nil)
      (pss_cons (ps_if (pt_cmpR op_inKD (pv 1) (pe_glob rfl C.c_WORDS_OF_PAIRS rfl) rfl)
      (pss_one (ps_ret (pe_tup (pa_cons (pe_ix ix_KD (pe_glob rfl C.c_WORDS_OF_PAIRS rfl) (pv 1) (fun _ _ => rfl)) (pa_cons (pv 2) (pa_cons (pe_ix ix_seq (pe_gcn rfl C.c_BOXES) (pv 3) (fun _ _ => rfl)) pa_nil))))))
      pss_nil)
      (pss_one (ps_ret pe_non)))))), pure_short_row F.mach h⟩

theorem sc_long_row : FnScope N_long_row ["first", "n"] (defScope s_long_row) := ⟨rfl, rfl, rfl, by decide +kernel, rfl, by decide +kernel, by decide +kernel⟩
theorem cl_long_row (B : Bl mg) (C : Cn K mg) (F : LiftC K w) {f : Addr} {fd : FuncData} (D : FnP K "long_row" s_long_row f fd) (hm : mg "long_row" = some (.ref f)) (hb : Binds K fd ["first", "n"] []) : Cl P w K mg base 1 "long_row" (sp_long_row K w) :=
  cl_of D hm hb sc_long_row (fun vs H Q E h => len_long_row h) fun cdv A outer s H vs Q E hr h => ⟨t_long_row K w, PSs.nox (pss_cons (ps_par3 (i := 2) (j := 3) (l := 4) (by rfl) sc_long_row.nd rfl rfl rfl (by decide) (by decide) (by decide) rfl rfl rfl (pa_cons (pe_op op_shrA (pv 0) pe_int) (pa_cons (pe_ix ix_seq (pe_gcn rfl C.c_BOXES) (pe_op op_andA (pe_op op_shrA (pv 0) pe_int) pe_int) (fun _ _ => rfl)) (pa_cons (pe_op op_andA (pv 0) pe_int) pa_nil))) (by rfl))
      (pss_cons (ps_if (PW.pt (pw_and (pt_cmpR (op_eqA hr.units) (pv 2) (pe_gcn rfl C.c_JUMPS) (nomark _)) (pw_and1 (pt_cmpR op_ltA (pv 4) (pe_callB call_lenA (by rfl) B.b_len (by decide +kernel) (pa_cons (pe_glob rfl C.c_TARGETS rfl) pa_nil)) (nomark _)))))
      (pss_one (ps_ret (pe_tup (pa_cons (pe_ix ix_seq (pe_glob rfl C.c_TARGETS rfl) (pv 4) (fun _ _ => rfl)) (pa_cons (pv 1) pa_nil)))))
      pss_nil)
      (pss_cons (ps_if (PW.pt (pw_and (pt_cmpR op_inKD (pv 2) (pe_glob rfl C.c_WORDS_OF_NUMBERED rfl) rfl) (pw_and1 (pt_cmpR (op_eqA hr.units) (pe_op op_andA (pv 4) pe_int) pe_int (nomark _)))))
      (pss_one (ps_ret (pe_tup (pa_cons (pe_ix ix_KD (pe_glob rfl C.c_WORDS_OF_NUMBERED rfl) (pv 2) (fun _ _ => rfl)) (pa_cons (pv 3) (pa_cons (pv 1) pa_nil))))))
      pss_nil)
      (pss_one (ps_ret pe_non))))), pure_long_row F.mach h⟩

theorem sc_row_at : FnScope N_row_at ["code", "address"] (defScope s_row_at) := ⟨rfl, rfl, rfl, by decide +kernel, rfl, by decide +kernel, by decide +kernel⟩
theorem cl_row_at (B : Bl mg) (C : Cn K mg) (F : LiftC K w) (c_short_row : Cl P w K mg base 1 "short_row" (sp_short_row K w)) (c_long_row : Cl P w K mg base 1 "long_row" (sp_long_row K w)) {f : Addr} {fd : FuncData} (D : FnP K "row_at" s_row_at f fd) (hm : mg "row_at" = some (.ref f)) (hb : Binds K fd ["code", "address"] []) : Cl P w K mg base 2 "row_at" (sp_row_at K w) :=
  cl_of D hm hb sc_row_at (fun vs H Q E h => len_row_at h) fun cdv A outer s H vs Q E hr h => ⟨t_row_at K w, PSs.nox (pss_cons (ps_if (pt_not (pt_chain op_leA op_ltA pe_int (pv 1) (pe_callB call_lenA (by rfl) B.b_len (by decide +kernel) (pa_cons (pv 0) pa_nil))))
      (pss_one (ps_ret pe_non))
      pss_nil)
      (pss_cons (ps_set (i := 2) sc_row_at.nd rfl (.inl rfl) (pe_cl c_short_row hr (by decide) rfl (pa_cons (pe_ix ix_seq (pv 0) (pv 1) (fun _ _ => rfl)) pa_nil)))
      (pss_cons (ps_if (pt_cmpR op_notN1 (pv 2) pe_non (nomark _))
      (pss_one (ps_ret (pe_tup (pa_cons (pv 2) (pa_cons pe_int pa_nil)))))
      pss_nil)
      (pss_cons (ps_set (i := 2) sc_row_at.nd rfl (.inl rfl) (pe_ifExp (pt_cmpR op_ltA (pe_op op_addA (pv 1) pe_int) (pe_callB call_lenA (by rfl) B.b_len (by decide +kernel) (pa_cons (pv 0) pa_nil)) (nomark _)) (pe_cl c_long_row hr (by decide) rfl (pa_cons (pe_ix ix_seq (pv 0) (pv 1) (fun _ _ => rfl)) (pa_cons (pe_ix ix_seq (pv 0) (pe_op op_addA (pv 1) pe_int) (fun _ _ => rfl)) pa_nil))) pe_non))
      (pss_one (ps_ret (pe_ifExp (pt_cmpR op_notN1 (pv 2) pe_non (nomark _)) (pe_tup (pa_cons (pv 2) (pa_cons pe_int pa_nil))) pe_non))))))), pure_row_at F.mach h⟩

theorem sc_by_name : FnScope N_by_name ["x"] (defScope s_by_name) := ⟨rfl, rfl, rfl, by decide +kernel, rfl, by decide +kernel, by decide +kernel⟩
theorem cl_by_name (B : Bl mg) (C : Cn K mg) (F : LiftC K w) {f : Addr} {fd : FuncData} (D : FnP K "by_name" s_by_name f fd) (hm : mg "by_name" = some (.ref f)) (hb : Binds K fd ["x"] []) : Cl P w K mg base 1 "by_name" (sp_by_name K w) :=
  cl_of D hm hb sc_by_name (fun vs H Q E h => len_by_name h) fun cdv A outer s H vs Q E hr h => ⟨t_by_name K w, PSs.nox (pss_one (ps_ret (pe_tup (pa_cons pe_str (pa_cons (pv 0) pa_nil))))), pure_by_name F h⟩

theorem sc_by_number : FnScope N_by_number ["n"] (defScope s_by_number) := ⟨rfl, rfl, rfl, by decide +kernel, rfl, by decide +kernel, by decide +kernel⟩
theorem cl_by_number (B : Bl mg) (C : Cn K mg) (F : LiftC K w) {f : Addr} {fd : FuncData} (D : FnP K "by_number" s_by_number f fd) (hm : mg "by_number" = some (.ref f)) (hb : Binds K fd ["n"] []) : Cl P w K mg base 1 "by_number" (sp_by_number K w) :=
  cl_of D hm hb sc_by_number (fun vs H Q E h => len_by_number h) fun cdv A outer s H vs Q E hr h => ⟨t_by_number K w, PSs.nox (pss_one (ps_ret (pe_tup (pa_cons pe_str (pa_cons (pv 0) pa_nil))))), pure_by_number F h⟩

theorem sc_zero_by : FnScope N_zero_by ["r"] (defScope s_zero_by) := ⟨rfl, rfl, rfl, by decide +kernel, rfl, by decide +kernel, by decide +kernel⟩
theorem cl_zero_by (B : Bl mg) (C : Cn K mg) (F : LiftC K w) (c_by_name : Cl P w K mg base 1 "by_name" (sp_by_name K w)) {f : Addr} {fd : FuncData} (D : FnP K "zero_by" s_zero_by f fd) (hm : mg "zero_by" = some (.ref f)) (hb : Binds K fd ["r"] []) : Cl P w K mg base 2 "zero_by" (sp_zero_by K w) :=
  cl_of D hm hb sc_zero_by (fun vs H Q E h => len_zero_by h) fun cdv A outer s H vs Q E hr h => ⟨t_zero_by K w, PSs.nox (pss_one (ps_ret (pe_tup (pa_cons pe_str (pa_cons pe_str (pa_cons (pe_tup (pa_cons pe_str (pa_cons (pe_cl c_by_name hr (by decide) rfl (pa_cons (pv 0) pa_nil)) (pa_cons (pe_glob rfl C.c_NOTHING rfl) pa_nil)))) pa_nil)))))), pure_zero_by F h⟩

theorem sc_lift_set : FnScope N_lift_set ["row"] (defScope s_lift_set) := ⟨rfl, rfl, rfl, by decide +kernel, rfl, by decide +kernel, by decide +kernel⟩
theorem cl_lift_set (B : Bl mg) (C : Cn K mg) (F : LiftC K w) (c_by_number : Cl P w K mg base 1 "by_number" (sp_by_number K w)) {f : Addr} {fd : FuncData} (D : FnP K "lift_set" s_lift_set f fd) (hm : mg "lift_set" = some (.ref f)) (hb : Binds K fd ["row"] []) : Cl P w K mg base 2 "lift_set" (sp_lift_set K w) :=
  cl_of D hm hb sc_lift_set (fun vs H Q E h => len_lift_set h) fun cdv A outer s H vs Q E hr h => ⟨t_lift_set K w, PSs.nox (pss_one (ps_ret (pe_lst (pa_cons (pe_tup (pa_cons pe_str (pa_cons (pe_ix ix_seq (pv 0) pe_int (fun _ _ => rfl)) (pa_cons (pe_cl c_by_number hr (by decide) rfl (pa_cons (pe_ix ix_seq (pv 0) pe_int (fun _ _ => rfl)) pa_nil)) pa_nil)))) pa_nil)))), pure_lift_set F h⟩

theorem sc_lift_copy : FnScope N_lift_copy ["row"] (defScope s_lift_copy) := ⟨rfl, rfl, rfl, by decide +kernel, rfl, by decide +kernel, by decide +kernel⟩
theorem cl_lift_copy (B : Bl mg) (C : Cn K mg) (F : LiftC K w) (c_by_name : Cl P w K mg base 1 "by_name" (sp_by_name K w)) {f : Addr} {fd : FuncData} (D : FnP K "lift_copy" s_lift_copy f fd) (hm : mg "lift_copy" = some (.ref f)) (hb : Binds K fd ["row"] []) : Cl P w K mg base 2 "lift_copy" (sp_lift_copy K w) :=
  cl_of D hm hb sc_lift_copy (fun vs H Q E h => len_lift_copy h) fun cdv A outer s H vs Q E hr h => ⟨t_lift_copy K w, PSs.nox (pss_one (ps_ret (pe_lst (pa_cons (pe_tup (pa_cons pe_str (pa_cons (pe_ix ix_seq (pv 0) pe_int (fun _ _ => rfl)) (pa_cons (pe_cl c_by_name hr (by decide) rfl (pa_cons (pe_ix ix_seq (pv 0) pe_int (fun _ _ => rfl)) pa_nil)) pa_nil)))) pa_nil)))), pure_lift_copy F h⟩

theorem sc_lift_add : FnScope N_lift_add ["row"] (defScope s_lift_add) := ⟨rfl, rfl, rfl, by decide +kernel, rfl, by decide +kernel, by decide +kernel⟩
theorem cl_lift_add (B : Bl mg) (C : Cn K mg) (F : LiftC K w) (c_by_name : Cl P w K mg base 1 "by_name" (sp_by_name K w)) (c_by_number : Cl P w K mg base 1 "by_number" (sp_by_number K w)) (c_zero_by : Cl P w K mg base 2 "zero_by" (sp_zero_by K w)) {f : Addr} {fd : FuncData} (D : FnP K "lift_add" s_lift_add f fd) (hm : mg "lift_add" = some (.ref f)) (hb : Binds K fd ["row"] []) : Cl P w K mg base 3 "lift_add" (sp_lift_add K w) :=
  cl_of D hm hb sc_lift_add (fun vs H Q E h => len_lift_add h) fun cdv A outer s H vs Q E hr h => ⟨t_lift_add K w, PSs.nox (pss_cons (ps_asg (pv 0) (pg_tup rfl (pgs_cons (pg_name (i := 1) sc_lift_add.nd rfl (.inl rfl)) (pgs_cons (pg_name (i := 2) sc_lift_add.nd rfl (.inl rfl)) (pgs_cons (pg_name (i := 3) sc_lift_add.nd rfl (.inl rfl)) pgs_nil)))))
      (pss_cons (ps_set (i := 4) sc_lift_add.nd rfl (.inl rfl) (pe_tup (pa_cons pe_str (pa_cons (pe_tup (pa_cons pe_str (pa_cons (pe_cl c_by_number hr (by decide) rfl (pa_cons (pe_op op_subA (pe_gcn rfl C.c_ROUND) pe_int) pa_nil)) (pa_cons (pe_cl c_by_name hr (by decide) rfl (pa_cons (pv 2) pa_nil)) pa_nil)))) (pa_cons (pe_cl c_by_name hr (by decide) rfl (pa_cons (pv 3) pa_nil)) pa_nil)))))
      (pss_one (ps_ret (pe_lst (pa_cons (pe_tup (pa_cons pe_str (pa_cons pe_str (pa_cons (pv 4) pa_nil)))) (pa_cons (pe_tup (pa_cons pe_str (pa_cons (pv 2) (pa_cons (pe_tup (pa_cons pe_str (pa_cons (pe_cl c_by_name hr (by decide) rfl (pa_cons (pv 2) pa_nil)) (pa_cons (pe_cl c_by_name hr (by decide) rfl (pa_cons (pv 3) pa_nil)) pa_nil)))) pa_nil)))) (pa_cons (pe_cl c_zero_by hr (by decide) rfl (pa_cons (pv 2) pa_nil)) pa_nil)))))))), pure_lift_add F h⟩

theorem sc_lift_sub : FnScope N_lift_sub ["row"] (defScope s_lift_sub) := ⟨rfl, rfl, rfl, by decide +kernel, rfl, by decide +kernel, by decide +kernel⟩
theorem cl_lift_sub (B : Bl mg) (C : Cn K mg) (F : LiftC K w) (c_zero_by : Cl P w K mg base 2 "zero_by" (sp_zero_by K w)) (c_by_name : Cl P w K mg base 1 "by_name" (sp_by_name K w)) {f : Addr} {fd : FuncData} (D : FnP K "lift_sub" s_lift_sub f fd) (hm : mg "lift_sub" = some (.ref f)) (hb : Binds K fd ["row"] []) : Cl P w K mg base 3 "lift_sub" (sp_lift_sub K w) :=
  cl_of D hm hb sc_lift_sub (fun vs H Q E h => len_lift_sub h) fun cdv A outer s H vs Q E hr h => ⟨t_lift_sub K w, PSs.nox (pss_cons (ps_asg (pv 0) (pg_tup rfl (pgs_cons (pg_name (i := 1) sc_lift_sub.nd rfl (.inl rfl)) (pgs_cons (pg_name (i := 2) sc_lift_sub.nd rfl (.inl rfl)) (pgs_cons (pg_name (i := 3) sc_lift_sub.nd rfl (.inl rfl)) pgs_nil)))))
      (pss_one (ps_ret (pe_lst (pa_cons (pe_tup (pa_cons pe_str (pa_cons pe_str (pa_cons (pe_tup (pa_cons pe_str (pa_cons (pe_cl c_by_name hr (by decide) rfl (pa_cons (pv 2) pa_nil)) (pa_cons (pe_cl c_by_name hr (by decide) rfl (pa_cons (pv 3) pa_nil)) pa_nil)))) pa_nil)))) (pa_cons (pe_tup (pa_cons pe_str (pa_cons (pv 2) (pa_cons (pe_tup (pa_cons pe_str (pa_cons (pe_cl c_by_name hr (by decide) rfl (pa_cons (pv 2) pa_nil)) (pa_cons (pe_cl c_by_name hr (by decide) rfl (pa_cons (pv 3) pa_nil)) pa_nil)))) pa_nil)))) (pa_cons (pe_cl c_zero_by hr (by decide) rfl (pa_cons (pv 2) pa_nil)) pa_nil))))))), pure_lift_sub F h⟩

theorem sc_lift_bits : FnScope N_lift_bits ["row"] (defScope s_lift_bits) := ⟨rfl, rfl, rfl, by decide +kernel, rfl, by decide +kernel, by decide +kernel⟩
theorem cl_lift_bits (B : Bl mg) (C : Cn K mg) (F : LiftC K w) (c_zero_by : Cl P w K mg base 2 "zero_by" (sp_zero_by K w)) (c_by_name : Cl P w K mg base 1 "by_name" (sp_by_name K w)) {f : Addr} {fd : FuncData} (D : FnP K "lift_bits" s_lift_bits f fd) (hm : mg "lift_bits" = some (.ref f)) (hb : Binds K fd ["row"] []) : Cl P w K mg base 3 "lift_bits" (sp_lift_bits K w) :=
  cl_of D hm hb sc_lift_bits (fun vs H Q E h => len_lift_bits h) fun cdv A outer s H vs Q E hr h => ⟨t_lift_bits K w, PSs.nox (pss_cons (ps_asg (pv 0) (pg_tup rfl (pgs_cons (pg_name (i := 1) sc_lift_bits.nd rfl (.inl rfl)) (pgs_cons (pg_name (i := 2) sc_lift_bits.nd rfl (.inl rfl)) (pgs_cons (pg_name (i := 3) sc_lift_bits.nd rfl (.inl rfl)) pgs_nil)))))
      (pss_cons (ps_set (i := 4) sc_lift_bits.nd rfl (.inl rfl) (pe_dget (hu_of hr) (pe_disp (pps_cons pe_str pe_str (pps_cons pe_str pe_str (pps_cons pe_str pe_str pps_nil))) (by rfl) (by rfl) (fun z => by cases z) (by decide)) (pv 1) (fun _ _ => rfl)))
      (pss_one (ps_ret (pe_lst (pa_cons (pe_tup (pa_cons pe_str (pa_cons (pv 2) (pa_cons (pe_tup (pa_cons (pv 4) (pa_cons (pe_cl c_by_name hr (by decide) rfl (pa_cons (pv 2) pa_nil)) (pa_cons (pe_cl c_by_name hr (by decide) rfl (pa_cons (pv 3) pa_nil)) pa_nil)))) pa_nil)))) (pa_cons (pe_cl c_zero_by hr (by decide) rfl (pa_cons (pv 2) pa_nil)) (pa_cons (pe_tup (pa_cons pe_str (pa_cons pe_str (pa_cons (pe_glob rfl C.c_NOTHING rfl) pa_nil)))) pa_nil)))))))), pure_lift_bits F h⟩

theorem sc_lift_test : FnScope N_lift_test ["row"] (defScope s_lift_test) := ⟨rfl, rfl, rfl, by decide +kernel, rfl, by decide +kernel, by decide +kernel⟩
theorem cl_lift_test (B : Bl mg) (C : Cn K mg) (F : LiftC K w) (c_by_name : Cl P w K mg base 1 "by_name" (sp_by_name K w)) (c_by_number : Cl P w K mg base 1 "by_number" (sp_by_number K w)) {f : Addr} {fd : FuncData} (D : FnP K "lift_test" s_lift_test f fd) (hm : mg "lift_test" = some (.ref f)) (hb : Binds K fd ["row"] []) : Cl P w K mg base 2 "lift_test" (sp_lift_test K w) :=
  cl_of D hm hb sc_lift_test (fun vs H Q E h => len_lift_test h) fun cdv A outer s H vs Q E hr h => ⟨t_lift_test K w, PSs.nox (pss_cons (ps_asg (pv 0) (pg_tup rfl (pgs_cons (pg_name (i := 1) sc_lift_test.nd rfl (.inl rfl)) (pgs_cons (pg_name (i := 2) sc_lift_test.nd rfl (.inl rfl)) (pgs_cons (pg_name (i := 3) sc_lift_test.nd rfl (.inl rfl)) pgs_nil)))))
      (pss_cons (ps_set (i := 4) sc_lift_test.nd rfl (.inl rfl) (pe_ifExp (pt_cmpR (op_eqA hr.units) (pv 1) pe_str (nomark _)) (pe_cl c_by_name hr (by decide) rfl (pa_cons (pv 3) pa_nil)) (pe_cl c_by_number hr (by decide) rfl (pa_cons (pv 3) pa_nil))))
      (pss_one (ps_ret (pe_lst (pa_cons (pe_tup (pa_cons pe_str (pa_cons pe_str (pa_cons (pe_tup (pa_cons pe_str (pa_cons (pe_cl c_by_name hr (by decide) rfl (pa_cons (pv 2) pa_nil)) (pa_cons (pv 4) pa_nil)))) pa_nil)))) (pa_cons (pe_tup (pa_cons pe_str (pa_cons pe_str (pa_cons (pe_tup (pa_cons pe_str (pa_cons (pe_cl c_by_name hr (by decide) rfl (pa_cons (pv 2) pa_nil)) (pa_cons (pv 4) pa_nil)))) pa_nil)))) pa_nil))))))), pure_lift_test F h⟩

theorem sc_lift_load : FnScope N_lift_load ["row"] (defScope s_lift_load) := ⟨rfl, rfl, rfl, by decide +kernel, rfl, by decide +kernel, by decide +kernel⟩
theorem cl_lift_load (B : Bl mg) (C : Cn K mg) (F : LiftC K w) (c_by_name : Cl P w K mg base 1 "by_name" (sp_by_name K w)) (c_by_number : Cl P w K mg base 1 "by_number" (sp_by_number K w)) {f : Addr} {fd : FuncData} (D : FnP K "lift_load" s_lift_load f fd) (hm : mg "lift_load" = some (.ref f)) (hb : Binds K fd ["row"] []) : Cl P w K mg base 2 "lift_load" (sp_lift_load K w) :=
  cl_of D hm hb sc_lift_load (fun vs H Q E h => len_lift_load h) fun cdv A outer s H vs Q E hr h => ⟨t_lift_load K w, PSs.nox (pss_cons (ps_asg (pv 0) (pg_tup rfl (pgs_cons (pg_name (i := 1) sc_lift_load.nd rfl (.inl rfl)) (pgs_cons (pg_name (i := 2) sc_lift_load.nd rfl (.inl rfl)) (pgs_cons (pg_name (i := 3) sc_lift_load.nd rfl (.inl rfl)) pgs_nil)))))
      (pss_cons (ps_set (i := 4) sc_lift_load.nd rfl (.inl rfl) (pe_ifExp (pt_cmpR (op_eqA hr.units) (pv 1) pe_str (nomark _)) (pe_cl c_by_name hr (by decide) rfl (pa_cons (pv 3) pa_nil)) (pe_cl c_by_number hr (by decide) rfl (pa_cons (pe_op op_modA (pv 3) (pe_gcn rfl C.c_CELLS)) pa_nil))))
      (pss_one (ps_ret (pe_lst (pa_cons (pe_tup (pa_cons pe_str (pa_cons (pv 2) (pa_cons (pe_tup (pa_cons pe_str (pa_cons (pv 4) pa_nil))) pa_nil)))) pa_nil)))))), pure_lift_load F h⟩

theorem sc_lift_store : FnScope N_lift_store ["row"] (defScope s_lift_store) := ⟨rfl, rfl, rfl, by decide +kernel, rfl, by decide +kernel, by decide +kernel⟩
theorem cl_lift_store (B : Bl mg) (C : Cn K mg) (F : LiftC K w) (c_by_name : Cl P w K mg base 1 "by_name" (sp_by_name K w)) (c_by_number : Cl P w K mg base 1 "by_number" (sp_by_number K w)) {f : Addr} {fd : FuncData} (D : FnP K "lift_store" s_lift_store f fd) (hm : mg "lift_store" = some (.ref f)) (hb : Binds K fd ["row"] []) : Cl P w K mg base 2 "lift_store" (sp_lift_store K w) :=
  cl_of D hm hb sc_lift_store (fun vs H Q E h => len_lift_store h) fun cdv A outer s H vs Q E hr h => ⟨t_lift_store K w, PSs.nox (pss_cons (ps_asg (pv 0) (pg_tup rfl (pgs_cons (pg_name (i := 1) sc_lift_store.nd rfl (.inl rfl)) (pgs_cons (pg_name (i := 2) sc_lift_store.nd rfl (.inl rfl)) (pgs_cons (pg_name (i := 3) sc_lift_store.nd rfl (.inl rfl)) pgs_nil)))))
      (pss_one (ps_ret (pe_lst (pa_cons (pe_ifExp (pt_cmpR (op_eqA hr.units) (pv 1) pe_str (nomark _)) (pe_tup (pa_cons pe_str (pa_cons (pe_cl c_by_name hr (by decide) rfl (pa_cons (pv 2) pa_nil)) (pa_cons (pe_cl c_by_name hr (by decide) rfl (pa_cons (pv 3) pa_nil)) pa_nil)))) (pe_tup (pa_cons pe_str (pa_cons (pe_cl c_by_number hr (by decide) rfl (pa_cons (pe_op op_modA (pv 3) (pe_gcn rfl C.c_CELLS)) pa_nil)) (pa_cons (pe_cl c_by_name hr (by decide) rfl (pa_cons (pv 2) pa_nil)) pa_nil))))) pa_nil))))), pure_lift_store F h⟩

theorem sc_lift_named : FnScope N_lift_named ["row"] (defScope s_lift_named) := ⟨rfl, rfl, rfl, by decide +kernel, rfl, by decide +kernel, by decide +kernel⟩
theorem cl_lift_named (B : Bl mg) (C : Cn K mg) (F : LiftC K w) {f : Addr} {fd : FuncData} (D : FnP K "lift_named" s_lift_named f fd) (hm : mg "lift_named" = some (.ref f)) (hb : Binds K fd ["row"] []) : Cl P w K mg base 1 "lift_named" (sp_lift_named K w) :=
  cl_of D hm hb sc_lift_named (fun vs H Q E h => len_lift_named h) fun cdv A outer s H vs Q E hr h => ⟨t_lift_named K w, PSs.nox (pss_one (ps_ret (pe_lst (pa_cons (pe_tup (pa_cons (pe_ix ix_seq (pv 0) pe_int (fun _ _ => rfl)) (pa_cons (pe_ix ix_seq (pv 0) pe_int (fun _ _ => rfl)) pa_nil))) pa_nil)))), pure_lift_named F h⟩

theorem sc_lift_told : FnScope N_lift_told ["row"] (defScope s_lift_told) := ⟨rfl, rfl, rfl, by decide +kernel, rfl, by decide +kernel, by decide +kernel⟩
theorem cl_lift_told (B : Bl mg) (C : Cn K mg) (F : LiftC K w) (c_by_name : Cl P w K mg base 1 "by_name" (sp_by_name K w)) {f : Addr} {fd : FuncData} (D : FnP K "lift_told" s_lift_told f fd) (hm : mg "lift_told" = some (.ref f)) (hb : Binds K fd ["row"] []) : Cl P w K mg base 2 "lift_told" (sp_lift_told K w) :=
  cl_of D hm hb sc_lift_told (fun vs H Q E h => len_lift_told h) fun cdv A outer s H vs Q E hr h => ⟨t_lift_told K w, PSs.nox (pss_one (ps_ret (pe_lst (pa_cons (pe_tup (pa_cons (pe_ix ix_seq (pv 0) pe_int (fun _ _ => rfl)) (pa_cons (pe_cl c_by_name hr (by decide) rfl (pa_cons (pe_ix ix_seq (pv 0) pe_int (fun _ _ => rfl)) pa_nil)) pa_nil))) pa_nil)))), pure_lift_told F h⟩

theorem sc_lift_nothing : FnScope N_lift_nothing ["row"] (defScope s_lift_nothing) := ⟨rfl, rfl, rfl, by decide +kernel, rfl, by decide +kernel, by decide +kernel⟩
theorem cl_lift_nothing (B : Bl mg) (C : Cn K mg) (F : LiftC K w) {f : Addr} {fd : FuncData} (D : FnP K "lift_nothing" s_lift_nothing f fd) (hm : mg "lift_nothing" = some (.ref f)) (hb : Binds K fd ["row"] []) : Cl P w K mg base 1 "lift_nothing" (sp_lift_nothing K w) :=
  cl_of D hm hb sc_lift_nothing (fun vs H Q E h => len_lift_nothing h) fun cdv A outer s H vs Q E hr h => ⟨t_lift_nothing K w, PSs.nox (pss_one (ps_ret (pe_lst pa_nil))), pure_lift_nothing F h⟩

theorem sc_exit_of : FnScope N_exit_of ["row", "behind"] (defScope s_exit_of) := ⟨rfl, rfl, rfl, by decide +kernel, rfl, by decide +kernel, by decide +kernel⟩
theorem cl_exit_of (B : Bl mg) (C : Cn K mg) (F : LiftC K w) {f : Addr} {fd : FuncData} (D : FnP K "exit_of" s_exit_of f fd) (hm : mg "exit_of" = some (.ref f)) (hb : Binds K fd ["row", "behind"] []) : Cl P w K mg base 1 "exit_of" (sp_exit_of K w) :=
  cl_of D hm hb sc_exit_of (fun vs H Q E h => len_exit_of h) fun cdv A outer s H vs Q E hr h => ⟨t_exit_of K w, PSs.nox (pss_cons (ps_set (i := 2) sc_exit_of.nd rfl (.inl rfl) (pe_ix ix_seq (pv 0) pe_int (fun _ _ => rfl)))
      (pss_cons (ps_if (pt_cmpR (op_eqA hr.units) (pv 2) pe_str (nomark _))
      (pss_one (ps_ret (pe_tup (pa_cons pe_str (pa_cons pe_str pa_nil)))))
      pss_nil)
      (pss_cons (ps_if (pt_cmpR (op_eqA hr.units) (pv 2) pe_str (nomark _))
      (pss_one (ps_ret (pe_tup (pa_cons pe_str pa_nil))))
      pss_nil)
      (pss_cons (ps_if (pt_cmpR (op_eqA hr.units) (pv 2) pe_str (nomark _))
      (pss_one (ps_ret (pe_tup (pa_cons pe_str (pa_cons (pe_ix ix_seq (pv 0) pe_int (fun _ _ => rfl)) pa_nil)))))
      pss_nil)
      (pss_cons (ps_if (pt_cmpR (op_eqA hr.units) (pv 2) pe_str (nomark _))
      (pss_one (ps_ret (pe_tup (pa_cons pe_str (pa_cons (pe_ix ix_seq (pv 0) pe_int (fun _ _ => rfl)) (pa_cons (pv 1) pa_nil))))))
      pss_nil)
      (pss_cons (ps_if (pt_cmpR op_inKD (pv 2) (pe_glob rfl C.c_ASKED rfl) rfl)
      (pss_one (ps_ret (pe_tup (pa_cons pe_str (pa_cons (pe_ix ix_KD (pe_glob rfl C.c_ASKED rfl) (pv 2) (fun _ _ => rfl)) (pa_cons (pe_ix ix_seq (pv 0) pe_int (fun _ _ => rfl)) (pa_cons (pv 1) pa_nil)))))))
      pss_nil)
      (pss_one (ps_ret (pe_tup (pa_cons pe_str (pa_cons (pv 1) pa_nil))))))))))), pure_exit_of F h⟩

theorem sc_lifted : FnScope N_lifted ["code", "address"] (defScope s_lifted) := ⟨rfl, rfl, rfl, by decide +kernel, rfl, by decide +kernel, by decide +kernel⟩
theorem cl_lifted (B : Bl mg) (C : Cn K mg) (F : LiftC K w) (c_row_at : Cl P w K mg base 2 "row_at" (sp_row_at K w)) (c_exit_of : Cl P w K mg base 1 "exit_of" (sp_exit_of K w)) (c_dd : ∀ nm sp, DD K w nm = some sp → Cl P w K mg base 3 nm sp ∧ mg nm = some (.ref (He.ga K nm))) {f : Addr} {fd : FuncData} (D : FnP K "lifted" s_lifted f fd) (hm : mg "lifted" = some (.ref f)) (hb : Binds K fd ["code", "address"] []) : Cl P w K mg base 4 "lifted" (sp_lifted K w) :=
  cl_of D hm hb sc_lifted (fun vs H Q E h => len_lifted h) fun cdv A outer s H vs Q E hr h => ⟨t_lifted K w, PSs.nox (pss_cons (ps_set (i := 2) sc_lifted.nd rfl (.inl rfl) (pe_cl c_row_at hr (by decide) rfl (pa_cons (pv 0) (pa_cons (pv 1) pa_nil))))
      (pss_cons (ps_if (pt_cmpR op_isN1 (pv 2) pe_non (nomark _))
      (pss_one (ps_ret (pe_tup (pa_cons (pe_lst pa_nil) (pa_cons (pe_tup (pa_cons pe_str (pa_cons pe_str pa_nil))) pa_nil)))))
      pss_nil)
      (pss_cons (ps_asg (pv 2) (pg_tup rfl (pgs_cons (pg_name (i := 3) sc_lifted.nd rfl (.inl rfl)) (pgs_cons (pg_name (i := 4) sc_lifted.nd rfl (.inl rfl)) pgs_nil))))
      (pss_cons (ps_set (i := 5) sc_lifted.nd rfl (.inl rfl) (pe_getKD (pe_glob rfl C.c_LIFTS rfl) (pe_ix ix_seq (pv 3) pe_int (fun _ _ => rfl)) (pe_glob rfl C.f_lift_nothing rfl) ⟨rfl, rfl, rfl, rfl⟩))
      (pss_one (ps_ret (pe_tup (pa_cons (pe_callD c_dd hr (by decide) rfl (.inl rfl) (pa_cons (pv 3) pa_nil)) (pa_cons (pe_cl c_exit_of hr (by decide) rfl (pa_cons (pv 3) (pa_cons (pe_op op_addA (pv 1) (pv 4)) pa_nil))) pa_nil))))))))), pure_lifted F h⟩

theorem sc_law_spring : FnScope N_law_spring ["_law_script"] (defScope s_law_spring) := ⟨rfl, rfl, rfl, by decide +kernel, rfl, by decide +kernel, by decide +kernel⟩
theorem cl_law_spring (B : Bl mg) (C : Cn K mg) (F : LiftC K w) {f : Addr} {fd : FuncData} (D : FnP K "_law_spring" s_law_spring f fd) (hm : mg "_law_spring" = some (.ref f)) (hb : Binds K fd ["_law_script"] []) : Cl P w K mg base 1 "_law_spring" (sp_law_spring K w) :=
  cl_of D hm hb sc_law_spring (fun vs H Q E h => len_law_spring h) fun cdv A outer s H vs Q E hr h => ⟨t_law_spring K w, PSs.nox (pss_cons (ps_set (i := 1) sc_law_spring.nd rfl (.inl rfl) pe_int)
      (pss_cons (ps_set (i := 2) sc_law_spring.nd rfl (.inl rfl) pe_int)
      (pss_cons (ps_for PassesOwn.never rfl (pi_seq (pe_slice sl_A (pv 0) po_none (po_some pe_int))) (pg_name (i := 3) sc_law_spring.nd rfl (.inl rfl))
      (pss_cons (ps_if (pt_cmpR op_geA (pe_callB call_absA (by rfl) B.b_abs (by decide +kernel) (pa_cons (pv 3) pa_nil)) (pe_op op_powA pe_int pe_int) (nomark _))
      (pss_one (ps_set (i := 1) sc_law_spring.nd rfl (.inl rfl) (pe_op op_addA (pe_op op_mulA (pv 1) (pe_op op_powA pe_int pe_int)) (pe_op op_modA (pe_callB call_absA (by rfl) B.b_abs (by decide +kernel) (pa_cons (pv 3) pa_nil)) (pe_op op_powA pe_int pe_int)))))
      pss_nil)
      (pss_one (ps_set (i := 2) sc_law_spring.nd rfl (.inl rfl) (pe_op op_modA (pe_op op_addA (pe_op op_addA (pe_op op_mulA (pv 2) pe_int) (pe_op op_modA (pv 3) pe_int)) pe_int) pe_int)))))
      (pss_one (ps_ret (pe_lst (pa_cons (pv 1) (pa_cons (pv 2) (pa_cons pe_int pa_nil))))))))), pure_law_spring F h⟩

theorem sc_law_draw : FnScope N_law_draw ["_law_spring_here", "_law_many"] (defScope s_law_draw) := ⟨rfl, rfl, rfl, by decide +kernel, rfl, by decide +kernel, by decide +kernel⟩
theorem cl_law_draw (B : Bl mg) (C : Cn K mg) (F : LiftC K w) {f : Addr} {fd : FuncData} (D : FnP K "_law_draw" s_law_draw f fd) (hm : mg "_law_draw" = some (.ref f)) (hb : Binds K fd ["_law_spring_here", "_law_many"] []) : Cl P w K mg base 1 "_law_draw" (sp_law_draw K w) :=
  cl_of D hm hb sc_law_draw (fun vs H Q E h => len_law_draw h) fun cdv A outer s H vs Q E hr h => ⟨t_law_draw K w, PSs.nox (pss_cons (ps_if (pt_cmpR op_gtA (pe_ix ix_seq (pv 0) pe_int (fun _ _ => rfl)) pe_int (nomark _))
      (pss_cons (ps_set (i := 2) sc_law_draw.nd rfl (.inl rfl) (pe_op op_modA (pe_ix ix_seq (pv 0) pe_int (fun _ _ => rfl)) (pv 1)))
      (pss_cons (ps_asg (pe_op op_divA (pe_ix ix_seq (pv 0) pe_int (fun _ _ => rfl)) (pv 1)) (pg_sub (pv 0) pe_int set_list))
      (pss_one (ps_ret (pv 2)))))
      pss_nil)
      (pss_cons (ps_asg (pe_op op_addA (pe_ix ix_seq (pv 0) pe_int (fun _ _ => rfl)) pe_int) (pg_sub (pv 0) pe_int set_list))
      (pss_cons (ps_set (i := 3) sc_law_draw.nd rfl (.inl rfl) (pe_op op_modA (pe_op op_mulA (pe_ix ix_seq (pv 0) pe_int (fun _ _ => rfl)) (pe_ix ix_seq (pv 0) pe_int (fun _ _ => rfl))) pe_int))
      (pss_cons (ps_asg (pe_op op_modA (pe_op op_addA (pe_op op_addA (pv 3) (pe_op op_mulA (pe_op op_mulA pe_int (pe_ix ix_seq (pv 0) pe_int (fun _ _ => rfl))) (pe_ix ix_seq (pv 0) pe_int (fun _ _ => rfl)))) pe_int) pe_int) (pg_sub (pv 0) pe_int set_list))
      (pss_one (ps_ret (pe_op op_modA (pe_op op_divA (pe_ix ix_seq (pv 0) pe_int (fun _ _ => rfl)) pe_int) (pv 1)))))))), pure_law_draw F h⟩

theorem sc_law_bytes : FnScope N_law_bytes ["_law_row"] (defScope s_law_bytes) := ⟨rfl, rfl, rfl, by decide +kernel, rfl, by decide +kernel, by decide +kernel⟩
theorem cl_law_bytes (B : Bl mg) (C : Cn K mg) (F : LiftC K w) {f : Addr} {fd : FuncData} (D : FnP K "_law_bytes" s_law_bytes f fd) (hm : mg "_law_bytes" = some (.ref f)) (hb : Binds K fd ["_law_row"] []) : Cl P w K mg base 1 "_law_bytes" (sp_law_bytes K w) :=
  cl_of D hm hb sc_law_bytes (fun vs H Q E h => len_law_bytes h) fun cdv A outer s H vs Q E hr h => ⟨t_law_bytes K w, PSs.nox (pss_cons (ps_set (i := 1) sc_law_bytes.nd rfl (.inl rfl) (pe_ix ix_seq (pv 0) pe_int (fun _ _ => rfl)))
      (pss_cons (ps_if (pt_cmpR op_in_seq (pv 1) (pe_lst (pa_cons pe_str (pa_cons pe_str (pa_cons pe_str pa_nil)))) rfl)
      (pss_one (ps_ret (pe_lst (pa_cons (pe_bm PySem.F.plainAttrs_list PySem.F.slot_list_index PySem.F.type_list_index mt_index (pe_lst (pa_cons pe_str (pa_cons pe_str (pa_cons pe_str pa_nil)))) (pa_cons (pv 1) pa_nil)) pa_nil))))
      pss_nil)
      (pss_cons (ps_if (pt_cmpR op_in_seq (pv 1) (pe_lst (pa_cons pe_str (pa_cons pe_str (pa_cons pe_str (pa_cons pe_str (pa_cons pe_str (pa_cons pe_str pa_nil))))))) rfl)
      (pss_one (ps_ret (pe_lst (pa_cons (pe_op op_addA pe_int (pe_bm PySem.F.plainAttrs_list PySem.F.slot_list_index PySem.F.type_list_index mt_index (pe_lst (pa_cons pe_str (pa_cons pe_str (pa_cons pe_str (pa_cons pe_str (pa_cons pe_str (pa_cons pe_str pa_nil))))))) (pa_cons (pv 1) pa_nil))) (pa_cons (pe_ix ix_seq (pv 0) pe_int (fun _ _ => rfl)) pa_nil)))))
      pss_nil)
      (pss_cons (ps_set (i := 2) sc_law_bytes.nd rfl (.inl rfl) (pe_op op_mulA pe_int (pe_bm PySem.F.plainAttrs_str PySem.F.slot_str_index PySem.F.type_str_index mt_sindex pe_str (pa_cons (pe_ix ix_seq (pv 0) pe_int (fun _ _ => rfl)) pa_nil))))
      (pss_cons (ps_if (pt_cmpR op_in_seq (pv 1) (pe_lst (pa_cons pe_str (pa_cons pe_str (pa_cons pe_str (pa_cons pe_str pa_nil))))) rfl)
      (pss_one (ps_ret (pe_lst (pa_cons (pe_op op_addA (pe_op op_addA pe_int (pv 2)) (pe_bm PySem.F.plainAttrs_list PySem.F.slot_list_index PySem.F.type_list_index mt_index (pe_lst (pa_cons pe_str (pa_cons pe_str (pa_cons pe_str (pa_cons pe_str pa_nil))))) (pa_cons (pv 1) pa_nil))) pa_nil))))
      pss_nil)
      (pss_cons (ps_set (i := 3) sc_law_bytes.nd rfl (.inl rfl) (pe_lst (pa_cons pe_str (pa_cons pe_str (pa_cons pe_str (pa_cons pe_str (pa_cons pe_str (pa_cons pe_str (pa_cons pe_str (pa_cons pe_str (pa_cons pe_str (pa_cons pe_str (pa_cons pe_str (pa_cons pe_str (pa_cons pe_str pa_nil)))))))))))))))
      (pss_cons (ps_set (i := 4) sc_law_bytes.nd rfl (.inl rfl) (pe_op op_addA (pe_op op_addA pe_int (pe_op op_mulA pe_int (pe_bm PySem.F.plainAttrs_list PySem.F.slot_list_index PySem.F.type_list_index mt_index (pv 3) (pa_cons (pv 1) pa_nil)))) (pv 2)))
      (pss_cons (ps_if (pt_cmpR op_in_seq (pv 1) (pe_lst (pa_cons pe_str (pa_cons pe_str (pa_cons pe_str (pa_cons pe_str pa_nil))))) rfl)
      (pss_one (ps_ret (pe_lst (pa_cons (pv 4) (pa_cons (pe_ix ix_seq (pv 0) pe_int (fun _ _ => rfl)) pa_nil)))))
      pss_nil)
      (pss_one (ps_ret (pe_lst (pa_cons (pe_op op_addA (pv 4) (pe_bm PySem.F.plainAttrs_str PySem.F.slot_str_index PySem.F.type_str_index mt_sindex pe_str (pa_cons (pe_ix ix_seq (pv 0) pe_int (fun _ _ => rfl)) pa_nil))) pa_nil)))))))))))), pure_law_bytes F h⟩

theorem sc_law_row_at : FnScope N_law_row_at ["_law_code_here", "_law_at"] (defScope s_law_row_at) := ⟨rfl, rfl, rfl, by decide +kernel, rfl, by decide +kernel, by decide +kernel⟩
theorem cl_law_row_at (B : Bl mg) (C : Cn K mg) (F : LiftC K w) {f : Addr} {fd : FuncData} (D : FnP K "_law_row_at" s_law_row_at f fd) (hm : mg "_law_row_at" = some (.ref f)) (hb : Binds K fd ["_law_code_here", "_law_at"] []) : Cl P w K mg base 1 "_law_row_at" (sp_law_row_at K w) :=
  cl_of D hm hb sc_law_row_at (fun vs H Q E h => len_law_row_at h) fun cdv A outer s H vs Q E hr h => ⟨t_law_row_at K w, PSs.nox (pss_cons (ps_if (pt_not (pt_chain op_leA op_ltA pe_int (pv 1) (pe_callB call_lenA (by rfl) B.b_len (by decide +kernel) (pa_cons (pv 0) pa_nil))))
      (pss_one (ps_ret pe_non))
      pss_nil)
      (pss_cons (ps_set (i := 2) sc_law_row_at.nd rfl (.inl rfl) (pe_ix ix_seq (pv 0) (pv 1) (fun _ _ => rfl)))
      (pss_cons (ps_set (i := 3) sc_law_row_at.nd rfl (.inl rfl) (pe_op op_divA (pv 2) pe_int))
      (pss_cons (ps_set (i := 4) sc_law_row_at.nd rfl (.inl rfl) (pe_ix ix_seq pe_str (pe_op op_modA (pe_op op_divA (pv 2) pe_int) pe_int) (fun _ _ => rfl)))
      (pss_cons (ps_set (i := 5) sc_law_row_at.nd rfl (.inl rfl) (pe_ix ix_seq pe_str (pe_op op_modA (pv 2) pe_int) (fun _ _ => rfl)))
      (pss_cons (ps_if (pt_cmpR (op_eqA hr.units) (pv 3) pe_int (nomark _))
      (pss_cons (ps_set (i := 6) sc_law_row_at.nd rfl (.inl rfl) (pe_lst (pa_cons pe_str (pa_cons pe_str (pa_cons pe_str pa_nil)))))
      (pss_one (ps_ret (pe_ifExp (pt_cmpR op_gtA (pv 2) pe_int (nomark _)) pe_non (pe_tup (pa_cons (pe_tup (pa_cons (pe_ix ix_seq (pv 6) (pv 2) (fun _ _ => rfl)) pa_nil)) (pa_cons pe_int pa_nil)))))))
      pss_nil)
      (pss_cons (ps_if (pt_cmpR (op_eqA hr.units) (pv 3) pe_int (nomark _))
      (pss_one (ps_ret (pe_tup (pa_cons (pe_tup (pa_cons (pe_ix ix_seq (pe_lst (pa_cons pe_str (pa_cons pe_str (pa_cons pe_str (pa_cons pe_str pa_nil))))) (pe_op op_modA (pv 2) pe_int) (fun _ _ => rfl)) (pa_cons (pv 4) pa_nil))) (pa_cons pe_int pa_nil)))))
      pss_nil)
      (pss_cons (ps_set (i := 7) sc_law_row_at.nd rfl (.inl rfl) (pe_lst (pa_cons pe_str (pa_cons pe_str (pa_cons pe_str (pa_cons pe_str (pa_cons pe_str (pa_cons pe_str (pa_cons pe_str (pa_cons pe_str (pa_cons pe_str (pa_cons pe_str pa_nil))))))))))))
      (pss_cons (ps_if (pt_cmpR op_notIn_seq (pv 3) (pe_lst (pa_cons pe_int (pa_cons pe_int (pa_cons pe_int (pa_cons pe_int (pa_cons pe_int pa_nil)))))) rfl)
      (pss_one (ps_ret (pe_tup (pa_cons (pe_tup (pa_cons (pe_ix ix_seq (pv 7) (pe_op op_subA (pv 3) pe_int) (fun _ _ => rfl)) (pa_cons (pv 4) (pa_cons (pv 5) pa_nil)))) (pa_cons pe_int pa_nil)))))
      pss_nil)
      (pss_cons (ps_if (PW.pt (pw_or (pt_cmpR (op_eqA hr.units) (pe_op op_addA (pv 1) pe_int) (pe_callB call_lenA (by rfl) B.b_len (by decide +kernel) (pa_cons (pv 0) pa_nil)) (nomark _)) (pw_or1 (PW.pt (pw_and (pt_cmpR (op_neA hr.units) (pv 3) pe_int (nomark _)) (pw_and1 (pt_cmpR (op_neA hr.units) (pv 5) pe_str (nomark _))))))))
      (pss_one (ps_ret pe_non))
      pss_nil)
      (pss_cons (ps_if (PW.pt (pw_and (pt_cmpR (op_eqA hr.units) (pv 3) pe_int (nomark _)) (pw_and1 (pt_cmpR op_gtA (pe_op op_modA (pv 2) pe_int) pe_int (nomark _)))))
      (pss_one (ps_ret pe_non))
      pss_nil)
      (pss_cons (ps_set (i := 8) sc_law_row_at.nd rfl (.inl rfl) (pe_lst (pa_cons pe_str (pa_cons pe_str (pa_cons pe_str (pa_cons pe_str (pa_cons pe_str (pa_cons pe_str pa_nil))))))))
      (pss_cons (ps_if (pt_cmpR (op_eqA hr.units) (pv 3) pe_int (nomark _))
      (pss_one (ps_ret (pe_tup (pa_cons (pe_tup (pa_cons (pe_ix ix_seq (pv 8) (pe_op op_modA (pv 2) pe_int) (fun _ _ => rfl)) (pa_cons (pe_ix ix_seq (pv 0) (pe_op op_addA (pv 1) pe_int) (fun _ _ => rfl)) pa_nil))) (pa_cons pe_int pa_nil)))))
      pss_nil)
      (pss_cons (ps_set (i := 9) sc_law_row_at.nd rfl (.inl rfl) (pe_dget (hu_of hr) (pe_disp (pps_cons pe_int pe_str (pps_cons pe_int pe_str (pps_cons pe_int pe_str (pps_cons pe_int pe_str pps_nil)))) (by rfl) (by rfl) (fun z => by cases z) (by decide)) (pv 3) (fun _ _ => rfl)))
      (pss_one (ps_ret (pe_tup (pa_cons (pe_tup (pa_cons (pv 9) (pa_cons (pv 4) (pa_cons (pe_ix ix_seq (pv 0) (pe_op op_addA (pv 1) pe_int) (fun _ _ => rfl)) pa_nil)))) (pa_cons pe_int pa_nil))))))))))))))))))), pure_law_row_at F h⟩

theorem sc_law_drawn_row : FnScope N_law_drawn_row ["_law_spring_here"] (defScope s_law_drawn_row) := ⟨rfl, rfl, rfl, by decide +kernel, rfl, by decide +kernel, by decide +kernel⟩
theorem cl_law_drawn_row (B : Bl mg) (C : Cn K mg) (F : LiftC K w) (c_law_draw : Cl P w K mg base 1 "_law_draw" (sp_law_draw K w)) {f : Addr} {fd : FuncData} (D : FnP K "_law_drawn_row" s_law_drawn_row f fd) (hm : mg "_law_drawn_row" = some (.ref f)) (hb : Binds K fd ["_law_spring_here"] []) : Cl P w K mg base 2 "_law_drawn_row" (sp_law_drawn_row K w) :=
  cl_of D hm hb sc_law_drawn_row (fun vs H Q E h => len_law_drawn_row h) fun cdv A outer s H vs Q E hr h => ⟨t_law_drawn_row K w, PSs.nox (pss_cons (ps_par (i := 1) (j := 2) (by rfl) sc_law_drawn_row.nd rfl rfl (by decide) rfl rfl (pa_cons (pe_ix ix_seq pe_str (pe_cl c_law_draw hr (by decide) rfl (pa_cons (pv 0) (pa_cons pe_int pa_nil))) (fun _ _ => rfl)) (pa_cons (pe_ix ix_seq pe_str (pe_cl c_law_draw hr (by decide) rfl (pa_cons (pv 0) (pa_cons pe_int pa_nil))) (fun _ _ => rfl)) pa_nil)) (by rfl))
      (pss_cons (ps_set (i := 3) sc_law_drawn_row.nd rfl (.inl rfl) (pe_ix ix_seq (pe_lst (pa_cons (pe_cl c_law_draw hr (by decide) rfl (pa_cons (pv 0) (pa_cons pe_int pa_nil))) (pa_cons (pe_cl c_law_draw hr (by decide) rfl (pa_cons (pv 0) (pa_cons pe_int pa_nil))) (pa_cons (pe_op op_subA pe_int (pe_cl c_law_draw hr (by decide) rfl (pa_cons (pv 0) (pa_cons pe_int pa_nil)))) pa_nil)))) (pe_cl c_law_draw hr (by decide) rfl (pa_cons (pv 0) (pa_cons pe_int pa_nil))) (fun _ _ => rfl)))
      (pss_cons (ps_set (i := 4) sc_law_drawn_row.nd rfl (.inl rfl) (pe_cl c_law_draw hr (by decide) rfl (pa_cons (pv 0) (pa_cons pe_int pa_nil))))
      (pss_cons (ps_if (pt_cmpR op_ltA (pv 4) pe_int (nomark _))
      (pss_one (ps_ret (pe_tup (pa_cons (pe_ix ix_seq (pe_lst (pa_cons pe_str (pa_cons pe_str (pa_cons pe_str (pa_cons pe_str pa_nil))))) (pe_cl c_law_draw hr (by decide) rfl (pa_cons (pv 0) (pa_cons pe_int pa_nil))) (fun _ _ => rfl)) (pa_cons (pv 1) (pa_cons (pv 3) pa_nil))))))
      pss_nil)
      (pss_cons (ps_if (pt_cmpR op_ltA (pv 4) pe_int (nomark _))
      (pss_cons (ps_set (i := 5) sc_law_drawn_row.nd rfl (.inl rfl) (pe_lst (pa_cons pe_str (pa_cons pe_str (pa_cons pe_str (pa_cons pe_str (pa_cons pe_str (pa_cons pe_str (pa_cons pe_str (pa_cons pe_str (pa_cons pe_str pa_nil)))))))))))
      (pss_one (ps_ret (pe_tup (pa_cons (pe_ix ix_seq (pv 5) (pe_cl c_law_draw hr (by decide) rfl (pa_cons (pv 0) (pa_cons pe_int pa_nil))) (fun _ _ => rfl)) (pa_cons (pv 1) (pa_cons (pv 2) pa_nil)))))))
      pss_nil)
      (pss_cons (ps_if (pt_cmpR op_ltA (pv 4) pe_int (nomark _))
      (pss_one (ps_ret (pe_tup (pa_cons (pe_ix ix_seq (pe_lst (pa_cons pe_str (pa_cons pe_str (pa_cons pe_str (pa_cons pe_str (pa_cons pe_str (pa_cons pe_str pa_nil))))))) (pe_cl c_law_draw hr (by decide) rfl (pa_cons (pv 0) (pa_cons pe_int pa_nil))) (fun _ _ => rfl)) (pa_cons pe_int pa_nil)))))
      pss_nil)
      (pss_cons (ps_if (pt_cmpR op_ltA (pv 4) pe_int (nomark _))
      (pss_one (ps_ret (pe_tup (pa_cons (pe_ix ix_seq (pe_lst (pa_cons pe_str (pa_cons pe_str (pa_cons pe_str (pa_cons pe_str pa_nil))))) (pe_cl c_law_draw hr (by decide) rfl (pa_cons (pv 0) (pa_cons pe_int pa_nil))) (fun _ _ => rfl)) (pa_cons (pv 1) pa_nil)))))
      pss_nil)
      (pss_one (ps_ret (pe_tup (pa_cons (pe_ix ix_seq (pe_lst (pa_cons pe_str (pa_cons pe_str (pa_cons pe_str pa_nil)))) (pe_cl c_law_draw hr (by decide) rfl (pa_cons (pv 0) (pa_cons pe_int pa_nil))) (fun _ _ => rfl)) pa_nil))))))))))), pure_law_drawn_row F h⟩

theorem sc_law_laid : FnScope N_law_laid ["_law_spring_here", "_law_rows"] (defScope s_law_laid) := ⟨rfl, rfl, rfl, by decide +kernel, rfl, by decide +kernel, by decide +kernel⟩
theorem cl_law_laid (B : Bl mg) (C : Cn K mg) (F : LiftC K w) (c_law_bytes : Cl P w K mg base 1 "_law_bytes" (sp_law_bytes K w)) (c_law_draw : Cl P w K mg base 1 "_law_draw" (sp_law_draw K w)) {f : Addr} {fd : FuncData} (D : FnP K "_law_laid" s_law_laid f fd) (hm : mg "_law_laid" = some (.ref f)) (hb : Binds K fd ["_law_spring_here", "_law_rows"] []) : Cl P w K mg base 2 "_law_laid" (sp_law_laid K w) :=
  cl_of D hm hb sc_law_laid (fun vs H Q E h => len_law_laid h) fun cdv A outer s H vs Q E hr h => ⟨t_law_laid K w, PSs.nox (pss_cons (ps_set (i := 2) sc_law_laid.nd rfl (.inl rfl) (pe_lst pa_nil))
      (pss_cons (ps_set (i := 3) sc_law_laid.nd rfl (.inl rfl) pe_int)
      (pss_cons (ps_for PassesOwn.never rfl (pi_seq (pv 1)) (pg_name (i := 4) sc_law_laid.nd rfl (.inl rfl))
      (pss_cons (ps_expr (pe_bm PySem.F.plainAttrs_list PySem.F.slot_list_append PySem.F.type_list_append mt_append (pv 2) (pa_cons (pv 3) pa_nil)))
      (pss_one (ps_set (i := 3) sc_law_laid.nd rfl (.inl rfl) (pe_op op_addA (pv 3) (pe_callB call_lenA (by rfl) B.b_len (by decide +kernel) (pa_cons (pe_cl c_law_bytes hr (by decide) rfl (pa_cons (pv 4) pa_nil)) pa_nil)))))))
      (pss_cons (ps_set (i := 5) sc_law_laid.nd rfl (.inl rfl) (pe_lst pa_nil))
      (pss_cons (ps_for PassesOwn.never rfl (pi_seq (pv 1)) (pg_name (i := 4) sc_law_laid.nd rfl (.inl rfl))
      (pss_cons (ps_if (PW.pt (pw_and (pt_cmpR (op_eqA hr.units) (pe_callB call_lenA (by rfl) B.b_len (by decide +kernel) (pa_cons (pv 4) pa_nil)) pe_int (nomark _)) (pw_and1 (pt_val (pe_callB call_isi (by rfl) B.b_isinstance (by decide +kernel) (pa_cons (pe_ix ix_seq (pv 4) pe_int (fun _ _ => rfl)) (pa_cons (pe_bltn (v := .ty "int") rfl B.b_int rfl rfl) pa_nil))) (by intro _; rfl)))))
      (pss_cons (ps_set (i := 6) sc_law_laid.nd rfl (.inl rfl) (pe_ix ix_seq (pv 2) (pe_cl c_law_draw hr (by decide) rfl (pa_cons (pv 0) (pa_cons (pe_callB call_lenA (by rfl) B.b_len (by decide +kernel) (pa_cons (pv 2) pa_nil)) pa_nil))) (fun _ _ => rfl)))
      (pss_one (ps_set (i := 4) sc_law_laid.nd rfl (.inl rfl) (pe_tup (pa_cons (pe_ix ix_seq (pv 4) pe_int (fun _ _ => rfl)) (pa_cons (pe_ix ix_seq (pe_lst (pa_cons (pv 6) (pa_cons (pv 6) (pa_cons (pv 6) (pa_cons (pv 6) (pa_cons (pe_cl c_law_draw hr (by decide) rfl (pa_cons (pv 0) (pa_cons (pe_callB (call_min2A rfl) (by rfl) B.b_min (by decide +kernel) (pa_cons pe_int (pa_cons (pe_op op_addA (pv 3) pe_int) pa_nil))) pa_nil))) pa_nil)))))) (pe_cl c_law_draw hr (by decide) rfl (pa_cons (pv 0) (pa_cons pe_int pa_nil))) (fun _ _ => rfl)) pa_nil))))))
      pss_nil)
      (pss_one (ps_set (i := 5) sc_law_laid.nd rfl (.inl rfl) (pe_op op_addA (pv 5) (pe_cl c_law_bytes hr (by decide) rfl (pa_cons (pv 4) pa_nil)))))))
      (pss_one (ps_ret (pv 5)))))))), pure_law_laid F h⟩

theorem sc_law_code : FnScope N_law_code ["_law_spring_here"] (defScope s_law_code) := ⟨rfl, rfl, rfl, by decide +kernel, rfl, by decide +kernel, by decide +kernel⟩
theorem cl_law_code (B : Bl mg) (C : Cn K mg) (F : LiftC K w) (c_law_draw : Cl P w K mg base 1 "_law_draw" (sp_law_draw K w)) (c_law_laid : Cl P w K mg base 2 "_law_laid" (sp_law_laid K w)) (c_law_drawn_row : Cl P w K mg base 2 "_law_drawn_row" (sp_law_drawn_row K w)) {f : Addr} {fd : FuncData} (D : FnP K "_law_code" s_law_code f fd) (hm : mg "_law_code" = some (.ref f)) (hb : Binds K fd ["_law_spring_here"] []) : Cl P w K mg base 3 "_law_code" (sp_law_code K w) :=
  cl_of D hm hb sc_law_code (fun vs H Q E h => len_law_code h) fun cdv A outer s H vs Q E hr h => ⟨t_law_code K w, PSs.nox (pss_cons (ps_set (i := 1) sc_law_code.nd rfl (.inl rfl) (pe_cl c_law_draw hr (by decide) rfl (pa_cons (pv 0) (pa_cons pe_int pa_nil))))
      (pss_cons (ps_if (pt_cmpR (op_eqA hr.units) (pv 1) pe_int (nomark _))
      (pss_one (ps_ret (pe_lc (own := [("_law_turn", 2)]) (g := (gName 2)) rfl sc_law_code.nd (pi_range1 rfl B.b_range (pa_cons (pe_op op_addA pe_int (pe_cl c_law_draw hr (by decide) rfl (pa_cons (pv 0) (pa_cons (pe_ix ix_seq (pe_lst (pa_cons pe_int (pa_cons pe_int pa_nil))) (pe_cl c_law_draw hr (by decide) rfl (pa_cons (pv 0) (pa_cons pe_int pa_nil))) (fun _ _ => rfl)) pa_nil)))) pa_nil)) (blkOk_by (by kernel_rfl)) (fun _ _ _ _ _ => (pg_name (i := 2) sc_law_code.nd rfl (.inl rfl))) (fun _ _ _ _ _ => pts_nil) (fun _ _ _ _ _ => (pe_cl c_law_draw hr (by decide) rfl (pa_cons (pv 0) (pa_cons pe_int pa_nil)))))))
      pss_nil)
      (pss_cons (ps_set (i := 3) sc_law_code.nd rfl (.inl rfl) (pe_ix ix_seq (pe_lst (pa_cons pe_int (pa_cons pe_int (pa_cons pe_int (pa_cons pe_int pa_nil))))) (pe_cl c_law_draw hr (by decide) rfl (pa_cons (pv 0) (pa_cons pe_int pa_nil))) (fun _ _ => rfl)))
      (pss_cons (ps_set (i := 4) sc_law_code.nd rfl (.inl rfl) (pe_slice sl_A (pe_cl c_law_laid hr (by decide) rfl (pa_cons (pv 0) (pa_cons (pe_lc (own := [("_law_turn", 2)]) (g := (gName 2)) rfl sc_law_code.nd (pi_range1 rfl B.b_range (pa_cons (pe_op op_addA pe_int (pe_cl c_law_draw hr (by decide) rfl (pa_cons (pv 0) (pa_cons (pv 3) pa_nil)))) pa_nil)) (blkOk_by (by kernel_rfl)) (fun _ _ _ _ _ => (pg_name (i := 2) sc_law_code.nd rfl (.inl rfl))) (fun _ _ _ _ _ => pts_nil) (fun _ _ _ _ _ => (pe_cl c_law_drawn_row hr (by decide) rfl (pa_cons (pv 0) pa_nil)))) pa_nil))) po_none (po_some pe_int)))
      (pss_cons (ps_if (pt_cmpR (op_eqA hr.units) (pv 1) pe_int (nomark _))
      (pss_one (ps_asg (pe_cl c_law_draw hr (by decide) rfl (pa_cons (pv 0) (pa_cons pe_int pa_nil))) (pg_sub (pv 4) (pe_cl c_law_draw hr (by decide) rfl (pa_cons (pv 0) (pa_cons (pe_callB call_lenA (by rfl) B.b_len (by decide +kernel) (pa_cons (pv 4) pa_nil)) pa_nil))) set_list)))
      pss_nil)
      (pss_one (ps_ret (pv 4)))))))), pure_law_code F h⟩

theorem sc_law_statements : FnScope N_law_statements ["_law_row"] (defScope s_law_statements) := ⟨rfl, rfl, rfl, by decide +kernel, rfl, by decide +kernel, by decide +kernel⟩
theorem cl_law_statements (B : Bl mg) (C : Cn K mg) (F : LiftC K w) {f : Addr} {fd : FuncData} (D : FnP K "_law_statements" s_law_statements f fd) (hm : mg "_law_statements" = some (.ref f)) (hb : Binds K fd ["_law_row"] []) : Cl P w K mg base 1 "_law_statements" (sp_law_statements K w) :=
  cl_of D hm hb sc_law_statements (fun vs H Q E h => len_law_statements h) fun cdv A outer s H vs Q E hr h => ⟨t_law_statements K w, PSs.nox (pss_cons (ps_set (i := 1) sc_law_statements.nd rfl (.inl rfl) (pe_ix ix_seq (pv 0) pe_int (fun _ _ => rfl)))
      (pss_cons (ps_set (i := 2) sc_law_statements.nd rfl (.inl rfl) (pe_ifExp (pt_cmpR op_gtA (pe_callB call_lenA (by rfl) B.b_len (by decide +kernel) (pa_cons (pv 0) pa_nil)) pe_int (nomark _)) (pe_tup (pa_cons pe_str (pa_cons (pe_ix ix_seq (pv 0) pe_int (fun _ _ => rfl)) pa_nil))) pe_non))
      (pss_cons (ps_if (pt_cmpR op_ltA (pe_callB call_lenA (by rfl) B.b_len (by decide +kernel) (pa_cons (pv 0) pa_nil)) pe_int (nomark _))
      (pss_cons (ps_set (i := 3) sc_law_statements.nd rfl (.inl rfl) (pe_disp (pps_cons pe_str (pe_lst pa_nil) (pps_cons pe_str (pe_lst (pa_cons (pe_tup (pa_cons pe_str (pa_cons (pe_ix ix_seq (pv 0) (pe_un un_neg pe_int) (fun _ _ => rfl)) pa_nil))) pa_nil)) (pps_cons pe_str (pe_lst (pa_cons (pe_tup (pa_cons pe_str (pa_cons (pe_ix ix_seq (pv 0) (pe_un un_neg pe_int) (fun _ _ => rfl)) pa_nil))) pa_nil)) pps_nil))) (by rfl) (by rfl) (fun z => by cases z) (by decide)))
      (pss_one (ps_ret (pe_dget2 (hu_of hr) (pv 3) (pv 1) (pe_lst (pa_cons (pe_tup (pa_cons (pv 1) (pa_cons (pv 2) pa_nil))) pa_nil)) ⟨rfl, rfl, rfl, rfl⟩))))
      pss_nil)
      (pss_cons (ps_set (i := 4) sc_law_statements.nd rfl (.inl rfl) (pe_ifExp (pt_val (pe_callB call_isi (by rfl) B.b_isinstance (by decide +kernel) (pa_cons (pe_ix ix_seq (pv 0) pe_int (fun _ _ => rfl)) (pa_cons (pe_bltn (v := .ty "str") rfl B.b_str rfl rfl) pa_nil))) (by intro _; rfl)) (pe_tup (pa_cons pe_str (pa_cons (pe_ix ix_seq (pv 0) pe_int (fun _ _ => rfl)) pa_nil))) (pe_tup (pa_cons pe_str (pa_cons (pe_ix ix_seq (pv 0) pe_int (fun _ _ => rfl)) pa_nil)))))
      (pss_cons (ps_set (i := 5) sc_law_statements.nd rfl (.inl rfl) (pe_ifExp (pt_val (pe_callB call_isi (by rfl) B.b_isinstance (by decide +kernel) (pa_cons (pe_ix ix_seq (pv 0) pe_int (fun _ _ => rfl)) (pa_cons (pe_bltn (v := .ty "int") rfl B.b_int rfl rfl) pa_nil))) (by intro _; rfl)) (pe_tup (pa_cons pe_str (pa_cons (pe_op op_modA (pe_ix ix_seq (pv 0) pe_int (fun _ _ => rfl)) pe_int) pa_nil))) (pv 4)))
      (pss_cons (ps_set (i := 6) sc_law_statements.nd rfl (.inl rfl) (pe_tup (pa_cons pe_str (pa_cons pe_str (pa_cons (pe_tup (pa_cons pe_str (pa_cons (pv 2) (pa_cons (pe_tup (pa_cons pe_str (pa_cons pe_int pa_nil))) pa_nil)))) pa_nil)))))
      (pss_cons (ps_set (i := 7) sc_law_statements.nd rfl (.inl rfl) (pe_tup (pa_cons pe_str (pa_cons pe_str (pa_cons (pe_tup (pa_cons pe_str (pa_cons (pv 2) (pa_cons (pv 4) pa_nil)))) pa_nil)))))
      (pss_cons (ps_set (i := 8) sc_law_statements.nd rfl (.inl rfl) (pe_disp (pps_cons pe_str (pe_lst (pa_cons (pe_tup (pa_cons pe_str (pa_cons (pe_ix ix_seq (pv 0) pe_int (fun _ _ => rfl)) (pa_cons (pv 4) pa_nil)))) pa_nil)) (pps_cons pe_str (pe_lst (pa_cons (pe_tup (pa_cons pe_str (pa_cons pe_str (pa_cons (pe_tup (pa_cons pe_str (pa_cons (pv 2) (pa_cons (pv 4) pa_nil)))) pa_nil)))) (pa_cons (pv 7) pa_nil))) pps_nil)) (by rfl) (by rfl) (fun z => by cases z) (by decide)))
      (pss_cons (ps_asg (pe_tup (pa_cons (pe_dget (hu_of hr) (pv 8) pe_str (fun _ _ => rfl)) (pa_cons (pe_dget (hu_of hr) (pv 8) pe_str (fun _ _ => rfl)) pa_nil))) (pg_tup rfl (pgs_cons (pg_sub (pv 8) pe_str (set_dict (hu_of hr))) (pgs_cons (pg_sub (pv 8) pe_str (set_dict (hu_of hr))) pgs_nil))))
      (pss_cons (ps_dput (hu_of hr) (pv 8) pe_str (pe_lst (pa_cons (pe_tup (pa_cons pe_str (pa_cons (pe_ix ix_seq (pv 0) pe_int (fun _ _ => rfl)) (pa_cons (pe_tup (pa_cons pe_str (pa_cons (pv 5) pa_nil))) pa_nil)))) pa_nil)) rfl)
      (pss_cons (ps_dput (hu_of hr) (pv 8) pe_str (pe_dget (hu_of hr) (pv 8) pe_str (fun _ _ => rfl)) rfl)
      (pss_cons (ps_asg (pe_tup (pa_cons (pe_lst (pa_cons (pe_tup (pa_cons pe_str (pa_cons (pv 2) (pa_cons (pv 4) pa_nil)))) pa_nil)) (pa_cons (pe_lst (pa_cons (pe_tup (pa_cons pe_str (pa_cons (pv 5) (pa_cons (pv 2) pa_nil)))) pa_nil)) pa_nil))) (pg_tup rfl (pgs_cons (pg_sub (pv 8) pe_str (set_dict (hu_of hr))) (pgs_cons (pg_sub (pv 8) pe_str (set_dict (hu_of hr))) pgs_nil))))
      (pss_cons (ps_dput (hu_of hr) (pv 8) pe_str (pe_lst (pa_cons (pv 7) (pa_cons (pe_tup (pa_cons pe_str (pa_cons (pe_ix ix_seq (pv 0) pe_int (fun _ _ => rfl)) (pa_cons (pe_tup (pa_cons pe_str (pa_cons (pv 2) (pa_cons (pv 4) pa_nil)))) pa_nil)))) (pa_cons (pv 6) pa_nil)))) rfl)
      (pss_cons (ps_set (i := 9) sc_law_statements.nd rfl (.inl rfl) (pe_tup (pa_cons pe_str (pa_cons pe_str (pa_cons (pe_tup (pa_cons pe_str (pa_cons (pe_tup (pa_cons pe_str (pa_cons (pe_tup (pa_cons pe_str (pa_cons pe_int pa_nil))) (pa_cons (pv 2) pa_nil)))) (pa_cons (pv 4) pa_nil)))) pa_nil)))))
      (pss_cons (ps_dput (hu_of hr) (pv 8) pe_str (pe_lst (pa_cons (pv 9) (pa_cons (pe_tup (pa_cons pe_str (pa_cons (pe_ix ix_seq (pv 0) pe_int (fun _ _ => rfl)) (pa_cons (pe_tup (pa_cons pe_str (pa_cons (pv 2) (pa_cons (pv 4) pa_nil)))) pa_nil)))) (pa_cons (pv 6) pa_nil)))) rfl)
      (pss_cons (ps_for PassesOwn.never rfl (pi_seq (pe_lst (pa_cons (pe_tup (pa_cons pe_str (pa_cons pe_str pa_nil))) (pa_cons (pe_tup (pa_cons pe_str (pa_cons pe_str pa_nil))) (pa_cons (pe_tup (pa_cons pe_str (pa_cons pe_str pa_nil))) pa_nil))))) (pg_tup rfl (pgs_cons (pg_name (i := 10) sc_law_statements.nd rfl (.inl rfl)) (pgs_cons (pg_name (i := 11) sc_law_statements.nd rfl (.inl rfl)) pgs_nil)))
      (pss_one (ps_dput (hu_of hr) (pv 8) (pv 10) (pe_lst (pa_cons (pe_tup (pa_cons pe_str (pa_cons (pe_ix ix_seq (pv 0) pe_int (fun _ _ => rfl)) (pa_cons (pe_tup (pa_cons (pv 11) (pa_cons (pv 2) (pa_cons (pv 4) pa_nil)))) pa_nil)))) (pa_cons (pv 6) (pa_cons (pe_tup (pa_cons pe_str (pa_cons pe_str (pa_cons (pe_tup (pa_cons pe_str (pa_cons pe_int pa_nil))) pa_nil)))) pa_nil)))) rfl)))
      (pss_one (ps_ret (pe_dget (hu_of hr) (pv 8) (pv 1) (fun _ _ => rfl)))))))))))))))))))), pure_law_statements F h⟩

theorem sc_law_lifted : FnScope N_law_lifted ["_law_code_here", "_law_at"] (defScope s_law_lifted) := ⟨rfl, rfl, rfl, by decide +kernel, rfl, by decide +kernel, by decide +kernel⟩
theorem cl_law_lifted (B : Bl mg) (C : Cn K mg) (F : LiftC K w) (c_law_row_at : Cl P w K mg base 1 "_law_row_at" (sp_law_row_at K w)) (c_law_statements : Cl P w K mg base 1 "_law_statements" (sp_law_statements K w)) {f : Addr} {fd : FuncData} (D : FnP K "_law_lifted" s_law_lifted f fd) (hm : mg "_law_lifted" = some (.ref f)) (hb : Binds K fd ["_law_code_here", "_law_at"] []) : Cl P w K mg base 2 "_law_lifted" (sp_law_lifted K w) :=
  cl_of D hm hb sc_law_lifted (fun vs H Q E h => len_law_lifted h) fun cdv A outer s H vs Q E hr h => ⟨t_law_lifted K w, PSs.nox (pss_cons (ps_set (i := 2) sc_law_lifted.nd rfl (.inl rfl) (pe_cl c_law_row_at hr (by decide) rfl (pa_cons (pv 0) (pa_cons (pv 1) pa_nil))))
      (pss_cons (ps_if (pt_cmpR op_isN1 (pv 2) pe_non (nomark _))
      (pss_one (ps_ret (pe_tup (pa_cons (pe_lst pa_nil) (pa_cons (pe_tup (pa_cons pe_str (pa_cons pe_str pa_nil))) pa_nil)))))
      pss_nil)
      (pss_cons (ps_par (i := 3) (j := 4) (by rfl) sc_law_lifted.nd rfl rfl (by decide) rfl rfl (pa_cons (pe_ix ix_seq (pv 2) pe_int (fun _ _ => rfl)) (pa_cons (pe_op op_addA (pv 1) (pe_ix ix_seq (pv 2) pe_int (fun _ _ => rfl))) pa_nil)) (by rfl))
      (pss_cons (ps_set (i := 5) sc_law_lifted.nd rfl (.inl rfl) (pe_ix ix_seq (pv 3) pe_int (fun _ _ => rfl)))
      (pss_cons (ps_if (pt_cmpR op_in_seq (pv 5) (pe_lst (pa_cons pe_str (pa_cons pe_str (pa_cons pe_str (pa_cons pe_str pa_nil))))) rfl)
      (pss_cons (ps_set (i := 6) sc_law_lifted.nd rfl (.inl rfl) (pe_disp (pps_cons pe_str (pe_tup (pa_cons pe_str (pa_cons pe_str pa_nil))) (pps_cons pe_str (pe_tup (pa_cons pe_str pa_nil)) (pps_cons pe_str (pe_tup (pa_cons pe_str (pa_cons (pe_ix ix_seq (pv 3) (pe_un un_neg pe_int) (fun _ _ => rfl)) pa_nil))) (pps_cons pe_str (pe_tup (pa_cons pe_str (pa_cons (pe_ix ix_seq (pv 3) (pe_un un_neg pe_int) (fun _ _ => rfl)) (pa_cons (pv 4) pa_nil)))) pps_nil)))) (by rfl) (by rfl) (fun z => by cases z) (by decide)))
      (pss_one (ps_ret (pe_tup (pa_cons (pe_lst pa_nil) (pa_cons (pe_dget (hu_of hr) (pv 6) (pv 5) (fun _ _ => rfl)) pa_nil))))))
      pss_nil)
      (pss_cons (ps_set (i := 7) sc_law_lifted.nd rfl (.inl rfl) (pe_disp (pps_cons pe_str (pe_tup (pa_cons pe_str (pa_cons pe_str pa_nil))) (pps_cons pe_str (pe_tup (pa_cons pe_str (pa_cons pe_str pa_nil))) pps_nil)) (by rfl) (by rfl) (fun z => by cases z) (by decide)))
      (pss_cons (ps_dput (hu_of hr) (pv 7) pe_str (pe_tup (pa_cons pe_str (pa_cons (pe_dget (hu_of hr) (pv 7) pe_str (fun _ _ => rfl)) pa_nil))) rfl)
      (pss_cons (ps_dput (hu_of hr) (pv 7) pe_str (pe_tup (pa_cons pe_str (pa_cons (pe_dget (hu_of hr) (pv 7) pe_str (fun _ _ => rfl)) pa_nil))) rfl)
      (pss_cons (ps_if (pt_cmp (pc_din (hu_of hr) (pv 5) (pv 7)) rfl)
      (pss_one (ps_ret (pe_tup (pa_cons (pe_lst pa_nil) (pa_cons (pe_tup (pa_cons pe_str (pa_cons (pe_dget (hu_of hr) (pv 7) (pv 5) (fun _ _ => rfl)) (pa_cons (pe_ix ix_seq (pv 3) pe_int (fun _ _ => rfl)) (pa_cons (pv 4) pa_nil))))) pa_nil)))))
      pss_nil)
      (pss_one (ps_ret (pe_tup (pa_cons (pe_cl c_law_statements hr (by decide) rfl (pa_cons (pv 3) pa_nil)) (pa_cons (pe_tup (pa_cons pe_str (pa_cons (pv 4) pa_nil))) pa_nil)))))))))))))), pure_law_lifted F h⟩

theorem sc_law_tuples : FnScope N_law_tuples ["_law_thing"] (defScope s_law_tuples) := ⟨rfl, rfl, rfl, by decide +kernel, rfl, by decide +kernel, by decide +kernel⟩
theorem clr_law_tuples (B : Bl mg) (C : Cn K mg) (F : LiftC K w) {f : Addr} {fd : FuncData} (D : FnP K "_law_tuples" s_law_tuples f fd) (hm : mg "_law_tuples" = some (.ref f)) (hb : Binds K fd ["_law_thing"] []) : ∀ n, Cl P w K mg base (0 + n) "_law_tuples" (spTu K w n)
  | 0 => ⟨f, fd, _, ⟨fun vs H Q E h => h.elim, fun A outer s H args us vs Q E hr he hb hv h => h.elim⟩, hm, D.kp, hb⟩
  | n + 1 =>
    have c_rec := clr_law_tuples B C F D hm hb n
    cl_of (k := 0 + n) D hm hb sc_law_tuples (fun vs H Q E h => len_law_tuples h) fun cdv A outer s H vs Q E hr h => ⟨t_law_tuples K w (spTu K w n), PSs.nox (pss_cons (ps_if (pt_val (pe_callB call_isi (by rfl) B.b_isinstance (by decide +kernel) (pa_cons (pv 0) (pa_cons (pe_bltn (v := .ty "tuple") rfl B.b_tuple rfl rfl) pa_nil))) (by intro _; rfl))
      (pss_one (ps_ret (pe_callB (cr_all rfl) (by rfl) B.b_all (by decide +kernel) (pa_cons (pe_lc (own := [("_law_one", 1)]) (g := (gName 1)) rfl sc_law_tuples.nd (pi_seq (pv 0)) (blkOk_by (by kernel_rfl)) (fun _ _ _ _ _ => (pg_name (i := 1) sc_law_tuples.nd rfl (.inl rfl))) (fun _ _ _ _ _ => pts_nil) (fun _ _ _ _ _ => (pe_cl c_rec hr (Nat.le_refl _) rfl (pa_cons (pv 1) pa_nil)))) pa_nil))))
      pss_nil)
      (pss_one (ps_ret (L2.pe_or (pe_callB call_isi (by rfl) B.b_isinstance (by decide +kernel) (pa_cons (pv 0) (pa_cons (pe_bltn (v := .ty "str") rfl B.b_str rfl rfl) pa_nil))) (pe_one (L2.pe_and (pe_callB call_isi (by rfl) B.b_isinstance (by decide +kernel) (pa_cons (pv 0) (pa_cons (pe_bltn (v := .ty "int") rfl B.b_int rfl rfl) pa_nil))) (pe_one (pe_not (pe_callB call_isi (by rfl) B.b_isinstance (by decide +kernel) (pa_cons (pv 0) (pa_cons (pe_bltn (v := .ty "bool") rfl B.b_bool rfl rfl) pa_nil))))))))))), pure_law_tuples F h⟩
theorem cl_law_tuples (B : Bl mg) (C : Cn K mg) (F : LiftC K w) {f : Addr} {fd : FuncData} (D : FnP K "_law_tuples" s_law_tuples f fd) (hm : mg "_law_tuples" = some (.ref f)) (hb : Binds K fd ["_law_thing"] []) : Cl P w K mg base 8 "_law_tuples" (sp_law_tuples K w) :=
  clr_law_tuples B C F D hm hb 8

theorem sc_law_right : FnScope N_law_right ["_law_code_here", "_law_at"] (defScope s_law_right) := ⟨rfl, rfl, rfl, by decide +kernel, rfl, by decide +kernel, by decide +kernel⟩
theorem cl_law_right (B : Bl mg) (C : Cn K mg) (F : LiftC K w) (c_law_lifted : Cl P w K mg base 2 "_law_lifted" (sp_law_lifted K w)) (c_lifted : Cl P w K mg base 4 "lifted" (sp_lifted K w)) (c_law_tuples : Cl P w K mg base 8 "_law_tuples" (sp_law_tuples K w)) {f : Addr} {fd : FuncData} (D : FnP K "_law_right" s_law_right f fd) (hm : mg "_law_right" = some (.ref f)) (hb : Binds K fd ["_law_code_here", "_law_at"] []) : Cl P w K mg base 9 "_law_right" (sp_law_right K w) :=
  cl_of D hm hb sc_law_right (fun vs H Q E h => len_law_right h) fun cdv A outer s H vs Q E hr h => ⟨t_law_right K w, PSs.nox (pss_cons (ps_asg (pe_cl c_law_lifted hr (by decide) rfl (pa_cons (pv 0) (pa_cons (pv 1) pa_nil))) (pg_tup rfl (pgs_cons (pg_name (i := 2) sc_law_right.nd rfl (.inl rfl)) (pgs_cons (pg_name (i := 3) sc_law_right.nd rfl (.inl rfl)) pgs_nil))))
      (pss_cons (ps_set (i := 4) sc_law_right.nd rfl (.inl rfl) (pe_cl c_lifted hr (by decide) rfl (pa_cons (pv 0) (pa_cons (pv 1) pa_nil))))
      (pss_cons (ps_if (PW.pt (pw_or (pt_not (pt_val (pe_callB call_isi (by rfl) B.b_isinstance (by decide +kernel) (pa_cons (pv 4) (pa_cons (pe_bltn (v := .ty "tuple") rfl B.b_tuple rfl rfl) pa_nil))) (by intro _; rfl))) (pw_or (pt_cmpR (op_neA hr.units) (pe_callB call_lenA (by rfl) B.b_len (by decide +kernel) (pa_cons (pv 4) pa_nil)) pe_int (nomark _)) (pw_or1 (pt_not (pt_val (pe_callB call_isi (by rfl) B.b_isinstance (by decide +kernel) (pa_cons (pe_ix ix_seq (pv 4) pe_int (fun _ _ => rfl)) (pa_cons (pe_bltn (v := .ty "list") rfl B.b_list rfl rfl) pa_nil))) (by intro _; rfl)))))))
      (pss_one (ps_ret pe_bl))
      pss_nil)
      (pss_cons (ps_if (PW.pt (pw_or (pt_cmpR (op_neA hr.units) (pv 4) (pe_tup (pa_cons (pv 2) (pa_cons (pv 3) pa_nil))) (nomark _)) (pw_or (pt_not (pt_val (pe_cl c_law_tuples hr (by decide) rfl (pa_cons (pe_callTy call_tupA (by rfl) B.b_tuple (by decide +kernel) (pa_cons (pe_ix ix_seq (pv 4) pe_int (fun _ _ => rfl)) pa_nil)) pa_nil)) (by intro _; rfl))) (pw_or1 (pt_not (pt_val (pe_cl c_law_tuples hr (by decide) rfl (pa_cons (pe_ix ix_seq (pv 4) pe_int (fun _ _ => rfl)) pa_nil)) (by intro _; rfl)))))))
      (pss_one (ps_ret pe_bl))
      pss_nil)
      (pss_cons (ps_expr (pe_bm PySem.F.plainAttrs_list PySem.F.slot_list_append PySem.F.type_list_append mt_append (pe_ix ix_seq (pv 4) pe_int (fun _ _ => rfl)) (pa_cons (pe_tup (pa_cons pe_str (pa_cons (pe_tup (pa_cons pe_str (pa_cons pe_int pa_nil))) pa_nil))) pa_nil)))
      (pss_one (ps_ret pe_bl))))))), pure_law_right F h⟩

theorem sc_law : FnScope N_law ["_law_script"] (defScope s_law) := ⟨rfl, rfl, rfl, by decide +kernel, rfl, by decide +kernel, by decide +kernel⟩
theorem fnok_law (B : Bl mg) (C : Cn K mg) (F : LiftC K w) (c_law_spring : Cl P w K mg base 1 "_law_spring" (sp_law_spring K w)) (c_law_code : Cl P w K mg base 3 "_law_code" (sp_law_code K w)) (c_law_draw : Cl P w K mg base 1 "_law_draw" (sp_law_draw K w)) (c_law_right : Cl P w K mg base 9 "_law_right" (sp_law_right K w)) {f : Addr} {fd : FuncData} (D : FnP K "law" s_law f fd) : FnOk P w K mg base CX0 10 f fd ["_law_script"] (sp_law K w) :=
  fn_of1 D sc_law (fun vs H Q E h => len_law h) fun cdv A outer s H vs Q E hr h => ⟨t_law K w, PSs.nox (pss_cons (ps_set (i := 1) sc_law.nd rfl (.inl rfl) (pe_cl c_law_spring hr (by decide) rfl (pa_cons (pv 0) pa_nil)))
      (pss_cons (ps_for PassesOwn.never rfl (pi_range1 rfl B.b_range (pa_cons (pe_op op_addA pe_int (pe_callB (call_min2A rfl) (by rfl) B.b_min (by decide +kernel) (pa_cons (pe_callB call_lenA (by rfl) B.b_len (by decide +kernel) (pa_cons (pv 0) pa_nil)) (pa_cons pe_int pa_nil)))) pa_nil)) (pg_name (i := 2) sc_law.nd rfl (.inl rfl))
      (pss_cons (ps_set (i := 3) sc_law.nd rfl (.inl rfl) (pe_cl c_law_code hr (by decide) rfl (pa_cons (pv 1) pa_nil)))
      (pss_cons (ps_set (i := 4) sc_law.nd rfl (.inl rfl) (pe_ifExp (pt_cmpR (op_eqA hr.units) (pe_cl c_law_draw hr (by decide) rfl (pa_cons (pv 1) (pa_cons pe_int pa_nil))) pe_int (nomark _)) (pe_callTy call_tupA (by rfl) B.b_tuple (by decide +kernel) (pa_cons (pv 3) pa_nil)) (pe_callTy call_listA (by rfl) B.b_list (by decide +kernel) (pa_cons (pv 3) pa_nil))))
      (pss_cons (ps_for PassesOwn.never rfl (pi_seq (pe_op op_addA (pe_listRg rfl rfl B.b_list (prg_2 rfl B.b_range (pe_un un_neg pe_int) (pe_op op_addA (pe_callB call_lenA (by rfl) B.b_len (by decide +kernel) (pa_cons (pv 3) pa_nil)) pe_int))) (pe_lst (pa_cons pe_int (pa_cons (pe_op op_addA (pe_op op_powA pe_int pe_int) (pe_cl c_law_draw hr (by decide) rfl (pa_cons (pv 1) (pa_cons (pe_op op_powA pe_int pe_int) pa_nil)))) pa_nil))))) (pg_name (i := 5) sc_law.nd rfl (.inl rfl))
      (pss_one (ps_if (PW.pt (pw_or (pt_not (pt_val (pe_cl c_law_right hr (by decide) rfl (pa_cons (pv 4) (pa_cons (pv 5) pa_nil))) (by intro _; rfl))) (pw_or1 (pt_not (pt_val (pe_cl c_law_right hr (by decide) rfl (pa_cons (pv 4) (pa_cons (pv 5) pa_nil))) (by intro _; rfl))))))
      (pss_one (ps_ret pe_bl))
      pss_nil)))
      (pss_cons (ps_if (pt_cmpR (op_neA hr.units) (pe_callTy call_listA (by rfl) B.b_list (by decide +kernel) (pa_cons (pv 4) pa_nil)) (pv 3) (nomark _))
      (pss_one (ps_ret pe_bl))
      pss_nil)
      (pss_cons (ps_set (i := 6) sc_law.nd rfl (.inl rfl) (pe_callTy call_listA (by rfl) B.b_list (by decide +kernel) (pa_cons (pv 3) pa_nil)))
      (pss_one (ps_for PassesOwn.never rfl (pi_range1 rfl B.b_range (pa_cons pe_int pa_nil)) (pg_name (i := 7) sc_law.nd rfl (.inl rfl))
      (pss_cons (ps_set (i := 5) sc_law.nd rfl (.inl rfl) (pe_cl c_law_draw hr (by decide) rfl (pa_cons (pv 1) (pa_cons (pe_callB call_lenA (by rfl) B.b_len (by decide +kernel) (pa_cons (pv 6) pa_nil)) pa_nil))))
      (pss_cons (ps_asg (pe_ix ix_seq (pe_lst (pa_cons (pe_cl c_law_draw hr (by decide) rfl (pa_cons (pv 1) (pa_cons pe_int pa_nil))) (pa_cons pe_int (pa_cons pe_int pa_nil)))) (pe_cl c_law_draw hr (by decide) rfl (pa_cons (pv 1) (pa_cons pe_int pa_nil))) (fun _ _ => rfl)) (pg_sub (pv 6) (pv 5) set_list))
      (pss_one (ps_if (PW.pt (pw_or (pt_not (pt_val (pe_cl c_law_right hr (by decide) rfl (pa_cons (pv 6) (pa_cons (pv 5) pa_nil))) (by intro _; rfl))) (pw_or1 (pt_not (pt_val (pe_cl c_law_right hr (by decide) rfl (pa_cons (pv 6) (pa_cons (pe_callB (call_max2A rfl) (by rfl) B.b_max (by decide +kernel) (pa_cons pe_int (pa_cons (pe_op op_subA (pv 5) pe_int) pa_nil))) pa_nil))) (by intro _; rfl))))))
      (pss_one (ps_ret pe_bl))
      pss_nil))))))))))))
      (pss_cons (ps_for PassesOwn.never rfl (pi_range1 rfl B.b_range (pa_cons pe_int pa_nil)) (pg_name (i := 8) sc_law.nd rfl (.inl rfl))
      (pss_cons (ps_set (i := 3) sc_law.nd rfl (.inl rfl) (pe_slice sl_A (pe_lst (pa_cons (pv 8) (pa_cons (pe_cl c_law_draw hr (by decide) rfl (pa_cons (pv 1) (pa_cons pe_int pa_nil))) pa_nil))) po_none (po_some (pe_op op_addA pe_int (pe_cl c_law_draw hr (by decide) rfl (pa_cons (pv 1) (pa_cons pe_int pa_nil)))))))
      (pss_one (ps_if (pt_not (pt_val (pe_cl c_law_right hr (by decide) rfl (pa_cons (pv 3) (pa_cons pe_int pa_nil))) (by intro _; rfl)))
      (pss_one (ps_ret pe_bl))
      pss_nil))))
      (pss_one (ps_ret pe_bl))))), pure_law F h⟩

end
end Rl
namespace Rl
open PySem PySem.Spec PyProof.Rows L2
/-! ## the head: facts by names, the run -/
def d_short_row : He.DefD := ⟨("short_row", none), "short_row", "short_row", defArgs s_short_row, defBody s_short_row, defScope s_short_row, [], []⟩
def d_long_row : He.DefD := ⟨("long_row", none), "long_row", "long_row", defArgs s_long_row, defBody s_long_row, defScope s_long_row, [], []⟩
def d_row_at : He.DefD := ⟨("row_at", none), "row_at", "row_at", defArgs s_row_at, defBody s_row_at, defScope s_row_at, [], []⟩
def d_by_name : He.DefD := ⟨("by_name", none), "by_name", "by_name", defArgs s_by_name, defBody s_by_name, defScope s_by_name, [], []⟩
def d_by_number : He.DefD := ⟨("by_number", none), "by_number", "by_number", defArgs s_by_number, defBody s_by_number, defScope s_by_number, [], []⟩
def d_zero_by : He.DefD := ⟨("zero_by", none), "zero_by", "zero_by", defArgs s_zero_by, defBody s_zero_by, defScope s_zero_by, [], []⟩
def d_lift_set : He.DefD := ⟨("lift_set", none), "lift_set", "lift_set", defArgs s_lift_set, defBody s_lift_set, defScope s_lift_set, [], []⟩
def d_lift_copy : He.DefD := ⟨("lift_copy", none), "lift_copy", "lift_copy", defArgs s_lift_copy, defBody s_lift_copy, defScope s_lift_copy, [], []⟩
def d_lift_add : He.DefD := ⟨("lift_add", none), "lift_add", "lift_add", defArgs s_lift_add, defBody s_lift_add, defScope s_lift_add, [], []⟩
def d_lift_sub : He.DefD := ⟨("lift_sub", none), "lift_sub", "lift_sub", defArgs s_lift_sub, defBody s_lift_sub, defScope s_lift_sub, [], []⟩
def d_lift_bits : He.DefD := ⟨("lift_bits", none), "lift_bits", "lift_bits", defArgs s_lift_bits, defBody s_lift_bits, defScope s_lift_bits, [], []⟩
def d_lift_test : He.DefD := ⟨("lift_test", none), "lift_test", "lift_test", defArgs s_lift_test, defBody s_lift_test, defScope s_lift_test, [], []⟩
def d_lift_load : He.DefD := ⟨("lift_load", none), "lift_load", "lift_load", defArgs s_lift_load, defBody s_lift_load, defScope s_lift_load, [], []⟩
def d_lift_store : He.DefD := ⟨("lift_store", none), "lift_store", "lift_store", defArgs s_lift_store, defBody s_lift_store, defScope s_lift_store, [], []⟩
def d_lift_named : He.DefD := ⟨("lift_named", none), "lift_named", "lift_named", defArgs s_lift_named, defBody s_lift_named, defScope s_lift_named, [], []⟩
def d_lift_told : He.DefD := ⟨("lift_told", none), "lift_told", "lift_told", defArgs s_lift_told, defBody s_lift_told, defScope s_lift_told, [], []⟩
def d_lift_nothing : He.DefD := ⟨("lift_nothing", none), "lift_nothing", "lift_nothing", defArgs s_lift_nothing, defBody s_lift_nothing, defScope s_lift_nothing, [], []⟩
def d_exit_of : He.DefD := ⟨("exit_of", none), "exit_of", "exit_of", defArgs s_exit_of, defBody s_exit_of, defScope s_exit_of, [], []⟩
def d_lifted : He.DefD := ⟨("lifted", none), "lifted", "lifted", defArgs s_lifted, defBody s_lifted, defScope s_lifted, [], []⟩
def d_law_spring : He.DefD := ⟨("_law_spring", none), "_law_spring", "_law_spring", defArgs s_law_spring, defBody s_law_spring, defScope s_law_spring, [], []⟩
def d_law_draw : He.DefD := ⟨("_law_draw", none), "_law_draw", "_law_draw", defArgs s_law_draw, defBody s_law_draw, defScope s_law_draw, [], []⟩
def d_law_bytes : He.DefD := ⟨("_law_bytes", none), "_law_bytes", "_law_bytes", defArgs s_law_bytes, defBody s_law_bytes, defScope s_law_bytes, [], []⟩
def d_law_row_at : He.DefD := ⟨("_law_row_at", none), "_law_row_at", "_law_row_at", defArgs s_law_row_at, defBody s_law_row_at, defScope s_law_row_at, [], []⟩
def d_law_drawn_row : He.DefD := ⟨("_law_drawn_row", none), "_law_drawn_row", "_law_drawn_row", defArgs s_law_drawn_row, defBody s_law_drawn_row, defScope s_law_drawn_row, [], []⟩
def d_law_laid : He.DefD := ⟨("_law_laid", none), "_law_laid", "_law_laid", defArgs s_law_laid, defBody s_law_laid, defScope s_law_laid, [], []⟩
def d_law_code : He.DefD := ⟨("_law_code", none), "_law_code", "_law_code", defArgs s_law_code, defBody s_law_code, defScope s_law_code, [], []⟩
def d_law_statements : He.DefD := ⟨("_law_statements", none), "_law_statements", "_law_statements", defArgs s_law_statements, defBody s_law_statements, defScope s_law_statements, [], []⟩
def d_law_lifted : He.DefD := ⟨("_law_lifted", none), "_law_lifted", "_law_lifted", defArgs s_law_lifted, defBody s_law_lifted, defScope s_law_lifted, [], []⟩
def d_law_tuples : He.DefD := ⟨("_law_tuples", none), "_law_tuples", "_law_tuples", defArgs s_law_tuples, defBody s_law_tuples, defScope s_law_tuples, [], []⟩
def d_law_right : He.DefD := ⟨("_law_right", none), "_law_right", "_law_right", defArgs s_law_right, defBody s_law_right, defScope s_law_right, [], []⟩
def d_law : He.DefD := ⟨("law", none), "law", "law", defArgs s_law, defBody s_law, defScope s_law, [], []⟩
def fn : List He.DefD := [d_short_row, d_long_row, d_row_at, d_by_name, d_by_number, d_zero_by, d_lift_set, d_lift_copy, d_lift_add, d_lift_sub, d_lift_bits, d_lift_test, d_lift_load, d_lift_store, d_lift_named, d_lift_told, d_lift_nothing, d_exit_of, d_lifted, d_law_spring, d_law_draw, d_law_bytes, d_law_row_at, d_law_drawn_row, d_law_laid, d_law_code, d_law_statements, d_law_lifted, d_law_tuples, d_law_right, d_law]
def fa : List He.Fa := [.glo "short_row", .glo "long_row", .glo "row_at", .glo "by_name", .glo "by_number", .glo "zero_by", .glo "lift_set", .glo "lift_copy", .glo "lift_add", .glo "lift_sub", .glo "lift_bits", .glo "lift_test", .glo "lift_load", .glo "lift_store", .glo "lift_named", .glo "lift_told", .glo "lift_nothing", .glo "exit_of", .glo "lifted", .glo "_law_spring", .glo "_law_draw", .glo "_law_bytes", .glo "_law_row_at", .glo "_law_drawn_row", .glo "_law_laid", .glo "_law_code", .glo "_law_statements", .glo "_law_lifted", .glo "_law_tuples", .glo "_law_right", .glo "law", .glo "ALONE", .glo "ASKED", .str "BOXES" "abcd", .int "CELLS" (64), .int "JUMPS" (14), .glo "LIFTS", .glo "NOTHING", .int "ROUND" (256), .glo "SINGLE", .int "SINGLES" (15), .glo "TARGETS", .glo "WORDS_OF_NUMBERED", .glo "WORDS_OF_PAIRS", .free "abs", .free "all", .free "bool", .free "int", .free "isinstance", .free "len", .free "list", .free "max", .free "min", .free "range", .free "str", .free "tuple"]
def tsT : List He.Tab := [((fun K => He.ga K "LIFTS"), ["set", "copy", "add", "sub", "and", "or", "xor", "test", "testn", "load", "loadn", "store", "storen", "in", "take", "out", "keep"]), ((fun K => He.ga K "ASKED"), ["zero", "nonzero", "less", "notless"])]
def ex (K : PySem.W.Frag) : Bool := He.tupB K "ALONE" [(.str "halt"), (.str "back"), (.str "rest")] && (He.tupB K "SINGLE" [(.str "in"), (.str "out"), (.str "keep"), (.str "take")] && (He.tupB K "TARGETS" [(.str "go"), (.str "zero"), (.str "nonzero"), (.str "less"), (.str "notless"), (.str "call")] && (He.tupB K "NOTHING" [(.str "number"), (.int (0))] && (kdI K (He.ga K "WORDS_OF_PAIRS") [(2, (.str "copy")), (3, (.str "add")), (4, (.str "sub")), (5, (.str "and")), (6, (.str "or")), (7, (.str "xor")), (8, (.str "test")), (10, (.str "load")), (11, (.str "store"))] && (kdI K (He.ga K "WORDS_OF_NUMBERED") [(1, (.str "set")), (9, (.str "testn")), (12, (.str "loadn")), (13, (.str "storen"))] && (kdS K (He.ga K "LIFTS") [("set", (.glo "lift_set")), ("copy", (.glo "lift_copy")), ("add", (.glo "lift_add")), ("sub", (.glo "lift_sub")), ("and", (.glo "lift_bits")), ("or", (.glo "lift_bits")), ("xor", (.glo "lift_bits")), ("test", (.glo "lift_test")), ("testn", (.glo "lift_test")), ("load", (.glo "lift_load")), ("loadn", (.glo "lift_load")), ("store", (.glo "lift_store")), ("storen", (.glo "lift_store")), ("in", (.glo "lift_named")), ("take", (.glo "lift_named")), ("out", (.glo "lift_told")), ("keep", (.glo "lift_told"))] && (kdS K (He.ga K "ASKED") [("zero", .adr (entAt "ASKED" 0)), ("nonzero", .adr (entAt "ASKED" 1)), ("less", .adr (entAt "ASKED" 2)), ("notless", .adr (entAt "ASKED" 3))] && (tupAt K (entAt "ASKED" 0) [.str "name", .str "zero"] && (tupAt K (entAt "ASKED" 1) [.str "not", .adr (itmAt (entAt "ASKED" 1) 1)] && (tupAt K (itmAt (entAt "ASKED" 1) 1) [.str "name", .str "zero"] && (tupAt K (entAt "ASKED" 2) [.str "name", .str "less"] && (tupAt K (entAt "ASKED" 3) [.str "not", .adr (itmAt (entAt "ASKED" 3) 1)] && (tupAt K (itmAt (entAt "ASKED" 3) 1) [.str "name", .str "less"])))))))))))))
abbrev Rw : PySem.W.OpenRow := PySem.W.OpenLaw.row PySem.Challenge.rw_rowlift_k26_rows_lifted
abbrev hk : PySem.W.Hook := He.hookX 6 fa fn tsT [] ex
def ob (s : PySem.W.SharedT) : He.AlX := He.obsX 6 fa fn tsT [] ex (HandSHeadRun.getT s)
theorem ob_eq (s : PySem.W.SharedT) : ob s = hk.obs s.abs := He.obsX_eq (HandSHeadRun.getT_eq s)
theorem run (w : World) : HandSHeadRun.RunEq Rw (PySem.W.view Rw.prog [46]) hk ob 2000 ("BOXES" :: "ALONE" :: "WORDS_OF_PAIRS" :: "WORDS_OF_NUMBERED" :: "TARGETS" :: "SINGLE" :: "JUMPS" :: "SINGLES" :: "short_row" :: "long_row" :: "row_at" :: "CELLS" :: "ROUND" :: "NOTHING" :: "by_name" :: "by_number" :: "zero_by" :: "lift_set" :: "lift_copy" :: "lift_add" :: "lift_sub" :: "lift_bits" :: "lift_test" :: "lift_load" :: "lift_store" :: "lift_named" :: "lift_told" :: "lift_nothing" :: "LIFTS" :: "ASKED" :: "exit_of" :: "lifted" :: "_law_spring" :: "_law_draw" :: "_law_bytes" :: "_law_row_at" :: "_law_drawn_row" :: "_law_laid" :: "_law_code" :: "_law_lifted" :: "_law_statements" :: "_law_tuples" :: "_law_right" :: []) w := PySem.W.byRow2 "special-get-raises" (P := fun w => HandSHeadRun.RunEq Rw (PySem.W.view Rw.prog [46]) hk ob 2000 ("BOXES" :: "ALONE" :: "WORDS_OF_PAIRS" :: "WORDS_OF_NUMBERED" :: "TARGETS" :: "SINGLE" :: "JUMPS" :: "SINGLES" :: "short_row" :: "long_row" :: "row_at" :: "CELLS" :: "ROUND" :: "NOTHING" :: "by_name" :: "by_number" :: "zero_by" :: "lift_set" :: "lift_copy" :: "lift_add" :: "lift_sub" :: "lift_bits" :: "lift_test" :: "lift_load" :: "lift_store" :: "lift_named" :: "lift_told" :: "lift_nothing" :: "LIFTS" :: "ASKED" :: "exit_of" :: "lifted" :: "_law_spring" :: "_law_draw" :: "_law_bytes" :: "_law_row_at" :: "_law_drawn_row" :: "_law_laid" :: "_law_code" :: "_law_lifted" :: "_law_statements" :: "_law_tuples" :: "_law_right" :: []) w)
  (fun w => by
    intro os
    kernel_rfl) (fun w => by
    intro os
    kernel_rfl) w
theorem facts {P : Program} {w : World} {K : PySem.W.Frag} {h : Heap} {mg : Str → Option Value} {f : Addr} (X : K.In h) (G : h.Ns mainGlobals mg) (hfa : mg ("law" : Str) = some (.ref f)) (c : He.SaysX fa fn tsT [] ex w h K) :
    ∃ fd : FuncData, (∀ (s : Shared) (v : Value), BindsTo s fd ⟨[v], []⟩ [("_law_script", v)]) ∧ ∀ base : Heap, K.In base → base.Ns mainGlobals mg → FnOk P w K mg base CX0 10 f fd ["_law_script"] (sp_law K w) := by
  have more := c.more
  unfold ex at more
  obtain ⟨x0, r0⟩ := He.ba more
  obtain ⟨x1, r1⟩ := He.ba r0
  obtain ⟨x2, r2⟩ := He.ba r1
  obtain ⟨x3, r3⟩ := He.ba r2
  obtain ⟨x4, r4⟩ := He.ba r3
  obtain ⟨x5, r5⟩ := He.ba r4
  obtain ⟨x6, r6⟩ := He.ba r5
  obtain ⟨x7, r7⟩ := He.ba r6
  obtain ⟨x8, r8⟩ := He.ba r7
  obtain ⟨x9, r9⟩ := He.ba r8
  obtain ⟨x10, r10⟩ := He.ba r9
  obtain ⟨x11, r11⟩ := He.ba r10
  obtain ⟨x12, r12⟩ := He.ba r11
  have x13 := r12
  have F : LiftC K w := ⟨⟨fun H => He.tupB_ok x0 H, fun H => He.tupB_ok x1 H, fun H => He.tupB_ok x2 H, kdI_ok x4, kdI_ok x5⟩, kdS_ok x6 (c.t.tab 0 (t := ((fun K => He.ga K "LIFTS"), liftT.map Prod.fst)) rfl), kdS_dx x6, fun H => He.tupB_ok x3 H,
    kdS_ok x7 (c.t.tab 1 (t := ((fun K => He.ga K "ASKED"), ["zero", "nonzero", "less", "notless"])) rfl), fun H => tupAt_ok x8 H, fun H => tupAt_ok x9 H, fun H => tupAt_ok x10 H, fun H => tupAt_ok x11 H, fun H => tupAt_ok x12 H, fun H => tupAt_ok x13 H⟩
  have B : Bl mg := ⟨He.free_ok X G (c.t.d.fact 44 (f := .free "abs") rfl), He.free_ok X G (c.t.d.fact 45 (f := .free "all") rfl), He.free_ok X G (c.t.d.fact 46 (f := .free "bool") rfl), He.free_ok X G (c.t.d.fact 47 (f := .free "int") rfl), He.free_ok X G (c.t.d.fact 48 (f := .free "isinstance") rfl), He.free_ok X G (c.t.d.fact 49 (f := .free "len") rfl), He.free_ok X G (c.t.d.fact 50 (f := .free "list") rfl), He.free_ok X G (c.t.d.fact 51 (f := .free "max") rfl), He.free_ok X G (c.t.d.fact 52 (f := .free "min") rfl), He.free_ok X G (c.t.d.fact 53 (f := .free "range") rfl), He.free_ok X G (c.t.d.fact 54 (f := .free "str") rfl), He.free_ok X G (c.t.d.fact 55 (f := .free "tuple") rfl)⟩
  have C : Cn K mg := ⟨He.glo_ok X G (c.t.d.fact 31 (f := .glo "ALONE") rfl), He.glo_ok X G (c.t.d.fact 32 (f := .glo "ASKED") rfl), He.str_ok X G (c.t.d.fact 33 (f := .str "BOXES" "abcd") rfl), He.int_ok X G (c.t.d.fact 34 (f := .int "CELLS" (64)) rfl), He.int_ok X G (c.t.d.fact 35 (f := .int "JUMPS" (14)) rfl), He.glo_ok X G (c.t.d.fact 36 (f := .glo "LIFTS") rfl), He.glo_ok X G (c.t.d.fact 37 (f := .glo "NOTHING") rfl), He.int_ok X G (c.t.d.fact 38 (f := .int "ROUND" (256)) rfl), He.glo_ok X G (c.t.d.fact 39 (f := .glo "SINGLE") rfl), He.int_ok X G (c.t.d.fact 40 (f := .int "SINGLES" (15)) rfl), He.glo_ok X G (c.t.d.fact 41 (f := .glo "TARGETS") rfl), He.glo_ok X G (c.t.d.fact 42 (f := .glo "WORDS_OF_NUMBERED") rfl), He.glo_ok X G (c.t.d.fact 43 (f := .glo "WORDS_OF_PAIRS") rfl), He.glo_ok X G (c.t.d.fact 16 (f := .glo "lift_nothing") rfl)⟩
  obtain ⟨fd_short_row, D_short_row⟩ := c.t.d.def_ 0 (d := d_short_row) rfl
  have c_short_row : ∀ (base : Heap), Cl P w K mg base 1 "short_row" (sp_short_row K w) := fun base => cl_short_row B C F D_short_row (He.glo_ok X G (c.t.d.fact 0 (f := .glo "short_row") rfl)) (D_short_row.bindsN fun _ _ _ _ _ _ us hl => match us, hl with | [_], _ => rfl)
  obtain ⟨fd_long_row, D_long_row⟩ := c.t.d.def_ 1 (d := d_long_row) rfl
  have c_long_row : ∀ (base : Heap), Cl P w K mg base 1 "long_row" (sp_long_row K w) := fun base => cl_long_row B C F D_long_row (He.glo_ok X G (c.t.d.fact 1 (f := .glo "long_row") rfl)) (D_long_row.bindsN fun _ _ _ _ _ _ us hl => match us, hl with | [_, _], _ => rfl)
  obtain ⟨fd_row_at, D_row_at⟩ := c.t.d.def_ 2 (d := d_row_at) rfl
  have c_row_at : ∀ (base : Heap), Cl P w K mg base 2 "row_at" (sp_row_at K w) := fun base => cl_row_at B C F (c_short_row base) (c_long_row base) D_row_at (He.glo_ok X G (c.t.d.fact 2 (f := .glo "row_at") rfl)) (D_row_at.bindsN fun _ _ _ _ _ _ us hl => match us, hl with | [_, _], _ => rfl)
  obtain ⟨fd_by_name, D_by_name⟩ := c.t.d.def_ 3 (d := d_by_name) rfl
  have c_by_name : ∀ (base : Heap), Cl P w K mg base 1 "by_name" (sp_by_name K w) := fun base => cl_by_name B C F D_by_name (He.glo_ok X G (c.t.d.fact 3 (f := .glo "by_name") rfl)) (D_by_name.bindsN fun _ _ _ _ _ _ us hl => match us, hl with | [_], _ => rfl)
  obtain ⟨fd_by_number, D_by_number⟩ := c.t.d.def_ 4 (d := d_by_number) rfl
  have c_by_number : ∀ (base : Heap), Cl P w K mg base 1 "by_number" (sp_by_number K w) := fun base => cl_by_number B C F D_by_number (He.glo_ok X G (c.t.d.fact 4 (f := .glo "by_number") rfl)) (D_by_number.bindsN fun _ _ _ _ _ _ us hl => match us, hl with | [_], _ => rfl)
  obtain ⟨fd_zero_by, D_zero_by⟩ := c.t.d.def_ 5 (d := d_zero_by) rfl
  have c_zero_by : ∀ (base : Heap), Cl P w K mg base 2 "zero_by" (sp_zero_by K w) := fun base => cl_zero_by B C F (c_by_name base) D_zero_by (He.glo_ok X G (c.t.d.fact 5 (f := .glo "zero_by") rfl)) (D_zero_by.bindsN fun _ _ _ _ _ _ us hl => match us, hl with | [_], _ => rfl)
  obtain ⟨fd_lift_set, D_lift_set⟩ := c.t.d.def_ 6 (d := d_lift_set) rfl
  have c_lift_set : ∀ (base : Heap), Cl P w K mg base 2 "lift_set" (sp_lift_set K w) := fun base => cl_lift_set B C F (c_by_number base) D_lift_set (He.glo_ok X G (c.t.d.fact 6 (f := .glo "lift_set") rfl)) (D_lift_set.bindsN fun _ _ _ _ _ _ us hl => match us, hl with | [_], _ => rfl)
  obtain ⟨fd_lift_copy, D_lift_copy⟩ := c.t.d.def_ 7 (d := d_lift_copy) rfl
  have c_lift_copy : ∀ (base : Heap), Cl P w K mg base 2 "lift_copy" (sp_lift_copy K w) := fun base => cl_lift_copy B C F (c_by_name base) D_lift_copy (He.glo_ok X G (c.t.d.fact 7 (f := .glo "lift_copy") rfl)) (D_lift_copy.bindsN fun _ _ _ _ _ _ us hl => match us, hl with | [_], _ => rfl)
  obtain ⟨fd_lift_add, D_lift_add⟩ := c.t.d.def_ 8 (d := d_lift_add) rfl
  have c_lift_add : ∀ (base : Heap), Cl P w K mg base 3 "lift_add" (sp_lift_add K w) := fun base => cl_lift_add B C F (c_by_name base) (c_by_number base) (c_zero_by base) D_lift_add (He.glo_ok X G (c.t.d.fact 8 (f := .glo "lift_add") rfl)) (D_lift_add.bindsN fun _ _ _ _ _ _ us hl => match us, hl with | [_], _ => rfl)
  obtain ⟨fd_lift_sub, D_lift_sub⟩ := c.t.d.def_ 9 (d := d_lift_sub) rfl
  have c_lift_sub : ∀ (base : Heap), Cl P w K mg base 3 "lift_sub" (sp_lift_sub K w) := fun base => cl_lift_sub B C F (c_zero_by base) (c_by_name base) D_lift_sub (He.glo_ok X G (c.t.d.fact 9 (f := .glo "lift_sub") rfl)) (D_lift_sub.bindsN fun _ _ _ _ _ _ us hl => match us, hl with | [_], _ => rfl)
  obtain ⟨fd_lift_bits, D_lift_bits⟩ := c.t.d.def_ 10 (d := d_lift_bits) rfl
  have c_lift_bits : ∀ (base : Heap), Cl P w K mg base 3 "lift_bits" (sp_lift_bits K w) := fun base => cl_lift_bits B C F (c_zero_by base) (c_by_name base) D_lift_bits (He.glo_ok X G (c.t.d.fact 10 (f := .glo "lift_bits") rfl)) (D_lift_bits.bindsN fun _ _ _ _ _ _ us hl => match us, hl with | [_], _ => rfl)
  obtain ⟨fd_lift_test, D_lift_test⟩ := c.t.d.def_ 11 (d := d_lift_test) rfl
  have c_lift_test : ∀ (base : Heap), Cl P w K mg base 2 "lift_test" (sp_lift_test K w) := fun base => cl_lift_test B C F (c_by_name base) (c_by_number base) D_lift_test (He.glo_ok X G (c.t.d.fact 11 (f := .glo "lift_test") rfl)) (D_lift_test.bindsN fun _ _ _ _ _ _ us hl => match us, hl with | [_], _ => rfl)
  obtain ⟨fd_lift_load, D_lift_load⟩ := c.t.d.def_ 12 (d := d_lift_load) rfl
  have c_lift_load : ∀ (base : Heap), Cl P w K mg base 2 "lift_load" (sp_lift_load K w) := fun base => cl_lift_load B C F (c_by_name base) (c_by_number base) D_lift_load (He.glo_ok X G (c.t.d.fact 12 (f := .glo "lift_load") rfl)) (D_lift_load.bindsN fun _ _ _ _ _ _ us hl => match us, hl with | [_], _ => rfl)
  obtain ⟨fd_lift_store, D_lift_store⟩ := c.t.d.def_ 13 (d := d_lift_store) rfl
  have c_lift_store : ∀ (base : Heap), Cl P w K mg base 2 "lift_store" (sp_lift_store K w) := fun base => cl_lift_store B C F (c_by_name base) (c_by_number base) D_lift_store (He.glo_ok X G (c.t.d.fact 13 (f := .glo "lift_store") rfl)) (D_lift_store.bindsN fun _ _ _ _ _ _ us hl => match us, hl with | [_], _ => rfl)
  obtain ⟨fd_lift_named, D_lift_named⟩ := c.t.d.def_ 14 (d := d_lift_named) rfl
  have c_lift_named : ∀ (base : Heap), Cl P w K mg base 1 "lift_named" (sp_lift_named K w) := fun base => cl_lift_named B C F D_lift_named (He.glo_ok X G (c.t.d.fact 14 (f := .glo "lift_named") rfl)) (D_lift_named.bindsN fun _ _ _ _ _ _ us hl => match us, hl with | [_], _ => rfl)
  obtain ⟨fd_lift_told, D_lift_told⟩ := c.t.d.def_ 15 (d := d_lift_told) rfl
  have c_lift_told : ∀ (base : Heap), Cl P w K mg base 2 "lift_told" (sp_lift_told K w) := fun base => cl_lift_told B C F (c_by_name base) D_lift_told (He.glo_ok X G (c.t.d.fact 15 (f := .glo "lift_told") rfl)) (D_lift_told.bindsN fun _ _ _ _ _ _ us hl => match us, hl with | [_], _ => rfl)
  obtain ⟨fd_lift_nothing, D_lift_nothing⟩ := c.t.d.def_ 16 (d := d_lift_nothing) rfl
  have c_lift_nothing : ∀ (base : Heap), Cl P w K mg base 1 "lift_nothing" (sp_lift_nothing K w) := fun base => cl_lift_nothing B C F D_lift_nothing (He.glo_ok X G (c.t.d.fact 16 (f := .glo "lift_nothing") rfl)) (D_lift_nothing.bindsN fun _ _ _ _ _ _ us hl => match us, hl with | [_], _ => rfl)
  have c_dd : ∀ (base : Heap) nm sp, DD K w nm = some sp → Cl P w K mg base 3 nm sp ∧ mg nm = some (.ref (He.ga K nm)) := by
    intro base nm sp h
    unfold DD at h
    split at h
    · rename_i hm
      cases h
      simp only [doers, List.mem_cons, List.not_mem_nil, or_false] at hm
      rcases hm with rfl | rfl | rfl | rfl | rfl | rfl | rfl | rfl | rfl | rfl | rfl
      · exact ⟨(c_lift_set base).mono (by decide), He.glo_ok X G (c.t.d.fact 6 (f := .glo "lift_set") rfl)⟩
      · exact ⟨(c_lift_copy base).mono (by decide), He.glo_ok X G (c.t.d.fact 7 (f := .glo "lift_copy") rfl)⟩
      · exact ⟨(c_lift_add base).mono (by decide), He.glo_ok X G (c.t.d.fact 8 (f := .glo "lift_add") rfl)⟩
      · exact ⟨(c_lift_sub base).mono (by decide), He.glo_ok X G (c.t.d.fact 9 (f := .glo "lift_sub") rfl)⟩
      · exact ⟨(c_lift_bits base).mono (by decide), He.glo_ok X G (c.t.d.fact 10 (f := .glo "lift_bits") rfl)⟩
      · exact ⟨(c_lift_test base).mono (by decide), He.glo_ok X G (c.t.d.fact 11 (f := .glo "lift_test") rfl)⟩
      · exact ⟨(c_lift_load base).mono (by decide), He.glo_ok X G (c.t.d.fact 12 (f := .glo "lift_load") rfl)⟩
      · exact ⟨(c_lift_store base).mono (by decide), He.glo_ok X G (c.t.d.fact 13 (f := .glo "lift_store") rfl)⟩
      · exact ⟨(c_lift_named base).mono (by decide), He.glo_ok X G (c.t.d.fact 14 (f := .glo "lift_named") rfl)⟩
      · exact ⟨(c_lift_told base).mono (by decide), He.glo_ok X G (c.t.d.fact 15 (f := .glo "lift_told") rfl)⟩
      · exact ⟨(c_lift_nothing base).mono (by decide), He.glo_ok X G (c.t.d.fact 16 (f := .glo "lift_nothing") rfl)⟩
    · cases h
  obtain ⟨fd_exit_of, D_exit_of⟩ := c.t.d.def_ 17 (d := d_exit_of) rfl
  have c_exit_of : ∀ (base : Heap), Cl P w K mg base 1 "exit_of" (sp_exit_of K w) := fun base => cl_exit_of B C F D_exit_of (He.glo_ok X G (c.t.d.fact 17 (f := .glo "exit_of") rfl)) (D_exit_of.bindsN fun _ _ _ _ _ _ us hl => match us, hl with | [_, _], _ => rfl)
  obtain ⟨fd_lifted, D_lifted⟩ := c.t.d.def_ 18 (d := d_lifted) rfl
  have c_lifted : ∀ (base : Heap), Cl P w K mg base 4 "lifted" (sp_lifted K w) := fun base => cl_lifted B C F (c_row_at base) (c_exit_of base) (c_dd base) D_lifted (He.glo_ok X G (c.t.d.fact 18 (f := .glo "lifted") rfl)) (D_lifted.bindsN fun _ _ _ _ _ _ us hl => match us, hl with | [_, _], _ => rfl)
  obtain ⟨fd_law_spring, D_law_spring⟩ := c.t.d.def_ 19 (d := d_law_spring) rfl
  have c_law_spring : ∀ (base : Heap), Cl P w K mg base 1 "_law_spring" (sp_law_spring K w) := fun base => cl_law_spring B C F D_law_spring (He.glo_ok X G (c.t.d.fact 19 (f := .glo "_law_spring") rfl)) (D_law_spring.bindsN fun _ _ _ _ _ _ us hl => match us, hl with | [_], _ => rfl)
  obtain ⟨fd_law_draw, D_law_draw⟩ := c.t.d.def_ 20 (d := d_law_draw) rfl
  have c_law_draw : ∀ (base : Heap), Cl P w K mg base 1 "_law_draw" (sp_law_draw K w) := fun base => cl_law_draw B C F D_law_draw (He.glo_ok X G (c.t.d.fact 20 (f := .glo "_law_draw") rfl)) (D_law_draw.bindsN fun _ _ _ _ _ _ us hl => match us, hl with | [_, _], _ => rfl)
  obtain ⟨fd_law_bytes, D_law_bytes⟩ := c.t.d.def_ 21 (d := d_law_bytes) rfl
  have c_law_bytes : ∀ (base : Heap), Cl P w K mg base 1 "_law_bytes" (sp_law_bytes K w) := fun base => cl_law_bytes B C F D_law_bytes (He.glo_ok X G (c.t.d.fact 21 (f := .glo "_law_bytes") rfl)) (D_law_bytes.bindsN fun _ _ _ _ _ _ us hl => match us, hl with | [_], _ => rfl)
  obtain ⟨fd_law_row_at, D_law_row_at⟩ := c.t.d.def_ 22 (d := d_law_row_at) rfl
  have c_law_row_at : ∀ (base : Heap), Cl P w K mg base 1 "_law_row_at" (sp_law_row_at K w) := fun base => cl_law_row_at B C F D_law_row_at (He.glo_ok X G (c.t.d.fact 22 (f := .glo "_law_row_at") rfl)) (D_law_row_at.bindsN fun _ _ _ _ _ _ us hl => match us, hl with | [_, _], _ => rfl)
  obtain ⟨fd_law_drawn_row, D_law_drawn_row⟩ := c.t.d.def_ 23 (d := d_law_drawn_row) rfl
  have c_law_drawn_row : ∀ (base : Heap), Cl P w K mg base 2 "_law_drawn_row" (sp_law_drawn_row K w) := fun base => cl_law_drawn_row B C F (c_law_draw base) D_law_drawn_row (He.glo_ok X G (c.t.d.fact 23 (f := .glo "_law_drawn_row") rfl)) (D_law_drawn_row.bindsN fun _ _ _ _ _ _ us hl => match us, hl with | [_], _ => rfl)
  obtain ⟨fd_law_laid, D_law_laid⟩ := c.t.d.def_ 24 (d := d_law_laid) rfl
  have c_law_laid : ∀ (base : Heap), Cl P w K mg base 2 "_law_laid" (sp_law_laid K w) := fun base => cl_law_laid B C F (c_law_bytes base) (c_law_draw base) D_law_laid (He.glo_ok X G (c.t.d.fact 24 (f := .glo "_law_laid") rfl)) (D_law_laid.bindsN fun _ _ _ _ _ _ us hl => match us, hl with | [_, _], _ => rfl)
  obtain ⟨fd_law_code, D_law_code⟩ := c.t.d.def_ 25 (d := d_law_code) rfl
  have c_law_code : ∀ (base : Heap), Cl P w K mg base 3 "_law_code" (sp_law_code K w) := fun base => cl_law_code B C F (c_law_draw base) (c_law_laid base) (c_law_drawn_row base) D_law_code (He.glo_ok X G (c.t.d.fact 25 (f := .glo "_law_code") rfl)) (D_law_code.bindsN fun _ _ _ _ _ _ us hl => match us, hl with | [_], _ => rfl)
  obtain ⟨fd_law_statements, D_law_statements⟩ := c.t.d.def_ 26 (d := d_law_statements) rfl
  have c_law_statements : ∀ (base : Heap), Cl P w K mg base 1 "_law_statements" (sp_law_statements K w) := fun base => cl_law_statements B C F D_law_statements (He.glo_ok X G (c.t.d.fact 26 (f := .glo "_law_statements") rfl)) (D_law_statements.bindsN fun _ _ _ _ _ _ us hl => match us, hl with | [_], _ => rfl)
  obtain ⟨fd_law_lifted, D_law_lifted⟩ := c.t.d.def_ 27 (d := d_law_lifted) rfl
  have c_law_lifted : ∀ (base : Heap), Cl P w K mg base 2 "_law_lifted" (sp_law_lifted K w) := fun base => cl_law_lifted B C F (c_law_row_at base) (c_law_statements base) D_law_lifted (He.glo_ok X G (c.t.d.fact 27 (f := .glo "_law_lifted") rfl)) (D_law_lifted.bindsN fun _ _ _ _ _ _ us hl => match us, hl with | [_, _], _ => rfl)
  obtain ⟨fd_law_tuples, D_law_tuples⟩ := c.t.d.def_ 28 (d := d_law_tuples) rfl
  have c_law_tuples : ∀ (base : Heap), Cl P w K mg base 8 "_law_tuples" (sp_law_tuples K w) := fun base => cl_law_tuples B C F D_law_tuples (He.glo_ok X G (c.t.d.fact 28 (f := .glo "_law_tuples") rfl)) (D_law_tuples.bindsN fun _ _ _ _ _ _ us hl => match us, hl with | [_], _ => rfl)
  obtain ⟨fd_law_right, D_law_right⟩ := c.t.d.def_ 29 (d := d_law_right) rfl
  have c_law_right : ∀ (base : Heap), Cl P w K mg base 9 "_law_right" (sp_law_right K w) := fun base => cl_law_right B C F (c_law_lifted base) (c_lifted base) (c_law_tuples base) D_law_right (He.glo_ok X G (c.t.d.fact 29 (f := .glo "_law_right") rfl)) (D_law_right.bindsN fun _ _ _ _ _ _ us hl => match us, hl with | [_, _], _ => rfl)
  obtain ⟨fd_law, D_law⟩ := c.t.d.def_ 30 (d := d_law) rfl
  have e := hfa.symm.trans (He.glo_ok X G (c.t.d.fact 30 (f := .glo "law") rfl))
  cases e
  have b := FunD.bindsA (ps := ["_law_script"]) D_law fun _ _ _ _ _ _ us hl => match us, hl with | [_], _ => rfl
  exact ⟨fd_law, fun s v => b s [v] rfl, fun base _ _ => fnok_law B C F (c_law_spring base) (c_law_code base) (c_law_draw base) (c_law_right base) D_law⟩
end Rl
open PySem PySem.W PySem.Calls PyProof.Rows
theorem PySem.Challenge.cw_rowlift_k26_rows_lifted_holds : PySem.Challenge.rw_rowlift_k26_rows_lifted.Holds := by
  w_on; o_law
  refine HandSHeadRun.head_any (r := OpenLaw.row PySem.Challenge.rw_rowlift_k26_rows_lifted) (q := view (OpenLaw.row PySem.Challenge.rw_rowlift_k26_rows_lifted).prog [46]) (H := Rl.hk) (ob := Rl.ob) (M := 2000) (loose := ("BOXES" :: "ALONE" :: "WORDS_OF_PAIRS" :: "WORDS_OF_NUMBERED" :: "TARGETS" :: "SINGLE" :: "JUMPS" :: "SINGLES" :: "short_row" :: "long_row" :: "row_at" :: "CELLS" :: "ROUND" :: "NOTHING" :: "by_name" :: "by_number" :: "zero_by" :: "lift_set" :: "lift_copy" :: "lift_add" :: "lift_sub" :: "lift_bits" :: "lift_test" :: "lift_load" :: "lift_store" :: "lift_named" :: "lift_told" :: "lift_nothing" :: "LIFTS" :: "ASKED" :: "exit_of" :: "lifted" :: "_law_spring" :: "_law_draw" :: "_law_bytes" :: "_law_row_at" :: "_law_drawn_row" :: "_law_laid" :: "_law_code" :: "_law_lifted" :: "_law_statements" :: "_law_tuples" :: "_law_right" :: [])) (d := HandSHeadRun.topDef (OpenLaw.row PySem.Challenge.rw_rowlift_k26_rows_lifted).prog 46) (kwd := []) Rl.ob_eq
    (by kernel_rfl) (fun s => by kernel_rfl) Rl.run (by kernel_rfl) (by kernel_rfl) (by kernel_rfl) (by rfl) (by first | assumption | decide +kernel) (by decide +kernel) ⟨rfl, rfl, rfl, rfl, rfl, by decide +kernel⟩ ?hw ?hc
  case hw => w_witness2
  case hc =>
    refine L2.walk_ofE (l := PySem.Challenge.rw_rowlift_k26_rows_lifted) (n := 63) (k := 10) (x := "_law_script") (CX := L2.CX0) rfl (by decide) (by kernel_rfl) ⟨rfl, by decide, by decide⟩ ?F (fun _ _ _ _ z => z)
    intro w mg fa h Y G hmg0
    obtain ⟨K, KX, c⟩ := Y
    have hmg : mg ("law" : PySem.Str) = some (.ref fa) := by
      have e : (HandSHeadRun.topDef (OpenLaw.row PySem.Challenge.rw_rowlift_k26_rows_lifted).prog 46).name = ("law" : PySem.Str) := by kernel_rfl
      rw [← e]
      exact hmg0
    obtain ⟨fd, hb, hF⟩ := Rl.facts (P := (PySem.Challenge.rw_rowlift_k26_rows_lifted).prog) (w := w) KX G hmg c
    exact ⟨K, fd, Rl.sp_law K w, KX, hb, fun H a ns hl _ hS => Rl.law_in hl hS, hF⟩
